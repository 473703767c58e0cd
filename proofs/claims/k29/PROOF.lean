import PyProof.Rows.All
import Wide.All
import OpenK.AllK
import Wide.FinOn
import HandS.Base
import HandS.Exc
import HandS.TryMany
import HandS.CallSlots
import HandS.Flow
import HandS.List
import HandS.Text
import HandS.ExcOwn
import HandS.Words
import HandS.Comp
import HandS.Defaults
import HandS.TupAny
import HandS.IsInst
import HandS.Dict
import HandS.Deep
import HandS.Iter
import KE.GoesNew
import KE.GoesMore
import HandS.HeadHook1
import HandS.HeadHook2
import HandS.HeadHook4
import HandS.MakeKwOnly
import HandS.Property
import HandS.Head0
import HandS.Head1
import HandS.Head2
import HandS.HeadWalk
import HandS.HeadEnd
import PySem.Challenge.RW_onlyahead_k29_whole_rules_of_formulas
set_option Elab.async false
set_option linter.all false
set_option maxRecDepth 100000
set_option maxHeartbeats 0
/-! DL0: data as trees, a store of things that change, and how the abstract heap bears them. -/
namespace DL
open PySem L2
/-- data: trees of what never changes, and the places (cells) of what does -/
inductive Dat where
  | non | bl (b : Bool) | int (i : Int) | str (s : Str)
  | lst (xs : List Dat) | tup (xs : List Dat)
  | dct (ks : List Key) (xs : List Dat)
  | dtt (ks : List (List Key)) (xs : List Dat)
  | sq (K : PySem.W.Frag) (ns : List Int)
  | ins (C : Addr) (ns : List Str) (xs : List Dat)
  | xd (ns : List Str) (xs : List Dat)
  | cell (n : Nat)
  | raw (v : V)
mutual
/-- d is borne by v: R are the addresses that no tree may touch, rho the places of the cells -/
def RD (H : Hp) (R rho : List Addr) : Dat → V → Prop
  | .non, v => v = .non
  | .bl b, v => v = .bl b
  | .int i, v => v = .int i
  | .str s, v => v = .str s
  | .lst xs, v => ∃ a vs, v = .ref a ∧ a ∉ R ∧ H a = some (.lst vs) ∧ RDs H R rho xs vs
  | .tup xs, v => ∃ a vs, v = .ref a ∧ a ∉ R ∧ H a = some (.tup vs) ∧ RDs H R rho xs vs
  | .dct ks xs, v => ∃ a vs, v = .ref a ∧ a ∉ R ∧ Rd H a (.dK (ks.zip vs)) ∧ ks.length = vs.length ∧ RDs H R rho xs vs
  | .dtt ks xs, v => ∃ a vs, v = .ref a ∧ a ∉ R ∧ Rd H a (.dT (ks.zip vs)) ∧ ks.length = vs.length ∧ RDs H R rho xs vs
  | .sq K ns, v => ∃ a, v = .ref a ∧ ((a ∉ R ∧ Rd H a (.lst (ns.map V.int))) ∨ SqL K (fun _ => none) a (ns.map V.int))
  | .ins C ns xs, v => ∃ a dx vs, v = .ref a ∧ a ∉ R ∧ H a = some (.ins C dx (ns.zip vs)) ∧ ns.length = vs.length ∧ RDs H R rho xs vs
  | .xd ns xs, v => ∃ a vs, v = .ref a ∧ a ∉ R ∧ H a = some (.xd (ns.zip vs)) ∧ ns.length = vs.length ∧ RDs H R rho xs vs
  | .cell n, v => ∃ a, rho[n]? = some a ∧ v = .ref a
  | .raw w, v => v = w
def RDs (H : Hp) (R rho : List Addr) : List Dat → List V → Prop
  | [], vs => vs = []
  | d :: ds, vs => ∃ w ws, vs = w :: ws ∧ RD H R rho d w ∧ RDs H R rho ds ws
end
mutual
/-- all cells lie below n -/
def below (n : Nat) : Dat → Prop
  | .non => True | .bl _ => True | .int _ => True | .str _ => True | .raw _ => True
  | .sq _ _ => True | .lst xs => belows n xs | .tup xs => belows n xs | .dct _ xs => belows n xs | .dtt _ xs => belows n xs | .ins _ _ xs => belows n xs | .xd _ xs => belows n xs
  | .cell m => m < n
def belows (n : Nat) : List Dat → Prop
  | [] => True
  | d :: ds => below n d ∧ belows n ds
end
section
variable {H H' : Hp} {R R' rho rho' : List Addr}
theorem rd_some {a : Addr} {u : HO} (h : Rd H a u) : ∃ o, H a = some o := by
  rcases h with h | ⟨o, h⟩
  · exact ⟨_, h⟩
  · exact ⟨_, h⟩
theorem rd_keep {a : Addr} {u : HO} (h : Rd H a u) (k : ∀ o, H a = some o → H' a = some o) : Rd H' a u := by
  rcases h with h | ⟨o, h⟩
  · exact .inl (k _ h)
  · exact .inr ⟨o, k _ h⟩
/-- what R and rho mean may grow -/
structure Mono (H H' : Hp) (R R' rho rho' : List Addr) : Prop where
  keep : ∀ a o, a ∉ R → H a = some o → H' a = some o
  more : ∀ a, a ∈ R' → a ∈ R ∨ H a = none
  cell : ∀ (n : Nat) a, rho[n]? = some a → rho'[n]? = some a
theorem Mono.out (m : Mono H H' R R' rho rho') {a : Addr} (h : a ∉ R) (e : ∃ o, H a = some o) : a ∉ R' := fun z => by
  rcases m.more a z with q | q
  · exact h q
  · obtain ⟨o, e⟩ := e
    rw [q] at e
    cases e
mutual
theorem RD.mono (m : Mono H H' R R' rho rho') : ∀ {d : Dat} {v : V}, RD H R rho d v → RD H' R' rho' d v
  | .non, _, h => by simp only [RD] at h ⊢; exact h
  | .bl _, _, h => by simp only [RD] at h ⊢; exact h
  | .int _, _, h => by simp only [RD] at h ⊢; exact h
  | .str _, _, h => by simp only [RD] at h ⊢; exact h
  | .raw _, _, h => by simp only [RD] at h ⊢; exact h
  | .lst xs, _, h => by
    simp only [RD] at h ⊢
    obtain ⟨a, vs, e, ha, hr, hs⟩ := h
    exact ⟨a, vs, e, m.out ha ⟨_, hr⟩, m.keep a _ ha hr, RDs.mono m hs⟩
  | .tup xs, _, h => by
    simp only [RD] at h ⊢
    obtain ⟨a, vs, e, ha, hr, hs⟩ := h
    exact ⟨a, vs, e, m.out ha ⟨_, hr⟩, m.keep a _ ha hr, RDs.mono m hs⟩
  | .dct ks xs, _, h => by
    simp only [RD] at h ⊢
    obtain ⟨a, vs, e, ha, hr, hl, hs⟩ := h
    exact ⟨a, vs, e, m.out ha (rd_some hr), rd_keep hr fun o q => m.keep a o ha q, hl, RDs.mono m hs⟩
  | .dtt ks xs, _, h => by
    simp only [RD] at h ⊢
    obtain ⟨a, vs, e, ha, hr, hl, hs⟩ := h
    exact ⟨a, vs, e, m.out ha (rd_some hr), rd_keep hr fun o q => m.keep a o ha q, hl, RDs.mono m hs⟩
  | .sq K ns, _, h => by
    simp only [RD] at h ⊢
    obtain ⟨a, e, h⟩ := h
    refine ⟨a, e, ?_⟩
    rcases h with ⟨ha, hr⟩ | h
    · exact .inl ⟨m.out ha (rd_some hr), rd_keep hr fun o q => m.keep a o ha q⟩
    · exact .inr h
  | .ins C ns xs, _, h => by
    simp only [RD] at h ⊢
    obtain ⟨a, dx, vs, e, ha, hr, hl, hs⟩ := h
    exact ⟨a, dx, vs, e, m.out ha ⟨_, hr⟩, m.keep a _ ha hr, hl, RDs.mono m hs⟩
  | .xd ns xs, _, h => by
    simp only [RD] at h ⊢
    obtain ⟨a, vs, e, ha, hr, hl, hs⟩ := h
    exact ⟨a, vs, e, m.out ha ⟨_, hr⟩, m.keep a _ ha hr, hl, RDs.mono m hs⟩
  | .cell n, _, h => by
    simp only [RD] at h ⊢
    obtain ⟨a, ha, e⟩ := h
    exact ⟨a, m.cell n a ha, e⟩
theorem RDs.mono (m : Mono H H' R R' rho rho') : ∀ {ds : List Dat} {vs : List V}, RDs H R rho ds vs → RDs H' R' rho' ds vs
  | [], _, h => by simp only [RDs] at h ⊢; exact h
  | d :: ds, _, h => by
    simp only [RDs] at h ⊢
    obtain ⟨w, ws, e, h1, h2⟩ := h
    exact ⟨w, ws, e, RD.mono m h1, RDs.mono m h2⟩
end
mutual
theorem RD.below : ∀ {d : Dat} {v : V}, RD H R rho d v → below rho.length d
  | .non, _, h => by simp only [DL.below]
  | .bl _, _, h => by simp only [DL.below]
  | .int _, _, h => by simp only [DL.below]
  | .str _, _, h => by simp only [DL.below]
  | .raw _, _, h => by simp only [DL.below]
  | .lst xs, _, h => by
    simp only [RD] at h; simp only [DL.below]
    obtain ⟨a, vs, e, ha, hr, hs⟩ := h
    exact RDs.belows hs
  | .tup xs, _, h => by
    simp only [RD] at h; simp only [DL.below]
    obtain ⟨a, vs, e, ha, hr, hs⟩ := h
    exact RDs.belows hs
  | .dct ks xs, _, h => by
    simp only [RD] at h; simp only [DL.below]
    obtain ⟨a, vs, e, ha, hr, hl, hs⟩ := h
    exact RDs.belows hs
  | .dtt ks xs, _, h => by
    simp only [RD] at h; simp only [DL.below]
    obtain ⟨a, vs, e, ha, hr, hl, hs⟩ := h
    exact RDs.belows hs
  | .sq _ _, _, _ => by simp only [DL.below]
  | .ins C ns xs, _, h => by
    simp only [RD] at h; simp only [DL.below]
    obtain ⟨a, dx, vs, e, ha, hr, hl, hs⟩ := h
    exact RDs.belows hs
  | .xd ns xs, _, h => by
    simp only [RD] at h; simp only [DL.below]
    obtain ⟨a, vs, e, ha, hr, hl, hs⟩ := h
    exact RDs.belows hs
  | .cell n, _, h => by
    simp only [RD] at h; simp only [DL.below]
    obtain ⟨a, ha, e⟩ := h
    exact (List.getElem?_eq_some_iff.mp ha).1
theorem RDs.belows : ∀ {ds : List Dat} {vs : List V}, RDs H R rho ds vs → belows rho.length ds
  | [], _, h => by simp only [DL.belows]
  | d :: ds, _, h => by
    simp only [RDs] at h; simp only [DL.belows]
    obtain ⟨w, ws, e, h1, h2⟩ := h
    exact ⟨RD.below h1, RDs.belows h2⟩
end
mutual
theorem RD.trim {n : Nat} (hR : ∀ a, a ∈ R' → a ∈ R) : ∀ {d : Dat} {v : V}, RD H R rho d v → below n d → RD H R' (rho.take n) d v
  | .non, _, h, _ => by simp only [RD] at h ⊢; exact h
  | .bl _, _, h, _ => by simp only [RD] at h ⊢; exact h
  | .int _, _, h, _ => by simp only [RD] at h ⊢; exact h
  | .str _, _, h, _ => by simp only [RD] at h ⊢; exact h
  | .raw _, _, h, _ => by simp only [RD] at h ⊢; exact h
  | .lst xs, _, h, b => by
    simp only [RD] at h ⊢; simp only [DL.below] at b
    obtain ⟨a, vs, e, ha, hr, hs⟩ := h
    exact ⟨a, vs, e, fun z => ha (hR a z), hr, RDs.trim hR hs b⟩
  | .tup xs, _, h, b => by
    simp only [RD] at h ⊢; simp only [DL.below] at b
    obtain ⟨a, vs, e, ha, hr, hs⟩ := h
    exact ⟨a, vs, e, fun z => ha (hR a z), hr, RDs.trim hR hs b⟩
  | .dct ks xs, _, h, b => by
    simp only [RD] at h ⊢; simp only [DL.below] at b
    obtain ⟨a, vs, e, ha, hr, hl, hs⟩ := h
    exact ⟨a, vs, e, fun z => ha (hR a z), hr, hl, RDs.trim hR hs b⟩
  | .dtt ks xs, _, h, b => by
    simp only [RD] at h ⊢; simp only [DL.below] at b
    obtain ⟨a, vs, e, ha, hr, hl, hs⟩ := h
    exact ⟨a, vs, e, fun z => ha (hR a z), hr, hl, RDs.trim hR hs b⟩
  | .sq K ns, _, h, _ => by
    simp only [RD] at h ⊢
    obtain ⟨a, e, h⟩ := h
    refine ⟨a, e, ?_⟩
    rcases h with ⟨ha, hr⟩ | h
    · exact .inl ⟨fun z => ha (hR a z), hr⟩
    · exact .inr h
  | .ins C ns xs, _, h, b => by
    simp only [RD] at h ⊢; simp only [DL.below] at b
    obtain ⟨a, dx, vs, e, ha, hr, hl, hs⟩ := h
    exact ⟨a, dx, vs, e, fun z => ha (hR a z), hr, hl, RDs.trim hR hs b⟩
  | .xd ns xs, _, h, b => by
    simp only [RD] at h ⊢; simp only [DL.below] at b
    obtain ⟨a, vs, e, ha, hr, hl, hs⟩ := h
    exact ⟨a, vs, e, fun z => ha (hR a z), hr, hl, RDs.trim hR hs b⟩
  | .cell m, _, h, b => by
    simp only [RD] at h ⊢; simp only [DL.below] at b
    obtain ⟨a, ha, e⟩ := h
    exact ⟨a, by rw [List.getElem?_take, if_pos b]; exact ha, e⟩
theorem RDs.trim {n : Nat} (hR : ∀ a, a ∈ R' → a ∈ R) : ∀ {ds : List Dat} {vs : List V}, RDs H R rho ds vs → belows n ds → RDs H R' (rho.take n) ds vs
  | [], _, h, _ => by simp only [RDs] at h ⊢; exact h
  | d :: ds, _, h, b => by
    simp only [RDs] at h ⊢; simp only [DL.belows] at b
    obtain ⟨w, ws, e, h1, h2⟩ := h
    exact ⟨w, ws, e, RD.trim hR h1 b.1, RDs.trim hR h2 b.2⟩
end
end
end DL
/-! DL1: the state: live pairs L, the store S, pinned objects T. -/
namespace DL
open PySem L2
abbrev LL := V → Dat → Prop
/-- what stands at a cell -/
def Node (H : Hp) (R rho : List Addr) (a : Addr) : Dat → Prop
  | .lst xs => ∃ vs, H a = some (.lst vs) ∧ RDs H R rho xs vs
  | .dct ks xs => ∃ vs, H a = some (.dK (ks.zip vs)) ∧ ks.length = vs.length ∧ RDs H R rho xs vs
  | .dtt ks xs => ∃ vs, H a = some (.dT (ks.zip vs)) ∧ ks.length = vs.length ∧ RDs H R rho xs vs
  | .ins C ns xs => ∃ dx vs, H a = some (.ins C dx (ns.zip vs)) ∧ ns.length = vs.length ∧ RDs H R rho xs vs
  | _ => False
theorem Node.some {H : Hp} {R rho : List Addr} {a : Addr} {d : Dat} (h : Node H R rho a d) : ∃ o, H a = .some o := by
  cases d with
  | lst xs => obtain ⟨vs, e, _⟩ := h; exact ⟨_, e⟩
  | dct ks xs => obtain ⟨vs, e, _⟩ := h; exact ⟨_, e⟩
  | dtt ks xs => obtain ⟨vs, e, _⟩ := h; exact ⟨_, e⟩
  | ins C ns xs => obtain ⟨dx, vs, e, _⟩ := h; exact ⟨_, e⟩
  | _ => exact h.elim
abbrev TT' := List (Addr × HO)
structure SRx (H : Hp) (L : LL) (S : List Dat) (T : List (Addr × HO)) (rho : List Addr) : Prop where
  len : rho.length = S.length
  nd : (rho ++ T.map (·.1)).Nodup
  node : ∀ (n : Nat) a d, rho[n]? = some a → S[n]? = some d → Node H (rho ++ T.map (·.1)) rho a d
  pin : ∀ p ∈ T, H p.1 = some p.2
  rd : ∀ v d, L v d → RD H (rho ++ T.map (·.1)) rho d v
def SR (H : Hp) (L : LL) (S : List Dat) (T : List (Addr × HO)) : Prop := ∃ rho, SRx H L S T rho
abbrev Lle (L L' : LL) : Prop := ∀ v d, L v d → L' v d
theorem Lle.refl (L : LL) : Lle L L := fun _ _ h => h
theorem Lle.trans {L L1 L2 : LL} (a : Lle L L1) (b : Lle L1 L2) : Lle L L2 := fun v d h => b v d (a v d h)
def Ladd (L : LL) (v : V) (d : Dat) : LL := fun v' d' => L v' d' ∨ (v' = v ∧ d' = d)
theorem Ladd.le {L : LL} {v : V} {d : Dat} : Lle L (Ladd L v d) := fun _ _ h => .inl h
theorem Ladd.here {L : LL} {v : V} {d : Dat} : Ladd L v d v d := .inr ⟨rfl, rfl⟩
def LaddL (L : LL) (vs : List V) (ds : List Dat) : LL := fun v' d' => L v' d' ∨ ∃ i : Nat, vs[i]? = some v' ∧ ds[i]? = some d'
theorem LaddL.le {L : LL} {vs : List V} {ds : List Dat} : Lle L (LaddL L vs ds) := fun _ _ h => .inl h
/-- pair by pair -/
def Ls (L : LL) : List V → List Dat → Prop
  | [], [] => True
  | v :: vs, d :: ds => L v d ∧ Ls L vs ds
  | _, _ => False
theorem Ls.length {L : LL} : ∀ {vs : List V} {ds : List Dat}, Ls L vs ds → vs.length = ds.length
  | [], [], _ => rfl
  | v :: vs, d :: ds, h => by simp [Ls.length h.2]
  | [], d :: ds, h => h.elim
  | v :: vs, [], h => h.elim
theorem Ls.le {L L' : LL} (l : Lle L L') : ∀ {vs : List V} {ds : List Dat}, Ls L vs ds → Ls L' vs ds
  | [], [], _ => True.intro
  | v :: vs, d :: ds, h => ⟨l _ _ h.1, Ls.le l h.2⟩
  | [], d :: ds, h => h.elim
  | v :: vs, [], h => h.elim
theorem Ls.get {L : LL} : ∀ {vs : List V} {ds : List Dat} {i : Nat} {d : Dat}, Ls L vs ds → ds[i]? = some d → ∃ v, vs[i]? = some v ∧ L v d
  | [], [], i, d, _, e => by simp at e
  | v :: vs, c :: ds, 0, d, h, e => by simp at e; subst e; exact ⟨v, by simp, h.1⟩
  | v :: vs, c :: ds, i + 1, d, h, e => by
    obtain ⟨w, h1, h2⟩ := Ls.get (i := i) h.2 (by simpa using e)
    exact ⟨w, by simpa using h1, h2⟩
  | [], d :: ds, _, _, h, _ => h.elim
  | v :: vs, [], _, _, h, _ => h.elim
theorem Ls.getV {L : LL} : ∀ {vs : List V} {ds : List Dat} {i : Nat} {v : V}, Ls L vs ds → vs[i]? = some v → ∃ d, ds[i]? = some d ∧ L v d
  | [], [], i, d, _, e => by simp at e
  | v :: vs, c :: ds, 0, d, h, e => by simp at e; subst e; exact ⟨c, by simp, h.1⟩
  | v :: vs, c :: ds, i + 1, d, h, e => by
    obtain ⟨w, h1, h2⟩ := Ls.getV (i := i) h.2 (by simpa using e)
    exact ⟨w, by simpa using h1, h2⟩
  | [], d :: ds, _, _, h, _ => h.elim
  | v :: vs, [], _, _, h, _ => h.elim
theorem Ls.of {L : LL} : ∀ {vs : List V} {ds : List Dat}, vs.length = ds.length → (∀ (i : Nat) v d, vs[i]? = some v → ds[i]? = some d → L v d) → Ls L vs ds
  | [], [], _, _ => True.intro
  | v :: vs, d :: ds, l, h => ⟨h 0 v d (by simp) (by simp), Ls.of (by simpa using l) fun i w c e1 e2 => h (i + 1) w c (by simpa using e1) (by simpa using e2)⟩
  | [], d :: ds, l, _ => by simp at l
  | v :: vs, [], l, _ => by simp at l
theorem Ls.append {L : LL} : ∀ {vs ws : List V} {ds es : List Dat}, Ls L vs ds → Ls L ws es → Ls L (vs ++ ws) (ds ++ es)
  | [], _, [], _, _, k => k
  | v :: vs, _, d :: ds, _, h, k => ⟨h.1, Ls.append h.2 k⟩
  | [], _, d :: ds, _, h, _ => h.elim
  | v :: vs, _, [], _, h, _ => h.elim
section
variable {H H' : Hp} {L L' : LL} {S : List Dat} {T : List (Addr × HO)} {R rho : List Addr}
theorem RDs.ls {LR : LL} (hL : ∀ v d, RD H R rho d v → LR v d) : ∀ {ds : List Dat} {vs : List V}, RDs H R rho ds vs → Ls LR vs ds
  | [], vs, h => by simp only [RDs] at h; subst h; exact True.intro
  | d :: ds, vs, h => by
    simp only [RDs] at h
    obtain ⟨w, ws, e, h1, h2⟩ := h
    subst e
    exact ⟨hL _ _ h1, RDs.ls hL h2⟩
theorem Ls.rds (hL : ∀ v d, L v d → RD H R rho d v) : ∀ {vs : List V} {ds : List Dat}, Ls L vs ds → RDs H R rho ds vs
  | [], [], _ => by simp only [RDs]
  | v :: vs, d :: ds, h => by
    simp only [RDs]
    exact ⟨v, vs, rfl, hL _ _ h.1, Ls.rds hL h.2⟩
  | [], d :: ds, h => h.elim
  | v :: vs, [], h => h.elim
theorem RDs.len : ∀ {ds : List Dat} {vs : List V}, RDs H R rho ds vs → vs.length = ds.length := fun h => (RDs.ls (LR := fun _ _ => True) (fun _ _ _ => True.intro) h).length
/-- every true pair may be added -/
theorem SRx.more (s : SRx H L S T rho) (h : ∀ v d, L' v d → L v d ∨ RD H (rho ++ T.map (·.1)) rho d v) : SRx H L' S T rho :=
  ⟨s.len, s.nd, s.node, s.pin, fun v d q => (h v d q).elim (s.rd v d) id⟩
theorem SR.less (s : SR H L S T) (h : Lle L' L) : SR H L' S T := let ⟨rho, x⟩ := s; ⟨rho, x.more fun v d q => .inl (h v d q)⟩
/-- a pair that holds whatever the heap is -/
def Flat : Dat → V → Prop
  | .non, v => v = .non
  | .bl b, v => v = .bl b
  | .int i, v => v = .int i
  | .str s, v => v = .str s
  | .raw w, v => v = w
  | _, _ => False
theorem Flat.rd {d : Dat} {v : V} (h : Flat d v) : RD H R rho d v := by
  cases d with
  | non => simp only [RD]; exact h
  | bl b => simp only [RD]; exact h
  | int b => simp only [RD]; exact h
  | str b => simp only [RD]; exact h
  | raw b => simp only [RD]; exact h
  | _ => exact h.elim
theorem SR.flat (s : SR H L S T) {d : Dat} {v : V} (h : Flat d v) : SR H (Ladd L v d) S T := by
  obtain ⟨rho, x⟩ := s
  refine ⟨rho, x.more fun v' d' q => ?_⟩
  rcases q with q | ⟨rfl, rfl⟩
  · exact .inl q
  · exact .inr h.rd
/-- a new address lies outside of all that is told -/
theorem SRx.fresh (s : SRx H L S T rho) {p : Addr} (hp : H p = none) : p ∉ rho ++ T.map (·.1) := fun z => by
  rcases List.mem_append.mp z with q | q
  · obtain ⟨n, hn, e⟩ := List.mem_iff_getElem.mp q
    have hs : n < S.length := by rw [← s.len]; exact hn
    obtain ⟨o, ho⟩ := (s.node n p S[n] (by rw [List.getElem?_eq_getElem hn, e]) (List.getElem?_eq_getElem hs)).some
    rw [hp] at ho
    cases ho
  · obtain ⟨t, ht, e⟩ := List.mem_map.mp q
    have ho := s.pin t ht
    rw [e, hp] at ho
    cases ho
theorem Node.mono {R' rho' : List Addr} {a : Addr} {d : Dat} (m : Mono H H' R R' rho rho') (ha : H a = H' a) (h : Node H R rho a d) : Node H' R' rho' a d := by
  cases d with
  | lst xs => obtain ⟨vs, e, r⟩ := h; exact ⟨vs, by rw [← ha]; exact e, RDs.mono m r⟩
  | dct ks xs => obtain ⟨vs, e, l, r⟩ := h; exact ⟨vs, by rw [← ha]; exact e, l, RDs.mono m r⟩
  | dtt ks xs => obtain ⟨vs, e, l, r⟩ := h; exact ⟨vs, by rw [← ha]; exact e, l, RDs.mono m r⟩
  | ins C ns xs => obtain ⟨dx, vs, e, l, r⟩ := h; exact ⟨dx, vs, by rw [← ha]; exact e, l, RDs.mono m r⟩
  | _ => exact h.elim
theorem Mono.upd {p : Addr} {o : HO} (hp : H p = none) : Mono H (upd H p o) R R rho rho :=
  ⟨fun a u _ e => by rw [upd_ne (ne_of_none e hp)]; exact e, fun a h => .inl h, fun _ _ h => h⟩
/-- a new object beside: nothing that was told changes -/
theorem SRx.new (s : SRx H L S T rho) {p : Addr} {o : HO} (hp : H p = none) : SRx (upd H p o) L S T rho := by
  have m : Mono H (upd H p o) (rho ++ T.map (·.1)) (rho ++ T.map (·.1)) rho rho := .upd hp
  refine ⟨s.len, s.nd, fun n a d h1 h2 => ?_, fun q hq => ?_, fun v d h => RD.mono m (s.rd v d h)⟩
  · have hn := s.node n a d h1 h2
    obtain ⟨o, ho⟩ := hn.some
    exact hn.mono m (by rw [upd_ne (ne_of_none ho hp)])
  · have hq' := s.pin q hq
    rw [upd_ne (ne_of_none hq' hp)]
    exact hq'
/-- a new tree -/
theorem SR.tree (s : SR H L S T) {p : Addr} {o : HO} {d : Dat} (hp : H p = none) (h : ∀ R rho, p ∉ R → (∀ v d, L v d → RD (upd H p o) R rho d v) → RD (upd H p o) R rho d (.ref p)) : SR (upd H p o) (Ladd L (.ref p) d) S T := by
  obtain ⟨rho, x⟩ := s
  have y := x.new (o := o) hp
  refine ⟨rho, y.more fun v' d' q => ?_⟩
  rcases q with q | ⟨rfl, rfl⟩
  · exact .inl q
  · exact .inr (h _ _ (x.fresh hp) y.rd)
theorem SR.lst (s : SR H L S T) {p : Addr} {vs : List V} {ds : List Dat} (hp : H p = none) (h : Ls L vs ds) : SR (upd H p (.lst vs)) (Ladd L (.ref p) (.lst ds)) S T :=
  s.tree hp fun R rho nr hL => by simp only [RD]; exact ⟨p, vs, rfl, nr, upd_same, Ls.rds hL h⟩
theorem SR.tup (s : SR H L S T) {p : Addr} {vs : List V} {ds : List Dat} (hp : H p = none) (h : Ls L vs ds) : SR (upd H p (.tup vs)) (Ladd L (.ref p) (.tup ds)) S T :=
  s.tree hp fun R rho nr hL => by simp only [RD]; exact ⟨p, vs, rfl, nr, upd_same, Ls.rds hL h⟩
theorem SR.dct (s : SR H L S T) {p : Addr} {ks : List Key} {vs : List V} {ds : List Dat} (hp : H p = none) (hl : ks.length = vs.length) (h : Ls L vs ds) : SR (upd H p (.dK (ks.zip vs))) (Ladd L (.ref p) (.dct ks ds)) S T :=
  s.tree hp fun R rho nr hL => by simp only [RD]; exact ⟨p, vs, rfl, nr, .inl upd_same, hl, Ls.rds hL h⟩
/-- the object that bears a node's data -/
def HoOf (vs : List V) : Dat → HO → Prop
  | .lst _, o => o = .lst vs
  | .dct ks _, o => o = .dK (ks.zip vs) ∧ ks.length = vs.length
  | .dtt ks _, o => o = .dT (ks.zip vs) ∧ ks.length = vs.length
  | .ins C ns _, o => (∃ dx, o = .ins C dx (ns.zip vs)) ∧ ns.length = vs.length
  | _, _ => False
def kids : Dat → List Dat
  | .lst xs => xs | .tup xs => xs | .dct _ xs => xs | .dtt _ xs => xs | .ins _ _ xs => xs | .xd _ xs => xs
  | _ => []
theorem node_of {vs : List V} {a : Addr} {d : Dat} {o : HO} (ha : H a = some o) (ho : HoOf vs d o) (h : RDs H R rho (kids d) vs) : Node H R rho a d := by
  cases d with
  | lst xs => exact ⟨vs, by rw [ha, show o = .lst vs from ho], h⟩
  | dct ks xs => obtain ⟨e, l⟩ := ho; exact ⟨vs, by rw [ha, e], l, h⟩
  | dtt ks xs => obtain ⟨e, l⟩ := ho; exact ⟨vs, by rw [ha, e], l, h⟩
  | ins C ns xs => obtain ⟨⟨dx, e⟩, l⟩ := ho; exact ⟨dx, vs, by rw [ha, e], l, h⟩
  | _ => exact ho.elim
theorem nodup_snoc {xs ys : List Addr} {p : Addr} (h : (xs ++ ys).Nodup) (hp : p ∉ xs ++ ys) : ((xs ++ [p]) ++ ys).Nodup := by
  rw [List.append_assoc]
  have hperm : (xs ++ ([p] ++ ys)).Perm (p :: (xs ++ ys)) := by
    have := List.perm_middle (a := p) (l₁ := xs) (l₂ := ys)
    simpa using this
  exact hperm.nodup_iff.mpr (List.nodup_cons.mpr ⟨hp, h⟩)
/-- a new cell -/
theorem SR.cell (s : SR H L S T) {p : Addr} {o : HO} {vs : List V} {d : Dat} (hp : H p = none) (ho : HoOf vs d o) (h : Ls L vs (kids d)) : SR (upd H p o) (Ladd L (.ref p) (.cell S.length)) (S ++ [d]) T := by
  obtain ⟨rho, x⟩ := s
  have y := x.new (o := o) hp
  have np := x.fresh hp
  have m : Mono (L2.upd H p o) (L2.upd H p o) (rho ++ T.map (·.1)) ((rho ++ [p]) ++ T.map (·.1)) rho (rho ++ [p]) → True := fun _ => True.intro
  -- p is in the new R: trees known ahead do not touch it
  have m2 : Mono H (L2.upd H p o) (rho ++ T.map (·.1)) ((rho ++ [p]) ++ T.map (·.1)) rho (rho ++ [p]) :=
    ⟨fun a u _ e => by rw [upd_ne (ne_of_none e hp)]; exact e, fun a h => by
      simp only [List.mem_append, List.mem_singleton] at h ⊢
      rcases h with (h | h) | h
      · exact .inl (.inl h)
      · subst h; exact .inr hp
      · exact .inl (.inr h), fun n a e => by rw [List.getElem?_append_left (List.getElem?_eq_some_iff.mp e).1]; exact e⟩
  refine ⟨rho ++ [p], ?_, nodup_snoc x.nd np, fun n a c h1 h2 => ?_, y.pin, fun v c q => ?_⟩
  · simp [x.len]
  · by_cases hn : n < rho.length
    · rw [List.getElem?_append_left hn] at h1
      rw [List.getElem?_append_left (by rw [← x.len]; exact hn)] at h2
      have hx := x.node n a c h1 h2
      obtain ⟨u, hu⟩ := hx.some
      exact hx.mono m2 (by rw [upd_ne (ne_of_none hu hp)])
    · have e : n = rho.length := by
        have := (List.getElem?_eq_some_iff.mp h1).1
        simp at this; omega
      subst e
      rw [List.getElem?_append_right (Nat.le_refl _)] at h1
      rw [List.getElem?_append_right (by rw [x.len]; exact Nat.le_refl _), x.len] at h2
      simp at h1 h2
      subst h1; subst h2
      exact node_of upd_same ho (Ls.rds (fun v c q => RD.mono m2 (x.rd v c q)) h)
  · rcases q with q | ⟨rfl, rfl⟩
    · exact RD.mono m2 (x.rd v c q)
    · simp only [RD]
      exact ⟨p, by rw [← x.len, List.getElem?_append_right (Nat.le_refl _)]; simp, rfl⟩
/-- where a cell stands -/
theorem SRx.at_ (s : SRx H L S T rho) {v : V} {n : Nat} (h : L v (.cell n)) : ∃ a, rho[n]? = some a ∧ v = .ref a := by
  have := s.rd v _ h
  simp only [RD] at this
  exact this
/-- a cell gets other data -/
theorem SR.set (s : SR H L S T) {a : Addr} {n : Nat} {o : HO} {vs : List V} {d : Dat} (hc : L (.ref a) (.cell n)) (ho : HoOf vs d o) (h : Ls L vs (kids d)) : SR (upd H a o) L (S.set n d) T := by
  obtain ⟨rho, x⟩ := s
  obtain ⟨b, hb, e⟩ := x.at_ hc
  injection e with e
  subst e
  have hin : a ∈ rho := List.mem_of_getElem? hb
  have hn := (List.getElem?_eq_some_iff.mp hb).1
  have m : Mono H (L2.upd H a o) (rho ++ T.map (·.1)) (rho ++ T.map (·.1)) rho rho :=
    ⟨fun c u hc e => by rw [upd_ne fun z => hc (by rw [z]; exact List.mem_append_left _ hin)]; exact e, fun _ h => .inl h, fun _ _ h => h⟩
  have ndr : rho.Nodup := (List.nodup_append.mp x.nd).1
  refine ⟨rho, by rw [List.length_set]; exact x.len, x.nd, fun k c f h1 h2 => ?_, fun p hp => ?_, fun v c q => RD.mono m (x.rd v c q)⟩
  · by_cases hk : k = n
    · subst hk
      rw [hb] at h1
      injection h1 with h1
      subst h1
      rw [List.getElem?_set_self (by rw [← x.len]; exact hn)] at h2
      injection h2 with h2
      subst h2
      exact node_of upd_same ho (Ls.rds (fun v c q => RD.mono m (x.rd v c q)) h)
    · rw [List.getElem?_set_ne (Ne.symm hk)] at h2
      have hne : c ≠ a := fun z => by
        subst z
        exact hk ((List.getElem?_inj (List.getElem?_eq_some_iff.mp h1).1 ndr).mp (h1.trans hb.symm))
      exact (x.node k c f h1 h2).mono m (by rw [upd_ne hne])
  · have hne : p.1 ≠ a := fun z => by
      have hd := List.nodup_append.mp x.nd
      exact hd.2.2 a hin p.1 (List.mem_map.mpr ⟨p, hp, rfl⟩) z.symm
    rw [upd_ne hne]
    exact x.pin p hp
/-- data as it may be looked at: a tree itself, what stands at a cell -/
def view (S : List Dat) : Dat → Option Dat
  | .cell n => S[n]?
  | d => some d
/-- a list's, a tuple's items -/
theorem SR.list (s : SR H L S T) {v : V} {d : Dat} {ds : List Dat} (h : L v d) (hv : view S d = some (.lst ds)) : ∃ a vs, v = .ref a ∧ H a = some (.lst vs) ∧ SR H (LaddL L vs ds) S T ∧ Ls (LaddL L vs ds) vs ds := by
  obtain ⟨rho, x⟩ := s
  have key : ∀ (vs : List V), RDs H (rho ++ T.map (·.1)) rho ds vs → SR H (LaddL L vs ds) S T ∧ Ls (LaddL L vs ds) vs ds := fun vs r => by
    have q := RDs.ls (LR := fun v d => RD H (rho ++ T.map (·.1)) rho d v) (fun _ _ h => h) r
    refine ⟨⟨rho, x.more fun v d z => ?_⟩, Ls.of q.length fun i w c e1 e2 => .inr ⟨i, e1, e2⟩⟩
    rcases z with z | ⟨i, e1, e2⟩
    · exact .inl z
    · obtain ⟨w, e3, r⟩ := q.get e2
      rw [e1] at e3
      injection e3 with e3
      subst e3
      exact .inr r
  cases d with
  | cell n =>
    obtain ⟨a, ha, e⟩ := x.at_ h
    obtain ⟨vs, e1, r⟩ := x.node n a _ ha hv
    exact ⟨a, vs, e, e1, key vs r⟩
  | lst xs =>
    simp only [view, Option.some.injEq, Dat.lst.injEq] at hv
    subst hv
    have q := x.rd v _ h
    simp only [RD] at q
    obtain ⟨a, vs, e, _, r1, r⟩ := q
    exact ⟨a, vs, e, r1, key vs r⟩
  | _ => simp [view] at hv
theorem SR.tuple (s : SR H L S T) {v : V} {ds : List Dat} (h : L v (.tup ds)) : ∃ a vs, v = .ref a ∧ H a = some (.tup vs) ∧ SR H (LaddL L vs ds) S T ∧ Ls (LaddL L vs ds) vs ds := by
  obtain ⟨rho, x⟩ := s
  have q := x.rd v _ h
  simp only [RD] at q
  obtain ⟨a, vs, e, _, r1, r⟩ := q
  have q := RDs.ls (LR := fun v d => RD H (rho ++ T.map (·.1)) rho d v) (fun _ _ h => h) r
  refine ⟨a, vs, e, r1, ⟨rho, x.more fun v d z => ?_⟩, Ls.of q.length fun i w c e1 e2 => .inr ⟨i, e1, e2⟩⟩
  rcases z with z | ⟨i, e1, e2⟩
  · exact .inl z
  · obtain ⟨w, e3, r⟩ := q.get e2
    rw [e1] at e3
    injection e3 with e3
    subst e3
    exact .inr r
theorem SR.dtt (s : SR H L S T) {p : Addr} {ks : List (List Key)} {vs : List V} {ds : List Dat} (hp : H p = none) (hl : ks.length = vs.length) (h : Ls L vs ds) : SR (upd H p (.dT (ks.zip vs))) (Ladd L (.ref p) (.dtt ks ds)) S T :=
  s.tree hp fun R rho nr hL => by simp only [RD]; exact ⟨p, vs, rfl, nr, .inl upd_same, hl, Ls.rds hL h⟩
end
end DL
/-! DL2: expressions over data. -/
namespace DL
open PySem L2
/-- an error: its class, its attributes -/
structure Exc where
  C : Addr
  ns : List Str
  xs : List Dat
abbrev Env' := List (Option Dat)
abbrev Store := List Dat
abbrev KE := Dat → Store → Prop
abbrev KX := Exc → Store → Prop
abbrev UE := Env' → Store → KE → KX → Prop
abbrev UT := Env' → Store → (Bool → Store → Prop) → KX → Prop
abbrev UA := Env' → Store → (List Dat → Store → Prop) → KX → Prop
def EnvIn (sg : St) (dl : Env') (L : LL) : Prop := sg.length = dl.length ∧ ∀ (i : Nat) d, dl[i]? = some (some d) → ∃ v, sg[i]? = some (some v) ∧ L v d
theorem EnvIn.le {sg : St} {dl : Env'} {L L' : LL} (e : EnvIn sg dl L) (l : Lle L L') : EnvIn sg dl L' := ⟨e.1, fun i d h => let ⟨v, a, b⟩ := e.2 i d h; ⟨v, a, l _ _ b⟩⟩
def XOk (W : WX) (sg : St) (L : LL) (T : List (Addr × HO)) (X : KX) : Prop := ∀ e dd L' H' S', Lle L L' → L' (.ref dd) (.xd e.ns e.xs) → SR H' L' S' T → X e S' → W (.ref e.C) (some dd) sg H'
def EOk (L : LL) (T : List (Addr × HO)) (K : KE) (Q : VK) : Prop := ∀ v d L' H' S', Lle L L' → L' v d → SR H' L' S' T → K d S' → Q v H'
def TOk (L : LL) (T : List (Addr × HO)) (K : Bool → Store → Prop) (Q : Bool → Hp → Prop) : Prop := ∀ b L' H' S', Lle L L' → SR H' L' S' T → K b S' → Q b H'
def AOk (L : LL) (T : List (Addr × HO)) (K : List Dat → Store → Prop) (Q : List V → Hp → Prop) : Prop := ∀ vs ds L' H' S', Lle L L' → Ls L' vs ds → SR H' L' S' T → K ds S' → Q vs H'
theorem XOk.le {W : WX} {sg : St} {L L' : LL} {T : List (Addr × HO)} {X : KX} (x : XOk W sg L T X) (l : Lle L L') : XOk W sg L' T X := fun e dd L2 H' S' h => x e dd L2 H' S' (l.trans h)
theorem EOk.le {L L' : LL} {T : List (Addr × HO)} {K : KE} {Q : VK} (x : EOk L T K Q) (l : Lle L L') : EOk L' T K Q := fun v d L2 H' S' h => x v d L2 H' S' (l.trans h)
theorem TOk.le {L L' : LL} {T : List (Addr × HO)} {K : Bool → Store → Prop} {Q : Bool → Hp → Prop} (x : TOk L T K Q) (l : Lle L L') : TOk L' T K Q := fun b L2 H' S' h => x b L2 H' S' (l.trans h)
theorem AOk.le {L L' : LL} {T : List (Addr × HO)} {K : List Dat → Store → Prop} {Q : List V → Hp → Prop} (x : AOk L T K Q) (l : Lle L L') : AOk L' T K Q := fun b d L2 H' S' h => x b d L2 H' S' (l.trans h)
/-- the reading t over values is met by the reading u over data -/
def ImpE (W : WX) (t : TE) (u : UE) : Prop := ∀ {sg dl L H S T K X Q}, EnvIn sg dl L → SR H L S T → u dl S K X → EOk L T K Q → XOk W sg L T X → t sg H Q
def ImpT (W : WX) (t : TT) (u : UT) : Prop := ∀ {sg dl L H S T K X Q}, EnvIn sg dl L → SR H L S T → u dl S K X → TOk L T K Q → XOk W sg L T X → t sg H Q
def ImpA (W : WX) (t : TA) (u : UA) : Prop := ∀ {sg dl L H S T K X Q}, EnvIn sg dl L → SR H L S T → u dl S K X → AOk L T K Q → XOk W sg L T X → t sg H Q
/-- an operation on values, on data -/
abbrev G1 := Dat → Store → KE → Prop
abbrev G2 := Dat → Dat → Store → KE → Prop
abbrev GL := List Dat → Store → KE → Prop
abbrev GM := Dat → List Dat → Store → KE → Prop
def OpI (r : R2) (g : G2) : Prop := ∀ {x y dx dy L H S T K Q}, SR H L S T → L x dx → L y dy → g dx dy S K → EOk L T K Q → r x y H Q
def UnI (r : V → Hp → VK → Prop) (g : G1) : Prop := ∀ {x dx L H S T K Q}, SR H L S T → L x dx → g dx S K → EOk L T K Q → r x H Q
def CbI (r : List V → Hp → VK → Prop) (g : GL) : Prop := ∀ {xs ds L H S T K Q}, SR H L S T → Ls L xs ds → g ds S K → EOk L T K Q → r xs H Q
def MtI (r : V → List V → Hp → VK → Prop) (g : GM) : Prop := ∀ {x dx xs ds L H S T K Q}, SR H L S T → L x dx → Ls L xs ds → g dx ds S K → EOk L T K Q → r x xs H Q
structure DE (X : Cx) (W : WX) (e : Expr) (t : TE) (u : UE) : Prop where
  run : PE X e t
  imp : ImpE W t u
structure DT (X : Cx) (W : WX) (e : Expr) (t : TT) (u : UT) : Prop where
  run : PT X e t
  imp : ImpT W t u
structure DW (X : Cx) (W : WX) (e : Expr) (t : TT) (u : UT) : Prop where
  run : PW X e t
  imp : ImpT W t u
structure DA (X : Cx) (W : WX) (es : List Expr) (t : TA) (u : UA) : Prop where
  run : PA X es t
  imp : ImpA W t u
theorem DW.dt {X : Cx} {W : WX} {e : Expr} {t : TT} {u : UT} (h : DW X W e t u) : DT X W e t u := ⟨h.run.pt, h.imp⟩
/-! ### readings over data -/
def uVar (i : Nat) : UE := fun dl S K _ => match dl[i]? with
  | some (some d) => K d S
  | _ => False
def uC (d : Dat) : UE := fun _ S K _ => K d S
def uOp (g : G2) (ua ub : UE) : UE := fun dl S K X => ua dl S (fun x S1 => ub dl S1 (fun y S2 => g x y S2 K) X) X
def uUn (g : G1) (ua : UE) : UE := fun dl S K X => ua dl S (fun x S1 => g x S1 K) X
def uNil : UA := fun _ S K _ => K [] S
def uCons (ua : UE) (ur : UA) : UA := fun dl S K X => ua dl S (fun x S1 => ur dl S1 (fun xs S2 => K (x :: xs) S2) X) X
def uTup (ua : UA) : UE := fun dl S K X => ua dl S (fun xs S1 => xs.length ≤ sizeLine ∧ K (.tup xs) S1) X
/-- a display that never changes; one that may be changed -/
def uLst (ua : UA) : UE := fun dl S K X => ua dl S (fun xs S1 => xs.length ≤ sizeLine ∧ K (.lst xs) S1) X
def uLstC (ua : UA) : UE := fun dl S K X => ua dl S (fun xs S1 => xs.length ≤ sizeLine ∧ K (.cell S1.length) (S1 ++ [.lst xs])) X
def uCB (g : GL) (ua : UA) : UE := fun dl S K X => ua dl S (fun xs S1 => g xs S1 K) X
def uIf (t : UT) (ua ub : UE) : UE := fun dl S K X => t dl S (fun c S1 => if c = true then ua dl S1 K X else ub dl S1 K X) X
def uTest (ua : UE) : UT := fun dl S K X => ua dl S (fun d S1 => match d with
  | .bl b => K b S1
  | _ => False) X
def uAnd (a b : UT) : UT := fun dl S K X => a dl S (fun c S1 => if c = true then b dl S1 K X else K false S1) X
def uOr (a b : UT) : UT := fun dl S K X => a dl S (fun c S1 => if c = true then K true S1 else b dl S1 K X) X
def uNot (a : UT) : UT := fun dl S K X => a dl S (fun c S1 => K (!c) S1) X
/-- the truth of data -/
def gTru (d : Dat) (S : Store) (K : Bool → Store → Prop) : Prop := match d with
  | .non => K false S
  | .bl b => K b S
  | .int i => K (i != 0) S
  | .str y => y.length ≤ sizeLine ∧ K ((y.length : Int) != 0) S
  | .tup xs => K (!xs.isEmpty) S
  | .lst xs => K (!xs.isEmpty) S
  | .cell n => match S[n]? with
    | some (.lst xs) => K (!xs.isEmpty) S
    | _ => False
  | _ => False
def uTru (ua : UE) : UT := fun dl S K X => ua dl S (fun d S1 => gTru d S1 K) X
def uAndV (ua ub : UE) : UE := fun dl S K X => ua dl S (fun d S1 => gTru d S1 fun c S2 => if c = true then ub dl S2 K X else K d S2) X
def uOrV (ua ub : UE) : UE := fun dl S K X => ua dl S (fun d S1 => gTru d S1 fun c S2 => if c = true then K d S2 else ub dl S2 K X) X
def uNotV (ua : UE) : UE := fun dl S K X => ua dl S (fun d S1 => gTru d S1 fun c S2 => K (.bl (!c)) S2) X
def uChain (g g' : G2) (ua ub uc : UE) : UE := fun dl S K X => ua dl S (fun x S1 => ub dl S1 (fun y S2 => g x y S2 fun z S3 => match z with
  | .bl c => if c = true then uc dl S3 (fun w S4 => g' y w S4 K) X else K (.bl false) S3
  | _ => False) X) X
section
variable {X : Cx} {W : WX} {a b c e : Expr} {es rest : List Expr} {ta tb tc te : TE} {ua ub uc ue : UE} {tA tB' : TT} {uA uB : UT} {t : TA} {u : UA} {pos : Pos} {r r' : R2} {g g' : G2}
theorem imp_var {i : Nat} : ImpE W (tVar i) (uVar i) := fun {sg dl L H S T K X Q} he hs h ho _ => by
  unfold uVar at h
  cases e : dl[i]? with
  | none => rw [e] at h; exact h.elim
  | some o =>
    rw [e] at h
    cases o with
    | none => exact h.elim
    | some d =>
      obtain ⟨v, h1, h2⟩ := he.2 i d e
      exact ⟨v, h1, ho v d L H S (.refl L) h2 hs h⟩
theorem de_var (i : Nat) {x : Str} (hN : X.N[i]? = some x := by rfl) (hv : Vis X.env.scope x := by first | exact Or.inl rfl | exact Or.inr (Or.inl rfl) | exact Or.inr (Or.inr rfl)) (hd : (x == ("__debug__" : Str)) = false := by decide)
    (hcd : (x == ("__classdict__" : Str)) = false := by decide) : DE X W (.Name x pos) (tVar i) (uVar i) := ⟨pe_var hN hv hd hcd, imp_var⟩
theorem imp_c {v : V} {d : Dat} (h : Flat d v) : ImpE W (tC v) (uC d) := fun {sg dl L H S T K X Q} _ hs hu ho _ =>
  ho v d (Ladd L v d) H S Ladd.le Ladd.here (hs.flat h) hu
theorem de_int {i j} : DE X W (.Constant (.int i) j pos) (tC (.int i)) (uC (.int i)) := ⟨pe_int, imp_c (d := .int i) (v := .int i) rfl⟩
theorem de_bl {b j} : DE X W (.Constant (.bool b) j pos) (tC (.bl b)) (uC (.bl b)) := ⟨pe_bl, imp_c (d := .bl b) (v := .bl b) rfl⟩
theorem de_non {j} : DE X W (.Constant .none j pos) (tC .non) (uC .non) := ⟨pe_non, imp_c (d := .non) (v := .non) rfl⟩
theorem de_str {x j} : DE X W (.Constant (.str x) j pos) (tC (.str x)) (uC (.str x)) := ⟨pe_str, imp_c (d := .str x) (v := .str x) rfl⟩
/-- a module's constant -/
theorem de_glob {x : Str} {v : V} {d : Dat} {w : Value} (hm : X.mg x = some w) (r : RelV v w) (hf : Flat d v := by rfl) (hg : Gl X x := by rfl) (hd : (x == ("__debug__" : Str)) = false := by decide) : DE X W (.Name x pos) (tC v) (uC d) := ⟨pe_glob hg hm r hd, imp_c hf⟩
theorem imp_op (ho : OpI r g) (ha : ImpE W ta ua) (hb : ImpE W tb ub) : ImpE W (tOp r ta tb) (uOp g ua ub) := fun {sg dl L H S T K X Q} he hs h hq hx =>
  ha he hs h (fun x dx L1 H1 S1 l1 p1 s1 h1 => hb (he.le l1) s1 h1 (fun y dy L2 H2 S2 l2 p2 s2 h2 => ho s2 (l2 _ _ p1) p2 h2 (hq.le (l1.trans l2))) (hx.le l1)) hx
theorem imp_un {r : V → Hp → VK → Prop} {g : G1} (ho : UnI r g) (ha : ImpE W ta ua) : ImpE W (tUn r ta) (uUn g ua) := fun {sg dl L H S T K X Q} he hs h hq hx =>
  ha he hs h (fun x dx L1 H1 S1 l1 p1 s1 h1 => ho s1 p1 h1 (hq.le l1)) hx
theorem da_nil : DA X W [] tNil uNil := ⟨pa_nil, fun {sg dl L H S T K X Q} _ hs h hq _ => hq [] [] L H S (.refl L) True.intro hs h⟩
theorem imp_cons (ha : ImpE W ta ua) (hr : ImpA W t u) : ImpA W (tCons ta t) (uCons ua u) := fun {sg dl L H S T K X Q} he hs h hq hx =>
  ha he hs h (fun x dx L1 H1 S1 l1 p1 s1 h1 => hr (he.le l1) s1 h1 (fun ys dys L2 H2 S2 l2 p2 s2 h2 => hq (x :: ys) (dx :: dys) L2 H2 S2 (l1.trans l2) ⟨l2 _ _ p1, p2⟩ s2 h2) (hx.le l1)) hx
theorem da_cons (ha : DE X W e te ue) (hr : DA X W es t u) (hs : starEach (e :: es) X.env = (false, eval e X.env) :: starEach es X.env := by rfl) : DA X W (e :: es) (tCons te t) (uCons ue u) := ⟨pa_cons ha.run hr.run hs, imp_cons ha.imp hr.imp⟩
theorem de_tup {x1} (h : DA X W es t u) : DE X W (.Tuple es x1 pos) (tTup t) (uTup u) := ⟨pe_tup h.run, fun {sg dl L H S T K X Q} he hs h' hq hx =>
  h.imp he hs h' (fun vs ds L1 H1 S1 l1 p1 s1 h1 => ⟨by rw [p1.length]; exact h1.1, fun p hp => hq _ _ _ _ S1 (l1.trans Ladd.le) Ladd.here (s1.tup hp p1) h1.2⟩) hx⟩
theorem de_lst (h : DA X W es t u) : DE X W (.List es pos) (tLst t) (uLst u) := ⟨pe_lst h.run, fun {sg dl L H S T K X Q} he hs h' hq hx =>
  h.imp he hs h' (fun vs ds L1 H1 S1 l1 p1 s1 h1 => ⟨by rw [p1.length]; exact h1.1, fun p hp => hq _ _ _ _ S1 (l1.trans Ladd.le) Ladd.here (s1.lst hp p1) h1.2⟩) hx⟩
theorem de_lstC (h : DA X W es t u) : DE X W (.List es pos) (tLst t) (uLstC u) := ⟨pe_lst h.run, fun {sg dl L H S T K X Q} he hs h' hq hx =>
  h.imp he hs h' (fun vs ds L1 H1 S1 l1 p1 s1 h1 => ⟨by rw [p1.length]; exact h1.1, fun p hp => hq _ _ _ _ _ (l1.trans Ladd.le) Ladd.here (s1.cell (d := .lst ds) hp rfl p1) h1.2⟩) hx⟩
/-! operators: the rule by values and by data -/
structure DOp (X : Cx) (f : Value → Value → Sem Value) (r : R2) (g : G2) : Prop where
  run : OpR X f r
  imp : OpI r g
theorem de_bin {op : Operator} (ho : DOp X (binaryOp op) r g) (ha : DE X W a ta ua) (hb : DE X W b tb ub) : DE X W (.BinOp a op b pos) (tOp r ta tb) (uOp g ua ub) := ⟨pe_op ho.run ha.run hb.run, imp_op ho.imp ha.imp hb.imp⟩
theorem de_cmp {op : CmpOp} (ho : DOp X (compareOp op) r g) (ha : DE X W a ta ua) (hb : DE X W b tb ub) (hm : behindInMarks op b = false := by first | exact nomark _ | rfl) : DE X W (.Compare a [op] [b] pos) (tOp r ta tb) (uOp g ua ub) := ⟨pe_cmpR ho.run ha.run hb.run hm, imp_op ho.imp ha.imp hb.imp⟩
theorem imp_test (ha : ImpE W ta ua) : ImpT W (tTest ta) (uTest ua) := fun {sg dl L H S T K X Q} he hs h hq hx =>
  ha he hs h (fun v d L1 H1 S1 l1 p1 s1 h1 => by
    cases d with
    | bl b =>
      obtain ⟨rho, x⟩ := id s1
      have := x.rd _ _ p1
      simp only [RD] at this
      exact ⟨b, this, hq b L1 H1 S1 l1 s1 h1⟩
    | _ => exact h1.elim) hx
theorem dt_cmp {op : CmpOp} (ho : DOp X (compareOp op) r g) (ha : DE X W a ta ua) (hb : DE X W b tb ub) (hm : behindInMarks op b = false := by first | exact nomark _ | rfl) : DT X W (.Compare a [op] [b] pos) (tTest (tOp r ta tb)) (uTest (uOp g ua ub)) := ⟨pt_cmpR ho.run ha.run hb.run hm, imp_test (imp_op ho.imp ha.imp hb.imp)⟩
theorem imp_chain (ho : OpI r g) (ho' : OpI r' g') (ha : ImpE W ta ua) (hb : ImpE W tb ub) (hc : ImpE W tc uc) : ImpE W (tChain r r' ta tb tc) (uChain g g' ua ub uc) := fun {sg dl L H S T K X Q} he hs h hq hx =>
  ha he hs h (fun x dx L1 H1 S1 l1 p1 s1 h1 => hb (he.le l1) s1 h1 (fun y dy L2 H2 S2 l2 p2 s2 h2 => ho s2 (l2 _ _ p1) p2 h2 fun z dz L3 H3 S3 l3 p3 s3 h3 => by
    cases dz with
    | bl c =>
      obtain ⟨rho, q⟩ := id s3
      have := q.rd _ _ p3
      simp only [RD] at this
      refine ⟨c, this, ?_⟩
      cases c with
      | true => exact hc (he.le ((l1.trans l2).trans l3)) s3 h3 (fun w dw L4 H4 S4 l4 p4 s4 h4 => ho' s4 (l4 _ _ (l3 _ _ p2)) p4 h4 (hq.le (((l1.trans l2).trans l3).trans l4))) (hx.le ((l1.trans l2).trans l3))
      | false => exact hq (.bl false) (.bl false) (Ladd L3 _ _) H3 S3 (((l1.trans l2).trans l3).trans Ladd.le) Ladd.here (s3.flat rfl) h3
    | _ => exact h3.elim) (hx.le l1)) hx
theorem de_chain {op op' : CmpOp} (ho : DOp X (compareOp op) r g) (ho' : DOp X (compareOp op') r' g') (ha : DE X W a ta ua) (hb : DE X W b tb ub) (hc : DE X W c tc uc) (hm : lastMarks [op, op'] [b, c] = false := by with_unfolding_all rfl) : DE X W (.Compare a [op, op'] [b, c] pos) (tChain r r' ta tb tc) (uChain g g' ua ub uc) :=
  ⟨pe_chain ho.run ho'.run ha.run hb.run hc.run hm, imp_chain ho.imp ho'.imp ha.imp hb.imp hc.imp⟩
theorem dt_chain {op op' : CmpOp} (ho : DOp X (compareOp op) r g) (ho' : DOp X (compareOp op') r' g') (ha : DE X W a ta ua) (hb : DE X W b tb ub) (hc : DE X W c tc uc) (hm : lastMarks [op, op'] [b, c] = false := by with_unfolding_all rfl) :
    DT X W (.Compare a [op, op'] [b, c] pos) (tTest (tChain r r' ta tb tc)) (uTest (uChain g g' ua ub uc)) := ⟨pt_chain ho.run ho'.run ha.run hb.run hc.run hm, imp_test (imp_chain ho.imp ho'.imp ha.imp hb.imp hc.imp)⟩
/-! truth -/
theorem tru_of {K' : PySem.W.Frag} {L : LL} {H : Hp} {S : Store} {T : List (Addr × HO)} {K : Bool → Store → Prop} {d : Dat} {v : V} (hs : SR H L S T) (hp : L v d) (h : gTru d S K) : ∃ k, TruV K' v H k ∧ K k S := by
  obtain ⟨rho, x⟩ := id hs
  have q := x.rd _ _ hp
  cases d with
  | non => simp only [RD] at q; subst q; exact ⟨false, rfl, h⟩
  | bl b => simp only [RD] at q; subst q; exact ⟨b, rfl, h⟩
  | int i => simp only [RD] at q; subst q; exact ⟨_, rfl, h⟩
  | str y => simp only [RD] at q; subst q; exact ⟨_, ⟨h.1, rfl⟩, h.2⟩
  | tup xs =>
    obtain ⟨a, vs, e, r, _, k⟩ := hs.tuple hp
    subst e
    refine ⟨_, .inr (.inl ⟨vs, .of r, rfl⟩), ?_⟩
    have l := k.length
    have e : vs.isEmpty = xs.isEmpty := by cases vs <;> cases xs <;> simp at l ⊢
    rw [e]; exact h
  | lst xs =>
    obtain ⟨a, vs, e, r, _, k⟩ := hs.list hp rfl
    subst e
    refine ⟨_, .inl ⟨vs, .of r, rfl⟩, ?_⟩
    have l := k.length
    have e : vs.isEmpty = xs.isEmpty := by cases vs <;> cases xs <;> simp at l ⊢
    rw [e]; exact h
  | cell n =>
    have h : (match S[n]? with
      | some (.lst xs) => K (!xs.isEmpty) S
      | _ => False) := h
    cases e : S[n]? with
    | none => rw [e] at h; exact h.elim
    | some d' =>
      rw [e] at h
      cases d' with
      | lst xs =>
        obtain ⟨a, vs, e, r, _, k⟩ := hs.list (ds := xs) hp e
        subst e
        refine ⟨_, .inl ⟨vs, .of r, rfl⟩, ?_⟩
        have l := k.length
        have e : vs.isEmpty = xs.isEmpty := by cases vs <;> cases xs <;> simp at l ⊢
        rw [e]; exact h
      | _ => exact h.elim
  | _ => exact h.elim
theorem dt_tru (ha : DE X W a ta ua) (hh : ∀ whole, isTrue a X.env whole = (do let v ← whole; standAt a.pos; holding [v] (truthy v)) := by intro _; rfl) : DT X W a (fun sg H Q => ta sg H fun x H' => ∃ k, TruV X.K x H' k ∧ Q k H') (uTru ua) :=
  ⟨pt_truth ha.run hh, fun {sg dl L H S T K X' Q} he hs h hq hx => ha.imp he hs h (fun v d L1 H1 S1 l1 p1 s1 h1 => by
    obtain ⟨k, hk, q⟩ := tru_of (K' := X.K) s1 p1 h1
    exact ⟨k, hk, hq k L1 H1 S1 l1 s1 q⟩) hx⟩
theorem gTru_imp {d : Dat} {S : Store} {K K' : Bool → Store → Prop} (h : gTru d S K) (k : ∀ b, K b S → K' b S) : gTru d S K' := by
  cases d with
  | non => exact k _ h
  | bl b => exact k _ h
  | int i => exact k _ h
  | str y => exact ⟨h.1, k _ h.2⟩
  | tup xs => exact k _ h
  | lst xs => exact k _ h
  | cell n =>
    have h : (match S[n]? with
      | some (.lst xs) => K (!xs.isEmpty) S
      | _ => False) := h
    show (match S[n]? with
      | some (.lst xs) => K' (!xs.isEmpty) S
      | _ => False)
    cases e : S[n]? with
    | none => rw [e] at h; exact h.elim
    | some d' =>
      rw [e] at h
      cases d' with
      | lst xs => exact k _ h
      | _ => exact h.elim
  | _ => exact h.elim
theorem de_and (ha : DE X W a ta ua) (hb : DE X W (.BoolOp .And (b :: rest) pos) tb ub) : DE X W (.BoolOp .And (a :: b :: rest) pos) (tAndT X.K ta tb) (uAndV ua ub) := ⟨pe_andT ha.run hb.run, fun {sg dl L H S T K X' Q} he hs h hq hx =>
  ha.imp he hs h (fun v d L1 H1 S1 l1 p1 s1 h1 => by
    obtain ⟨k, hk, q⟩ := tru_of (K' := X.K) s1 p1 h1
    refine ⟨k, hk, ?_⟩
    cases k with
    | true => exact hb.imp (he.le l1) s1 q (hq.le l1) (hx.le l1)
    | false => exact hq v d L1 H1 S1 l1 p1 s1 q) hx⟩
theorem de_or (ha : DE X W a ta ua) (hb : DE X W (.BoolOp .Or (b :: rest) pos) tb ub) : DE X W (.BoolOp .Or (a :: b :: rest) pos) (tOrT X.K ta tb) (uOrV ua ub) := ⟨pe_orT ha.run hb.run, fun {sg dl L H S T K X' Q} he hs h hq hx =>
  ha.imp he hs h (fun v d L1 H1 S1 l1 p1 s1 h1 => by
    obtain ⟨k, hk, q⟩ := tru_of (K' := X.K) s1 p1 h1
    refine ⟨k, hk, ?_⟩
    cases k with
    | true => exact hq v d L1 H1 S1 l1 p1 s1 q
    | false => exact hb.imp (he.le l1) s1 q (hq.le l1) (hx.le l1)) hx⟩
theorem de_one {op} (ha : DE X W a ta ua) : DE X W (.BoolOp op [a] pos) ta ua := ⟨pe_one ha.run, ha.imp⟩
theorem de_not (ha : DE X W a ta ua) : DE X W (.UnaryOp .Not a pos) (tNotT X.K ta) (uNotV ua) := ⟨pe_notT ha.run, fun {sg dl L H S T K X' Q} he hs h hq hx =>
  ha.imp he hs h (fun v d L1 H1 S1 l1 p1 s1 h1 => by
    obtain ⟨k, hk, q⟩ := tru_of (K' := X.K) s1 p1 h1
    exact ⟨k, hk, hq (.bl (!k)) (.bl (!k)) (Ladd L1 _ _) H1 S1 (l1.trans Ladd.le) Ladd.here (s1.flat rfl) q⟩) hx⟩
theorem imp_and (ha : ImpT W tA uA) (hb : ImpT W tB' uB) : ImpT W (tAnd tA tB') (uAnd uA uB) := fun {sg dl L H S T K X Q} he hs h hq hx =>
  ha he hs h (fun c L1 H1 S1 l1 s1 h1 => by
    cases c with
    | true => exact hb (he.le l1) s1 h1 (hq.le l1) (hx.le l1)
    | false => exact hq false L1 H1 S1 l1 s1 h1) hx
theorem imp_or (ha : ImpT W tA uA) (hb : ImpT W tB' uB) : ImpT W (tOr tA tB') (uOr uA uB) := fun {sg dl L H S T K X Q} he hs h hq hx =>
  ha he hs h (fun c L1 H1 S1 l1 s1 h1 => by
    cases c with
    | true => exact hq true L1 H1 S1 l1 s1 h1
    | false => exact hb (he.le l1) s1 h1 (hq.le l1) (hx.le l1)) hx
theorem dw_and1 (ha : DT X W a tA uA) : DW X W (.BoolOp .And [a] pos) tA uA := ⟨pw_and1 ha.run, ha.imp⟩
theorem dw_or1 (ha : DT X W a tA uA) : DW X W (.BoolOp .Or [a] pos) tA uA := ⟨pw_or1 ha.run, ha.imp⟩
theorem dw_and (ha : DT X W a tA uA) (hb : DW X W (.BoolOp .And (b :: rest) pos) tB' uB) : DW X W (.BoolOp .And (a :: b :: rest) pos) (tAnd tA tB') (uAnd uA uB) := ⟨pw_and ha.run hb.run, imp_and ha.imp hb.imp⟩
theorem dw_or (ha : DT X W a tA uA) (hb : DW X W (.BoolOp .Or (b :: rest) pos) tB' uB) : DW X W (.BoolOp .Or (a :: b :: rest) pos) (tOr tA tB') (uOr uA uB) := ⟨pw_or ha.run hb.run, imp_or ha.imp hb.imp⟩
theorem dt_not (ha : DT X W a tA uA) : DT X W (.UnaryOp .Not a pos) (tNot tA) (uNot uA) := ⟨pt_not ha.run, fun {sg dl L H S T K X' Q} he hs h hq hx => ha.imp he hs h (fun c L1 H1 S1 l1 s1 h1 => hq (!c) L1 H1 S1 l1 s1 h1) hx⟩
theorem de_if (hc : DT X W c tA uA) (ha : DE X W a ta ua) (hb : DE X W b tb ub) : DE X W (.IfExp c a b pos) (tIf tA ta tb) (uIf uA ua ub) := ⟨pe_ifExp hc.run ha.run hb.run, fun {sg dl L H S T K X' Q} he hs h hq hx =>
  hc.imp he hs h (fun k L1 H1 S1 l1 s1 h1 => by
    cases k with
    | true => exact ha.imp (he.le l1) s1 h1 (hq.le l1) (hx.le l1)
    | false => exact hb.imp (he.le l1) s1 h1 (hq.le l1) (hx.le l1)) hx⟩
end
end DL
/-! DL3: statements over data. -/
namespace DL
open PySem L2
structure DEnds where
  nx : Env' → Store → Prop
  rt : Dat → Store → Prop
  bk : Env' → Store → Prop := fun _ _ => False
  ct : Env' → Store → Prop := fun _ _ => False
  ex : Exc → Env' → Store → Prop := fun _ _ _ => False
abbrev US := DEnds → Env' → Store → Prop
/-- what the end of a statement over values must bear -/
def NOk (n : Nat) (L : LL) (T : List (Addr × HO)) (K : Env' → Store → Prop) (Q : St → Hp → Prop) : Prop := ∀ sg dl L' H' S', Lle L L' → sg.length = n → EnvIn sg dl L' → SR H' L' S' T → K dl S' → Q sg H'
def WOk (n : Nat) (W : WX) (L : LL) (T : List (Addr × HO)) (X : Exc → Env' → Store → Prop) : Prop := ∀ e dd sg dl L' H' S', Lle L L' → sg.length = n → EnvIn sg dl L' → L' (.ref dd) (.xd e.ns e.xs) → SR H' L' S' T → X e dl S' → W (.ref e.C) (some dd) sg H'
theorem NOk.le {n : Nat} {L L' : LL} {T : List (Addr × HO)} {K : Env' → Store → Prop} {Q : St → Hp → Prop} (x : NOk n L T K Q) (l : Lle L L') : NOk n L' T K Q := fun sg dl L2 H' S' h => x sg dl L2 H' S' (l.trans h)
theorem WOk.le {n : Nat} {W : WX} {L L' : LL} {T : List (Addr × HO)} {X : Exc → Env' → Store → Prop} (x : WOk n W L T X) (l : Lle L L') : WOk n W L' T X := fun e dd sg dl L2 H' S' h => x e dd sg dl L2 H' S' (l.trans h)
theorem WOk.x {n : Nat} {W : WX} {L : LL} {T : List (Addr × HO)} {X : Exc → Env' → Store → Prop} (x : WOk n W L T X) {sg : St} {dl : Env'} (hl : sg.length = n) (he : EnvIn sg dl L) : XOk W sg L T (fun e S => X e dl S) :=
  fun e dd L' H' S' h1 h2 h3 h4 => x e dd sg dl L' H' S' h1 hl (he.le h1) h2 h3 h4
structure SOk (n : Nat) (W : WX) (L : LL) (T : List (Addr × HO)) (D : DEnds) (D' : Ends) : Prop where
  nx : NOk n L T D.nx D'.nx
  rt : EOk L T D.rt D'.rt
  bk : NOk n L T D.bk D'.bk
  ct : NOk n L T D.ct D'.ct
  ex : WOk n W L T D.ex
theorem SOk.le {n : Nat} {W : WX} {L L' : LL} {T : List (Addr × HO)} {D : DEnds} {D' : Ends} (x : SOk n W L T D D') (l : Lle L L') : SOk n W L' T D D' := ⟨x.nx.le l, x.rt.le l, x.bk.le l, x.ct.le l, x.ex.le l⟩
def ImpS (W : WX) (t : TS) (u : US) : Prop := ∀ {sg dl L H S T D D'}, EnvIn sg dl L → SR H L S T → u D dl S → SOk sg.length W L T D D' → t D' sg H
structure DS (X : Cx) (W : WX) (s : Stmt) (t : TS) (u : US) : Prop where
  run : PS X s t
  imp : ImpS W t u
structure DSs (X : Cx) (W : WX) (s : List Stmt) (t : TS) (u : US) : Prop where
  run : PSs X s t
  imp : ImpS W t u
/-- targets -/
abbrev UG := Dat → Env' → Store → (Env' → Store → Prop) → KX → Prop
def GOk (sg : St) (ts : List Nat) (L : LL) (T : List (Addr × HO)) (K : Env' → Store → Prop) (Q : St → Hp → Prop) : Prop := ∀ sg' dl L' H' S', Lle L L' → sg'.length = sg.length → (∀ vs : List Nat, (∀ i ∈ ts, i ∈ vs) → wipe sg' vs = wipe sg vs) → EnvIn sg' dl L' → SR H' L' S' T → K dl S' → Q sg' H'
theorem NOk.g {n : Nat} {sg : St} {ts : List Nat} {L : LL} {T : List (Addr × HO)} {K : Env' → Store → Prop} {Q : St → Hp → Prop} (x : NOk n L T K Q) (h : sg.length = n) : GOk sg ts L T K Q := fun sg' dl L' H' S' l hl _ he hs hk => x sg' dl L' H' S' l (hl.trans h) he hs hk
/-- ts: the slots that the target stores into -/
def ImpG (W : WX) (t : TG) (u : UG) (ts : List Nat) : Prop := ∀ {sg dl L H S T v d K X Q}, EnvIn sg dl L → SR H L S T → L v d → u d dl S K X → GOk sg ts L T K Q → XOk W sg L T X → t v sg H Q
structure DG (X : Cx) (W : WX) (e : Expr) (t : TG) (u : UG) (ts : List Nat) : Prop where
  run : PG X e t
  imp : ImpG W t u ts
theorem wipe_set {sg : St} {i : Nat} {v : Option V} : ∀ {vs : List Nat}, i ∈ vs → wipe (sg.set i v) vs = wipe sg vs
  | j :: vs, h => by
    unfold wipe
    by_cases e : i ∈ vs
    · rw [wipe_set e]
    · have ej : i = j := by
        rcases List.mem_cons.mp h with q | q
        · exact q
        · exact absurd q e
      subst ej
      have key : ∀ us : List Nat, i ∉ us → wipe (sg.set i v) us = (wipe sg us).set i v := fun us => by
        induction us with
        | nil => intro _; rfl
        | cons k us ih =>
          intro hk
          unfold wipe
          have hne : i ≠ k := fun z => hk (z ▸ List.mem_cons_self)
          rw [ih fun z => hk (List.mem_cons_of_mem _ z), List.set_comm _ _ hne]
      rw [key vs e, List.set_set]
def uSeq (a b : US) : US := fun D dl S => a { D with nx := b D } dl S
/-- the rest is shown once, from a word between -/
def uCut (a b : US) : US := fun D dl S => ∃ M : Env' → Store → Prop, a { D with nx := M } dl S ∧ ∀ dl' S', M dl' S' → b D dl' S'
def uNext : US := fun D dl S => D.nx dl S
def uBreak : US := fun D dl S => D.bk dl S
def uCont : US := fun D dl S => D.ct dl S
def uDrop (ue : UE) : US := fun D dl S => ue dl S (fun _ S1 => D.nx dl S1) (fun e S1 => D.ex e dl S1)
def uRet (ue : UE) : US := fun D dl S => ue dl S (fun d S1 => D.rt d S1) (fun e S1 => D.ex e dl S1)
def uRetN : US := fun D _ S => D.rt .non S
def uIfS (c : UT) (a b : US) : US := fun D dl S => c dl S (fun k S1 => if k = true then a D dl S1 else b D dl S1) (fun e S1 => D.ex e dl S1)
def uName (i : Nat) : UG := fun d dl S K _ => i < dl.length ∧ K (dl.set i (some d)) S
def uSet (i : Nat) (ue : UE) : US := fun D dl S => ue dl S (fun d S1 => i < dl.length ∧ D.nx (dl.set i (some d)) S1) (fun e S1 => D.ex e dl S1)
def uAsg (ue : UE) (g : UG) : US := fun D dl S => ue dl S (fun d S1 => g d dl S1 D.nx (fun e S1 => D.ex e dl S1)) (fun e S1 => D.ex e dl S1)
def uPar (i j : Nat) (ua : UA) : US := fun D dl S => ua dl S (fun ds S1 => match ds with
  | [a, b] => i < dl.length ∧ j < dl.length ∧ D.nx ((dl.set i (some a)).set j (some b)) S1
  | _ => False) (fun e S1 => D.ex e dl S1)
section
variable {X : Cx} {W : WX} {s : Stmt} {ss : List Stmt} {t t' : TS} {u u' : US} {e : Expr} {te : TE} {ue : UE} {pos : Pos}
theorem EnvIn.set {sg : St} {dl : Env'} {L : LL} (he : EnvIn sg dl L) {i : Nat} {v : V} {d : Dat} (hi : i < dl.length) (h : L v d) : EnvIn (sg.set i (some v)) (dl.set i (some d)) L := by
  refine ⟨by rw [List.length_set, List.length_set]; exact he.1, fun k c hk => ?_⟩
  by_cases e : k = i
  · subst e
    rw [List.getElem?_set_self hi] at hk
    injection hk with hk
    injection hk with hk
    subst hk
    exact ⟨v, by rw [List.getElem?_set_self (by rw [he.1]; exact hi)], h⟩
  · rw [List.getElem?_set_ne (Ne.symm e)] at hk
    obtain ⟨w, h1, h2⟩ := he.2 k c hk
    exact ⟨w, by rw [List.getElem?_set_ne (Ne.symm e)]; exact h1, h2⟩
theorem dss_nil : DSs X W [] tNext uNext := ⟨pss_nil, fun {sg dl L H S T D D'} he hs h hk => hk.nx sg dl L H S (.refl L) rfl he hs h⟩
theorem imp_seq (h1 : ImpS W t u) (h2 : ImpS W t' u') : ImpS W (tSeq t t') (uSeq u u') := fun {sg dl L H S T D D'} he hs h hk =>
  h1 (D := { D with nx := u' D }) (D' := { D' with nx := t' D' }) he hs h ⟨fun sg' dl' L' H' S' l hl he' hs' h' => h2 he' hs' h' (by rw [hl]; exact hk.le l), hk.rt, hk.bk, hk.ct, hk.ex⟩
theorem dss_cons (h1 : DS X W s t u) (h2 : DSs X W ss t' u') : DSs X W (s :: ss) (tSeq t t') (uSeq u u') := ⟨pss_cons h1.run h2.run, imp_seq h1.imp h2.imp⟩
theorem dss_one (h1 : DS X W s t u) : DSs X W [s] t u := ⟨pss_one h1.run, h1.imp⟩
theorem dss_cut (h1 : DS X W s t u) (h2 : DSs X W ss t' u') : DSs X W (s :: ss) (tSeq t t') (uCut u u') := ⟨pss_cons h1.run h2.run, fun {sg dl L H S T D D'} he hs h hk => by
  obtain ⟨M, hm, hu⟩ := h
  exact h1.imp (D := { D with nx := M }) (D' := { D' with nx := t' D' }) he hs hm ⟨fun sg' dl' L' H' S' l hl he' hs' h' => h2.imp he' hs' (hu dl' S' h') (by rw [hl]; exact hk.le l), hk.rt, hk.bk, hk.ct, hk.ex⟩⟩
theorem ds_pass : DS X W (.Pass pos) tNext uNext := ⟨ps_pass, fun {sg dl L H S T D D'} he hs h hk => hk.nx sg dl L H S (.refl L) rfl he hs h⟩
theorem ds_break : DS X W (.Break pos) tBreak uBreak := ⟨ps_break, fun {sg dl L H S T D D'} he hs h hk => hk.bk sg dl L H S (.refl L) rfl he hs h⟩
theorem ds_cont : DS X W (.Continue pos) tCont uCont := ⟨ps_continue, fun {sg dl L H S T D D'} he hs h hk => hk.ct sg dl L H S (.refl L) rfl he hs h⟩
theorem ds_expr (h : DE X W e te ue) (hs : swapsWith e none pos.line X.env = pure false := by rfl) : DS X W (.Expr e pos) (tDrop te) (uDrop ue) := ⟨ps_expr h.run hs, fun {sg dl L H S T D D'} he hs h' hk =>
  h.imp he hs h' (fun v d L1 H1 S1 l1 p1 s1 h1 => hk.nx sg dl L1 H1 S1 l1 rfl (he.le l1) s1 h1) (hk.ex.x rfl he)⟩
theorem ds_ret (h : DE X W e te ue) : DS X W (.Return (some e) pos) (tRet te) (uRet ue) := ⟨ps_ret h.run, fun {sg dl L H S T D D'} he hs h' hk => h.imp he hs h' hk.rt (hk.ex.x rfl he)⟩
theorem ds_retN : DS X W (.Return none pos) tRetN uRetN := ⟨ps_retN, fun {sg dl L H S T D D'} he hs h' hk => hk.rt .non .non (Ladd L .non .non) H S Ladd.le Ladd.here (hs.flat rfl) h'⟩
theorem ds_if {c : Expr} {a b : List Stmt} {tc : TT} {uc : UT} {ta tb : TS} {ua ub : US} (hc : DT X W c tc uc) (ha : DSs X W a ta ua) (hb : DSs X W b tb ub) : DS X W (.If c a b pos) (tIfS tc ta tb) (uIfS uc ua ub) := ⟨ps_if hc.run ha.run hb.run, fun {sg dl L H S T D D'} he hs h' hk =>
  hc.imp he hs h' (fun k L1 H1 S1 l1 s1 h1 => by
    cases k with
    | true => exact ha.imp (he.le l1) s1 h1 (hk.le l1)
    | false => exact hb.imp (he.le l1) s1 h1 (hk.le l1)) (hk.ex.x rfl he)⟩
theorem dg_name {i : Nat} {x : Str} (hN : X.N.Nodup) (hi : X.N[i]? = some x := by rfl) (hx : Loc X.env.scope x := by first | exact Or.inl rfl | exact Or.inr rfl) (hf : X.fn x = true ∨ X.env.scope.names.lookup x = some .local := by first | exact .inl rfl | exact .inr rfl | assumption) : DG X W (.Name x pos) (gName i) (uName i) [i] :=
  ⟨pg_name hN hi hx hf, fun {sg dl L H S T v d K X' Q} he hs hp h hk _ => hk (sg.set i (some v)) (dl.set i (some d)) L H S (.refl L) (List.length_set ..) (fun vs hv => wipe_set (hv i List.mem_cons_self)) (he.set h.1 hp) hs h.2⟩
theorem ds_asg {tg : Expr} {g : TG} {ug : UG} {ts : List Nat} (h : DE X W e te ue) (hg : DG X W tg g ug ts) (hs : swapsWithSole [tg] e pos.line X.env = pure false := by rfl) (hw : swappedStores [tg] e X.env = pure none := by rfl)
    (h1 : (assignEach [tg] X.env).map (·.2) = [assign tg X.env] := by rfl) : DS X W (.Assign [tg] e pos) (tAsg te g) (uAsg ue ug) := ⟨ps_asg h.run hg.run hs hw h1, fun {sg dl L H S T D D'} he hs h' hk =>
  h.imp he hs h' (fun v d L1 H1 S1 l1 p1 s1 h1 => hg.imp (he.le l1) s1 p1 h1 ((hk.nx.le l1).g rfl) ((hk.ex.x rfl he).le l1)) (hk.ex.x rfl he)⟩
theorem ds_set {i : Nat} {x : Str} {p : Pos} (hN : X.N.Nodup) (h : DE X W e te ue) (hi : X.N[i]? = some x := by rfl) (hx : Loc X.env.scope x := by first | exact Or.inl rfl | exact Or.inr rfl) (hf : X.fn x = true ∨ X.env.scope.names.lookup x = some .local := by first | exact .inl rfl | exact .inr rfl | assumption)
    (hs : swapsWithSole [.Name x p] e pos.line X.env = pure false := by rfl) (hw : swappedStores [.Name x p] e X.env = pure none := by rfl)
    (h1 : (assignEach [.Name x p] X.env).map (·.2) = [assign (.Name x p) X.env] := by rfl) : DS X W (.Assign [.Name x p] e pos) (tAsg te (gName i)) (uSet i ue) := ⟨ps_asg h.run (pg_name hN hi hx hf) hs hw h1, fun {sg dl L H S T D D'} he hs h' hk =>
  h.imp he hs h' (fun v d L1 H1 S1 l1 p1 s1 h1 => hk.nx (sg.set i (some v)) (dl.set i (some d)) L1 H1 S1 l1 (List.length_set ..) ((he.le l1).set h1.1 p1) s1 h1.2) (hk.ex.x rfl he)⟩
theorem ds_par {i j : Nat} {x y : Str} {a b : Expr} {ta : TA} {ua : UA} {px py pt : Pos} {kt k2 pt2} (hc : X.calm = true) (hN : X.N.Nodup) (ha : DA X W [a, b] ta ua) (hi : X.N[i]? = some x := by rfl) (hj : X.N[j]? = some y := by rfl) (hij : i ≠ j := by decide)
    (hx : X.env.scope.names.lookup x = some .local := by rfl) (hy : X.env.scope.names.lookup y = some .local := by rfl)
    (hw : swappedStores [.Tuple [.Name x px, .Name y py] kt pt] (.Tuple [a, b] k2 pt2) X.env = pure (some [x, y]) := by rfl)
    (hs : swapsWithSole [.Tuple [.Name x px, .Name y py] kt pt] (.Tuple [a, b] k2 pt2) pos.line X.env = pure false := by rfl) :
    DS X W (.Assign [.Tuple [.Name x px, .Name y py] kt pt] (.Tuple [a, b] k2 pt2) pos) (tPar i j ta) (uPar i j ua) := ⟨ps_par hc hN hi hj hij hx hy ha.run hw hs, fun {sg dl L H S T D D'} he hs h' hk =>
  ha.imp he hs h' (fun vs ds L1 H1 S1 l1 p1 s1 h1 => by
    match vs, ds, p1, h1 with
    | [v, w], [c, d], p1, h1 =>
      refine ⟨v, w, rfl, hk.nx _ _ L1 H1 S1 l1 (by rw [List.length_set, List.length_set]) (((he.le l1).set h1.1 p1.1).set (by rw [List.length_set]; exact h1.2.1) p1.2.1) s1 h1.2.2⟩
    | [], [], _, h1 => exact h1.elim
    | [_], [_], _, h1 => exact h1.elim
    | _ :: _ :: _ :: _, _ :: _ :: _ :: _, _, h1 => exact h1.elim
    | [], _ :: _, p1, _ => exact p1.elim
    | _ :: _, [], p1, _ => exact p1.elim
    | [_], _ :: _ :: _, p1, _ => exact p1.2.elim
    | _ :: _ :: _, [_], p1, _ => exact p1.2.elim
    | [_, _], _ :: _ :: _ :: _, p1, _ => exact p1.2.2.elim
    | _ :: _ :: _ :: _, [_, _], p1, _ => exact p1.2.2.elim) (hk.ex.x rfl he)⟩
/-! what is no longer wanted may be dropped -/
structure Gc (N : Nat) (dl : Env') (S : Store) (dl2 : Env') (S2 : Store) : Prop where
  pre : ∃ R, S = S2 ++ R
  enough : N ≤ S2.length
  bel : belows S2.length S2
  slots : dl2.length = dl.length ∧ ∀ (i : Nat) d, dl2[i]? = some (some d) → dl[i]? = some (some d) ∧ below S2.length d
def GcTo (N : Nat) (J : Env' → Store → Prop) : Env' → Store → Prop := fun dl S => J dl S ∨ ∃ dl2 S2, Gc N dl S dl2 S2 ∧ J dl2 S2
theorem belows_mem {n : Nat} : ∀ {ds : List Dat} {d : Dat}, belows n ds → d ∈ ds → below n d
  | c :: ds, d, h, m => by
    simp only [belows] at h
    rcases List.mem_cons.mp m with e | e
    · subst e; exact h.1
    · exact belows_mem h.2 e
theorem kids_below {n : Nat} {d : Dat} (h : below n d) : belows n (kids d) := by
  cases d with
  | lst xs => simp only [below] at h; exact h
  | tup xs => simp only [below] at h; exact h
  | dct ks xs => simp only [below] at h; exact h
  | dtt ks xs => simp only [below] at h; exact h
  | ins C ns xs => simp only [below] at h; exact h
  | xd ns xs => simp only [below] at h; exact h
  | _ => simp only [kids, belows]
theorem Node.trim {H : Hp} {R R' rho : List Addr} {n : Nat} {a : Addr} {d : Dat} (hR : ∀ a, a ∈ R' → a ∈ R) (h : Node H R rho a d) (b : below n d) : Node H R' (rho.take n) a d := by
  cases d with
  | lst xs => obtain ⟨vs, e, r⟩ := h; simp only [below] at b; exact ⟨vs, e, RDs.trim hR r b⟩
  | dct ks xs => obtain ⟨vs, e, l, r⟩ := h; simp only [below] at b; exact ⟨vs, e, l, RDs.trim hR r b⟩
  | dtt ks xs => obtain ⟨vs, e, l, r⟩ := h; simp only [below] at b; exact ⟨vs, e, l, RDs.trim hR r b⟩
  | ins C ns xs => obtain ⟨dx, vs, e, l, r⟩ := h; simp only [below] at b; exact ⟨dx, vs, e, l, RDs.trim hR r b⟩
  | _ => exact h.elim
/-- the cells from n on are dropped; pairs that lie below stay -/
theorem SRx.cutAt {H : Hp} {L L2 : LL} {S2 R : Store} {T : List (Addr × HO)} {rho : List Addr} (s : SRx H L (S2 ++ R) T rho) (hb : belows S2.length S2)
    (hL : ∀ v d, L2 v d → RD H (rho.take S2.length ++ T.map (·.1)) (rho.take S2.length) d v) : SRx H L2 S2 T (rho.take S2.length) := by
  have hle : S2.length ≤ rho.length := by rw [s.len, List.length_append]; omega
  have hsub : ∀ a, a ∈ rho.take S2.length ++ T.map (·.1) → a ∈ rho ++ T.map (·.1) := fun a h => by
    rcases List.mem_append.mp h with h | h
    · exact List.mem_append_left _ (List.mem_of_mem_take h)
    · exact List.mem_append_right _ h
  refine ⟨by rw [List.length_take]; omega, ?_, fun n a d h1 h2 => ?_, s.pin, hL⟩
  · refine List.Nodup.sublist (List.Sublist.append (List.take_sublist _ _) (List.Sublist.refl _)) s.nd
  · have hn : n < S2.length := (List.getElem?_eq_some_iff.mp h2).1
    rw [List.getElem?_take, if_pos hn] at h1
    have h3 : (S2 ++ R)[n]? = some d := by rw [List.getElem?_append_left hn]; exact h2
    exact (s.node n a d h1 h3).trim hsub (belows_mem hb (List.mem_of_getElem? h2))
theorem SR.below {H : Hp} {L : LL} {S : Store} {T : List (Addr × HO)} (s : SR H L S T) {v : V} {d : Dat} (h : L v d) : below S.length d := by
  obtain ⟨rho, x⟩ := s
  rw [← x.len]
  exact (x.rd v d h).below
mutual
theorem below.mono {n m : Nat} (h : n ≤ m) : ∀ {d : Dat}, below n d → below m d
  | .non, _ => by simp only [DL.below]
  | .bl _, _ => by simp only [DL.below]
  | .int _, _ => by simp only [DL.below]
  | .str _, _ => by simp only [DL.below]
  | .raw _, _ => by simp only [DL.below]
  | .lst xs, b => by simp only [DL.below] at b ⊢; exact belows.mono h b
  | .tup xs, b => by simp only [DL.below] at b ⊢; exact belows.mono h b
  | .dct ks xs, b => by simp only [DL.below] at b ⊢; exact belows.mono h b
  | .dtt ks xs, b => by simp only [DL.below] at b ⊢; exact belows.mono h b
  | .sq _ _, _ => by simp only [DL.below]
  | .ins C ns xs, b => by simp only [DL.below] at b ⊢; exact belows.mono h b
  | .xd ns xs, b => by simp only [DL.below] at b ⊢; exact belows.mono h b
  | .cell k, b => by simp only [DL.below] at b ⊢; omega
theorem belows.mono {n m : Nat} (h : n ≤ m) : ∀ {ds : List Dat}, belows n ds → belows m ds
  | [], _ => by simp only [DL.belows]
  | d :: ds, b => by simp only [DL.belows] at b ⊢; exact ⟨below.mono h b.1, belows.mono h b.2⟩
end
theorem Gc.go {N : Nat} {sg : St} {dl dl2 : Env'} {S S2 : Store} {H : Hp} {L L' : LL} {T : List (Addr × HO)} (g : Gc N dl S dl2 S2) (hN : ∀ v d, L v d → DL.below N d) (l : Lle L L') (he : EnvIn sg dl L') (hs : SR H L' S T) :
    ∃ L2, Lle L L2 ∧ EnvIn sg dl2 L2 ∧ SR H L2 S2 T := by
  obtain ⟨⟨R, rfl⟩, hn, hb, hsl⟩ := g
  obtain ⟨rho, x⟩ := hs
  have hsub : ∀ a, a ∈ rho.take S2.length ++ T.map (·.1) → a ∈ rho ++ T.map (·.1) := fun a h => by
    rcases List.mem_append.mp h with h | h
    · exact List.mem_append_left _ (List.mem_of_mem_take h)
    · exact List.mem_append_right _ h
  refine ⟨fun v d => L v d ∨ (L' v d ∧ ∃ i : Nat, sg[i]? = some (some v) ∧ dl2[i]? = some (some d)), fun v d h => .inl h, ⟨by rw [he.1, hsl.1], fun i d h => ?_⟩, _, x.cutAt hb fun v d h => ?_⟩
  · obtain ⟨h1, h2⟩ := hsl.2 i d h
    obtain ⟨v, h3, h4⟩ := he.2 i d h1
    exact ⟨v, h3, .inr ⟨h4, i, h3, h⟩⟩
  · rcases h with h | ⟨h, i, h1, h2⟩
    · exact RD.trim hsub (x.rd v d (l v d h)) ((hN v d h).mono hn)
    · exact RD.trim hsub (x.rd v d h) (hsl.2 i d h2).2
theorem NOk.gc {n N : Nat} {L : LL} {T : List (Addr × HO)} {J : Env' → Store → Prop} {Q : St → Hp → Prop} (hN : ∀ v d, L v d → DL.below N d) (x : NOk n L T J Q) : NOk n L T (GcTo N J) Q := fun sg dl L' H' S' l hl he hs h => by
  rcases h with h | ⟨dl2, S2, g, h⟩
  · exact x sg dl L' H' S' l hl he hs h
  · obtain ⟨L2, l2, he2, hs2⟩ := g.go hN l he hs
    exact x sg dl2 L2 H' S2 l2 hl he2 hs2 h
/-- a word between, with what is no longer wanted dropped -/
def uCutG (a b : US) : US := fun D dl S => ∃ M : Env' → Store → Prop, a { D with nx := GcTo S.length M } dl S ∧ ∀ dl' S', M dl' S' → b D dl' S'
theorem dss_cutG (h1 : DS X W s t u) (h2 : DSs X W ss t' u') : DSs X W (s :: ss) (tSeq t t') (uCutG u u') := ⟨pss_cons h1.run h2.run, fun {sg dl L H S T D D'} he hs h hk => by
  obtain ⟨M, hm, hu⟩ := h
  exact h1.imp (D := { D with nx := GcTo S.length M }) (D' := { D' with nx := t' D' }) he hs hm ⟨NOk.gc (fun v d h => hs.below h) fun sg' dl' L' H' S' l hl he' hs' h' => h2.imp he' hs' (hu dl' S' h') (by rw [hl]; exact hk.le l), hk.rt, hk.bk, hk.ct, hk.ex⟩⟩
/-! while -/
def uWhile (c : UT) (b : US) : US := fun D dl S => ∃ I : Nat → Env' → Store → Prop, (∃ m, I m dl S) ∧ ∀ m dl1 S1, I m dl1 S1 →
  c dl1 S1 (fun k S2 => if k = true then b { D with nx := GcTo S.length fun dl' S' => ∃ m', m' < m ∧ I m' dl' S', ct := GcTo S.length fun dl' S' => ∃ m', m' < m ∧ I m' dl' S', bk := D.nx } dl1 S2 else D.nx dl1 S2) (fun e S2 => D.ex e dl1 S2)
theorem ds_while {c : Expr} {body : List Stmt} {tc : TT} {uc : UT} {tb : TS} {ub : US} (hp : PassesOwn (model X.prog X.w) X.A X.env X.xe) (hc : DT X W c tc uc) (hb : DSs X W body tb ub) : DS X W (.While c body [] pos) (tWhile tc tb) (uWhile uc ub) :=
  ⟨ps_while hp hc.run hb.run, fun {sg dl L H S T D D'} he hs h hk => by
    obtain ⟨I, ⟨m0, h0⟩, hI⟩ := h
    refine ⟨fun m sg1 H1 => ∃ dl1 L1 S1, Lle L L1 ∧ sg1.length = sg.length ∧ EnvIn sg1 dl1 L1 ∧ SR H1 L1 S1 T ∧ I m dl1 S1, ⟨m0, dl, L, S, .refl L, rfl, he, hs, h0⟩, ?_⟩
    rintro m sg1 H1 ⟨dl1, L1, S1, l1, hl1, he1, hs1, hi⟩
    have hk1 := hk.le l1
    rw [← hl1] at hk1
    refine hc.imp he1 hs1 (hI m dl1 S1 hi) (fun k L2 H2 S2 l2 s2 h2 => ?_) (hk1.ex.x rfl he1)
    cases k with
    | true =>
      refine ⟨fun sg2 H2 => ∃ m', m' < m ∧ ∃ dl1 L1 S1, Lle L L1 ∧ sg2.length = sg.length ∧ EnvIn sg2 dl1 L1 ∧ SR H2 L1 S1 T ∧ I m' dl1 S1, fun sg2 H2 h => h, ?_⟩
      have hn : NOk sg1.length L T (GcTo S.length fun dl' S' => ∃ m', m' < m ∧ I m' dl' S') (fun sg2 H2 => ∃ m', m' < m ∧ ∃ dl1 L1 S1, Lle L L1 ∧ sg2.length = sg.length ∧ EnvIn sg2 dl1 L1 ∧ SR H2 L1 S1 T ∧ I m' dl1 S1) :=
        NOk.gc (fun v d h => hs.below h) fun sg' dl' L' H' S' l hl he' hs' ⟨m', hm, h'⟩ => ⟨m', hm, dl', L', S', l, hl.trans hl1, he', hs', h'⟩
      exact hb.imp (D := { D with nx := _, ct := _, bk := D.nx }) (he1.le l2) s2 h2 ⟨hn.le (l1.trans l2), hk1.rt.le l2, hk1.nx.le l2, hn.le (l1.trans l2), hk1.ex.le l2⟩
    | false => exact hk1.nx sg1 dl1 L2 H2 S2 l2 rfl (he1.le l2) s2 h2⟩
/-! for: what is walked is known ahead -/
structure ItI (J : It) (ds : List Dat) (L0 : LL) (P : Store → Prop) : Prop where
  go : ∀ (i : Nat) H L S T, Lle L0 L → SR H L S T → P S → i < ds.length → J.go i H
  yld : ∀ (i : Nat) H L S T x H' d, Lle L0 L → SR H L S T → P S → ds[i]? = some d → J.yld i H x H' → ∃ L', Lle L L' ∧ L' x d ∧ SR H' L' S T
  stop : ∀ (i : Nat) H L S T, Lle L0 L → SR H L S T → P S → i = ds.length → J.stop i H
abbrev UI := Env' → Store → (List Dat → (Store → Prop) → Store → Prop) → KX → Prop
def ImpI (W : WX) (t : TI) (u : UI) : Prop := ∀ {sg dl L H S T R X Q}, EnvIn sg dl L → SR H L S T → u dl S R X → (∀ J ds P L1 H1 S1, Lle L L1 → SR H1 L1 S1 T → ItI J ds L1 P → R ds P S1 → Q J H1) → XOk W sg L T X → t sg H Q
structure DI (X : Cx) (W : WX) (tg e : Expr) (t : TI) (u : UI) : Prop where
  run : PI X tg e t
  imp : ImpI W t u
def uFor (i : UI) (g : UG) (b : US) : US := fun D dl S => i dl S (fun ds P S1 => ∃ I : Nat → Env' → Store → Prop, I 0 dl S1 ∧
  (∀ (i : Nat) d dl1 S2, ds[i]? = some d → I i dl1 S2 → P S2 ∧ g d dl1 S2 (fun dl2 S3 => b { D with nx := GcTo S1.length (I (i + 1)), ct := GcTo S1.length (I (i + 1)), bk := D.nx } dl2 S3) (fun e S3 => D.ex e dl1 S3)) ∧
  ∀ dl1 S2, I ds.length dl1 S2 → P S2 ∧ D.nx dl1 S2) (fun e S1 => D.ex e dl S1)
theorem ds_for {tg iter : Expr} {body : List Stmt} {wi : TI} {ui : UI} {g : TG} {ug : UG} {ts : List Nat} {tb : TS} {ub : US} (hp : PassesOwn (model X.prog X.w) X.A X.env X.xe) (hc : X.calm = true) (hi : DI X W tg iter wi ui) (hg : DG X W tg g ug ts) (hb : DSs X W body tb ub)
    (hq : ∀ x, foldedSetIterable iter X.env x = pure x := by intro _; rfl) : DS X W (.For tg iter body [] pos) (tFor wi g tb) (uFor ui ug ub) :=
  ⟨ps_for hp hc hi.run hg.run hb.run hq, fun {sg dl L H S T D D'} he hs h hk => by
    refine hi.imp he hs h (fun J ds P L1 H1 S1 l1 s1 hJ h1 => ?_) (hk.ex.x rfl he)
    obtain ⟨I, h0, hI, hd⟩ := h1
    refine ⟨fun i m sg2 H2 => m = ds.length - i ∧ i ≤ ds.length ∧ ∃ dl2 L2 S2, Lle L1 L2 ∧ sg2.length = sg.length ∧ EnvIn sg2 dl2 L2 ∧ SR H2 L2 S2 T ∧ I i dl2 S2, ⟨_, rfl, Nat.zero_le _, dl, L1, S1, .refl _, rfl, he.le l1, s1, h0⟩, ?_⟩
    rintro i m sg2 H2 ⟨rfl, hi2, dl2, L2, S2, l2, hl2, he2, s2, h2⟩
    have hk2 := hk.le (l1.trans l2)
    rw [← hl2] at hk2
    by_cases hlt : i < ds.length
    · obtain ⟨hP, hb2⟩ := hI i ds[i] dl2 S2 (List.getElem?_eq_getElem hlt) h2
      refine .inr ⟨hJ.go i H2 L2 S2 T l2 s2 hP hlt, fun sg' H' => ∃ m', m' < ds.length - i ∧ m' = ds.length - (i + 1) ∧ i + 1 ≤ ds.length ∧ ∃ dl2 L2 S2, Lle L1 L2 ∧ sg'.length = sg.length ∧ EnvIn sg' dl2 L2 ∧ SR H' L2 S2 T ∧ I (i + 1) dl2 S2, fun sg' H' h => h, fun x H' hy => ?_⟩
      obtain ⟨L3, l3, p3, s3⟩ := hJ.yld i H2 L2 S2 T x H' ds[i] l2 s2 hP (List.getElem?_eq_getElem hlt) hy
      refine hg.imp (he2.le l3) s3 p3 hb2 (fun sg4 dl4 L4 H4 S4 l4 hl4 _ he4 s4 h4 => ?_) ((hk2.ex.x rfl he2).le l3)
      have hn : NOk sg2.length L1 T (GcTo S1.length (I (i + 1))) (fun sg' H' => ∃ m', m' < ds.length - i ∧ m' = ds.length - (i + 1) ∧ i + 1 ≤ ds.length ∧ ∃ dl2 L2 S2, Lle L1 L2 ∧ sg'.length = sg.length ∧ EnvIn sg' dl2 L2 ∧ SR H' L2 S2 T ∧ I (i + 1) dl2 S2) :=
        NOk.gc (fun v d h => s1.below h) fun sg' dl' L' H' S' l hl he' hs' h' => ⟨_, by omega, rfl, hlt, dl', L', S', l, hl.trans hl2, he', hs', h'⟩
      have hk4 := hk2.le (l3.trans l4)
      rw [← hl4] at hk4 hn
      exact hb.imp (D := { D with nx := _, ct := _, bk := D.nx }) he4 s4 h4 ⟨hn.le ((l2.trans l3).trans l4), hk4.rt, hk4.nx, hn.le ((l2.trans l3).trans l4), hk4.ex⟩
    · have e : i = ds.length := by omega
      subst e
      obtain ⟨hP, hn⟩ := hd dl2 S2 h2
      exact .inl ⟨hJ.stop ds.length H2 L2 S2 T l2 s2 hP rfl, hk2.nx sg2 dl2 L2 H2 S2 (.refl _) rfl he2 s2 hn⟩⟩
end
end DL
/-! DL4: defs, their calls; comprehensions; targets of several. -/
namespace DL
open PySem L2 PyProof.Rows
/-- what a def promises, over data -/
abbrev Spec := List Dat → Store → KE → KX → Prop
def spOf (F : Spec) : Sp := fun vs H Q E => ∃ ds L S T K X, Ls L vs ds ∧ SR H L S T ∧ F ds S K X ∧ EOk L T K Q ∧
  ∀ e dd L' H' S', Lle L L' → L' (.ref dd) (.xd e.ns e.xs) → SR H' L' S' T → X e S' → E (.ref e.C) (some dd) H'
def uCall (F : Spec) (dd : List Dat) (ua : UA) : UE := fun dl S K X => ua dl S (fun ds S1 => F (ds ++ dd) S1 K X) X
def Flats : List Dat → List V → Prop
  | [], [] => True
  | d :: ds, v :: vs => Flat d v ∧ Flats ds vs
  | _, _ => False
section
variable {H : Hp} {L : LL} {S : Store} {T : List (Addr × HO)}
theorem SR.flats (s : SR H L S T) : ∀ {ds : List Dat} {vs : List V}, Flats ds vs → ∃ L', Lle L L' ∧ Ls L' vs ds ∧ SR H L' S T
  | [], [], _ => ⟨L, .refl L, True.intro, s⟩
  | d :: ds, v :: vs, h => by
    obtain ⟨L1, l1, p1, s1⟩ := SR.flats s (ds := ds) (vs := vs) h.2
    exact ⟨Ladd L1 v d, l1.trans Ladd.le, ⟨Ladd.here, p1.le Ladd.le⟩, s1.flat h.1⟩
  | [], _ :: _, h => h.elim
  | _ :: _, [], h => h.elim
end
section
variable {X : Cx} {W : WX} {k : Nat} {f : Addr} {fd : FuncData} {ps : List Str} {F : Spec} {x : Str} {p pos : Pos} {e : Expr} {es : List Expr} {t : TA} {u : UA} {dvs : List V} {dd : List Dat} {dl' : List Value}
theorem de_call (F' : FnOk X.prog X.w X.K X.mg X.base (L2.CX X.prog X.w) k f fd ps (spOf F)) (hr : Room k X.A) (hm : X.mg x = some (.ref f)) (hk : PySem.W.keepIn X.K (.ref f) = true) (hb : Binds X.K fd ps dl') (hd : Vals dvs dl') (hf : Flats dd dvs) (tk : Takes X W)
    (ha : DA X W (e :: es) t u) (hg : Gl X x := by rfl) (hdb : (x == ("__debug__" : Str)) = false := by decide) (he : starEach (e :: es) X.env = (false, eval e X.env) :: starEach es X.env := by rfl) (hpl : (backTo pos (starEach es X.env)).any (·.1) = false := by rfl) :
    DE X W (.Call (.Name x p) (e :: es) [] pos) (tCallSD (spOf F) dvs (WE W) t) (uCall F dd u) :=
  ⟨pe_callSD F' hr hg hm hk hb hd (fun sg => passAt tk sg) ha.run hdb he hpl, fun {sg dl L H S T K X' Q} he hs h hq hx =>
    ha.imp he hs h (fun vs ds L1 H1 S1 l1 p1 s1 h1 => by
      obtain ⟨L2, l2, p2, s2⟩ := s1.flats hf
      exact ⟨ds ++ dd, L2, S1, T, K, X', (p1.le l2).append p2, s2, h1, hq.le (l1.trans l2), fun e dd L' H' S' l => hx e dd L' H' S' ((l1.trans l2).trans l)⟩) hx⟩
theorem de_call0 (F' : FnOk X.prog X.w X.K X.mg X.base (L2.CX X.prog X.w) k f fd ps (spOf F)) (hr : Room k X.A) (hm : X.mg x = some (.ref f)) (hk : PySem.W.keepIn X.K (.ref f) = true) (hb : Binds X.K fd ps dl') (hd : Vals dvs dl') (hf : Flats dd dvs) (hx : Passes (L2.CX X.prog X.w) X E0)
    (hg : Gl X x := by rfl) (hdb : (x == ("__debug__" : Str)) = false := by decide) :
    DE X W (.Call (.Name x p) [] [] pos) (tCall (spOf F) dvs E0 tNil) (fun _ S K _ => F dd S K fun _ _ => False) :=
  ⟨pe_call0 F' hr hg hm hk hb hd hx hdb, fun {sg dl L H S T K X' Q} he hs h hq hx => by
      obtain ⟨L2, l2, p2, s2⟩ := hs.flats hf
      exact ⟨dd, L2, S, T, K, _, p2, s2, h, hq.le l2, fun e dd L' H' S' l _ _ h => h.elim⟩⟩
end
/-! ### the way out of a def -/
/-- d with the places from n on read off -/
inductive Res (n : Nat) (S : Store) : Dat → Dat → Prop where
  | same {d : Dat} : below n d → Res n S d d
  | cell {m : Nat} {d d' : Dat} : n ≤ m → S[m]? = some d → Res n S d d' → Res n S (.cell m) d'
  | lst {xs ys : List Dat} : xs.length = ys.length → (∀ (i : Nat) x y, xs[i]? = some x → ys[i]? = some y → Res n S x y) → Res n S (.lst xs) (.lst ys)
  | tup {xs ys : List Dat} : xs.length = ys.length → (∀ (i : Nat) x y, xs[i]? = some x → ys[i]? = some y → Res n S x y) → Res n S (.tup xs) (.tup ys)
  | dct {ks : List Key} {xs ys : List Dat} : xs.length = ys.length → (∀ (i : Nat) x y, xs[i]? = some x → ys[i]? = some y → Res n S x y) → Res n S (.dct ks xs) (.dct ks ys)
  | dtt {ks : List (List Key)} {xs ys : List Dat} : xs.length = ys.length → (∀ (i : Nat) x y, xs[i]? = some x → ys[i]? = some y → Res n S x y) → Res n S (.dtt ks xs) (.dtt ks ys)
  | ins {C : Addr} {ns : List Str} {xs ys : List Dat} : xs.length = ys.length → (∀ (i : Nat) x y, xs[i]? = some x → ys[i]? = some y → Res n S x y) → Res n S (.ins C ns xs) (.ins C ns ys)
  | xd {ns : List Str} {xs ys : List Dat} : xs.length = ys.length → (∀ (i : Nat) x y, xs[i]? = some x → ys[i]? = some y → Res n S x y) → Res n S (.xd ns xs) (.xd ns ys)
section
variable {H : Hp} {R R' rho rho' : List Addr}
theorem rds_res {xs ys : List Dat} (hl : xs.length = ys.length) (h : ∀ (i : Nat) x y, xs[i]? = some x → ys[i]? = some y → ∀ v, RD H R rho x v → RD H R' rho' y v) : ∀ {vs : List V}, RDs H R rho xs vs → RDs H R' rho' ys vs := fun {vs} r => by
  have q := RDs.ls (LR := fun v d => RD H R rho d v) (fun _ _ h => h) r
  refine Ls.rds (L := fun v d => RD H R' rho' d v) (fun _ _ h => h) (Ls.of (by rw [q.length, hl]) fun i v d e1 e2 => ?_)
  obtain ⟨c, e3, r⟩ := q.getV e1
  exact h i c d e3 e2 v r
/-- what Res says of the bearing -/
theorem Res.rd {n : Nat} {S : Store} {T : List (Addr × HO)} (hn : ∀ (m : Nat) a d, rho[m]? = some a → S[m]? = some d → Node H R rho a d) (hR : ∀ a, a ∈ R' → a ∈ R) (hout : ∀ (m : Nat) a, n ≤ m → rho[m]? = some a → a ∉ R') (hlen : rho.length = S.length) {d d' : Dat} (r : Res n S d d') :
    (∀ v, RD H R rho d v → RD H R' (rho.take n) d' v) ∧ ∀ a, Node H R rho a d → a ∉ R' → RD H R' (rho.take n) d' (.ref a) := by
  induction r with
  | same b =>
    rename_i d
    refine ⟨fun v h => RD.trim hR h b, fun a h na => ?_⟩
    cases d with
    | lst xs => obtain ⟨vs, e, q⟩ := h; simp only [DL.below] at b; simp only [RD]; exact ⟨a, vs, rfl, na, e, RDs.trim hR q b⟩
    | dct ks xs => obtain ⟨vs, e, l, q⟩ := h; simp only [DL.below] at b; simp only [RD]; exact ⟨a, vs, rfl, na, .inl e, l, RDs.trim hR q b⟩
    | dtt ks xs => obtain ⟨vs, e, l, q⟩ := h; simp only [DL.below] at b; simp only [RD]; exact ⟨a, vs, rfl, na, .inl e, l, RDs.trim hR q b⟩
    | ins C ns xs => obtain ⟨dx, vs, e, l, q⟩ := h; simp only [DL.below] at b; simp only [RD]; exact ⟨a, dx, vs, rfl, na, e, l, RDs.trim hR q b⟩
    | _ => exact h.elim
  | cell hm he _ ih =>
    refine ⟨fun v h => ?_, fun a h => h.elim⟩
    simp only [RD] at h
    obtain ⟨a, ha, e⟩ := h
    subst e
    exact ih.2 a (hn _ a _ ha he) (hout _ a hm ha)
  | lst hl _ ih =>
    have key : ∀ {vs : List V}, RDs H R rho _ vs → RDs H R' (rho.take n) _ vs := fun {vs} q => rds_res hl (fun i x y e1 e2 => (ih i x y e1 e2).1) q
    refine ⟨fun v h => ?_, fun a h na => ?_⟩
    · simp only [RD] at h ⊢
      obtain ⟨a, vs, e, ha, q1, q2⟩ := h
      exact ⟨a, vs, e, fun z => ha (hR a z), q1, key q2⟩
    · obtain ⟨vs, e, q⟩ := h
      simp only [RD]
      exact ⟨a, vs, rfl, na, e, key q⟩
  | tup hl _ ih =>
    have key : ∀ {vs : List V}, RDs H R rho _ vs → RDs H R' (rho.take n) _ vs := fun {vs} q => rds_res hl (fun i x y e1 e2 => (ih i x y e1 e2).1) q
    refine ⟨fun v h => ?_, fun a h na => h.elim⟩
    simp only [RD] at h ⊢
    obtain ⟨a, vs, e, ha, q1, q2⟩ := h
    exact ⟨a, vs, e, fun z => ha (hR a z), q1, key q2⟩
  | dct hl _ ih =>
    have key : ∀ {vs : List V}, RDs H R rho _ vs → RDs H R' (rho.take n) _ vs := fun {vs} q => rds_res hl (fun i x y e1 e2 => (ih i x y e1 e2).1) q
    refine ⟨fun v h => ?_, fun a h na => ?_⟩
    · simp only [RD] at h ⊢
      obtain ⟨a, vs, e, ha, q1, l, q2⟩ := h
      exact ⟨a, vs, e, fun z => ha (hR a z), q1, l, key q2⟩
    · obtain ⟨vs, e, l, q⟩ := h
      simp only [RD]
      exact ⟨a, vs, rfl, na, .inl e, l, key q⟩
  | dtt hl _ ih =>
    have key : ∀ {vs : List V}, RDs H R rho _ vs → RDs H R' (rho.take n) _ vs := fun {vs} q => rds_res hl (fun i x y e1 e2 => (ih i x y e1 e2).1) q
    refine ⟨fun v h => ?_, fun a h na => ?_⟩
    · simp only [RD] at h ⊢
      obtain ⟨a, vs, e, ha, q1, l, q2⟩ := h
      exact ⟨a, vs, e, fun z => ha (hR a z), q1, l, key q2⟩
    · obtain ⟨vs, e, l, q⟩ := h
      simp only [RD]
      exact ⟨a, vs, rfl, na, .inl e, l, key q⟩
  | ins hl _ ih =>
    have key : ∀ {vs : List V}, RDs H R rho _ vs → RDs H R' (rho.take n) _ vs := fun {vs} q => rds_res hl (fun i x y e1 e2 => (ih i x y e1 e2).1) q
    refine ⟨fun v h => ?_, fun a h na => ?_⟩
    · simp only [RD] at h ⊢
      obtain ⟨a, dx, vs, e, ha, q1, l, q2⟩ := h
      exact ⟨a, dx, vs, e, fun z => ha (hR a z), q1, l, key q2⟩
    · obtain ⟨dx, vs, e, l, q⟩ := h
      simp only [RD]
      exact ⟨a, dx, vs, rfl, na, e, l, key q⟩
  | xd hl _ ih =>
    have key : ∀ {vs : List V}, RDs H R rho _ vs → RDs H R' (rho.take n) _ vs := fun {vs} q => rds_res hl (fun i x y e1 e2 => (ih i x y e1 e2).1) q
    refine ⟨fun v h => ?_, fun a h na => h.elim⟩
    simp only [RD] at h ⊢
    obtain ⟨a, vs, e, ha, q1, l, q2⟩ := h
    exact ⟨a, vs, e, fun z => ha (hR a z), q1, l, key q2⟩
end
/-- out of a def whose caller's store was S0: S' is what stands at the end, S1 what the caller sees of it -/
structure Out (S0 S' S1 : Store) : Prop where
  pre : ∃ R, S' = S1 ++ R
  len : S0.length ≤ S1.length
  bel : S1 = S0 ∨ belows S1.length S1
def ExitTo (S0 : Store) (K : KE) : KE := fun d S' => ∃ S1 d', Out S0 S' S1 ∧ Res S1.length S' d d' ∧ K d' S1
def ExitX (S0 : Store) (X : KX) : Exc → Env' → Store → Prop := fun e _ S' => ∃ S1 ys, Out S0 S' S1 ∧ Res S1.length S' (.xd e.ns e.xs) (.xd e.ns ys) ∧ X ⟨e.C, e.ns, ys⟩ S1
def endsOf (S0 : Store) (K : KE) (X : KX) : DEnds := { nx := fun _ S' => ExitTo S0 K .non S', rt := ExitTo S0 K, ex := ExitX S0 X }
theorem SR.belows {H : Hp} {L : LL} {S : Store} {T : List (Addr × HO)} (s : SR H L S T) : DL.belows S.length S := by
  obtain ⟨rho, x⟩ := s
  have key : ∀ ds : List Dat, (∀ d ∈ ds, DL.below S.length d) → DL.belows S.length ds := fun ds => by
    induction ds with
    | nil => intro _; simp only [DL.belows]
    | cons d ds ih =>
      intro h
      simp only [DL.belows]
      exact ⟨h d List.mem_cons_self, ih fun c hc => h c (List.mem_cons_of_mem _ hc)⟩
  refine key S fun d hd => ?_
  obtain ⟨n, hn, e⟩ := List.mem_iff_getElem.mp hd
  have hr : n < rho.length := by rw [x.len]; exact hn
  have hx := x.node n rho[n] d (List.getElem?_eq_getElem hr) (by rw [List.getElem?_eq_getElem hn, e])
  rw [← x.len]
  cases d with
  | lst xs => obtain ⟨vs, _, q⟩ := hx; simp only [DL.below]; exact q.belows
  | dct ks xs => obtain ⟨vs, _, _, q⟩ := hx; simp only [DL.below]; exact q.belows
  | dtt ks xs => obtain ⟨vs, _, _, q⟩ := hx; simp only [DL.below]; exact q.belows
  | ins C ns xs => obtain ⟨dx, vs, _, _, q⟩ := hx; simp only [DL.below]; exact q.belows
  | _ => exact hx.elim
theorem Out.go {S0 S' S1 : Store} {H H' : Hp} {L L' : LL} {T : List (Addr × HO)} {d d' : Dat} {v : V} (o : Out S0 S' S1) (r : Res S1.length S' d d') (s0 : SR H L S0 T) (l : Lle L L') (s : SR H' L' S' T) (p : L' v d) :
    ∃ L2, Lle L L2 ∧ L2 v d' ∧ SR H' L2 S1 T := by
  obtain ⟨⟨R, rfl⟩, hl, hb⟩ := o
  have hbel : DL.belows S1.length S1 := by
    rcases hb with h | h
    · rw [h]; exact s0.belows
    · exact h
  obtain ⟨rho, x⟩ := s
  have hsub : ∀ a, a ∈ rho.take S1.length ++ T.map (·.1) → a ∈ rho ++ T.map (·.1) := fun a h => by
    rcases List.mem_append.mp h with h | h
    · exact List.mem_append_left _ (List.mem_of_mem_take h)
    · exact List.mem_append_right _ h
  have hout : ∀ (m : Nat) a, S1.length ≤ m → rho[m]? = some a → a ∉ rho.take S1.length ++ T.map (·.1) := fun m a hm ha z => by
    have nd := List.nodup_append.mp x.nd
    rcases List.mem_append.mp z with h | h
    · obtain ⟨i, hi, e⟩ := List.mem_iff_getElem.mp h
      have hi2 : i < S1.length := by have := hi; rw [List.length_take] at this; omega
      have e2 : rho[i]? = some a := by
        have : (rho.take S1.length)[i]? = some a := by rw [List.getElem?_eq_getElem hi, e]
        rw [List.getElem?_take, if_pos hi2] at this
        exact this
      have := (List.getElem?_inj (List.getElem?_eq_some_iff.mp ha).1 nd.1).mp (ha.trans e2.symm)
      omega
    · exact nd.2.2 a (List.mem_of_getElem? ha) a h rfl
  have key := Res.rd (R' := rho.take S1.length ++ T.map (·.1)) (T := T) x.node hsub hout x.len r
  exact ⟨Ladd L v d', Ladd.le, Ladd.here, _, x.cutAt hbel fun w c h => by
    rcases h with h | ⟨rfl, rfl⟩
    · exact RD.trim hsub (x.rd w c (l w c h)) ((s0.below h).mono hl)
    · exact key.1 _ (x.rd _ _ p)⟩
/-- the slots at a def's entry -/
def startD (N : List Str) (ds : List Dat) : Env' := ds.map some ++ List.replicate (N.length - ds.length) none
theorem envIn_start {N : List Str} {vs : List V} {ds : List Dat} {L : LL} (h : Ls L vs ds) : EnvIn (L2.start N vs) (startD N ds) L := by
  refine ⟨by simp [L2.start, startD, h.length], fun i d e => ?_⟩
  unfold startD at e
  by_cases hi : i < ds.length
  · rw [List.getElem?_append_left (by simpa using hi), List.getElem?_map] at e
    cases q : ds[i]? with
    | none => rw [q] at e; cases e
    | some c =>
      rw [q] at e
      injection e with e
      injection e with e
      subst e
      obtain ⟨v, h1, h2⟩ := h.get q
      refine ⟨v, ?_, h2⟩
      unfold L2.start
      rw [List.getElem?_append_left (by simpa [h.length] using hi), List.getElem?_map, h1]
      rfl
  · rw [List.getElem?_append_right (by simpa using Nat.le_of_not_lt hi)] at e
    rw [List.getElem?_replicate] at e
    split at e <;> cases e
section
variable {P : Program} {w : World} {K : PySem.W.Frag} {mg : Str → Option Value} {base : Heap} {x qual : Str} {params : Arguments} {body : List Stmt} {scope : Scope} {dvs : List V} {kws : List (Str × V)} {f : Addr} {fd : FuncData} {N ps : List Str} {k : Nat}
abbrev WE0 (E : XK) : WX := fun cls d _ H => E cls d H
/-- A DEF KEEPS ITS PROMISE: its body's reading u, from the promise G -/
theorem fnD {G : Spec} {u : US} (F : FunD K x qual params body scope dvs kws f fd) (Sc : FnScope N ps scope) (len : ∀ ds S K X, G ds S K X → ds.length = ps.length)
    (hb : ∀ (cdv : Value) (A : Around) (outer : List Env) (s : Shared) (H : Hp) (E : XK), Room k (A.deeper (envOfC qual scope s.heap.objs.size f cdv)) →
      Takes (cxOf (L2.CX P w) P w K mg base N qual scope f cdv A outer s H E) (WE0 E) → ∃ t, DSs (cxOf (L2.CX P w) P w K mg base N qual scope f cdv A outer s H E) (WE0 E) body t u)
    (hu : ∀ ds S K X, G ds S K X → belows S.length ds → belows S.length S → u (endsOf S K X) (startD N ds) S) : FnOk P w K mg base (L2.CX P w) (k + 1) f fd ps (spOf G) := by
  refine F.ok Sc (fun vs H Q E h => ?_) (fun cdv A outer s H vs Q E hr h => ?_)
  · obtain ⟨ds, L, S, T, K', X, p, _, g, _⟩ := h
    rw [p.length]
    exact len ds S K' X g
  · have tk : Takes (cxOf (L2.CX P w) P w K mg base N qual scope f cdv A outer s H E) (WE0 E) := takes_of rfl rfl rfl rfl
    obtain ⟨t, ht⟩ := hb cdv A outer s H E hr tk
    refine ⟨t, ht.run, ?_⟩
    obtain ⟨ds, L, S, T, K', X, p, hs, g, hq, hx⟩ := h
    have hbd : belows S.length ds := by
      have : ∀ {vs : List V} {ds : List Dat}, Ls L vs ds → belows S.length ds := fun {vs ds} q => by
        induction ds generalizing vs with
        | nil => simp only [belows]
        | cons d ds ih =>
          match vs, q with
          | v :: vs, q => simp only [belows]; exact ⟨hs.below q.1, ih q.2⟩
          | [], q => exact q.elim
      exact this p
    refine ht.imp (envIn_start p) hs (hu ds S K' X g hbd hs.belows) ⟨fun sg dl L' H' S' l hl he hs' hk => ?_, fun v d L' H' S' l hp hs' hk => ?_, fun sg dl L' H' S' l hl he hs' hk => hk.elim, fun sg dl L' H' S' l hl he hs' hk => hk.elim, fun e dd sg dl L' H' S' l hl he hp hs' hk => ?_⟩
    · obtain ⟨S1, d', o, r, hk⟩ := hk
      obtain ⟨L2, l2, p2, s2⟩ := o.go r hs (l.trans Ladd.le) (hs'.flat (d := .non) (v := .non) rfl) Ladd.here
      exact hq .non d' L2 H' S1 l2 p2 s2 hk
    · obtain ⟨S1, d', o, r, hk⟩ := hk
      obtain ⟨L2, l2, p2, s2⟩ := o.go r hs l hs' hp
      exact hq v d' L2 H' S1 l2 p2 s2 hk
    · obtain ⟨S1, ys, o, r, hk⟩ := hk
      obtain ⟨L2, l2, p2, s2⟩ := o.go r hs l hs' hp
      exact hx ⟨e.C, e.ns, ys⟩ dd L2 H' S1 l2 p2 s2 hk
end
/-! ### several targets -/
abbrev UGs := List Dat → Env' → Store → (Env' → Store → Prop) → KX → Prop
def ImpGs (W : WX) (t : TGs) (u : UGs) (ts : List Nat) : Prop := ∀ {sg dl L H S T vs ds K X Q}, EnvIn sg dl L → SR H L S T → Ls L vs ds → u ds dl S K X → GOk sg ts L T K Q → (∀ sg', sg'.length = sg.length → XOk W sg' L T X) → t vs sg H Q
structure DGs (X : Cx) (W : WX) (es : List Expr) (t : TGs) (u : UGs) (ts : List Nat) : Prop where
  run : PGs X es t
  imp : ImpGs W t u ts
def uGNil : UGs := fun ds dl S K _ => match ds with
  | [] => K dl S
  | _ => False
def uGCons (a : UG) (b : UGs) : UGs := fun ds dl S K X => match ds with
  | d :: r => a d dl S (fun dl2 S2 => b r dl2 S2 K X) X
  | [] => False
def uGTup (n : Nat) (b : UGs) : UG := fun d dl S K X => match d with
  | .tup xs => xs.length = n ∧ b xs dl S K (fun _ _ => False)
  | _ => False
section
variable {X : Cx} {W : WX} {e : Expr} {es : List Expr} {t : TG} {tr : TGs} {u : UG} {ur : UGs} {ts rs : List Nat} {pos : Pos}
theorem dgs_nil : DGs X W [] gNil uGNil [] := ⟨pgs_nil, fun {sg dl L H S T vs ds K X Q} he hs p h hk _ => by
  match vs, ds, p, h with
  | [], [], _, h => exact ⟨rfl, hk sg dl L H S (.refl L) rfl (fun _ _ => rfl) he hs h⟩
  | _, _ :: _, _, h => exact h.elim
  | _ :: _, [], p, _ => exact p.elim⟩
theorem dgs_cons (h1 : DG X W e t u ts) (h2 : DGs X W es tr ur rs) (hs : (assignEach (e :: es) X.env).map (·.2) = assign e X.env :: (assignEach es X.env).map (·.2) := by rfl) : DGs X W (e :: es) (gCons t tr) (uGCons u ur) (ts ++ rs) :=
  ⟨pgs_cons h1.run h2.run hs, fun {sg dl L H S T vs ds K X Q} he hs p h hk hx => by
    match vs, ds, p, h with
    | v :: vs, d :: ds, p, h =>
      refine ⟨v, vs, rfl, h1.imp he hs p.1 h (fun sg2 dl2 L2 H2 S2 l2 hl2 hw2 he2 hs2 h2' => ?_) (hx sg rfl)⟩
      refine h2.imp he2 hs2 (p.2.le l2) h2' (fun sg3 dl3 L3 H3 S3 l3 hl3 hw3 he3 hs3 h3 => ?_) fun sg' hl' => (hx sg' (hl'.trans hl2)).le l2
      exact hk sg3 dl3 L3 H3 S3 (l2.trans l3) (hl3.trans hl2) (fun vs hv => (hw3 vs fun i hi => hv i (List.mem_append_right _ hi)).trans (hw2 vs fun i hi => hv i (List.mem_append_left _ hi))) he3 hs3 h3
    | _, [], _, h => exact h.elim
    | [], _ :: _, p, _ => exact p.elim⟩
theorem dg_tup {k n : Nat} (hc : X.calm = true) (h : DGs X W es tr ur ts) (hn : (assignEach es X.env).length = n := by rfl) (hst : (assignEach es X.env).findIdx? (·.1) = none := by rfl) : DG X W (.Tuple es k pos) (gTup X.K n tr) (uGTup n ur) ts :=
  ⟨pg_tup hc h.run hn hst, fun {sg dl L H S T v d K X' Q} he hs p hu hk hx => by
    cases d with
    | tup xs =>
      obtain ⟨a, vs, e, r, s1, q⟩ := hs.tuple p
      refine ⟨a, vs, e, .of r, by rw [q.length]; exact hu.1, h.imp (he.le LaddL.le) s1 q hu.2 (fun sg2 dl2 L2 H2 S2 l2 => hk sg2 dl2 L2 H2 S2 (LaddL.le.trans l2)) fun sg' _ e dd L' H' S' _ _ _ z => z.elim⟩
    | _ => exact hu.elim⟩
end
/-! ### comprehensions -/
theorem wipe_len (sg : L2.St) : ∀ vs : List Nat, (wipe sg vs).length = sg.length
  | [] => rfl
  | v :: vs => by
    show ((wipe sg vs).set v none).length = sg.length
    rw [List.length_set, wipe_len sg vs]
theorem wipe_at {sg : L2.St} {n : Nat} : ∀ {zs : List Nat}, n ∈ zs → n < sg.length → (wipe sg zs)[n]? = some none
  | z :: zs, hz, hl => by
    show ((wipe sg zs).set z none)[n]? = some none
    by_cases hzn : z = n
    · subst hzn
      rw [List.getElem?_set_self (by rw [wipe_len]; exact hl)]
    · rw [List.getElem?_set_ne hzn]
      rcases List.mem_cons.mp hz with q | q
      · exact absurd q.symm hzn
      · exact wipe_at q hl
theorem wipe_wipe {sg : L2.St} {vs : List Nat} : ∀ us : List Nat, (∀ i ∈ us, i ∈ vs) → wipe (wipe sg vs) us = wipe sg vs
  | [], _ => rfl
  | j :: us, hj => by
    show (wipe (wipe sg vs) us).set j none = wipe sg vs
    rw [wipe_wipe us fun i hi => hj i (List.mem_cons_of_mem _ hi)]
    refine List.ext_getElem? fun n => ?_
    by_cases hn : n = j
    · subst hn
      by_cases hlen : n < sg.length
      · rw [List.getElem?_set_self (by rw [wipe_len]; exact hlen), wipe_at (hj n List.mem_cons_self) hlen]
      · rw [List.getElem?_eq_none_iff.mpr (by rw [List.length_set, wipe_len]; omega), List.getElem?_eq_none_iff.mpr (by rw [wipe_len]; omega)]
    · rw [List.getElem?_set_ne (Ne.symm hn)]
def wipeD (dl : Env') : List Nat → Env'
  | [] => dl
  | v :: vs => (wipeD dl vs).set v none
theorem EnvIn.unset {sg : L2.St} {dl : Env'} {L : LL} (he : EnvIn sg dl L) (i : Nat) : EnvIn (sg.set i none) (dl.set i none) L := by
  refine ⟨by rw [List.length_set, List.length_set]; exact he.1, fun k c hk => ?_⟩
  by_cases e : k = i
  · subst e
    by_cases hi : k < dl.length
    · rw [List.getElem?_set_self hi] at hk
      cases hk
    · rw [List.getElem?_eq_none_iff.mpr (by rw [List.length_set]; omega)] at hk
      cases hk
  · rw [List.getElem?_set_ne (Ne.symm e)] at hk
    obtain ⟨w, h1, h2⟩ := he.2 k c hk
    exact ⟨w, by rw [List.getElem?_set_ne (Ne.symm e)]; exact h1, h2⟩
theorem EnvIn.wipe {sg : L2.St} {dl : Env'} {L : LL} (he : EnvIn sg dl L) : ∀ vs : List Nat, EnvIn (L2.wipe sg vs) (wipeD dl vs) L
  | [] => he
  | v :: vs => (EnvIn.wipe he vs).unset v
abbrev WF0 : WX := fun _ _ _ _ => False
abbrev XF0 : KX := fun _ _ => False
structure DTs (X : Cx) (W : WX) (es : List Expr) (t : TT) (u : UT) : Prop where
  run : PTs X es t
  imp : ImpT W t u
def uYes : UT := fun _ S K _ => K true S
theorem dts_nil {X : Cx} {W : WX} : DTs X W [] tYes uYes := ⟨pts_nil, fun {sg dl L H S T K X Q} he hs h hq _ => hq true L H S (.refl L) hs h⟩
theorem dts_one {X : Cx} {W : WX} {c : Expr} {t : TT} {u : UT} (h : DT X W c t u) : DTs X W [c] t u := ⟨pts_one h.run, h.imp⟩
/-- the comprehension: I speaks of the turn, of what is made, of the store -/
def uLcW (i : UI) (own : List Nat) (g : UG) (tt : UT) (ue : UE) (fin : List Dat → Store → KE → Prop) : UE := fun dl S K X => i dl S (fun ds P S1 => ∃ I : Nat → List Dat → Store → Prop, I 0 [] S1 ∧
  (∀ (j : Nat) d acc S2, ds[j]? = some d → I j acc S2 → P S2 ∧ acc.length < sizeLine ∧ g d (wipeD dl own) S2 (fun dl2 S3 => tt dl2 S3 (fun b S4 => if b = true then ue dl2 S4 (fun y S5 => I (j + 1) (acc ++ [y]) S5) XF0 else I (j + 1) acc S4) XF0) XF0) ∧
  ∀ acc S2, I ds.length acc S2 → P S2 ∧ fin acc S2 K) X
def uLc (i : UI) (own : List Nat) (g : UG) (tt : UT) (ue : UE) : UE := uLcW i own g tt ue fun acc S K => K (.lst acc) S
def uLcC (i : UI) (own : List Nat) (g : UG) (tt : UT) (ue : UE) : UE := uLcW i own g tt ue fun acc S K => K (.cell S.length) (S ++ [.lst acc])
section
variable {H : Hp} {L : LL} {S : Store} {T : List (Addr × HO)}
theorem SRx.pinSet {rho : List Addr} {D : Addr} {o o' : HO} (s : SRx H L S ((D, o) :: T) rho) : SRx (upd H D o') L S ((D, o') :: T) rho := by
  have hin : D ∈ rho ++ ((D, o) :: T).map (·.1) := by simp
  have nd := s.nd
  have hne : ∀ n a, rho[n]? = some a → a ≠ D := fun n a h z => by
    have q := (List.nodup_append.mp nd).2.2 a (List.mem_of_getElem? h) D (by simp)
    exact q z
  have m : Mono H (upd H D o') (rho ++ ((D, o) :: T).map (·.1)) (rho ++ ((D, o') :: T).map (·.1)) rho rho :=
    ⟨fun a u h e => by rw [upd_ne fun z => h (by rw [z]; exact hin)]; exact e, fun a h => .inl h, fun _ _ h => h⟩
  refine ⟨s.len, s.nd, fun n a d h1 h2 => (s.node n a d h1 h2).mono m (by rw [upd_ne (hne n a h1)]), fun p hp => ?_, fun v d h => RD.mono m (s.rd v d h)⟩
  rcases List.mem_cons.mp hp with e | e
  · subst e; exact upd_same
  · have hp' := s.pin p (List.mem_cons_of_mem _ e)
    have : p.1 ≠ D := fun z => by
      have q := (List.nodup_append.mp nd).2.1
      simp only [List.map_cons, List.nodup_cons] at q
      exact q.1 (List.mem_map.mpr ⟨p, e, z⟩)
    rw [upd_ne this]; exact hp'
/-- a new object is pinned -/
theorem SR.pinNew (s : SR H L S T) {D : Addr} {o : HO} (hD : H D = none) : SR (upd H D o) L S ((D, o) :: T) := by
  obtain ⟨rho, x⟩ := s
  have nf := x.fresh hD
  have m : Mono H (upd H D o) (rho ++ T.map (·.1)) (rho ++ ((D, o) :: T).map (·.1)) rho rho :=
    ⟨fun a u _ e => by rw [upd_ne (ne_of_none e hD)]; exact e, fun a h => by
      simp only [List.map_cons, List.mem_append, List.mem_cons] at h ⊢
      rcases h with h | h | h
      · exact .inl (.inl h)
      · subst h; exact .inr hD
      · exact .inl (.inr h), fun _ _ h => h⟩
  refine ⟨rho, x.len, ?_, fun n a d h1 h2 => ?_, fun p hp => ?_, fun v d h => RD.mono m (x.rd v d h)⟩
  · have : (rho ++ ((D, o) :: T).map (·.1)).Perm (D :: (rho ++ T.map (·.1))) := List.perm_middle
    exact this.nodup_iff.mpr (List.nodup_cons.mpr ⟨nf, x.nd⟩)
  · have hx := x.node n a d h1 h2
    obtain ⟨u, hu⟩ := hx.some
    exact hx.mono m (by rw [upd_ne (ne_of_none hu hD)])
  · rcases List.mem_cons.mp hp with e | e
    · subst e; exact upd_same
    · have hp' := x.pin p e
      rw [upd_ne (ne_of_none hp' hD)]; exact hp'
theorem pin_mono {rho : List Addr} {D : Addr} {o : HO} : Mono H H (rho ++ ((D, o) :: T).map (·.1)) (rho ++ T.map (·.1)) rho rho :=
  ⟨fun _ _ _ e => e, fun a h => .inl (by
    simp only [List.map_cons, List.mem_append, List.mem_cons] at h ⊢
    rcases h with h | h
    · exact .inl h
    · exact .inr (.inr h)), fun _ _ h => h⟩
theorem SRx.unpin {rho : List Addr} {D : Addr} {o : HO} (s : SRx H L S ((D, o) :: T) rho) : SRx H L S T rho ∧ D ∉ rho ++ T.map (·.1) ∧ H D = some o := by
  have hp : (rho ++ ((D, o) :: T).map (·.1)).Perm (D :: (rho ++ T.map (·.1))) := List.perm_middle
  have nd := List.nodup_cons.mp (hp.nodup_iff.mp s.nd)
  refine ⟨⟨s.len, nd.2, fun n a d h1 h2 => (s.node n a d h1 h2).mono pin_mono rfl, fun p hp => s.pin p (List.mem_cons_of_mem _ hp), fun v d h => RD.mono pin_mono (s.rd v d h)⟩, nd.1, s.pin (D, o) List.mem_cons_self⟩
theorem SR.unpin {D : Addr} {o : HO} (s : SR H L S ((D, o) :: T)) : SR H L S T := let ⟨rho, x⟩ := s; ⟨rho, x.unpin.1⟩
/-- the pinned list becomes a tree -/
theorem SR.pinTree {D : Addr} {vs : List V} {ds : List Dat} (s : SR H L S ((D, .lst vs) :: T)) (p : Ls L vs ds) : SR H (Ladd L (.ref D) (.lst ds)) S T := by
  obtain ⟨rho, x⟩ := s
  obtain ⟨y, nD, hD⟩ := x.unpin
  refine ⟨rho, y.more fun v d q => ?_⟩
  rcases q with q | ⟨rfl, rfl⟩
  · exact .inl q
  · refine .inr ?_
    simp only [RD]
    exact ⟨D, vs, rfl, nD, hD, Ls.rds y.rd p⟩
/-- .. a cell -/
theorem SR.pinCell {D : Addr} {vs : List V} {ds : List Dat} (s : SR H L S ((D, .lst vs) :: T)) (p : Ls L vs ds) : SR H (Ladd L (.ref D) (.cell S.length)) (S ++ [.lst ds]) T := by
  obtain ⟨rho, x⟩ := s
  have hD := x.pin (D, .lst vs) List.mem_cons_self
  have e1 : ((rho ++ [D]) ++ T.map (·.1)).Perm (rho ++ ((D, HO.lst vs) :: T).map (·.1)) := by simp
  have m : Mono H H (rho ++ ((D, HO.lst vs) :: T).map (·.1)) ((rho ++ [D]) ++ T.map (·.1)) rho (rho ++ [D]) :=
    ⟨fun _ _ _ e => e, fun a h => .inl (e1.mem_iff.mp h), fun n a e => by rw [List.getElem?_append_left (List.getElem?_eq_some_iff.mp e).1]; exact e⟩
  refine ⟨rho ++ [D], by simp [x.len], e1.nodup_iff.mpr x.nd, fun n a c h1 h2 => ?_, fun p hp => x.pin p (List.mem_cons_of_mem _ hp), fun v c q => ?_⟩
  · by_cases hn : n < rho.length
    · rw [List.getElem?_append_left hn] at h1
      rw [List.getElem?_append_left (by rw [← x.len]; exact hn)] at h2
      exact (x.node n a c h1 h2).mono m rfl
    · have e : n = rho.length := by
        have := (List.getElem?_eq_some_iff.mp h1).1
        simp at this; omega
      subst e
      rw [List.getElem?_append_right (Nat.le_refl _)] at h1
      rw [List.getElem?_append_right (by rw [x.len]; exact Nat.le_refl _), x.len] at h2
      simp at h1 h2
      subst h1; subst h2
      exact ⟨vs, hD, Ls.rds (fun v c q => RD.mono m (x.rd v c q)) p⟩
  · rcases q with q | ⟨rfl, rfl⟩
    · exact RD.mono m (x.rd v c q)
    · simp only [RD]
      exact ⟨D, by rw [← x.len, List.getElem?_append_right (Nat.le_refl _)]; simp, rfl⟩
theorem Ls.snoc {vs : List V} {ds : List Dat} {v : V} {d : Dat} (h : Ls L vs ds) (p : L v d) : Ls L (vs ++ [v]) (ds ++ [d]) := h.append ⟨p, True.intro⟩
end
section
variable {X : Cx} {W : WX} {elt tg iter : Expr} {ifs : List Expr} {scope : Scope} {own : List (Str × Nat)} {pos : Pos} {wi : TI} {ui : UI} {g : TG} {ug : UG} {ts : List Nat} {tt : TT} {ut : UT} {te : TE} {ue : UE}
theorem imp_lc {fin : List Dat → Store → KE → Prop} {vs : List Nat} (hfin : ∀ {H L S T D} {accV : List V} {acc : List Dat} {K Q}, SR H L S ((D, .lst accV) :: T) → Ls L accV acc → fin acc S K → EOk L T K Q → Q (.ref D) H)
    (hi : ImpI W wi ui) (hg : ImpG WF0 g ug ts) (ht : ImpT WF0 tt ut) (he : ImpE WF0 te ue) (hts : ∀ i ∈ ts, i ∈ vs) : ImpE W (tLc wi g tt te vs) (uLcW ui vs ug ut ue fin) := fun {sg dl L H S T K X' Q} hE hs h hq hx => by
  refine hi hE hs h (fun J ds P L1 H1 S1 l1 s1 hJ h1 D hD => ?_) hx
  obtain ⟨I, h0, hI, hd⟩ := h1
  refine ⟨fun i m H2 => m = ds.length - i ∧ i ≤ ds.length ∧ ∃ L2 S2 accV acc, Lle L1 L2 ∧ Ls L2 accV acc ∧ SR H2 L2 S2 ((D, .lst accV) :: T) ∧ I i acc S2, ⟨_, rfl, Nat.zero_le _, L1, S1, [], [], .refl _, True.intro, s1.pinNew hD, h0⟩, ?_⟩
  rintro i m H2 ⟨rfl, hi2, L2, S2, accV, acc, l2, p2, s2, h2⟩
  by_cases hlt : i < ds.length
  · obtain ⟨hP, hsz, hb2⟩ := hI i ds[i] acc S2 (List.getElem?_eq_getElem hlt) h2
    refine .inr ⟨hJ.go i H2 L2 S2 _ l2 s2 hP hlt, fun H' => ∃ m', m' < ds.length - i ∧ m' = ds.length - (i + 1) ∧ i + 1 ≤ ds.length ∧ ∃ L2 S2 accV acc, Lle L1 L2 ∧ Ls L2 accV acc ∧ SR H' L2 S2 ((D, .lst accV) :: T) ∧ I (i + 1) acc S2, fun H' h => h, fun x H' hy => ?_⟩
    obtain ⟨L3, l3, p3, s3⟩ := hJ.yld i H2 L2 S2 _ x H' ds[i] l2 s2 hP (List.getElem?_eq_getElem hlt) hy
    have hE3 : EnvIn (wipe sg vs) (wipeD dl vs) L3 := (hE.le ((l1.trans l2).trans l3)).wipe vs
    refine hg hE3 s3 p3 hb2 (fun sg4 dl4 L4 H4 S4 l4 hl4 hw4 he4 s4 h4 => ⟨?_, ?_⟩) fun e dd L' H' S' _ _ _ z => z.elim
    · rw [hw4 vs hts]
      exact wipe_wipe vs fun i h => h
    · refine ht he4 s4 h4 (fun b L5 H5 S5 l5 s5 h5 => ?_) fun e dd L' H' S' _ _ _ z => z.elim
      cases b with
      | true =>
        show te sg4 H5 _
        refine he (he4.le l5) s5 h5 (fun v d L6 H6 S6 l6 p6 s6 h6 => ?_) fun e dd L' H' S' _ _ _ z => z.elim
        obtain ⟨rho, x6⟩ := id s6
        have l36 := ((l3.trans l4).trans l5).trans l6
        refine ⟨accV, x6.pin (D, .lst accV) List.mem_cons_self, by rw [p2.length]; exact hsz, _, by omega, rfl, hlt, L6, S6, accV ++ [v], acc ++ [d], l2.trans l36, (p2.le l36).snoc p6, ⟨rho, x6.pinSet⟩, h6⟩
      | false =>
        have l35 := (l3.trans l4).trans l5
        exact ⟨_, by omega, rfl, hlt, L5, S5, accV, acc, l2.trans l35, p2.le l35, s5, h5⟩
  · have e : i = ds.length := by omega
    subst e
    obtain ⟨hP, hn⟩ := hd acc S2 h2
    exact .inl ⟨hJ.stop _ H2 L2 S2 _ l2 s2 hP rfl, hfin s2 p2 hn (hq.le (l1.trans l2))⟩
theorem de_lc (hc : X.calm = true) (hN : X.N.Nodup) (hi : DI X W tg iter wi ui) (ok : BlkOk X.N X.env.scope scope own)
    (hg : ∀ (s : Shared) (H : Hp) (C : Addr) (cl : List (Str × Addr)) (fp : List Addr), DG (X.blk s H scope (compEnvC scope cl C X.env) fp) WF0 tg g ug ts) (ht : ∀ (s : Shared) (H : Hp) (C : Addr) (cl : List (Str × Addr)) (fp : List Addr), DTs (X.blk s H scope (compEnvC scope cl C X.env) fp) WF0 ifs tt ut)
    (he : ∀ (s : Shared) (H : Hp) (C : Addr) (cl : List (Str × Addr)) (fp : List Addr), DE (X.blk s H scope (compEnvC scope cl C X.env) fp) WF0 elt te ue) (hts : ∀ i ∈ ts, i ∈ own.map (·.2)) (hs : ∀ x, foldedSetIterable iter X.env x = pure x := by intro _; rfl) :
    DE X W (.ListComp elt [⟨tg, iter, ifs, 0⟩] scope pos) (tLc wi g tt te (own.map (·.2))) (uLc ui (own.map (·.2)) ug ut ue) :=
  ⟨pe_lc hc hN hi.run ok (fun s H C cl fp => (hg s H C cl fp).run) (fun s H C cl fp => (ht s H C cl fp).run) (fun s H C cl fp => (he s H C cl fp).run) hs,
    imp_lc (fun {H L S T D accV acc K Q} s p h hq => hq _ _ _ _ S Ladd.le Ladd.here (s.pinTree p) h) hi.imp (hg {} (fun _ => none) 0 [] []).imp (ht {} (fun _ => none) 0 [] []).imp (he {} (fun _ => none) 0 [] []).imp hts⟩
theorem de_lcC (hc : X.calm = true) (hN : X.N.Nodup) (hi : DI X W tg iter wi ui) (ok : BlkOk X.N X.env.scope scope own)
    (hg : ∀ (s : Shared) (H : Hp) (C : Addr) (cl : List (Str × Addr)) (fp : List Addr), DG (X.blk s H scope (compEnvC scope cl C X.env) fp) WF0 tg g ug ts) (ht : ∀ (s : Shared) (H : Hp) (C : Addr) (cl : List (Str × Addr)) (fp : List Addr), DTs (X.blk s H scope (compEnvC scope cl C X.env) fp) WF0 ifs tt ut)
    (he : ∀ (s : Shared) (H : Hp) (C : Addr) (cl : List (Str × Addr)) (fp : List Addr), DE (X.blk s H scope (compEnvC scope cl C X.env) fp) WF0 elt te ue) (hts : ∀ i ∈ ts, i ∈ own.map (·.2)) (hs : ∀ x, foldedSetIterable iter X.env x = pure x := by intro _; rfl) :
    DE X W (.ListComp elt [⟨tg, iter, ifs, 0⟩] scope pos) (tLc wi g tt te (own.map (·.2))) (uLcC ui (own.map (·.2)) ug ut ue) :=
  ⟨pe_lc hc hN hi.run ok (fun s H C cl fp => (hg s H C cl fp).run) (fun s H C cl fp => (ht s H C cl fp).run) (fun s H C cl fp => (he s H C cl fp).run) hs,
    imp_lc (fun {H L S T D accV acc K Q} s p h hq => hq _ _ _ _ _ Ladd.le Ladd.here (s.pinCell p) h) hi.imp (hg {} (fun _ => none) 0 [] []).imp (ht {} (fun _ => none) 0 [] []).imp (he {} (fun _ => none) 0 [] []).imp hts⟩
/-- name = [..] on one line -/
theorem fin_tree {H : Hp} {L : LL} {S : Store} {T : List (Addr × HO)} {D : Addr} {accV : List V} {acc : List Dat} {K : KE} {Q : VK} (s : SR H L S ((D, .lst accV) :: T)) (p : Ls L accV acc) (h : K (.lst acc) S) (hq : EOk L T K Q) : Q (.ref D) H := hq _ _ _ _ S Ladd.le Ladd.here (s.pinTree p) h
theorem fin_cell {H : Hp} {L : LL} {S : Store} {T : List (Addr × HO)} {D : Addr} {accV : List V} {acc : List Dat} {K : KE} {Q : VK} (s : SR H L S ((D, .lst accV) :: T)) (p : Ls L accV acc) (h : K (.cell S.length) (S ++ [.lst acc])) (hq : EOk L T K Q) : Q (.ref D) H := hq _ _ _ _ _ Ladd.le Ladd.here (s.pinCell p) h
theorem imp_set {i : Nat} (h : ImpE W te ue) : ImpS W (tAsg te (gName i)) (uSet i ue) := fun {sg dl L H S T D D'} he hs h' hk =>
  h he hs h' (fun v d L1 H1 S1 l1 p1 s1 h1 => hk.nx (sg.set i (some v)) (dl.set i (some d)) L1 H1 S1 l1 (List.length_set ..) ((he.le l1).set h1.1 p1) s1 h1.2) (hk.ex.x rfl he)
theorem ds_setLc {i : Nat} {y : Str} {py spos : Pos} (hc : X.calm = true) (hN : X.N.Nodup) (hi : DI X W tg iter wi ui) (ok : BlkOk X.N X.env.scope scope own)
    (hg : ∀ (s : Shared) (H : Hp) (C : Addr) (cl : List (Str × Addr)) (fp : List Addr), DG (X.blk s H scope (compEnvC scope cl C X.env) fp) WF0 tg g ug ts) (ht : ∀ (s : Shared) (H : Hp) (C : Addr) (cl : List (Str × Addr)) (fp : List Addr), DTs (X.blk s H scope (compEnvC scope cl C X.env) fp) WF0 ifs tt ut)
    (he : ∀ (s : Shared) (H : Hp) (C : Addr) (cl : List (Str × Addr)) (fp : List Addr), DE (X.blk s H scope (compEnvC scope cl C X.env) fp) WF0 elt te ue) (hts : ∀ i ∈ ts, i ∈ own.map (·.2))
    (hy : X.N[i]? = some y := by rfl) (hyl : X.env.scope.names.lookup y = some .local := by rfl)
    (hsw : swapsWith (.ListComp elt [⟨tg, iter, ifs, 0⟩] scope pos) (some (.Name y py)) spos.line X.env = pure true := by exact sw_true rfl rfl rfl (by decide +kernel)) (hs : ∀ x, foldedSetIterable iter X.env x = pure x := by intro _; rfl) :
    DS X W (.Assign [.Name y py] (.ListComp elt [⟨tg, iter, ifs, 0⟩] scope pos) spos) (tAsg (tLc wi g tt te (own.map (·.2))) (gName i)) (uSet i (uLc ui (own.map (·.2)) ug ut ue)) :=
  ⟨ps_setLc hc hN hy hyl hsw hi.run ok (fun s H C cl fp => (hg s H C cl fp).run) (fun s H C cl fp => (ht s H C cl fp).run) (fun s H C cl fp => (he s H C cl fp).run) hs,
    imp_set (imp_lc fin_tree hi.imp (hg {} (fun _ => none) 0 [] []).imp (ht {} (fun _ => none) 0 [] []).imp (he {} (fun _ => none) 0 [] []).imp hts)⟩
theorem ds_setLcC {i : Nat} {y : Str} {py spos : Pos} (hc : X.calm = true) (hN : X.N.Nodup) (hi : DI X W tg iter wi ui) (ok : BlkOk X.N X.env.scope scope own)
    (hg : ∀ (s : Shared) (H : Hp) (C : Addr) (cl : List (Str × Addr)) (fp : List Addr), DG (X.blk s H scope (compEnvC scope cl C X.env) fp) WF0 tg g ug ts) (ht : ∀ (s : Shared) (H : Hp) (C : Addr) (cl : List (Str × Addr)) (fp : List Addr), DTs (X.blk s H scope (compEnvC scope cl C X.env) fp) WF0 ifs tt ut)
    (he : ∀ (s : Shared) (H : Hp) (C : Addr) (cl : List (Str × Addr)) (fp : List Addr), DE (X.blk s H scope (compEnvC scope cl C X.env) fp) WF0 elt te ue) (hts : ∀ i ∈ ts, i ∈ own.map (·.2))
    (hy : X.N[i]? = some y := by rfl) (hyl : X.env.scope.names.lookup y = some .local := by rfl)
    (hsw : swapsWith (.ListComp elt [⟨tg, iter, ifs, 0⟩] scope pos) (some (.Name y py)) spos.line X.env = pure true := by exact sw_true rfl rfl rfl (by decide +kernel)) (hs : ∀ x, foldedSetIterable iter X.env x = pure x := by intro _; rfl) :
    DS X W (.Assign [.Name y py] (.ListComp elt [⟨tg, iter, ifs, 0⟩] scope pos) spos) (tAsg (tLc wi g tt te (own.map (·.2))) (gName i)) (uSet i (uLcC ui (own.map (·.2)) ug ut ue)) :=
  ⟨ps_setLc hc hN hy hyl hsw hi.run ok (fun s H C cl fp => (hg s H C cl fp).run) (fun s H C cl fp => (ht s H C cl fp).run) (fun s H C cl fp => (he s H C cl fp).run) hs,
    imp_set (imp_lc fin_cell hi.imp (hg {} (fun _ => none) 0 [] []).imp (ht {} (fun _ => none) 0 [] []).imp (he {} (fun _ => none) 0 [] []).imp hts)⟩
end
end DL
/-! DL5: operators, subscripts, slices, built-ins, methods over data. -/
namespace DL
open PySem L2
section
variable {H : Hp} {L : LL} {S : Store} {T : List (Addr × HO)} {v : V}
theorem SR.vint (s : SR H L S T) {i : Int} (h : L v (.int i)) : v = .int i := by obtain ⟨_, x⟩ := s; have := x.rd _ _ h; simp only [RD] at this; exact this
theorem SR.vstr (s : SR H L S T) {i : Str} (h : L v (.str i)) : v = .str i := by obtain ⟨_, x⟩ := s; have := x.rd _ _ h; simp only [RD] at this; exact this
theorem SR.vbl (s : SR H L S T) {i : Bool} (h : L v (.bl i)) : v = .bl i := by obtain ⟨_, x⟩ := s; have := x.rd _ _ h; simp only [RD] at this; exact this
theorem SR.vnon (s : SR H L S T) (h : L v .non) : v = .non := by obtain ⟨_, x⟩ := s; have := x.rd _ _ h; simp only [RD] at this; exact this
theorem EOk.flat {K : KE} {Q : VK} (hq : EOk L T K Q) (s : SR H L S T) {d : Dat} (hf : Flat d v) (h : K d S) : Q v H := hq v d (Ladd L v d) H S Ladd.le Ladd.here (s.flat hf) h
/-- flat data as values -/
def flat? : Dat → Option V
  | .non => some .non | .bl b => some (.bl b) | .int i => some (.int i) | .str x => some (.str x)
  | _ => none
theorem SR.vflat (s : SR H L S T) {d : Dat} {w : V} (hf : flat? d = some w) (h : L v d) : v = w := by
  cases d with
  | non => simp [flat?] at hf; subst hf; exact s.vnon h
  | bl b => simp [flat?] at hf; subst hf; exact s.vbl h
  | int b => simp [flat?] at hf; subst hf; exact s.vint h
  | str b => simp [flat?] at hf; subst hf; exact s.vstr h
  | _ => simp [flat?] at hf
def flats? (ds : List Dat) : Option (List V) := ds.mapM flat?
theorem Ls.flats (s : SR H L S T) : ∀ {vs ws : List V} {ds : List Dat}, ds.mapM flat? = some ws → Ls L vs ds → vs = ws
  | [], ws, [], h, _ => by simp at h; exact h.symm
  | v :: vs, ws, d :: ds, h, p => by
    rw [List.mapM_cons] at h
    cases e1 : flat? d with
    | none => rw [e1] at h; cases h
    | some w =>
      cases e2 : ds.mapM flat? with
      | none => rw [e1, e2] at h; cases h
      | some us =>
        rw [e1, e2] at h
        injection h with h
        subst h
        rw [s.vflat e1 p.1, Ls.flats s e2 p.2]
  | [], _, _ :: _, _, p => p.elim
  | _ :: _, _, [], _, p => p.elim
theorem mapM_ints (ns : List Int) : (ns.map Dat.int).mapM flat? = some (ns.map V.int) := by
  induction ns with
  | nil => rfl
  | cons n ns ih => rw [List.map_cons, List.mapM_cons, ih]; rfl
theorem mapM_strs (ns : List Str) : (ns.map Dat.str).mapM flat? = some (ns.map V.str) := by
  induction ns with
  | nil => rfl
  | cons n ns ih => rw [List.map_cons, List.mapM_cons, ih]; rfl
theorem mapM_bls (ns : List Bool) : (ns.map Dat.bl).mapM flat? = some (ns.map V.bl) := by
  induction ns with
  | nil => rfl
  | cons n ns ih => rw [List.map_cons, List.mapM_cons, ih]; rfl
theorem Ls.ints (s : SR H L S T) {vs : List V} {ns : List Int} (h : Ls L vs (ns.map Dat.int)) : vs = ns.map V.int := h.flats s (mapM_ints ns)
theorem Ls.strs (s : SR H L S T) {vs : List V} {ns : List Str} (h : Ls L vs (ns.map Dat.str)) : vs = ns.map V.str := h.flats s (mapM_strs ns)
theorem Ls.bls (s : SR H L S T) {vs : List V} {ns : List Bool} (h : Ls L vs (ns.map Dat.bl)) : vs = ns.map V.bl := h.flats s (mapM_bls ns)
theorem Ls.one {L : LL} {vs : List V} {d : Dat} (h : Ls L vs [d]) : ∃ v, vs = [v] ∧ L v d := by
  match vs, h with
  | [v], h => exact ⟨v, rfl, h.1⟩
  | [], h => exact h.elim
  | _ :: _ :: _, h => exact h.2.elim
theorem Ls.two {L : LL} {vs : List V} {d e : Dat} (h : Ls L vs [d, e]) : ∃ v w, vs = [v, w] ∧ L v d ∧ L w e := by
  match vs, h with
  | [v, w], h => exact ⟨v, w, rfl, h.1, h.2.1⟩
  | [], h => exact h.elim
  | [_], h => exact h.2.elim
  | _ :: _ :: _ :: _, h => exact h.2.2.elim
theorem Ls.nil {L : LL} {vs : List V} (h : Ls L vs []) : vs = [] := by
  match vs, h with
  | [], _ => rfl
  | _ :: _, h => exact h.elim
end
/-! ### arithmetic -/
def rAddG (K : PySem.W.Frag) : R2 := fun x y H Q => rI0 (fun i j => .int (i + j)) x y H Q ∨ (∃ i j, x = .str i ∧ y = .str j ∧ i.length + j.length ≤ sizeLine ∧ Q (.str (i ++ j)) H) ∨ rCat x y H Q ∨ rCatA K x y H Q
def gAdd : G2 := fun x y S K => match x, y with
  | .int i, .int j => K (.int (i + j)) S
  | .str a, .str b => a.length + b.length ≤ sizeLine ∧ K (.str (a ++ b)) S
  | .tup xs, .tup ys => xs.length + ys.length ≤ sizeLine ∧ K (.tup (xs ++ ys)) S
  | x, y => match view S x, view S y with
    | some (.lst xs), some (.lst ys) => xs.length + ys.length ≤ sizeLine ∧ K (.lst (xs ++ ys)) S
    | _, _ => False
theorem cat_imp {x y : V} {dx dy : Dat} {L : LL} {H : Hp} {S : Store} {T : List (Addr × HO)} {K : KE} {Q : VK} {xs ys : List Dat} (hs : SR H L S T) (px : L x dx) (py : L y dy) (e1 : view S dx = some (.lst xs)) (e2 : view S dy = some (.lst ys))
    (hl : xs.length + ys.length ≤ sizeLine) (h : K (.lst (xs ++ ys)) S) (hq : EOk L T K Q) : rCat x y H Q := by
  obtain ⟨a, vs, rfl, h1, s1, p1⟩ := hs.list px e1
  obtain ⟨b, ws, rfl, h2, s2, p2⟩ := s1.list (LaddL.le _ _ py) e2
  exact ⟨a, b, vs, ws, rfl, rfl, h1, h2, by rw [p1.length, p2.length]; exact hl, fun p hp => hq _ _ _ _ S ((LaddL.le.trans LaddL.le).trans Ladd.le) Ladd.here (s2.lst hp ((p1.le LaddL.le).append p2)) h⟩
theorem dop_add {X : Cx} : DOp X (binaryOp .Add) (rAddG X.K) gAdd := ⟨op_add.or (op_add_str.or (op_cat.or op_catA)), fun {x y dx dy L H S T K Q} hs px py h hq => by
  unfold gAdd at h
  split at h
  · exact .inl ⟨_, _, hs.vint px, hs.vint py, hq.flat hs (d := .int _) rfl h⟩
  · exact .inr (.inl ⟨_, _, hs.vstr px, hs.vstr py, h.1, hq.flat hs (d := .str _) rfl h.2⟩)
  · obtain ⟨a, vs, rfl, h1, s1, p1⟩ := hs.tuple px
    obtain ⟨b, ws, rfl, h2, s2, p2⟩ := s1.tuple (LaddL.le _ _ py)
    refine .inr (.inr (.inr ⟨a, b, vs, ws, rfl, rfl, .of h1, .of h2, by rw [p1.length, p2.length]; exact h.1, fun e => ?_, fun _ e => ?_, fun _ _ p hp => ?_⟩))
    · have e2 : ∀ zs : List Dat, Ls (LaddL L vs zs) vs zs → zs = [] := fun zs q => List.eq_nil_of_length_eq_zero (by rw [← q.length, e]; rfl)
      rw [e2 _ p1, List.nil_append] at h
      exact hq _ _ _ _ S (.refl L) py hs h.2
    · have e2 : ∀ zs : List Dat, vs.length = vs.length → ws.length = zs.length → zs = [] := fun zs _ q => List.eq_nil_of_length_eq_zero (by rw [← q, e]; rfl)
      rw [e2 _ rfl p2.length, List.append_nil] at h
      exact hq _ _ _ _ S (.refl L) px hs h.2
    · exact hq _ _ _ _ S ((LaddL.le.trans LaddL.le).trans Ladd.le) Ladd.here (s2.tup hp ((p1.le LaddL.le).append p2)) h.2
  · split at h
    · rename_i e1 e2
      exact .inr (.inr (.inl (cat_imp hs px py e1 e2 h.1 h.2 hq)))
    · exact h.elim⟩
def gInt (C : Int → Int → Prop) (f : Int → Int → Int) : G2 := fun x y S K => match x, y with
  | .int i, .int j => C i j ∧ K (.int (f i j)) S
  | _, _ => False
theorem int_imp {C : Int → Int → Prop} {f : Int → Int → Int} : OpI (rI C fun i j => .int (f i j)) (gInt C f) := fun {x y dx dy L H S T K Q} hs px py h hq => by
  unfold gInt at h
  split at h
  · exact ⟨_, _, hs.vint px, hs.vint py, h.1, hq.flat hs (d := .int _) rfl h.2⟩
  · exact h.elim
def gInt0 (f : Int → Int → Int) : G2 := fun x y S K => match x, y with
  | .int i, .int j => K (.int (f i j)) S
  | _, _ => False
theorem int0_imp {f : Int → Int → Int} : OpI (rI0 fun i j => .int (f i j)) (gInt0 f) := fun {x y dx dy L H S T K Q} hs px py h hq => by
  unfold gInt0 at h
  split at h
  · exact ⟨_, _, hs.vint px, hs.vint py, hq.flat hs (d := .int _) rfl h⟩
  · exact h.elim
theorem dop_sub {X : Cx} : DOp X (binaryOp .Sub) (rI0 fun i j => .int (i - j)) (gInt0 fun i j => i - j) := ⟨op_sub, int0_imp⟩
theorem dop_mul {X : Cx} : DOp X (binaryOp .Mult) (rI CMul fun i j => .int (i * j)) (gInt CMul fun i j => i * j) := ⟨op_mul, int_imp⟩
theorem dop_mod {X : Cx} : DOp X (binaryOp .Mod) (rI (fun _ j => 0 < j) fun i j => .int (i % j)) (gInt (fun _ j => 0 < j) fun i j => i % j) := ⟨op_mod, int_imp⟩
theorem dop_fdiv {X : Cx} : DOp X (binaryOp .FloorDiv) (rI CDiv fun i j => .int (i / j)) (gInt CDiv fun i j => i / j) := ⟨op_fdiv, int_imp⟩
theorem dop_pow {X : Cx} : DOp X (binaryOp .Pow) (rI CPow fun i j => .int (i ^ j.toNat)) (gInt CPow fun i j => i ^ j.toNat) := ⟨op_pow, int_imp⟩
theorem de_neg {X : Cx} {W : WX} {a : Expr} {ta : TE} {ua : UE} {pos : Pos} (ha : DE X W a ta ua) : DE X W (.UnaryOp .USub a pos) (tUn (rU fun i => .int (-i)) ta) (uUn (fun d S K => match d with
    | .int i => K (.int (-i)) S
    | _ => False) ua) := ⟨pe_un un_neg ha.run, imp_un (fun {x dx L H S T K Q} hs px h hq => by
  cases dx with
  | int i => exact ⟨i, hs.vint px, hq.flat hs (d := .int _) rfl h⟩
  | _ => exact h.elim) ha.imp⟩
/-! ### order -/
def ltS (a b : Str) : Bool := decide (a.cps.toList < b.cps.toList)
def gLt : G2 := fun x y S K => match x, y with
  | .int i, .int j => K (.bl (decide (i < j))) S
  | .str a, .str b => K (.bl (ltS a b)) S
  | _, _ => False
def gLe : G2 := fun x y S K => match x, y with
  | .int i, .int j => K (.bl (decide (i ≤ j))) S
  | .str a, .str b => K (.bl (!ltS b a)) S
  | _, _ => False
def gGt : G2 := fun x y S K => match x, y with
  | .int i, .int j => K (.bl (decide (j < i))) S
  | .str a, .str b => K (.bl (ltS b a)) S
  | _, _ => False
def gGe : G2 := fun x y S K => match x, y with
  | .int i, .int j => K (.bl (decide (j ≤ i))) S
  | .str a, .str b => K (.bl (!ltS a b)) S
  | _, _ => False
def rOrdG (f : Int → Int → Bool) (g : Str → Str → Bool) : R2 := fun x y H Q => rI0 (fun i j => .bl (f i j)) x y H Q ∨ (∃ i j, x = .str i ∧ y = .str j ∧ Q (.bl (g i j)) H)
theorem dop_lt {X : Cx} : DOp X (compareOp .Lt) (rOrdG (fun i j => decide (i < j)) ltS) gLt := ⟨op_lt.or op_lt_str, fun {x y dx dy L H S T K Q} hs px py h hq => by
  unfold gLt at h
  split at h
  · exact .inl ⟨_, _, hs.vint px, hs.vint py, hq.flat hs (d := .bl _) rfl h⟩
  · exact .inr ⟨_, _, hs.vstr px, hs.vstr py, hq.flat hs (d := .bl _) rfl h⟩
  · exact h.elim⟩
theorem dop_le {X : Cx} : DOp X (compareOp .LtE) (rOrdG (fun i j => decide (i ≤ j)) fun a b => !ltS b a) gLe := ⟨op_le.or op_le_str, fun {x y dx dy L H S T K Q} hs px py h hq => by
  unfold gLe at h
  split at h
  · exact .inl ⟨_, _, hs.vint px, hs.vint py, hq.flat hs (d := .bl _) rfl h⟩
  · exact .inr ⟨_, _, hs.vstr px, hs.vstr py, hq.flat hs (d := .bl _) rfl h⟩
  · exact h.elim⟩
theorem dop_gt {X : Cx} : DOp X (compareOp .Gt) (rOrdG (fun i j => decide (j < i)) fun a b => ltS b a) gGt := ⟨op_gt.or op_gt_str, fun {x y dx dy L H S T K Q} hs px py h hq => by
  unfold gGt at h
  split at h
  · exact .inl ⟨_, _, hs.vint px, hs.vint py, hq.flat hs (d := .bl _) rfl h⟩
  · exact .inr ⟨_, _, hs.vstr px, hs.vstr py, hq.flat hs (d := .bl _) rfl h⟩
  · exact h.elim⟩
theorem dop_ge {X : Cx} : DOp X (compareOp .GtE) (rOrdG (fun i j => decide (j ≤ i)) fun a b => !ltS a b) gGe := ⟨op_ge.or op_ge_str, fun {x y dx dy L H S T K Q} hs px py h hq => by
  unfold gGe at h
  split at h
  · exact .inl ⟨_, _, hs.vint px, hs.vint py, hq.flat hs (d := .bl _) rfl h⟩
  · exact .inr ⟨_, _, hs.vstr px, hs.vstr py, hq.flat hs (d := .bl _) rfl h⟩
  · exact h.elim⟩
/-! ### equality -/
mutual
/-- data as the library's data -/
inductive Py (S : Store) : Dat → PyData → Prop where
  | non : Py S .non .none
  | bl {b : Bool} : Py S (.bl b) (.bool b)
  | int {i : Int} : Py S (.int i) (.int i)
  | str {x : Str} : Py S (.str x) (.str x)
  | lst {xs : List Dat} {ps : List PyData} : Pys S xs ps → Py S (.lst xs) (.list ps)
  | tup {xs : List Dat} {ps : List PyData} : Pys S xs ps → Py S (.tup xs) (.tuple ps)
  | cell {n : Nat} {xs : List Dat} {ps : List PyData} : S[n]? = some (.lst xs) → Pys S xs ps → Py S (.cell n) (.list ps)
inductive Pys (S : Store) : List Dat → List PyData → Prop where
  | nil : Pys S [] []
  | cons {d : Dat} {ds : List Dat} {p : PyData} {ps : List PyData} : Py S d p → Pys S ds ps → Pys S (d :: ds) (p :: ps)
end
section
variable {H : Hp} {R rho : List Addr} {S : Store} {KF : PySem.W.Frag}
mutual
theorem Py.dp (hn : ∀ (m : Nat) a d, rho[m]? = some a → S[m]? = some d → Node H R rho a d) : ∀ {d : Dat} {p : PyData} {v : V}, Py S d p → RD H R rho d v → Dp KF H v p
  | _, _, _, .non, h => by simp only [RD] at h; subst h; exact .non
  | _, _, _, .bl, h => by simp only [RD] at h; subst h; exact .bl _
  | _, _, _, .int, h => by simp only [RD] at h; subst h; exact .int _
  | _, _, _, .str, h => by simp only [RD] at h; subst h; exact .str _
  | _, _, _, .lst q, h => by
    simp only [RD] at h
    obtain ⟨a, vs, rfl, _, e, r⟩ := h
    exact .lst (.of e) (Pys.dp hn q r)
  | _, _, _, .tup q, h => by
    simp only [RD] at h
    obtain ⟨a, vs, rfl, _, e, r⟩ := h
    exact .tup (.of e) (Pys.dp hn q r)
  | _, _, _, .cell hc q, h => by
    simp only [RD] at h
    obtain ⟨a, ha, rfl⟩ := h
    obtain ⟨vs, e, r⟩ := hn _ a _ ha hc
    exact .lst (.of e) (Pys.dp hn q r)
theorem Pys.dp (hn : ∀ (m : Nat) a d, rho[m]? = some a → S[m]? = some d → Node H R rho a d) : ∀ {ds : List Dat} {ps : List PyData} {vs : List V}, Pys S ds ps → RDs H R rho ds vs → DpAll KF H vs ps
  | _, _, _, .nil, h => by simp only [RDs] at h; subst h; exact .nil
  | _, _, _, .cons q qs, h => by
    simp only [RDs] at h
    obtain ⟨w, ws, rfl, h1, h2⟩ := h
    exact .cons (Py.dp hn q h1) (Pys.dp hn qs h2)
end
end
/-- flat pairs that == tells apart at once -/
def scalD : Dat → Dat → Option Bool
  | .int i, .int j => some (decide (i = j))
  | .str i, .str j => some (decide (i = j))
  | .bl i, .bl j => some (decide (i = j))
  | .non, .non => some true
  | .non, .int _ => some false | .int _, .non => some false | .non, .bl _ => some false | .bl _, .non => some false | .non, .str _ => some false | .str _, .non => some false
  | .int _, .str _ => some false | .str _, .int _ => some false | .bl _, .str _ => some false | .str _, .bl _ => some false
  | _, _ => none
theorem scalD_ok {H : Hp} {L : LL} {S : Store} {T : List (Addr × HO)} {x y : V} {dx dy : Dat} {b : Bool} (hs : SR H L S T) (px : L x dx) (py : L y dy) (h : scalD dx dy = some b) : scal x y = true ∧ decide (x = y) = b := by
  cases dx <;> cases dy <;> simp only [scalD, Option.some.injEq] at h <;> try (cases h) <;> try (injection h)
  all_goals first
    | (rw [hs.vint px, hs.vint py]; exact ⟨rfl, by simp⟩)
    | (rw [hs.vstr px, hs.vstr py]; exact ⟨rfl, by simp⟩)
    | (rw [hs.vbl px, hs.vbl py]; exact ⟨rfl, by simp⟩)
    | (rw [hs.vnon px, hs.vnon py]; exact ⟨rfl, by simp⟩)
    | (rw [hs.vnon px, hs.vint py]; exact ⟨rfl, by simp⟩)
    | (rw [hs.vint px, hs.vnon py]; exact ⟨rfl, by simp⟩)
    | (rw [hs.vnon px, hs.vbl py]; exact ⟨rfl, by simp⟩)
    | (rw [hs.vbl px, hs.vnon py]; exact ⟨rfl, by simp⟩)
    | (rw [hs.vnon px, hs.vstr py]; exact ⟨rfl, by simp⟩)
    | (rw [hs.vstr px, hs.vnon py]; exact ⟨rfl, by simp⟩)
    | (rw [hs.vint px, hs.vstr py]; exact ⟨rfl, by simp⟩)
    | (rw [hs.vstr px, hs.vint py]; exact ⟨rfl, by simp⟩)
    | (rw [hs.vbl px, hs.vstr py]; exact ⟨rfl, by simp⟩)
    | (rw [hs.vstr px, hs.vbl py]; exact ⟨rfl, by simp⟩)
def gEqB (f : Bool → Bool) : G2 := fun x y S K => match scalD x y with
  | some b => K (.bl (f b)) S
  | none => ∃ p q, Py S x p ∧ Py S y q ∧ SeqAt.shaped p = true ∧ SeqAt.shaped q = true ∧ K (.bl (f (PyData.eqv p q))) S
def gEq : G2 := gEqB id
def gNe : G2 := gEqB (!·)
theorem dop_eq {X : Cx} (hu : X.A.units + 64 < cLine) : DOp X (compareOp .Eq) (fun x y H Q => rEq x y H Q ∨ rEqD X.K x y H Q) gEq := ⟨op_eq.or (op_eqD hu), fun {x y dx dy L H S T K Q} hs px py h hq => by
  unfold gEq gEqB at h
  split at h
  · rename_i b e
    obtain ⟨h1, h2⟩ := scalD_ok hs px py e
    exact .inl ⟨h1, by rw [h2]; exact hq.flat hs (d := .bl _) rfl h⟩
  · obtain ⟨p, q, h1, h2, h3, h4, h⟩ := h
    obtain ⟨rho, z⟩ := id hs
    exact .inr ⟨p, q, h1.dp z.node (z.rd _ _ px), h2.dp z.node (z.rd _ _ py), h3, h4, hq.flat hs (d := .bl _) rfl h⟩⟩
theorem dop_ne {X : Cx} (hu : X.A.units + 64 < cLine) : DOp X (compareOp .NotEq) (fun x y H Q => rNe x y H Q ∨ rNeD X.K x y H Q) gNe := ⟨op_ne.or (op_neD hu), fun {x y dx dy L H S T K Q} hs px py h hq => by
  unfold gNe gEqB at h
  split at h
  · rename_i b e
    obtain ⟨h1, h2⟩ := scalD_ok hs px py e
    exact .inl ⟨h1, by rw [h2]; exact hq.flat hs (d := .bl _) rfl h⟩
  · obtain ⟨p, q, h1, h2, h3, h4, h⟩ := h
    obtain ⟨rho, z⟩ := id hs
    exact .inr ⟨p, q, h1.dp z.node (z.rd _ _ px), h2.dp z.node (z.rd _ _ py), h3, h4, hq.flat hs (d := .bl _) rfl h⟩⟩
/-! ### is None -/
def isNonD : Dat → Bool
  | .non => true
  | _ => false
def noRaw : Dat → Bool
  | .raw _ => false
  | _ => true
theorem SR.isNon {H : Hp} {L : LL} {S : Store} {T : List (Addr × HO)} {v : V} {d : Dat} (hs : SR H L S T) (p : L v d) (hr : noRaw d = true) : decide (v = .non) = isNonD d := by
  obtain ⟨rho, x⟩ := hs
  have q := x.rd _ _ p
  cases d with
  | raw w => cases hr
  | non => simp only [RD] at q; subst q; rfl
  | bl b => simp only [RD] at q; subst q; rfl
  | int b => simp only [RD] at q; subst q; rfl
  | str b => simp only [RD] at q; subst q; rfl
  | lst xs => simp only [RD] at q; obtain ⟨a, vs, rfl, _⟩ := q; rfl
  | tup xs => simp only [RD] at q; obtain ⟨a, vs, rfl, _⟩ := q; rfl
  | dct ks xs => simp only [RD] at q; obtain ⟨a, vs, rfl, _⟩ := q; rfl
  | dtt ks xs => simp only [RD] at q; obtain ⟨a, vs, rfl, _⟩ := q; rfl
  | sq ks xs => simp only [RD] at q; obtain ⟨a, rfl, _⟩ := q; rfl
  | ins C ks xs => simp only [RD] at q; obtain ⟨a, dx, vs, rfl, _⟩ := q; rfl
  | xd ks xs => simp only [RD] at q; obtain ⟨a, vs, rfl, _⟩ := q; rfl
  | cell n => simp only [RD] at q; obtain ⟨a, _, rfl⟩ := q; rfl
def gIs (f : Bool → Bool) : G2 := fun x y S K => match y with
  | .non => noRaw x = true ∧ K (.bl (f (isNonD x))) S
  | _ => False
theorem dop_is {X : Cx} : DOp X (compareOp .Is) (fun x y H Q => y = .non ∧ Q (.bl (decide (x = .non))) H) (gIs id) := ⟨op_isN, fun {x y dx dy L H S T K Q} hs px py h hq => by
  unfold gIs at h
  split at h
  · refine ⟨hs.vnon py, ?_⟩
    rw [hs.isNon px h.1]
    exact hq.flat hs (d := .bl _) rfl h.2
  · exact h.elim⟩
theorem dop_isnot {X : Cx} : DOp X (compareOp .IsNot) (fun x y H Q => y = .non ∧ Q (.bl (!decide (x = .non))) H) (gIs (!·)) := ⟨op_notN, fun {x y dx dy L H S T K Q} hs px py h hq => by
  unfold gIs at h
  split at h
  · refine ⟨hs.vnon py, ?_⟩
    rw [hs.isNon px h.1]
    exact hq.flat hs (d := .bl _) rfl h.2
  · exact h.elim⟩
/-! ### in -/
/-- one sign -/
def sgn (c : Nat) : Str := ⟨#[c]⟩
def seqD (S : Store) : Dat → Option (List Dat)
  | .tup xs => some xs
  | .lst xs => some xs
  | .cell n => match S[n]? with
    | some (.lst xs) => some xs
    | _ => none
  | _ => none
theorem SR.seq {H : Hp} {L : LL} {S : Store} {T : List (Addr × HO)} {v : V} {d : Dat} {ds : List Dat} {KF : PySem.W.Frag} (hs : SR H L S T) (p : L v d) (e : seqD S d = some ds) :
    ∃ a vs, v = .ref a ∧ (SqL KF H a vs ∨ SqT KF H a vs) ∧ SR H (LaddL L vs ds) S T ∧ Ls (LaddL L vs ds) vs ds := by
  cases d with
  | tup xs => simp [seqD] at e; subst e; obtain ⟨a, vs, h1, h2, h3⟩ := hs.tuple p; exact ⟨a, vs, h1, .inr (.of h2), h3⟩
  | lst xs => simp [seqD] at e; subst e; obtain ⟨a, vs, h1, h2, h3⟩ := hs.list p rfl; exact ⟨a, vs, h1, .inl (.of h2), h3⟩
  | cell n =>
    have e : (match S[n]? with
      | some (.lst xs) => some xs
      | _ => none) = some ds := e
    cases q : S[n]? with
    | none => rw [q] at e; cases e
    | some c =>
      rw [q] at e
      cases c with
      | lst xs =>
        injection e with e
        subst e
        obtain ⟨a, vs, h1, h2, h3⟩ := hs.list p (ds := xs) q
        exact ⟨a, vs, h1, .inl (.of h2), h3⟩
      | _ => cases e
  | _ => simp [seqD] at e
/-- what «in» asks of the item and a list's flat items, by values -/
def inF (x : Dat) (xs : List Dat) : Option Bool := match flat? x, xs.mapM flat? with
  | some v, some vs => some (inV v vs)
  | _, _ => none
theorem flatV_of {d : Dat} {w : V} (h : flat? d = some w) : flatV w = true := by
  cases d <;> simp [flat?] at h <;> subst h <;> rfl
theorem flatsV_of : ∀ {ds : List Dat} {ws : List V}, ds.mapM flat? = some ws → ws.all flatV = true
  | [], ws, h => by simp at h; subst h; rfl
  | d :: ds, ws, h => by
    rw [List.mapM_cons] at h
    cases e1 : flat? d with
    | none => rw [e1] at h; cases h
    | some w =>
      cases e2 : ds.mapM flat? with
      | none => rw [e1, e2] at h; cases h
      | some us =>
        rw [e1, e2] at h
        injection h with h
        subst h
        rw [List.all_cons, flatV_of e1, flatsV_of e2]
        rfl
def gIn (f : Bool → Bool) : G2 := fun x y S K => match x, y with
  | .str a, .str z => ∃ c, a = sgn c ∧ K (.bl (f (decide (c ∈ z.cps.toList)))) S
  | x, y => ∃ xs b, seqD S y = some xs ∧ inF x xs = some b ∧ K (.bl (f b)) S
theorem in_imp {x y : V} {dx dy : Dat} {L : LL} {H : Hp} {S : Store} {T : List (Addr × HO)} {K : KE} {Q : VK} {xs : List Dat} {b neg : Bool} {KF : PySem.W.Frag} (hs : SR H L S T) (px : L x dx) (py : L y dy) (e1 : seqD S dy = some xs) (e2 : inF dx xs = some b)
    (h : K (.bl (if neg then !b else b)) S) (hq : EOk L T K Q) : rIn KF neg x y H Q := by
  obtain ⟨a, vs, rfl, h1, s1, p1⟩ := hs.seq (KF := KF) py e1
  unfold inF at e2
  cases f1 : flat? dx with
  | none => rw [f1] at e2; cases e2
  | some w =>
    cases f2 : xs.mapM flat? with
    | none => rw [f1, f2] at e2; cases e2
    | some ws =>
      rw [f1, f2] at e2
      injection e2 with e2
      have ev : vs = ws := p1.flats s1 f2
      subst ev
      rw [hs.vflat f1 px]
      refine ⟨a, vs, rfl, h1, flatV_of f1, flatsV_of f2, ?_⟩
      rw [e2]
      exact hq.flat hs (d := .bl _) rfl h
def rInG (K : PySem.W.Frag) (neg : Bool) : R2 := fun x y H Q => (∃ (c : Nat) (z : Str), x = .str ⟨#[c]⟩ ∧ y = .str z ∧ Q (.bl (if neg then !decide (c ∈ z.cps.toList) else decide (c ∈ z.cps.toList))) H) ∨ rIn K neg x y H Q
theorem dop_in {X : Cx} : DOp X (compareOp .In) (rInG X.K false) (gIn id) := ⟨(show OpR X (compareOp .In) (fun x y H Q => (∃ (c : Nat) (z : Str), x = .str ⟨#[c]⟩ ∧ y = .str z ∧ Q (.bl (decide (c ∈ z.cps.toList))) H) ∨ rIn X.K false x y H Q) from op_in_sign.or op_in_seq), fun {x y dx dy L H S T K Q} hs px py h hq => by
  unfold gIn at h
  split at h
  · obtain ⟨c, rfl, h⟩ := h
    exact .inl ⟨c, _, hs.vstr px, hs.vstr py, hq.flat hs (d := .bl _) rfl h⟩
  · obtain ⟨xs, b, e1, e2, h⟩ := h
    exact .inr (in_imp hs px py e1 e2 h hq)⟩
theorem dop_notin {X : Cx} : DOp X (compareOp .NotIn) (rInG X.K true) (gIn (!·)) := ⟨(show OpR X (compareOp .NotIn) (fun x y H Q => (∃ (c : Nat) (z : Str), x = .str ⟨#[c]⟩ ∧ y = .str z ∧ Q (.bl (!decide (c ∈ z.cps.toList))) H) ∨ rIn X.K true x y H Q) from op_notIn_sign.or op_notIn_seq), fun {x y dx dy L H S T K Q} hs px py h hq => by
  unfold gIn at h
  split at h
  · obtain ⟨c, rfl, h⟩ := h
    exact .inl ⟨c, _, hs.vstr px, hs.vstr py, hq.flat hs (d := .bl _) rfl h⟩
  · obtain ⟨xs, b, e1, e2, h⟩ := h
    exact .inr (in_imp hs px py e1 e2 h hq)⟩
/-! ### subscripts, slices -/
def gIx : G2 := fun x y S K => match x, y with
  | .str z, .int i => z.length ≤ sizeLine ∧ ∃ c, atI z.cps.toList i = some c ∧ K (.str (sgn c)) S
  | x, .int i => ∃ xs d, seqD S x = some xs ∧ atI xs i = some d ∧ K d S
  | _, _ => False
theorem atI_ls {L : LL} {vs : List V} {ds : List Dat} {i : Int} {d : Dat} (p : Ls L vs ds) (h : atI ds i = some d) : ∃ v, atI vs i = some v ∧ L v d := by
  unfold atI at h ⊢
  rw [p.length]
  cases e : ixN ds.length i with
  | none => rw [e] at h; cases h
  | some j =>
    rw [e] at h
    obtain ⟨v, h1, h2⟩ := p.get (i := j) (d := d) h
    exact ⟨v, h1, h2⟩
theorem ix_imp {KF : PySem.W.Frag} : OpI (rIx KF) gIx := fun {x y dx dy L H S T K Q} hs px py h hq => by
  unfold gIx at h
  split at h
  · obtain ⟨h1, c, h2, h⟩ := h
    exact .inr (.inr ⟨_, _, c, hs.vstr px, hs.vint py, h1, h2, hq.flat hs (d := .str _) rfl h⟩)
  · obtain ⟨xs, d, e1, e2, h⟩ := h
    obtain ⟨a, vs, rfl, h1, s1, p1⟩ := hs.seq (KF := KF) px e1
    obtain ⟨v, h2, h3⟩ := atI_ls p1 e2
    rcases h1 with h1 | h1
    · exact .inl ⟨a, vs, _, v, rfl, hs.vint py, h1, h2, hq _ _ _ _ S LaddL.le h3 s1 h⟩
    · exact .inr (.inl ⟨a, vs, _, v, rfl, hs.vint py, h1, h2, hq _ _ _ _ S LaddL.le h3 s1 h⟩)
  · exact h.elim
section
variable {X : Cx} {W : WX} {a b : Expr} {ta tb : TE} {ua ub : UE} {pos : Pos}
theorem de_ix (ha : DE X W a ta ua) (hb : DE X W b tb ub) (hs : PlainIx b := by exact fun _ _ => rfl) : DE X W (.Subscript a b pos) (tOp (rIx X.K) ta tb) (uOp gIx ua ub) := ⟨pe_ix ix_seq ha.run hb.run hs, imp_op ix_imp ha.imp hb.imp⟩
/-- a slice's part -/
abbrev UO := Env' → Store → (Option Int → Store → Prop) → KX → Prop
def ImpO (W : WX) (t : TO) (u : UO) : Prop := ∀ {sg dl L H S T K X Q}, EnvIn sg dl L → SR H L S T → u dl S K X → (∀ o L' H' S', Lle L L' → SR H' L' S' T → K o S' → Q o H') → XOk W sg L T X → t sg H Q
structure DO (X : Cx) (W : WX) (e : Option Expr) (t : TO) (u : UO) : Prop where
  run : PO X e t
  imp : ImpO W t u
def uNo : UO := fun _ S K _ => K none S
def uPart (ua : UE) : UO := fun dl S K X => ua dl S (fun d S1 => match d with
  | .int i => K (some i) S1
  | _ => False) X
theorem do_none : DO X W none tNoPart uNo := ⟨po_none, fun {sg dl L H S T K X Q} _ hs h hq _ => hq none L H S (.refl L) hs h⟩
theorem do_some (ha : DE X W a ta ua) : DO X W (some a) (tPart ta) (uPart ua) := ⟨po_some ha.run, fun {sg dl L H S T K X Q} he hs h hq hx => ha.imp he hs h (fun v d L1 H1 S1 l1 p1 s1 h1 => by
  cases d with
  | int i => exact ⟨i, s1.vint p1, hq _ L1 H1 S1 l1 s1 h1⟩
  | _ => exact h1.elim) hx⟩
def cutD (xs : List Dat) (lo hi : Option Int) : List Dat := (xs.drop (HT.sIx xs.length 0 lo)).take (HT.sIx xs.length xs.length hi - HT.sIx xs.length 0 lo)
theorem Ls.drop {L : LL} : ∀ {vs : List V} {ds : List Dat} (n : Nat), Ls L vs ds → Ls L (vs.drop n) (ds.drop n)
  | _, _, 0, h => h
  | [], [], n + 1, _ => True.intro
  | v :: vs, d :: ds, n + 1, h => Ls.drop n h.2
  | [], _ :: _, _ + 1, h => h.elim
  | _ :: _, [], _ + 1, h => h.elim
theorem Ls.take {L : LL} : ∀ {vs : List V} {ds : List Dat} (n : Nat), Ls L vs ds → Ls L (vs.take n) (ds.take n)
  | _, _, 0, h => by simp [Ls]
  | [], [], n + 1, _ => True.intro
  | v :: vs, d :: ds, n + 1, h => ⟨h.1, Ls.take n h.2⟩
  | [], _ :: _, _ + 1, h => h.elim
  | _ :: _, [], _ + 1, h => h.elim
theorem Ls.cut {L : LL} {vs : List V} {ds : List Dat} {lo hi : Option Int} (h : Ls L vs ds) : Ls L (cutV vs lo hi) (cutD ds lo hi) := by
  unfold cutV cutD
  rw [h.length]
  exact Ls.take _ (Ls.drop _ h)
def gSl (x : Dat) (lo hi : Option Int) (S : Store) (K : KE) : Prop := match x with
  | .str z => z.length ≤ sizeLine ∧ K (.str (cutS z lo hi)) S
  | .tup xs => K (.tup (cutD xs lo hi)) S
  | x => match view S x with
    | some (.lst xs) => K (.lst (cutD xs lo hi)) S
    | _ => False
def uSl (ua : UE) (ul uh : UO) : UE := fun dl S K X => ua dl S (fun d S1 => ul dl S1 (fun l S2 => uh dl S2 (fun h S3 => gSl d l h S3 K) X) X) X
/-- of the script alone -/
def uSlQ (KF : PySem.W.Frag) (ua : UE) (ul uh : UO) : UE := fun dl S K X => ua dl S (fun d S1 => ul dl S1 (fun l S2 => uh dl S2 (fun h S3 => ∃ (ns ms : List Int), d = .sq KF ns ∧ cutV (ns.map V.int) l h = ms.map V.int ∧ K (.lst (ms.map .int)) S3) X) X) X
theorem sq_at {H : Hp} {L : LL} {S : Store} {T : List (Addr × HO)} {v : V} {K' : PySem.W.Frag} {ns : List Int} (hs : SR H L S T) (p : L v (.sq K' ns)) : ∃ a, v = .ref a ∧ SqL K' H a (ns.map V.int) := by
  obtain ⟨rho, x⟩ := hs
  have q := x.rd _ _ p
  simp only [RD] at q
  obtain ⟨a, rfl, q⟩ := q
  refine ⟨a, rfl, ?_⟩
  rcases q with ⟨_, q⟩ | q
  · exact .inl q
  · rcases q with q | q
    · rcases q with q | ⟨o, q⟩ <;> cases q
    · exact .inr q
theorem Ls.flatI {L : LL} {H : Hp} {S : Store} {T : List (Addr × HO)} (s : SR H L S T) : ∀ ns : List Int, ∃ L', Lle L L' ∧ Ls L' (ns.map V.int) (ns.map Dat.int) ∧ SR H L' S T := fun ns => s.flats (by
    induction ns with
    | nil => trivial
    | cons n ns ih => exact ⟨rfl, ih⟩)
def rSlG (K' : PySem.W.Frag) : V → Option Int → Option Int → Hp → VK → Prop := fun x lo hi H Q => rSlL K' x lo hi H Q ∨ rSlS x lo hi H Q ∨ rSlA K' x lo hi H Q
theorem cutV_ints (ns : List Int) (lo hi : Option Int) : ∃ ms : List Int, cutV (ns.map V.int) lo hi = ms.map V.int := by
  unfold cutV
  rw [← List.map_drop, ← List.map_take]
  exact ⟨_, rfl⟩
theorem sl_imp {L : LL} {H : Hp} {S : Store} {T : List (Addr × HO)} {x : V} {d : Dat} {lo hi : Option Int} {K : KE} {Q : VK} {KF : PySem.W.Frag} (hs : SR H L S T) (p : L x d) (h : gSl d lo hi S K) (hq : EOk L T K Q) : rSlG KF x lo hi H Q := by
  unfold gSl at h
  split at h
  · exact .inr (.inl ⟨_, hs.vstr p, h.1, hq.flat hs (d := .str _) rfl h.2⟩)
  · obtain ⟨a, vs, rfl, h1, s1, p1⟩ := hs.tuple p
    refine .inr (.inr ⟨a, vs, rfl, .of h1, fun e => ?_, fun _ q hp => hq _ _ _ _ S (LaddL.le.trans Ladd.le) Ladd.here (s1.tup hp p1.cut) h⟩)
    have e2 : ∀ zs : List Dat, vs.length = zs.length → cutD zs lo hi = zs := fun zs q => by
      unfold cutD
      rw [← q, e.1, e.2]
      simp [q]
    rw [e2 _ p1.length] at h
    exact hq _ _ _ _ S (.refl L) p hs h
  · split at h
    · rename_i xs e
      obtain ⟨a, vs, rfl, h1, s1, p1⟩ := hs.list p e
      exact .inl ⟨a, vs, rfl, .of h1, fun q hp => hq _ _ _ _ S (LaddL.le.trans Ladd.le) Ladd.here (s1.lst hp p1.cut) h⟩
    · exact h.elim
theorem de_sl {lo hi : Option Expr} {tl th : TO} {ul uh : UO} {p2 : Pos} (ha : DE X W a ta ua) (hl : DO X W lo tl ul) (hh : DO X W hi th uh) : DE X W (.Subscript a (.Slice lo hi none p2) pos) (tSl (rSlG X.K) ta tl th) (uSl ua ul uh) :=
  ⟨pe_slice (sl_list.or (sl_str.or sl_tupA)) ha.run hl.run hh.run, fun {sg dl L H S T K X' Q} he hs h hq hx =>
    ha.imp he hs h (fun v d L1 H1 S1 l1 p1 s1 h1 => hl.imp (he.le l1) s1 h1 (fun l L2 H2 S2 l2 s2 h2 => hh.imp ((he.le l1).le l2) s2 h2 (fun h L3 H3 S3 l3 s3 h3 => sl_imp s3 (l3 _ _ (l2 _ _ p1)) h3 (hq.le ((l1.trans l2).trans l3))) (hx.le (l1.trans l2))) (hx.le l1)) hx⟩
theorem de_slQ {lo hi : Option Expr} {tl th : TO} {ul uh : UO} {p2 : Pos} (ha : DE X W a ta ua) (hl : DO X W lo tl ul) (hh : DO X W hi th uh) : DE X W (.Subscript a (.Slice lo hi none p2) pos) (tSl (rSlL X.K) ta tl th) (uSlQ X.K ua ul uh) :=
  ⟨pe_slice sl_list ha.run hl.run hh.run, fun {sg dl L H S T K X' Q} he hs h hq hx =>
    ha.imp he hs h (fun v d L1 H1 S1 l1 p1 s1 h1 => hl.imp (he.le l1) s1 h1 (fun l L2 H2 S2 l2 s2 h2 => hh.imp ((he.le l1).le l2) s2 h2 (fun h L3 H3 S3 l3 s3 h3 => by
      obtain ⟨ns, ms, rfl, em, h3⟩ := h3
      obtain ⟨a, rfl, hq'⟩ := sq_at s3 (l3 _ _ (l2 _ _ p1))
      obtain ⟨L4, l4, p4, s4⟩ := Ls.flatI s3 ms
      exact ⟨a, _, rfl, hq', fun q hp => by rw [em]; exact hq _ _ _ _ S3 ((((l1.trans l2).trans l3).trans l4).trans Ladd.le) Ladd.here (s4.lst hp p4) h3⟩) (hx.le (l1.trans l2))) (hx.le l1)) hx⟩
end
end DL
/-! DL6: built-ins and methods over data. -/
namespace DL
open PySem L2
structure DCb (X : Cx) (f : Value) (r : List V → Hp → VK → Prop) (g : GL) : Prop where
  run : CallR X f r
  imp : CbI r g
section
variable {X : Cx} {W : WX} {e : Expr} {es : List Expr} {t : TA} {u : UA} {r : List V → Hp → VK → Prop} {g : GL} {x : Str} {id T : String} {p pos : Pos}
theorem imp_cb (hc : CbI r g) (ha : ImpA W t u) : ImpE W (tCB r t) (uCB g u) := fun {sg dl L H S T K X Q} he hs h hq hx => ha he hs h (fun vs ds L1 H1 S1 l1 p1 s1 h1 => hc s1 p1 h1 (hq.le l1)) hx
theorem de_callB (hc : DCb X (.builtin id) r g) (hm : X.mg x = none) (ha : DA X W (e :: es) t u) (hg : Gl X x := by rfl) (hv : bootBuiltins x = some (.builtin id) := by decide +kernel) (hn : x ≠ "__name__" := by decide) (hdb : (x == ("__debug__" : Str)) = false := by decide)
    (he : starEach (e :: es) X.env = (false, eval e X.env) :: starEach es X.env := by rfl) (hpl : (backTo pos (starEach es X.env)).any (·.1) = false := by rfl) :
    DE X W (.Call (.Name x p) (e :: es) [] pos) (tCB r t) (uCB g u) := ⟨pe_callB hc.run hg hm hv ha.run hn hdb he hpl, imp_cb hc.imp ha.imp⟩
theorem de_callT (hc : DCb X (.type T) r g) (hm : X.mg x = none) (ha : DA X W (e :: es) t u) (hg : Gl X x := by rfl) (hv : bootBuiltins x = some (.type T) := by decide +kernel) (hn : x ≠ "__name__" := by decide) (hdb : (x == ("__debug__" : Str)) = false := by decide)
    (he : starEach (e :: es) X.env = (false, eval e X.env) :: starEach es X.env := by rfl) (hpl : (backTo pos (starEach es X.env)).any (·.1) = false := by rfl) :
    DE X W (.Call (.Name x p) (e :: es) [] pos) (tCB r t) (uCB g u) := ⟨pe_callTy hc.run hg hm hv ha.run hn hdb he hpl, imp_cb hc.imp ha.imp⟩
/-- a built-in class as a value -/
theorem de_ty {T : String} (hm : X.mg x = none) (hg : Gl X x := by rfl) (hv : bootBuiltins x = some (.type T) := by decide +kernel) (hn : x ≠ "__name__" := by decide) (hd : (x == ("__debug__" : Str)) = false := by decide) : DE X W (.Name x pos) (tC (.ty T)) (uC (.raw (.ty T))) := ⟨pe_bltn hg hm hv rfl hn hd, imp_c (d := .raw (.ty T)) (v := .ty T) rfl⟩
/-- a class, a def of the text as a value -/
theorem de_own {a : Addr} (hm : X.mg x = some (.ref a)) (hg : Gl X x := by rfl) (hd : (x == ("__debug__" : Str)) = false := by decide) : DE X W (.Name x pos) (tC (.ref a)) (uC (.raw (.ref a))) := ⟨pe_glob hg hm rfl hd, imp_c (d := .raw (.ref a)) (v := .ref a) rfl⟩
end
/-! ### len, int, str, abs -/
def gLen : GL := fun ds S K => match ds with
  | [.str z] => z.length ≤ sizeLine ∧ K (.int z.length) S
  | [d] => ∃ xs, seqD S d = some xs ∧ K (.int xs.length) S
  | _ => False
theorem dcb_len {X : Cx} : DCb X (.builtin "len") (fun xs H Q => ∃ x n, xs = [x] ∧ LenV X.K x H n ∧ Q (.int n) H) gLen := ⟨call_len, fun {xs ds L H S T K Q} hs p h hq => by
  unfold gLen at h
  split at h
  · obtain ⟨v, rfl, pv⟩ := p.one
    rw [hs.vstr pv]
    exact ⟨_, _, rfl, ⟨h.1, rfl⟩, hq.flat hs (d := .int _) rfl h.2⟩
  · obtain ⟨v, rfl, pv⟩ := p.one
    obtain ⟨ys, e, h⟩ := h
    obtain ⟨a, vs, rfl, h1, s1, p1⟩ := hs.seq (KF := X.K) pv e
    refine ⟨_, ys.length, rfl, ?_, hq.flat hs (d := .int _) rfl h⟩
    rcases h1 with h1 | h1
    · exact .inl ⟨vs, h1, p1.length.symm⟩
    · exact .inr ⟨vs, h1, p1.length.symm⟩
  · exact h.elim⟩
def gInt1 : GL := fun ds S K => match ds with
  | [.int i] => K (.int i) S
  | [.bl b] => K (.int (if b then 1 else 0)) S
  | [.str a] => ∃ n, PySem.intText? a = some n ∧ a.length ≤ 640 ∧ K (.int n) S
  | _ => False
theorem CallR.or {X : Cx} {f : Value} {r r' : List V → Hp → VK → Prop} (h : CallR X f r) (h' : CallR X f r') : CallR X f (fun xs H Q => r xs H Q ∨ r' xs H Q) := by
  intro pins s sg H xs us Q I r q
  rcases q with q | q
  · exact h pins s sg H xs us Q I r q
  · exact h' pins s sg H xs us Q I r q
theorem dcb_int {X : Cx} : DCb X (.type "int") (fun xs H Q => ((∃ i, xs = [.int i] ∧ Q (.int i) H) ∨ ∃ k, xs = [.bl k] ∧ Q (.int (if k then 1 else 0)) H) ∨ ∃ a n, xs = [.str a] ∧ PySem.intText? a = some n ∧ a.length ≤ 640 ∧ Q (.int n) H) gInt1 := ⟨CallR.or call_int1 call_int_str, fun {xs ds L H S T K Q} hs p h hq => by
  unfold gInt1 at h
  split at h
  · obtain ⟨v, rfl, pv⟩ := p.one
    rw [hs.vint pv]
    exact .inl (.inl ⟨_, rfl, hq.flat hs (d := .int _) rfl h⟩)
  · obtain ⟨v, rfl, pv⟩ := p.one
    rw [hs.vbl pv]
    exact .inl (.inr ⟨_, rfl, hq.flat hs (d := .int _) rfl h⟩)
  · obtain ⟨v, rfl, pv⟩ := p.one
    obtain ⟨n, h1, h2, h⟩ := h
    rw [hs.vstr pv]
    exact .inr ⟨_, n, rfl, h1, h2, hq.flat hs (d := .int _) rfl h⟩
  · exact h.elim⟩
def gStr1 : GL := fun ds S K => match ds with
  | [.int i] => i.natAbs.log2 < 1920 ∧ K (.str (toString i)) S
  | _ => False
theorem dcb_str {X : Cx} : DCb X (.type "str") (fun xs H Q => ∃ i, xs = [.int i] ∧ i.natAbs.log2 < 1920 ∧ Q (.str (toString i)) H) gStr1 := ⟨call_str_int, fun {xs ds L H S T K Q} hs p h hq => by
  unfold gStr1 at h
  split at h
  · obtain ⟨v, rfl, pv⟩ := p.one
    rw [hs.vint pv]
    exact ⟨_, rfl, h.1, hq.flat hs (d := .str _) rfl h.2⟩
  · exact h.elim⟩
def gAbs : GL := fun ds S K => match ds with
  | [.int i] => K (.int (if i < 0 then -i else i)) S
  | _ => False
theorem dcb_abs {X : Cx} : DCb X (.builtin "abs") (fun xs H Q => ∃ i, xs = [.int i] ∧ Q (.int (if i < 0 then -i else i)) H) gAbs := ⟨call_abs, fun {xs ds L H S T K Q} hs p h hq => by
  unfold gAbs at h
  split at h
  · obtain ⟨v, rfl, pv⟩ := p.one
    rw [hs.vint pv]
    exact ⟨_, rfl, hq.flat hs (d := .int _) rfl h⟩
  · exact h.elim⟩
/-! ### isinstance -/
def tyS (S : Store) : Dat → Option String
  | .non => some "NoneType" | .bl _ => some "bool" | .int _ => some "int" | .str _ => some "str"
  | .lst _ => some "list" | .tup _ => some "tuple"
  | .cell n => match S[n]? with
    | some (.lst _) => some "list"
    | some (.dct _ _) => some "dict"
    | _ => none
  | _ => none
def isB (t u : String) : Bool := t == u || (t == "bool" && u == "int")
def tyNames : List String := ["NoneType", "bool", "int", "str", "list", "tuple", "dict"]
theorem isB_ok {t u : String} (h : t ∈ tyNames) (k : u ∈ tyNames) : kitB t u = some (isB t u) := by
  have : tyNames.all (fun t => tyNames.all fun u => decide (kitB t u = some (isB t u))) = true := by decide +kernel
  exact of_decide_eq_true (List.all_eq_true.mp (List.all_eq_true.mp this t h) u k)
/-- what isinstance asks of an own class -/
structure InsTy (K : PySem.W.Frag) (C : Addr) : Prop where
  cl : Cls K C
  ha : PySem.W.findIn K (.ref C) "__class__" = some (some (.builtin "object.__class__"))
  hn : PySem.W.specialIn K (.builtin "object.__class__") "__get__" = some (some (.builtin "getset_descriptor.__get__"))
  htk : PySem.W.takesIn K (.builtin "object.__class__") = some true
  hm : PySem.W.mroIn K C (.type "object") = some true
def insC (S : Store) : Dat → Option Addr
  | .ins C _ _ => some C
  | .cell n => match S[n]? with
    | some (.ins C _ _) => some C
    | _ => none
  | _ => none
def clsV : Dat → Option Value
  | .raw (.ty n) => some (.type n)
  | .raw (.ref C) => some (.ref C)
  | _ => none
def isOne (KF : PySem.W.Frag) (S : Store) (d c : Dat) (b : Bool) : Prop := match tyS S d, c with
  | some t, .raw (.ty u) => u ∈ tyNames ∧ b = isB t u
  | some t, .raw (.ref C) => PySem.W.kitOne KF (.type t) (.ref C) = some b
  | none, c => ∃ C u, insC S d = some C ∧ InsTy KF C ∧ clsV c = some u ∧ PySem.W.kitOne KF (.ref C) u = some b
  | _, _ => False
/-- the answer for several classes -/
def isAny (KF : PySem.W.Frag) (S : Store) (d : Dat) : List Dat → Bool → Prop
  | [], b => b = false
  | c :: cs, b => ∃ k, isOne KF S d c k ∧ (k = true → b = true) ∧ (k = false → isAny KF S d cs b)
def gIsi (KF : PySem.W.Frag) : GL := fun ds S K => match ds with
  | [d, .tup (c :: cs)] => (c :: cs).all (fun c => (clsV c).isSome) = true ∧ ∃ b, isAny KF S d (c :: cs) b ∧ K (.bl b) S
  | [d, c] => ∃ b, isOne KF S d c b ∧ K (.bl b) S
  | _ => False
section
variable {KF : PySem.W.Frag} {H : Hp} {L : LL} {S : Store} {T : List (Addr × HO)} {v : V} {d c : Dat}
theorem tyS_ok (hs : SR H L S T) (p : L v d) {t : String} (h : tyS S d = some t) : TyX KF H v (.type t) ∧ t ∈ tyNames := by
  cases d with
  | non => simp [tyS] at h; subst h; rw [hs.vnon p]; exact ⟨.base .non, by decide⟩
  | bl b => simp [tyS] at h; subst h; rw [hs.vbl p]; exact ⟨.base (.bl _), by decide⟩
  | int b => simp [tyS] at h; subst h; rw [hs.vint p]; exact ⟨.base (.int _), by decide⟩
  | str b => simp [tyS] at h; subst h; rw [hs.vstr p]; exact ⟨.base (.str _), by decide⟩
  | lst xs => simp [tyS] at h; subst h; obtain ⟨a, vs, rfl, e, _⟩ := hs.list p rfl; exact ⟨.base (.lst e), by decide⟩
  | tup xs => simp [tyS] at h; subst h; obtain ⟨a, vs, rfl, e, _⟩ := hs.tuple p; exact ⟨.base (.tup e), by decide⟩
  | cell n =>
    have h : (match S[n]? with
      | some (.lst _) => some "list"
      | some (.dct _ _) => some "dict"
      | _ => none) = some t := h
    cases q : S[n]? with
    | none => rw [q] at h; cases h
    | some c =>
      rw [q] at h
      cases c with
      | lst xs =>
        injection h with h
        subst h
        obtain ⟨a, vs, rfl, e, _⟩ := hs.list (d := .cell n) (ds := xs) p q
        exact ⟨.base (.lst e), by decide⟩
      | dct ks xs =>
        injection h with h
        subst h
        obtain ⟨rho, x⟩ := hs
        obtain ⟨a, ha, rfl⟩ := x.at_ p
        obtain ⟨vs, e, _⟩ := x.node n a _ ha q
        exact ⟨.base (.dK e), by decide⟩
      | _ => cases h
  | _ => simp [tyS] at h
theorem insC_ok (hs : SR H L S T) (p : L v d) {C : Addr} (h : insC S d = some C) (I : InsTy KF C) : TyX KF H v (.ref C) := by
  obtain ⟨rho, x⟩ := hs
  cases d with
  | ins D ns xs =>
    simp [insC] at h
    subst h
    have q := x.rd _ _ p
    simp only [RD] at q
    obtain ⟨a, dx, vs, rfl, _, e, _⟩ := q
    exact .base (.ins e I.cl I.ha I.hn I.htk I.hm)
  | cell n =>
    have h : (match S[n]? with
      | some (.ins C _ _) => some C
      | _ => none) = some C := h
    cases q : S[n]? with
    | none => rw [q] at h; cases h
    | some c =>
      rw [q] at h
      cases c with
      | ins D ns xs =>
        injection h with h
        subst h
        obtain ⟨a, ha, rfl⟩ := x.at_ p
        obtain ⟨dx, vs, e, _⟩ := x.node n a _ ha q
        exact .base (.ins e I.cl I.ha I.hn I.htk I.hm)
      | _ => cases h
  | _ => simp [insC] at h
theorem clsV_ok (hs : SR H L S T) (p : L v c) {u : Value} (h : clsV c = some u) : ClsV v u := by
  obtain ⟨rho, x⟩ := hs
  have q := x.rd _ _ p
  cases c with
  | raw w =>
    simp only [RD] at q
    subst q
    cases v with
    | ty n => simp [clsV] at h; subst h; exact .ty n
    | ref C => simp [clsV] at h; subst h; exact .own C
    | _ => simp [clsV] at h
  | _ => simp [clsV] at h
theorem isOne_ok (hs : SR H L S T) (p : L v d) {b : Bool} (h : isOne KF S d c b) : ∃ t u, TyX KF H v t ∧ clsV c = some u ∧ PySem.W.kitOne KF t u = some b := by
  unfold isOne at h
  split at h
  · rename_i t u e
    obtain ⟨h1, h2⟩ := tyS_ok (KF := KF) hs p e
    refine ⟨_, _, h1, rfl, ?_⟩
    rw [h.2]
    exact kit_ty (isB_ok h2 h.1)
  · rename_i t C e
    obtain ⟨h1, h2⟩ := tyS_ok (KF := KF) hs p e
    exact ⟨_, _, h1, rfl, h⟩
  · obtain ⟨C, u, h1, h2, h3, h4⟩ := h
    exact ⟨_, u, insC_ok hs p h1 h2, h3, h4⟩
  · exact h.elim
theorem isOne_ty (hs : SR H L S T) (p : L v d) : ∃ t, ∀ c b, isOne KF S d c b → TyX KF H v t ∧ ∃ u, clsV c = some u ∧ PySem.W.kitOne KF t u = some b := by
  cases e : tyS S d with
  | some t =>
    obtain ⟨h1, h2⟩ := tyS_ok (KF := KF) hs p e
    refine ⟨.type t, fun c b h => ⟨h1, ?_⟩⟩
    unfold isOne at h
    rw [e] at h
    split at h
    · rename_i t' u e'
      injection e' with e'
      subst e'
      refine ⟨_, rfl, ?_⟩
      rw [h.2]
      exact kit_ty (isB_ok h2 h.1)
    · rename_i t' C e'
      injection e' with e'
      subst e'
      exact ⟨_, rfl, h⟩
    · rename_i e'; cases e'
    · exact h.elim
  | none =>
    cases e2 : insC S d with
    | none =>
      refine ⟨.none, fun c b h => ?_⟩
      unfold isOne at h
      rw [e] at h
      obtain ⟨C, u, h1, _⟩ := h
      rw [e2] at h1
      cases h1
    | some C =>
      refine ⟨.ref C, fun c b h => ?_⟩
      unfold isOne at h
      rw [e] at h
      obtain ⟨C', u, h1, h2, h3, h4⟩ := h
      rw [e2] at h1
      injection h1 with h1
      subst h1
      exact ⟨insC_ok hs p e2 h2, u, h3, h4⟩
end
theorem clss_ok {KF : PySem.W.Frag} {H : Hp} {L : LL} {S : Store} {T : List (Addr × HO)} (hs : SR H L S T) : ∀ {cs : List Dat} {ws : List V}, Ls L ws cs → cs.all (fun c => (clsV c).isSome) = true → ∃ us, Paired ClsV ws us
  | [], [], _, _ => ⟨[], .nil⟩
  | c :: cs, w :: ws, q, ha => by
    rw [List.all_cons, Bool.and_eq_true] at ha
    obtain ⟨us, hus⟩ := clss_ok (KF := KF) hs q.2 ha.2
    obtain ⟨u, hu⟩ := Option.isSome_iff_exists.mp ha.1
    exact ⟨u :: us, .cons (clsV_ok hs q.1 hu) hus⟩
  | [], _ :: _, q, _ => q.elim
  | _ :: _, [], q, _ => q.elim
theorem isAny_ok {KF : PySem.W.Frag} {H : Hp} {L : LL} {S : Store} {T : List (Addr × HO)} {d : Dat} {t : Value} (hs : SR H L S T) (ht : ∀ c b, isOne KF S d c b → ∃ u, clsV c = some u ∧ PySem.W.kitOne KF t u = some b) :
    ∀ {cs : List Dat} {ws : List V} {b : Bool}, Ls L ws cs → cs.all (fun c => (clsV c).isSome) = true → isAny KF S d cs b → ∃ us, Paired ClsV ws us ∧ PySem.W.kitAny KF t us = some b
  | [], [], b, _, _, hb => ⟨[], .nil, by rw [show b = false from hb]; rfl⟩
  | c :: cs, w :: ws, b, q, ha, hb => by
    obtain ⟨k, hk, h1, h2⟩ := hb
    obtain ⟨u, hu, e⟩ := ht c k hk
    rw [List.all_cons, Bool.and_eq_true] at ha
    cases k with
    | true =>
      obtain ⟨us, hus⟩ := clss_ok (KF := KF) hs q.2 ha.2
      refine ⟨u :: us, .cons (clsV_ok hs q.1 hu) hus, ?_⟩
      rw [h1 rfl]
      exact kitAny_cons e (fun z => by cases z) (fun _ => rfl)
    | false =>
      obtain ⟨us, hus, eus⟩ := isAny_ok hs ht q.2 ha.2 (h2 rfl)
      exact ⟨u :: us, .cons (clsV_ok hs q.1 hu) hus, kitAny_cons e (fun _ => eus) (fun z => by cases z)⟩
  | [], _ :: _, _, q, _, _ => q.elim
  | _ :: _, [], _, q, _, _ => q.elim
def rIsiG (K : PySem.W.Frag) : List V → Hp → VK → Prop := fun xs H Q => rIsi K xs H Q ∨ rIsiT K xs H Q
theorem dcb_isi {X : Cx} : DCb X (.builtin "isinstance") (rIsiG X.K) (gIsi X.K) := ⟨CallR.or call_isi call_isiT, fun {xs ds L H S T K Q} hs p h hq => by
  unfold gIsi at h
  split at h
  · rename_i d c cs
    obtain ⟨v, w, rfl, pv, pw⟩ := p.two
    obtain ⟨hall, b, h1, h2⟩ := h
    obtain ⟨tp, ws, rfl, eT, s1, p1⟩ := hs.tuple pw
    obtain ⟨t, ht⟩ := isOne_ty (KF := X.K) hs pv
    obtain ⟨us, hus, eus⟩ := isAny_ok (KF := X.K) s1 (fun c b h => (ht c b h).2) p1 hall h1
    obtain ⟨k, hk, _⟩ := h1
    exact .inr ⟨v, tp, ws, t, us, b, rfl, eT, hus, (ht c k hk).1, eus, hq.flat hs (d := .bl _) rfl h2⟩
  · rename_i d c _
    obtain ⟨v, w, rfl, pv, pw⟩ := p.two
    obtain ⟨b, h1, h2⟩ := h
    obtain ⟨t, u, h3, h4, h5⟩ := isOne_ok hs pv h1
    exact .inl ⟨v, w, t, u, b, rfl, clsV_ok hs pw h4, h3, h5, hq.flat hs (d := .bl _) rfl h2⟩
  · exact h.elim⟩
/-! ### list, tuple, all, any, sorted -/
def gList (fin : List Dat → Store → KE → Prop) : GL := fun ds S K => match ds with
  | [d] => ∃ xs, seqD S d = some xs ∧ fin xs S K
  | _ => False
def gListT : GL := gList fun xs S K => K (.lst xs) S
def gListC : GL := gList fun xs S K => K (.cell S.length) (S ++ [.lst xs])
section
variable {X : Cx}
theorem dcb_list : DCb X (.type "list") (fun xs H Q => ∃ p ys, xs = [.ref p] ∧ (SqL X.K H p ys ∨ SqT X.K H p ys) ∧ ∀ l, H l = none → Q (.ref l) (upd H l (.lst ys))) gListT := ⟨call_list_of, fun {xs ds L H S T K Q} hs p h hq => by
  unfold gListT gList at h
  split at h
  · obtain ⟨v, rfl, pv⟩ := p.one
    obtain ⟨ys, e, h⟩ := h
    obtain ⟨a, vs, rfl, h1, s1, p1⟩ := hs.seq (KF := X.K) pv e
    exact ⟨a, vs, rfl, h1, fun l hl => hq _ _ _ _ S (LaddL.le.trans Ladd.le) Ladd.here (s1.lst hl p1) h⟩
  · exact h.elim⟩
theorem dcb_listC : DCb X (.type "list") (fun xs H Q => ∃ p ys, xs = [.ref p] ∧ (SqL X.K H p ys ∨ SqT X.K H p ys) ∧ ∀ l, H l = none → Q (.ref l) (upd H l (.lst ys))) gListC := ⟨call_list_of, fun {xs ds L H S T K Q} hs p h hq => by
  unfold gListC gList at h
  split at h
  · obtain ⟨v, rfl, pv⟩ := p.one
    obtain ⟨ys, e, h⟩ := h
    obtain ⟨a, vs, rfl, h1, s1, p1⟩ := hs.seq (KF := X.K) pv e
    exact ⟨a, vs, rfl, h1, fun l hl => hq _ _ _ _ _ (LaddL.le.trans Ladd.le) Ladd.here (s1.cell (d := .lst ys) hl rfl p1) h⟩
  · exact h.elim⟩
def gTupleC : GL := fun ds S K => match ds with
  | [d] => ∃ xs, seqD S d = some xs ∧ K (.tup xs) S
  | _ => False
theorem dcb_tuple : DCb X (.type "tuple") (fun xs H Q => ∃ p ys, xs = [.ref p] ∧ ((SqL X.K H p ys ∧ ∀ l, H l = none → Q (.ref l) (upd H l (.tup ys))) ∨ (SqT X.K H p ys ∧ Q (.ref p) H))) gTupleC := ⟨call_tuple_of, fun {xs ds L H S T K Q} hs p h hq => by
  unfold gTupleC at h
  split at h
  · rename_i d
    obtain ⟨v, rfl, pv⟩ := p.one
    obtain ⟨ys, e, h⟩ := h
    have lst : view S d = some (.lst ys) → _ := fun e' => (hs.list pv e')
    cases d with
    | tup zs =>
      simp [seqD] at e
      subst e
      obtain ⟨a, vs, rfl, e1, s1, p1⟩ := hs.tuple pv
      exact ⟨a, vs, rfl, .inr ⟨.of e1, hq _ _ _ _ S (.refl _) pv hs h⟩⟩
    | lst zs =>
      simp [seqD] at e
      subst e
      obtain ⟨a, vs, rfl, e1, s1, p1⟩ := hs.list pv rfl
      exact ⟨a, vs, rfl, .inl ⟨.of e1, fun l hl => hq _ _ _ _ S (LaddL.le.trans Ladd.le) Ladd.here (s1.tup hl p1) h⟩⟩
    | cell n =>
      have e' : (match S[n]? with
        | some (.lst xs) => some xs
        | _ => none) = some ys := e
      cases q : S[n]? with
      | none => rw [q] at e'; cases e'
      | some c =>
        rw [q] at e'
        cases c with
        | lst zs =>
          injection e' with e'
          subst e'
          obtain ⟨a, vs, rfl, e1, s1, p1⟩ := hs.list (d := .cell n) (ds := zs) pv q
          exact ⟨a, vs, rfl, .inl ⟨.of e1, fun l hl => hq _ _ _ _ S (LaddL.le.trans Ladd.le) Ladd.here (s1.tup hl p1) h⟩⟩
        | _ => cases e'
    | _ => simp [seqD] at e
  · exact h.elim⟩
/-- a list's items, as a list -/
def lstD (S : Store) (d : Dat) : Option (List Dat) := match view S d with
  | some (.lst xs) => some xs
  | _ => none
theorem lstD_view {S : Store} {d : Dat} {xs : List Dat} (h : lstD S d = some xs) : view S d = some (.lst xs) := by
  unfold lstD at h
  split at h
  · rename_i e
    injection h with h
    rw [e, h]
  · cases h
def gBools (f : List Bool → Bool) : GL := fun ds S K => match ds with
  | [d] => ∃ bs : List Bool, lstD S d = some (bs.map Dat.bl) ∧ K (.bl (f bs)) S
  | _ => False
theorem dcb_all (hc : X.calm = true) : DCb X (.builtin "all") (rAll X.K) (gBools fun bs => bs.all id) := ⟨cr_all hc, fun {xs ds L H S T K Q} hs p h hq => by
  unfold gBools at h
  split at h
  · obtain ⟨v, rfl, pv⟩ := p.one
    obtain ⟨bs, e, h⟩ := h
    obtain ⟨a, vs, rfl, h1, s1, p1⟩ := hs.list pv (lstD_view e)
    rw [p1.bls s1] at h1
    exact ⟨a, bs, rfl, .of h1, hq.flat hs (d := .bl _) rfl h⟩
  · exact h.elim⟩
theorem dcb_any (hc : X.calm = true) : DCb X (.builtin "any") (rAny X.K) (gBools fun bs => bs.any id) := ⟨cr_any hc, fun {xs ds L H S T K Q} hs p h hq => by
  unfold gBools at h
  split at h
  · obtain ⟨v, rfl, pv⟩ := p.one
    obtain ⟨bs, e, h⟩ := h
    obtain ⟨a, vs, rfl, h1, s1, p1⟩ := hs.list pv (lstD_view e)
    rw [p1.bls s1] at h1
    exact ⟨a, bs, rfl, .of h1, hq.flat hs (d := .bl _) rfl h⟩
  · exact h.elim⟩
/-- sorted(texts) -/
def gSortedS (fin : List Dat → Store → KE → Prop) : GL := fun ds S K => match ds with
  | [d] => ∃ xs : List Str, lstD S d = some (xs.map Dat.str) ∧ xs.length < 64 ∧ ∀ ys : List Str, ys.Perm xs → PyProof.Rows.sortedS ys = true → fin (ys.map Dat.str) S K
  | _ => False
theorem Ls.flatS {L : LL} {H : Hp} {S : Store} {T : List (Addr × HO)} (s : SR H L S T) : ∀ ns : List Str, ∃ L', Lle L L' ∧ Ls L' (ns.map V.str) (ns.map Dat.str) ∧ SR H L' S T := fun ns => s.flats (by
    induction ns with
    | nil => trivial
    | cons n ns ih => exact ⟨rfl, ih⟩)
theorem dcb_sortedS : DCb X (.builtin "sorted") (rSortedS X.K) (gSortedS fun xs S K => K (.lst xs) S) := ⟨cr_sortedS, fun {xs ds L H S T K Q} hs p h hq => by
  unfold gSortedS at h
  split at h
  · obtain ⟨v, rfl, pv⟩ := p.one
    obtain ⟨zs, e, hl, h⟩ := h
    obtain ⟨a, vs, rfl, h1, s1, p1⟩ := hs.list pv (lstD_view e)
    rw [p1.strs s1] at h1
    refine ⟨a, zs, rfl, .of h1, hl, fun ys p hp hsrt hnew => ?_⟩
    obtain ⟨L2, l2, p2, s2⟩ := Ls.flatS hs ys
    exact hq _ _ _ _ S (l2.trans Ladd.le) Ladd.here (s2.lst hnew p2) (h ys hp hsrt)
  · exact h.elim⟩
theorem dcb_sortedSC : DCb X (.builtin "sorted") (rSortedS X.K) (gSortedS fun xs S K => K (.cell S.length) (S ++ [.lst xs])) := ⟨cr_sortedS, fun {xs ds L H S T K Q} hs p h hq => by
  unfold gSortedS at h
  split at h
  · obtain ⟨v, rfl, pv⟩ := p.one
    obtain ⟨zs, e, hl, h⟩ := h
    obtain ⟨a, vs, rfl, h1, s1, p1⟩ := hs.list pv (lstD_view e)
    rw [p1.strs s1] at h1
    refine ⟨a, zs, rfl, .of h1, hl, fun ys p hp hsrt hnew => ?_⟩
    obtain ⟨L2, l2, p2, s2⟩ := Ls.flatS hs ys
    exact hq _ _ _ _ _ (l2.trans Ladd.le) Ladd.here (s2.cell (d := .lst (ys.map Dat.str)) hnew rfl p2) (h ys hp hsrt)
  · exact h.elim⟩
end
/-! ### methods of built-in types -/
structure DMt (X : Cx) (id : String) (r : V → List V → Hp → VK → Prop) (g : GM) : Prop where
  run : MtR X id r
  imp : MtI r g
/-- of the type T -/
def isT (T : String) (S : Store) (d : Dat) : Prop := match d with
  | .str _ => T = "str"
  | d => T = "list" ∧ (lstD S d).isSome = true
theorem isT_ok {T : String} {S : Store} {d : Dat} {H : Hp} {L : LL} {P : List (Addr × HO)} {v : V} {KF : PySem.W.Frag} (hs : SR H L S P) (p : L v d) (h : isT T S d) : tyV KF T v H := by
  unfold isT at h
  split at h
  · rw [hs.vstr p]; exact h
  · obtain ⟨h1, h2⟩ := h
    obtain ⟨xs, e⟩ := Option.isSome_iff_exists.mp h2
    obtain ⟨a, vs, rfl, e1, _⟩ := hs.list p (lstD_view e)
    exact .inl ⟨h1, vs, .of e1⟩
def uBM0 (T : String) (g : GM) (uo : UE) : UE := fun dl S K X => uo dl S (fun d S1 => isT T S1 d ∧ g d [] S1 K) X
def uBM (T : String) (g : GM) (uo : UE) (ua : UA) : UE := fun dl S K X => uo dl S (fun d S1 => isT T S1 d ∧ ua dl S1 (fun xs S2 => g d xs S2 K) X) X
section
variable {X : Cx} {W : WX} {o e : Expr} {es : List Expr} {to : TE} {uo : UE} {t : TA} {u : UA} {name : Str} {apos cpos : Pos} {T id : String} {r : V → List V → Hp → VK → Prop} {g : GM}
theorem de_bm0 (pa : PlainAttrs T) (slot : Slot T name id) (hty : typeOf (.builtin id) = pure (.type "method_descriptor")) (hm : DMt X id r g) (ho : DE X W o to uo)
    (hbase : attributeBase o name X.env (eval o X.env) = eval o X.env := by rfl) (hline : (apos.endLine == cpos.line) = true := by rfl) : DE X W (.Call (.Attribute o name apos) [] [] cpos) (tBM0 X.K T r to) (uBM0 T g uo) :=
  ⟨pe_bm0 pa slot hty hm.run ho.run hbase hline, fun {sg dl L H S P K X' Q} he hs h hq hx => ho.imp he hs h (fun v d L1 H1 S1 l1 p1 s1 h1 => ⟨isT_ok s1 p1 h1.1, hm.imp (xs := []) (ds := []) s1 p1 True.intro h1.2 (hq.le l1)⟩) hx⟩
theorem de_bm (pa : PlainAttrs T) (slot : Slot T name id) (hty : typeOf (.builtin id) = pure (.type "method_descriptor")) (hm : DMt X id r g) (ho : DE X W o to uo) (ha : DA X W (e :: es) t u)
    (hbase : attributeBase o name X.env (eval o X.env) = eval o X.env := by rfl)
    (hfew : ((backTo cpos (starEach (e :: es) X.env)).all (fun x => !x.1) && (backToKw cpos (keywordEach [] X.env)).all (fun x => x.1.isSome)
      && decide ((e :: es).length + ([] : List Keyword).length + (if ([] : List Keyword).isEmpty then 0 else 1) < 30)) = true := by rfl)
    (hline : (apos.endLine == cpos.line) = true := by rfl) (hs : starEach (e :: es) X.env = (false, eval e X.env) :: starEach es X.env := by rfl) (hplain : (backTo cpos (starEach es X.env)).any (·.1) = false := by rfl) :
    DE X W (.Call (.Attribute o name apos) (e :: es) [] cpos) (tBM X.K T r to t) (uBM T g uo u) :=
  ⟨pe_bm pa slot hty hm.run ho.run ha.run hbase hfew hline hs hplain, fun {sg dl L H S P K X' Q} he hs h hq hx => ho.imp he hs h (fun v d L1 H1 S1 l1 p1 s1 h1 => ⟨isT_ok s1 p1 h1.1, ha.imp (he.le l1) s1 h1.2 (fun vs ds L2 H2 S2 l2 p2 s2 h2 => hm.imp s2 (l2 _ _ p1) p2 h2 (hq.le (l1.trans l2))) (hx.le l1)⟩) hx⟩
end
def gAppend : GM := fun d ds S K => match d, ds with
  | .cell n, [y] => ∃ xs, S[n]? = some (.lst xs) ∧ xs.length < sizeLine ∧ K .non (S.set n (.lst (xs ++ [y])))
  | _, _ => False
theorem dmt_append {X : Cx} : DMt X "list.append" rAppend gAppend := ⟨mt_append, fun {x dx xs ds L H S T K Q} hs p ps h hq => by
  unfold gAppend at h
  split at h
  · rename_i n y
    obtain ⟨v, rfl, pv⟩ := ps.one
    obtain ⟨zs, e, hl, h⟩ := h
    obtain ⟨a, vs, rfl, e1, s1, p1⟩ := hs.list (d := .cell n) p e
    have s2 := s1.set (a := a) (n := n) (o := .lst (vs ++ [v])) (d := .lst (zs ++ [y])) (LaddL.le _ _ p) rfl (p1.append ⟨LaddL.le _ _ pv, True.intro⟩)
    exact ⟨a, vs, v, rfl, rfl, e1, by rw [p1.length]; exact hl, hq.le LaddL.le |>.flat s2 (d := .non) rfl h⟩
  · exact h.elim⟩
def gJoin : GM := fun d ds S K => match d, ds with
  | .str a, [y] => ∃ ys : List Str, seqD S y = some (ys.map Dat.str) ∧ (ys.map (·.length)).sum + ys.length * a.length ≤ 16777216 ∧ K (.str (Txt.join a ys)) S
  | _, _ => False
theorem dmt_join {X : Cx} : DMt X "str.join" (fun x xs H Q => ∃ a p, ∃ ys : List Str, x = .str a ∧ xs = [.ref p] ∧ (SqL X.K H p (ys.map V.str) ∨ SqT X.K H p (ys.map V.str)) ∧
    (ys.map (·.length)).sum + ys.length * a.length ≤ 16777216 ∧ Q (.str (Txt.join a ys)) H) gJoin := ⟨mt_join, fun {x dx xs ds L H S T K Q} hs p ps h hq => by
  unfold gJoin at h
  split at h
  · obtain ⟨v, rfl, pv⟩ := ps.one
    obtain ⟨ys, e, hl, h⟩ := h
    obtain ⟨a, vs, rfl, h1, s1, p1⟩ := hs.seq (KF := X.K) pv e
    rw [p1.strs s1] at h1
    exact ⟨_, a, ys, hs.vstr p, rfl, h1, hl, hq.flat hs (d := .str _) rfl h⟩
  · exact h.elim⟩
/-! ### o[i] = v -/
abbrev GS := Dat → Dat → Dat → Store → (Store → Prop) → Prop
def SetI (t : TSet) (g : GS) : Prop := ∀ {o i v do' di dv L H S T K} {Q : Hp → Prop}, SR H L S T → L o do' → L i di → L v dv → g do' di dv S K → (∀ L' H' S', Lle L L' → SR H' L' S' T → K S' → Q H') → t o i v H Q
def uGSub (uo ui : UE) (g : GS) : UG := fun d dl S K X => uo dl S (fun o S1 => ui dl S1 (fun i S2 => g o i d S2 fun S3 => K dl S3) X) X
theorem dg_sub {X : Cx} {W : WX} {o i : Expr} {to ti : TE} {uo ui : UE} {t : TSet} {g : GS} {pos : Pos} (ho : DE X W o to uo) (hi : DE X W i ti ui) (hs : PSet X t) (hg : SetI t g)
    (ha : ∀ v, assign (.Subscript o i pos) X.env v = (do
      let ov ← holding [v] (eval o X.env)
      let iv ← holding [v, ov] (eval i X.env)
      standAt pos
      holding [v, ov, iv] (setItem ov iv v)
      release [v, ov, iv] []) := by intro _; rfl) : DG X W (.Subscript o i pos) (gSub to ti t) (uGSub uo ui g) [] :=
  ⟨pg_sub ho.run hi.run hs ha, fun {sg dl L H S T v d K X' Q} he hs p h hk hx => ho.imp he hs h (fun ov od L1 H1 S1 l1 p1 s1 h1 => hi.imp (he.le l1) s1 h1 (fun iv id L2 H2 S2 l2 p2 s2 h2 => hg s2 (l2 _ _ p1) p2 (l2 _ _ (l1 _ _ p)) h2 fun L' H' S' l' s' k' =>
    hk sg dl L' H' S' ((l1.trans l2).trans l') rfl (fun _ _ => rfl) (he.le ((l1.trans l2).trans l')) s' k') (hx.le l1)) hx⟩
def gSetL : GS := fun o i v S K => match o, i with
  | .cell n, .int k => ∃ xs j, S[n]? = some (.lst xs) ∧ ixN xs.length k = some j ∧ K (S.set n (.lst (xs.set j v)))
  | _, _ => False
theorem Ls.set {L : LL} {v : V} {d : Dat} (p : L v d) : ∀ {vs : List V} {ds : List Dat} (j : Nat), Ls L vs ds → Ls L (vs.set j v) (ds.set j d)
  | [], [], _, _ => True.intro
  | _ :: _, _ :: _, 0, h => ⟨p, h.2⟩
  | _ :: _, _ :: _, j + 1, h => ⟨h.1, Ls.set p j h.2⟩
  | [], _ :: _, _, h => h.elim
  | _ :: _, [], _, h => h.elim
theorem set_imp : SetI rSetL gSetL := fun {o i v do' di dv L H S T K Q} hs po pi pv h hq => by
  unfold gSetL at h
  split at h
  · rename_i n k
    obtain ⟨xs, j, e, hj, h⟩ := h
    obtain ⟨a, vs, rfl, e1, s1, p1⟩ := hs.list (d := .cell n) po e
    have s2 := s1.set (a := a) (n := n) (o := .lst (vs.set j v)) (d := .lst (xs.set j dv)) (LaddL.le _ _ po) rfl (p1.set (LaddL.le _ _ pv) j)
    exact ⟨a, vs, k, j, rfl, hs.vint pi, e1, by rw [p1.length]; exact hj, hq _ _ _ LaddL.le s2 h⟩
  · exact h.elim
end DL
/-! DL7: what is walked: a list, a tuple, a text; a range; zip of two of these; enumerate. -/
namespace DL
open PySem PySem.Spec PyProof.Rows L2
/-- what may be drawn from -/
inductive Sk where
  | l (a : Addr) | t (a : Addr) | s (x : Str) (k : Tok)
def Sk.val : Sk → Value
  | .l a => .ref a | .t a => .ref a | .s x k => .str x k
def Sk.src : Sk → List Addr
  | .l a => [a] | .t a => [a] | .s _ _ => []
def signs (x : Str) : List V := x.cps.toList.map fun c => .str (⟨#[c]⟩ : Str)
def Sk.vals (K : PySem.W.Frag) (H : Hp) : Sk → List V → Prop
  | .l a, xs => SqL K H a xs
  | .t a, xs => SqT K H a xs
  | .s x _, xs => xs = signs x
def Sk.at_ (it : Addr) (i : Nat) (h : Heap) : Sk → Prop
  | .l a => h.IsListIter it a i
  | .t a => h.IsTupleIter it a i
  | .s x k => h.IsStrIter it (strIterType x) x k i
def Sk.ob : Sk → Obj
  | .l a => { cls := .type "list_iterator", data := .fields #[.ref a, .int 0 0] }
  | .t a => { cls := .type "tuple_iterator", data := .fields #[.ref a, .int 0 0] }
  | .s x k => { cls := .type (strIterType x), data := .fields #[.str x k, .int 0 0] }
section
variable {X : Cx} {pins : List (Addr × Obj)} {sg : L2.St} {H : Hp} {s : Shared}
theorem Sk.inj (I : Inv X pins sg H s) {k : Sk} {xs ys : List V} (h : k.vals X.K H xs) (h' : k.vals X.K H ys) : xs = ys := by
  cases k with
  | l a => exact I.list_inj h h'
  | t a => exact I.tuple_inj h h'
  | s x t => exact (show xs = signs x from h).trans (show ys = signs x from h').symm
theorem Sk.get? (it : Addr) (i : Nat) (h : Heap) {k : Sk} (st : k.at_ it i h) : ∃ o, h.get? it = some o ∧ ∀ v, o.data ≠ .cell v := by
  cases k with
  | l a => obtain ⟨o, e, _, d⟩ := st; exact ⟨o, e, fun v q => by rw [d] at q; cases q⟩
  | t a => obtain ⟨o, e, _, d⟩ := st; exact ⟨o, e, fun v q => by rw [d] at q; cases q⟩
  | s x t => obtain ⟨o, e, _, d⟩ := st; exact ⟨o, e, fun v q => by rw [d] at q; cases q⟩
theorem Sk.keep {it : Addr} {i : Nat} {h h' : Heap} {k : Sk} (st : k.at_ it i h) (hk : ∀ o, h.get? it = some o → h'.get? it = some o) : k.at_ it i h' := by
  cases k with
  | l a => exact Heap.IsListIter.at st hk
  | t a => exact Heap.IsTupleIter.at st hk
  | s x t => obtain ⟨o, e, r⟩ := st; exact ⟨o, hk o e, r⟩
/-- a source as the library draws from it -/
theorem Sk.draws {prog : Program} {w : World} {A : Around} (hh : A.handled = none) (I : Inv X pins sg H s) (k : Sk) {xs : List V} (hv : k.vals X.K H xs) (it : Addr) (hne : ∀ a ∈ k.src, a ≠ it) :
    ∃ (P : Nat → Value → Prop) (St : Nat → Heap → Prop), Draws prog w A it (it :: k.src) xs.length P St ∧ (∀ i, k.at_ it i s.heap → St i s.heap) ∧ (∀ i h, St i h → k.at_ it i h) ∧ ∀ i u, P i u → ∃ v, xs[i]? = some v ∧ RelV v u := by
  cases k with
  | l a =>
    obtain ⟨its, rv, p, _⟩ := I.list hv
    have D := Draws.list (prog := prog) (w := w) hh it a (hne a (List.mem_singleton.mpr rfl)) its.toArray
    rw [show its.toArray.size = xs.length by simp [rv.length]] at D
    refine ⟨_, _, D, fun i st => ⟨st, p.isList⟩, fun i h st => st.1, fun i u e => ?_⟩
    have e' : its[i]? = some u := by simpa using e
    cases q : xs[i]? with
    | none => rw [rv.none_of q] at e'; cases e'
    | some v =>
      obtain ⟨u', h1, h2⟩ := rv.get q
      rw [e'] at h1
      injection h1 with h1
      subst h1
      exact ⟨v, rfl, h2⟩
  | t a =>
    obtain ⟨its, rv, p, _⟩ := I.tuple hv
    have D := Draws.tuple (prog := prog) (w := w) hh it a (hne a (List.mem_singleton.mpr rfl)) its.toArray
    rw [show its.toArray.size = xs.length by simp [rv.length]] at D
    refine ⟨_, _, D, fun i st => ⟨st, p⟩, fun i h st => st.1, fun i u e => ?_⟩
    have e' : its[i]? = some u := by simpa using e
    cases q : xs[i]? with
    | none => rw [rv.none_of q] at e'; cases e'
    | some v =>
      obtain ⟨u', h1, h2⟩ := rv.get q
      rw [e'] at h1
      injection h1 with h1
      subst h1
      exact ⟨v, rfl, h2⟩
  | s x t =>
    have D := Draws.text (prog := prog) (w := w) hh it x t
    have hv' : xs = signs x := hv
    rw [show x.cps.size = xs.length by rw [hv']; simp [signs]] at D
    refine ⟨_, _, D, fun i st => st, fun i h st => st, fun i u e => ?_⟩
    obtain ⟨c, tk, h1, rfl⟩ := e
    refine ⟨.str ⟨#[c]⟩, ?_, ⟨tk, rfl⟩⟩
    rw [hv']
    simp only [signs, List.getElem?_map]
    rw [show x.cps.toList[i]? = some c by simpa using h1]
    rfl
theorem Sk.begins (I : Inv X pins sg H s) (k : Sk) {xs : List V} (hv : k.vals X.K H xs) : ∃ HB : Heap → Prop, Begins k.val k.ob HB ∧ HB s.heap ∧ ∀ a ∈ k.src, a < s.heap.objs.size := by
  cases k with
  | l a =>
    obtain ⟨its, rv, p, _⟩ := I.list hv
    obtain ⟨o, n, e, _⟩ := id p
    exact ⟨_, begins_list a its.toArray, p.isList, fun b hb => by rw [List.mem_singleton.mp hb]; exact Heap.lt_size e⟩
  | t a =>
    obtain ⟨its, rv, p, _⟩ := I.tuple hv
    obtain ⟨o, e, _⟩ := id p
    exact ⟨_, begins_tuple a its.toArray, p, fun b hb => by rw [List.mem_singleton.mp hb]; exact Heap.lt_size e⟩
  | s x t => exact ⟨_, begins_text x t, True.intro, fun b hb => nomatch hb⟩
theorem Sk.fresh {it : Addr} {h : Heap} (k : Sk) (e : h.get? it = some k.ob) : k.at_ it 0 h := by
  cases k with
  | l a => exact ⟨_, e, rfl, rfl⟩
  | t a => exact ⟨_, e, rfl, rfl⟩
  | s x t => exact ⟨_, e, rfl, rfl⟩
end
/-- pairs, drawn from two -/
def ItZ (K : PySem.W.Frag) (k1 k2 : Sk) : It :=
  ⟨fun i H => ∃ (xs ys : List V) (x y : V), k1.vals K H xs ∧ k2.vals K H ys ∧ xs[i]? = some x ∧ ys[i]? = some y,
    fun i H v H' => ∃ T x y, v = .ref T ∧ H T = none ∧ H' = upd H T (.tup [x, y]) ∧ (∀ xs, k1.vals K H xs → xs[i]? = some x) ∧ ∀ ys, k2.vals K H ys → ys[i]? = some y,
    fun i H => ∃ xs ys : List V, k1.vals K H xs ∧ k2.vals K H ys ∧ i = min xs.length ys.length⟩
theorem turn_z {P : Program} {w : World} {K : PySem.W.Frag} {elts : List Expr} {kk : Nat} {tpos : Pos} {k1 k2 : Sk} {z TI TO i1 i2 : Addr} (D : ZipSep2 z TI TO i1 i2 (i1 :: k1.src) (i2 :: k2.src)) (n1 : ∀ a ∈ k1.src, a ≠ i1) (n2 : ∀ a ∈ k2.src, a ≠ i2) :
    Turn P w K (.Tuple elts kk tpos) (ItZ K k1 k2) [z, TI, TO, i1, i2] z (fun i h => IsZip h z TI TO .none ∧ IsTupOf2 h TI (.ref i1) (.ref i2) ∧ (∃ x y, IsTupOf2 h TO x y) ∧ k1.at_ i1 i h ∧ k2.at_ i2 i h) where
  mem := by simp
  obj := fun i h st c hc => by
    obtain ⟨hz, hTI, ⟨x, y, hTO⟩, h1, h2⟩ := st
    have e' : c = z ∨ c = TI ∨ c = TO ∨ c = i1 ∨ c = i2 := by simpa using hc
    rcases e' with q | q | q | q | q
    · rw [q]; exact ⟨_, hz, fun v q => nomatch q⟩
    · rw [q]; exact ⟨_, hTI, fun v q => nomatch q⟩
    · rw [q]; exact ⟨_, hTO, fun v q => nomatch q⟩
    · rw [q]; exact Sk.get? i1 i h h1
    · rw [q]; exact Sk.get? i2 i h h2
  keep := fun i h h' st k => by
    obtain ⟨hz, hTI, ⟨x, y, hTO⟩, h1, h2⟩ := st
    exact ⟨k z (by simp) _ hz, k TI (by simp) _ hTI, ⟨x, y, k TO (by simp) _ hTO⟩, Sk.keep h1 fun o q => k i1 (by simp) o q, Sk.keep h2 fun o q => k i2 (by simp) o q⟩
  item := by
    intro X hP hw hK hc i pins s sg H E I hf st hg
    subst hP hw hK
    obtain ⟨hz, hTI, ⟨x0, y0, hTO⟩, h1, h2⟩ := st
    obtain ⟨xs, ys, x, y, hqx, hqy, hx, hy⟩ := hg
    have hin : (X.A.in1).handled = none := I.ok.hd hc
    obtain ⟨P1, S1, D1, a1, b1, c1⟩ := k1.draws (prog := X.prog) (w := X.w) (A := X.A.in1) hin I hqx i1 n1
    obtain ⟨P2, S2, D2, a2, b2, c2⟩ := k2.draws (prog := X.prog) (w := X.w) (A := X.A.in1) hin I hqy i2 n2
    have lx : i < xs.length := (List.getElem?_eq_some_iff.mp hx).1
    have ly : i < ys.length := (List.getElem?_eq_some_iff.mp hy).1
    refine (GoesN.zip2 (elts := elts) (x1 := kk) (pos := tpos) (prog := X.prog) (w := X.w) (A := X.A) D D1 D2).goes i s _ E (by omega) ⟨hz, hTI, ⟨x0, y0, hTO⟩, a1 i h1, a2 i h2⟩ fun v h' tk hY hSt hk _ => ?_
    obtain ⟨T, u, u2, rfl, hT, p1, p2, ht⟩ := hY
    obtain ⟨x', e1, r1⟩ := c1 i u p1
    obtain ⟨y', e2, r2⟩ := c2 i u2 p2
    rw [hx] at e1
    rw [hy] at e2
    injection e1 with e1
    injection e2 with e2
    subst e1
    subst e2
    obtain ⟨z', TI', TO', s1', s2'⟩ := hSt
    have new : ObjOk X.prog X.w (upd H T (.tup [x, y])) h' T (.tup [x, y]) := ⟨by show 2 ≤ sizeLine; decide, [u, u2], .cons r1 (.cons r2 .nil), ht⟩
    have I1 : Inv X pins sg (upd H T (.tup [x, y])) { s with heap := h', toks := tk } :=
      I.turnedNew (t' := tk) (ch := [z, TI, TO, i1, i2]) (fun c o hb q => hk c o (fun m => hb (by
        simp only [List.mem_cons, List.not_mem_nil, or_false] at m ⊢
        rcases m with m | m | m | m
        · exact .inl m
        · exact .inr (.inr (.inl m))
        · exact .inr (.inr (.inr (.inl m)))
        · exact .inr (.inr (.inr (.inr m))))) q) hf hT new
    refine ⟨.ref T, _, I1, rfl, ⟨T, x, y, rfl, I.hok.fresh hT, rfl, fun l hl => by rw [Sk.inj I hl hqx]; exact hx, fun l hl => by rw [Sk.inj I hl hqy]; exact hy⟩, ⟨z', TI', TO', b1 _ _ s1', b2 _ _ s2'⟩, fun c hcm => ?_⟩
    have hlt : c < s.heap.objs.size := by
      have e' : c = z ∨ c = TI ∨ c = TO ∨ c = i1 ∨ c = i2 := by simpa using hcm
      rcases e' with q | q | q | q | q
      · rw [q]; exact Heap.lt_size hz
      · rw [q]; exact Heap.lt_size hTI
      · rw [q]; exact Heap.lt_size hTO
      · rw [q]; obtain ⟨_, e, _⟩ := Sk.get? i1 i _ h1; exact Heap.lt_size e
      · rw [q]; obtain ⟨_, e, _⟩ := Sk.get? i2 i _ h2; exact Heap.lt_size e
    rw [upd_ne (Nat.ne_of_lt (Nat.lt_of_lt_of_le hlt hT))]
    exact (hf c hcm).1
  done := by
    intro X hP hw hK hc i pins s sg H E I hf st hg
    subst hP hw hK
    obtain ⟨hz, hTI, ⟨x0, y0, hTO⟩, h1, h2⟩ := st
    obtain ⟨xs, ys, hqx, hqy, he⟩ := hg
    have hin : (X.A.in1).handled = none := I.ok.hd hc
    obtain ⟨P1, S1, D1, a1, b1, c1⟩ := k1.draws (prog := X.prog) (w := X.w) (A := X.A.in1) hin I hqx i1 n1
    obtain ⟨P2, S2, D2, a2, b2, c2⟩ := k2.draws (prog := X.prog) (w := X.w) (A := X.A.in1) hin I hqy i2 n2
    subst he
    refine (GoesN.zip2 (elts := elts) (x1 := kk) (pos := tpos) (prog := X.prog) (w := X.w) (A := X.A) D D1 D2).stops s (fun s' => Inv X pins sg H s') E ⟨hz, hTI, ⟨x0, y0, hTO⟩, a1 _ h1, a2 _ h2⟩ fun h' tk hk _ => ?_
    exact I.turnedL (t' := tk) (ch := [z, TI, TO, i1, i2]) (fun c o hb q => hk c o (fun m => hb (by
        simp only [List.mem_cons, List.not_mem_nil, or_false] at m ⊢
        rcases m with m | m | m | m
        · exact .inl m
        · exact .inr (.inr (.inl m))
        · exact .inr (.inr (.inr (.inl m)))
        · exact .inr (.inr (.inr (.inr m))))) q) hf
  self := fun A i s Q E st h => wpAny_pyIter_zip st.1 h
def iZ (K : PySem.W.Frag) (ta : TA) : TI := fun sg H R => ta sg H fun vs H1 => ∃ v1 v2, vs = [v1, v2] ∧ ∀ u1 u2, RelV v1 u1 → RelV v2 u2 → ∃ k1 k2 xs ys, Sk.val k1 = u1 ∧ Sk.val k2 = u2 ∧ k1.vals K H1 xs ∧ k2.vals K H1 ys ∧ R (ItZ K k1 k2) H1
theorem pi_z {X : Cx} {e e2 : Expr} {ta : TA} {p pos tpos : Pos} {elts : List Expr} {kk : Nat} (hg : Gl X "zip") (hm : X.mg "zip" = none) (ha : PA X [e, e2] ta)
    (hs : starEach [e, e2] X.env = (false, eval e X.env) :: starEach [e2] X.env := by rfl) (hpl : (backTo pos (starEach [e2] X.env)).any (·.1) = false := by rfl) :
    PI X (.Tuple elts kk tpos) (.Call (.Name "zip" p) [e, e2] [] pos) (iZ X.K ta) := by
  refine ⟨fun pins s sg H R I h => ?_⟩
  refine Call_ (ld_blt I hg hm PyProof.Rows.boot_zip (PyProof.Rows.callWith_type1 (thn (ha.run pos pins s sg H _ I h) fun us s1 ⟨vs, H1, I1, r1, q1⟩ => ?_) hs hpl))
  obtain ⟨v1, v2, ex, q1⟩ := q1
  subst ex
  obtain ⟨u1, u2, rfl, ru1, ru2⟩ := vals2 r1
  obtain ⟨k1, k2, xs, ys, rfl, rfl, hx, hy, q⟩ := q1 u1 u2 ru1 ru2
  obtain ⟨B1, b1, hb1, l1⟩ := k1.begins I1 hx
  obtain ⟨B2, b2, hb2, l2⟩ := k2.begins I1 hy
  refine zip_begins2 b1 b2 hb1 hb2 fun h' hz hTI hTO h1 h2 hsz hk => wpAny_pyIter_zip hz ?_
  have I2 : Inv X pins sg H1 { s1 with heap := h' } := I1.kept (t' := s1.toks) hk
  refine ⟨s1.heap.objs.size + 4, [s1.heap.objs.size + 4, s1.heap.objs.size + 2, s1.heap.objs.size + 3, s1.heap.objs.size, s1.heap.objs.size + 1], _, _, H1, rfl, I2,
    turn_z (k1 := k1) (k2 := k2) (zip_sep2 l1 l2) (fun a ha => Nat.ne_of_lt (l1 a ha)) (fun a ha => Nat.ne_of_lt (Nat.lt_succ_of_lt (l2 a ha))), ⟨hz, hTI, ⟨_, _, hTO⟩, Sk.fresh k1 h1, Sk.fresh k2 h2⟩, fun c hcm => ?_, q⟩
  have e' : c = s1.heap.objs.size + 4 ∨ c = s1.heap.objs.size + 2 ∨ c = s1.heap.objs.size + 3 ∨ c = s1.heap.objs.size ∨ c = s1.heap.objs.size + 1 := by simpa using hcm
  have hle : s1.heap.objs.size ≤ c := by
    rcases e' with z | z | z | z | z
    · rw [z]; exact Nat.le_add_right _ _
    · rw [z]; exact Nat.le_add_right _ _
    · rw [z]; exact Nat.le_add_right _ _
    · rw [z]; exact Nat.le_refl _
    · rw [z]; exact Nat.le_add_right _ _
  exact I1.fpOk hle (I1.hok.fresh hle)
/-! ### over data -/
/-- what is drawn, from a list, a tuple, a text -/
def drawD (S : Store) : Dat → Option (List Dat)
  | .str z => some (z.cps.toList.map fun c => .str (sgn c))
  | d => seqD S d
section
variable {H : Hp} {L : LL} {S : Store} {T : List (Addr × HO)} {KF : PySem.W.Frag}
theorem Ls.signs (hs : SR H L S T) (z : Str) : ∃ L', Lle L L' ∧ Ls L' (DL.signs z) (z.cps.toList.map fun c => .str (sgn c)) ∧ SR H L' S T := hs.flats (by
  unfold DL.signs
  generalize z.cps.toList = cs
  induction cs with
  | nil => trivial
  | cons c cs ih => exact ⟨rfl, ih⟩)
def isTup : Dat → Bool
  | .tup _ => true
  | _ => false
theorem SR.seqK (hs : SR H L S T) {v : V} {d : Dat} {ds : List Dat} (p : L v d) (e : seqD S d = some ds) :
    ∃ a vs, v = .ref a ∧ ((isTup d = true ∧ H a = some (.tup vs)) ∨ (isTup d = false ∧ H a = some (.lst vs))) ∧ SR H (LaddL L vs ds) S T ∧ Ls (LaddL L vs ds) vs ds := by
  cases d with
  | tup xs => simp [seqD] at e; subst e; obtain ⟨a, vs, h1, h2, h3⟩ := hs.tuple p; exact ⟨a, vs, h1, .inl ⟨rfl, h2⟩, h3⟩
  | lst xs => simp [seqD] at e; subst e; obtain ⟨a, vs, h1, h2, h3⟩ := hs.list p rfl; exact ⟨a, vs, h1, .inr ⟨rfl, h2⟩, h3⟩
  | cell n =>
    have e : (match S[n]? with
      | some (.lst xs) => some xs
      | _ => none) = some ds := e
    cases q : S[n]? with
    | none => rw [q] at e; cases e
    | some c =>
      rw [q] at e
      cases c with
      | lst xs =>
        injection e with e
        subst e
        obtain ⟨a, vs, h1, h2, h3⟩ := hs.list p (ds := xs) q
        exact ⟨a, vs, h1, .inr ⟨rfl, h2⟩, h3⟩
      | _ => cases e
  | _ => simp [seqD] at e
theorem sk_of (hs : SR H L S T) {v : V} {d : Dat} {xs : List Dat} (p : L v d) (e : drawD S d = some xs) {u : Value} (r : RelV v u) : ∃ k : Sk, k.val = u ∧
    ∀ H2 L2 S2 T2, Lle L L2 → SR H2 L2 S2 T2 → drawD S2 d = some xs → ∃ vs L3, k.vals KF H2 vs ∧ Lle L2 L3 ∧ Ls L3 vs xs ∧ SR H2 L3 S2 T2 := by
  have sq : seqD S d = some xs → (∀ S2, drawD S2 d = seqD S2 d) → (∃ k : Sk, k.val = u ∧
      ∀ H2 L2 S2 T2, Lle L L2 → SR H2 L2 S2 T2 → drawD S2 d = some xs → ∃ vs L3, k.vals KF H2 vs ∧ Lle L2 L3 ∧ Ls L3 vs xs ∧ SR H2 L3 S2 T2) := fun e hd => by
    obtain ⟨a, vs, rfl, h1, _⟩ := hs.seqK p e
    obtain rfl : u = Value.ref a := r
    rcases h1 with ⟨h0, _⟩ | ⟨h0, _⟩
    · refine ⟨.t a, rfl, fun H2 L2 S2 T2 l2 s2 e2 => ?_⟩
      rw [hd] at e2
      obtain ⟨b, ws, eb, h2, s3, p3⟩ := s2.seqK (l2 _ _ p) e2
      injection eb with eb
      subst eb
      rcases h2 with ⟨_, h2⟩ | ⟨z, _⟩
      · exact ⟨ws, _, SqT.of h2, LaddL.le, p3, s3⟩
      · rw [h0] at z; cases z
    · refine ⟨.l a, rfl, fun H2 L2 S2 T2 l2 s2 e2 => ?_⟩
      rw [hd] at e2
      obtain ⟨b, ws, eb, h2, s3, p3⟩ := s2.seqK (l2 _ _ p) e2
      injection eb with eb
      subst eb
      rcases h2 with ⟨z, _⟩ | ⟨_, h2⟩
      · rw [h0] at z; cases z
      · exact ⟨ws, _, SqL.of h2, LaddL.le, p3, s3⟩
  cases d with
  | str z =>
    rw [hs.vstr p] at r
    obtain ⟨t, rfl⟩ := r
    simp only [drawD, Option.some.injEq] at e
    refine ⟨.s z t, rfl, fun H2 L2 S2 T2 l2 s2 e2 => ?_⟩
    obtain ⟨L3, l3, p3, s3⟩ := Ls.signs s2 z
    rw [e] at p3
    exact ⟨_, L3, rfl, l3, p3, s3⟩
  | lst zs => exact sq e fun _ => rfl
  | tup zs => exact sq e fun _ => rfl
  | cell n => exact sq e fun _ => rfl
  | _ => simp [drawD, seqD] at e
end
def pairs (xs ys : List Dat) : List Dat := List.zipWith (fun a b => Dat.tup [a, b]) xs ys
def uZ (ua : UA) : UI := fun dl S R X => ua dl S (fun ds S1 => match ds with
  | [a, b] => ∃ xs ys, drawD S1 a = some xs ∧ drawD S1 b = some ys ∧ R (pairs xs ys) (fun S => drawD S a = some xs ∧ drawD S b = some ys) S1
  | _ => False) X
section
variable {X : Cx} {W : WX} {e e2 a b : Expr} {ta : TA} {ua : UA} {te : TE} {ue : UE} {p pos tpos : Pos} {elts : List Expr} {kk : Nat} {tg : Expr}
theorem di_zip (hm : X.mg "zip" = none) (ha : DA X W [e, e2] ta ua) (hg : Gl X "zip" := by rfl)
    (hs : starEach [e, e2] X.env = (false, eval e X.env) :: starEach [e2] X.env := by rfl) (hpl : (backTo pos (starEach [e2] X.env)).any (·.1) = false := by rfl) :
    DI X W (.Tuple elts kk tpos) (.Call (.Name "zip" p) [e, e2] [] pos) (iZ X.K ta) (uZ ua) := ⟨pi_z hg hm ha.run hs hpl, fun {sg dl L H S T R X' Q} he hs h hq hx =>
  ha.imp he hs h (fun vs ds L1 H1 S1 l1 p1 s1 h1 => by
    match ds, p1, h1 with
    | [a, b], p1, h1 =>
      obtain ⟨xs, ys, ea, eb, h1⟩ := h1
      obtain ⟨v, w, rfl, pv, pw⟩ := p1.two
      refine ⟨v, w, rfl, fun u1 u2 r1 r2 => ?_⟩
      obtain ⟨k1, e1, f1⟩ := sk_of (KF := X.K) s1 pv ea r1
      obtain ⟨k2, e2, f2⟩ := sk_of (KF := X.K) s1 pw eb r2
      obtain ⟨xv, _, hxv, _⟩ := f1 H1 L1 S1 T (.refl _) s1 ea
      obtain ⟨yv, _, hyv, _⟩ := f2 H1 L1 S1 T (.refl _) s1 eb
      refine ⟨k1, k2, xv, yv, e1, e2, hxv, hyv, hq _ (pairs xs ys) (fun S => drawD S a = some xs ∧ drawD S b = some ys) L1 H1 S1 l1 s1 ⟨fun i H2 L2 S2 T2 l2 s2 hP hi => ?_, fun i H2 L2 S2 T2 x H3 d l2 s2 hP hd hy => ?_, fun i H2 L2 S2 T2 l2 s2 hP hi => ?_⟩ h1⟩
      · obtain ⟨vs, L3, h3, l3, p3, s3⟩ := f1 H2 L2 S2 T2 l2 s2 hP.1
        obtain ⟨ws, L4, h4, l4, p4, s4⟩ := f2 H2 L3 S2 T2 (l2.trans l3) s3 hP.2
        have hl : i < min xs.length ys.length := by simpa [pairs] using hi
        exact ⟨vs, ws, vs[i]'(by rw [p3.length]; omega), ws[i]'(by rw [p4.length]; omega), h3, h4, List.getElem?_eq_getElem _, List.getElem?_eq_getElem _⟩
      · obtain ⟨vs, L3, h3, l3, p3, s3⟩ := f1 H2 L2 S2 T2 l2 s2 hP.1
        obtain ⟨ws, L4, h4, l4, p4, s4⟩ := f2 H2 L3 S2 T2 (l2.trans l3) s3 hP.2
        obtain ⟨A, x1, y1, rfl, hA, rfl, hx1, hy1⟩ := hy
        have ex := hx1 vs h3
        have ey := hy1 ws h4
        obtain ⟨c, ec, pc⟩ := p3.getV ex
        obtain ⟨c2, ec2, pc2⟩ := p4.getV ey
        have ed : d = .tup [c, c2] := by
          unfold pairs at hd
          rw [List.getElem?_zipWith, ec, ec2] at hd
          injection hd with hd
          exact hd.symm
        subst ed
        exact ⟨Ladd L4 _ _, (l3.trans l4).trans Ladd.le, Ladd.here, s4.tup hA ⟨l4 _ _ pc, pc2, True.intro⟩⟩
      · obtain ⟨vs, L3, h3, l3, p3, s3⟩ := f1 H2 L2 S2 T2 l2 s2 hP.1
        obtain ⟨ws, L4, h4, l4, p4, s4⟩ := f2 H2 L3 S2 T2 (l2.trans l3) s3 hP.2
        refine ⟨vs, ws, h3, h4, ?_⟩
        rw [hi, p3.length, p4.length]
        simp [pairs]
    | [], _, h1 => exact h1.elim
    | [_], _, h1 => exact h1.elim
    | _ :: _ :: _ :: _, _, h1 => exact h1.elim) hx⟩
/-- a list, a tuple, a text -/
def iSeq (K : PySem.W.Frag) (te : TE) : TI := fun sg H R => te sg H fun v H1 => (∃ a, v = .ref a ∧ (∃ xs, SqL K H1 a xs) ∧ R (Itl K a) H1) ∨ (∃ a, v = .ref a ∧ (∃ xs, SqT K H1 a xs) ∧ R (Itt K a) H1) ∨ ∃ x, v = .str x ∧ R (Its x) H1
theorem pi_any (hl : PE X e te) : PI X tg e (iSeq X.K te) := by
  refine ⟨fun pins s sg H R I h => ?_⟩
  refine thn (hl.run pins s sg H _ I h) fun v s1 ⟨x, H1, I1, r1, q1⟩ => ?_
  rcases q1 with q | q | q
  · obtain ⟨a, e, ⟨xs, hq⟩, q⟩ := q
    subst e
    cases r1
    obtain ⟨its, rv, p, hz⟩ := I1.list hq
    refine wpAny_pyIter_list p.isList ?_
    refine ⟨s1.heap.objs.size, [s1.heap.objs.size], _, _, H1, rfl, I1.kept (t' := s1.toks) fun b o e => Heap.get?_push_of_some _ e, turn_list a _, ⟨_, Heap.get?_push_size _ rfl, rfl, rfl⟩, fun b hb => ?_, q⟩
    have e : b = s1.heap.objs.size := by simpa using hb
    subst e
    exact I1.fpOk (Nat.le_refl _) (I1.hok.fresh (Nat.le_refl _))
  · obtain ⟨a, e, ⟨xs, hq⟩, q⟩ := q
    subst e
    cases r1
    obtain ⟨its, rv, p, hz⟩ := I1.tuple hq
    refine wpAny_pyIter_tuple (show s1.heap.IsTuple a its.toArray from p) ?_
    refine ⟨s1.heap.objs.size, [s1.heap.objs.size], _, _, H1, rfl, I1.kept (t' := s1.toks) fun b o e => Heap.get?_push_of_some _ e, turn_tuple a _, ⟨_, Heap.get?_push_size _ rfl, rfl, rfl⟩, fun b hb => ?_, q⟩
    have e : b = s1.heap.objs.size := by simpa using hb
    subst e
    exact I1.fpOk (Nat.le_refl _) (I1.hok.fresh (Nat.le_refl _))
  · obtain ⟨x, e, q⟩ := q
    subst e
    obtain ⟨t, rfl⟩ := r1
    cases ha : x.cps.all (· < 128)
    · exact wpAny_pyIter_wide ha (pi_one (tk := s1.toks) I1 _ (turn_str _ x t "str_iterator" (.inr rfl)) ⟨_, Heap.get?_push_size _ rfl, rfl, rfl⟩ q)
    · exact wpAny_pyIter_ascii ha (pi_one (tk := s1.toks) I1 _ (turn_str _ x t "str_ascii_iterator" (.inl rfl)) ⟨_, Heap.get?_push_size _ rfl, rfl, rfl⟩ q)
def uSeqI (ue : UE) : UI := fun dl S R X => ue dl S (fun d S1 => ∃ xs, drawD S1 d = some xs ∧ R xs (fun S => drawD S d = some xs) S1) X
theorem di_seq (h : DE X W e te ue) : DI X W tg e (iSeq X.K te) (uSeqI ue) := ⟨pi_any h.run, fun {sg dl L H S T R X' Q} he hs h' hq hx =>
  h.imp he hs h' (fun v d L1 H1 S1 l1 p1 s1 h1 => by
    obtain ⟨xs, e1, h1⟩ := h1
    have sq : seqD S1 d = some xs → (∀ S2, drawD S2 d = seqD S2 d) → (∃ a, v = .ref a ∧ (∃ xs, SqL X.K H1 a xs) ∧ Q (Itl X.K a) H1) ∨ (∃ a, v = .ref a ∧ (∃ xs, SqT X.K H1 a xs) ∧ Q (Itt X.K a) H1) := fun e hd => by
      obtain ⟨a, vs, rfl, h2, _⟩ := s1.seqK p1 e
      rcases h2 with ⟨h0, h2⟩ | ⟨h0, h2⟩
      · refine .inr ⟨a, rfl, ⟨vs, .of h2⟩, hq _ xs (fun S => drawD S d = some xs) L1 H1 S1 l1 s1 ⟨fun i H2 L2 S2 T2 l2 s2 hP hi => ?_, fun i H2 L2 S2 T2 x H3 c l2 s2 hP hd' hy => ?_, fun i H2 L2 S2 T2 l2 s2 hP hi => ?_⟩ h1⟩
        · rw [hd] at hP
          obtain ⟨b, ws, eb, h3, s3, p3⟩ := s2.seqK (l2 _ _ p1) hP
          injection eb with eb
          subst eb
          rcases h3 with ⟨_, h3⟩ | ⟨z, _⟩
          · exact ⟨ws, ws[i]'(by rw [p3.length]; exact hi), .of h3, List.getElem?_eq_getElem _⟩
          · rw [h0] at z; cases z
        · rw [hd] at hP
          obtain ⟨b, ws, eb, h3, s3, p3⟩ := s2.seqK (l2 _ _ p1) hP
          injection eb with eb
          subst eb
          rcases h3 with ⟨_, h3⟩ | ⟨z, _⟩
          · obtain ⟨rfl, hy⟩ := hy
            obtain ⟨w, h4, h5⟩ := p3.get hd'
            have := hy ws (.of h3)
            rw [h4] at this
            injection this with this
            subst this
            exact ⟨_, LaddL.le, h5, s3⟩
          · rw [h0] at z; cases z
        · rw [hd] at hP
          obtain ⟨b, ws, eb, h3, s3, p3⟩ := s2.seqK (l2 _ _ p1) hP
          injection eb with eb
          subst eb
          rcases h3 with ⟨_, h3⟩ | ⟨z, _⟩
          · exact ⟨ws, .of h3, by rw [p3.length, hi]; exact Nat.le_refl _⟩
          · rw [h0] at z; cases z
      · refine .inl ⟨a, rfl, ⟨vs, .of h2⟩, hq _ xs (fun S => drawD S d = some xs) L1 H1 S1 l1 s1 ⟨fun i H2 L2 S2 T2 l2 s2 hP hi => ?_, fun i H2 L2 S2 T2 x H3 c l2 s2 hP hd' hy => ?_, fun i H2 L2 S2 T2 l2 s2 hP hi => ?_⟩ h1⟩
        · rw [hd] at hP
          obtain ⟨b, ws, eb, h3, s3, p3⟩ := s2.seqK (l2 _ _ p1) hP
          injection eb with eb
          subst eb
          rcases h3 with ⟨z, _⟩ | ⟨_, h3⟩
          · rw [h0] at z; cases z
          · exact ⟨ws, ws[i]'(by rw [p3.length]; exact hi), .of h3, List.getElem?_eq_getElem _⟩
        · rw [hd] at hP
          obtain ⟨b, ws, eb, h3, s3, p3⟩ := s2.seqK (l2 _ _ p1) hP
          injection eb with eb
          subst eb
          rcases h3 with ⟨z, _⟩ | ⟨_, h3⟩
          · rw [h0] at z; cases z
          · obtain ⟨rfl, hy⟩ := hy
            obtain ⟨w, h4, h5⟩ := p3.get hd'
            have := hy ws (.of h3)
            rw [h4] at this
            injection this with this
            subst this
            exact ⟨_, LaddL.le, h5, s3⟩
        · rw [hd] at hP
          obtain ⟨b, ws, eb, h3, s3, p3⟩ := s2.seqK (l2 _ _ p1) hP
          injection eb with eb
          subst eb
          rcases h3 with ⟨z, _⟩ | ⟨_, h3⟩
          · rw [h0] at z; cases z
          · exact ⟨ws, .of h3, by rw [p3.length, hi]; exact Nat.le_refl _⟩
    cases d with
    | str z =>
      refine .inr (.inr ⟨z, s1.vstr p1, hq _ xs (fun S => drawD S (.str z) = some xs) L1 H1 S1 l1 s1 ⟨fun i H2 L2 S2 T2 l2 s2 hP hi => ?_, fun i H2 L2 S2 T2 x H3 c l2 s2 hP hd' hy => ?_, fun i H2 L2 S2 T2 l2 s2 hP hi => ?_⟩ h1⟩)
      · simp only [drawD, Option.some.injEq] at hP
        rw [← hP] at hi
        show i < z.cps.size
        simpa using hi
      · simp only [drawD, Option.some.injEq] at hP
        obtain ⟨rfl, c', hc, rfl⟩ := hy
        rw [← hP, List.getElem?_map, show z.cps.toList[i]? = some c' by simpa using hc] at hd'
        injection hd' with hd'
        subst hd'
        exact ⟨Ladd L2 _ _, Ladd.le, Ladd.here, s2.flat rfl⟩
      · simp only [drawD, Option.some.injEq] at hP
        show z.cps.size ≤ i
        rw [hi, ← hP]
        simp
    | lst zs => exact (sq e1 fun _ => rfl).elim .inl fun z => .inr (.inl z)
    | tup zs => exact (sq e1 fun _ => rfl).elim .inl fun z => .inr (.inl z)
    | cell n => exact (sq e1 fun _ => rfl).elim .inl fun z => .inr (.inl z)
    | _ => simp [drawD, seqD] at e1) hx⟩
/-- ranges -/
def rangeD (lo : Int) (n : Nat) : List Dat := (List.range n).map fun (i : Nat) => Dat.int (lo + (i : Int))
theorem itr_ok {lo : Int} {n : Nat} {L : LL} : ItI (Itr lo n) (rangeD lo n) L (fun _ => True) :=
  ⟨fun i H2 L2 S2 T2 l2 s2 hP hi => by show i < n; simpa [rangeD] using hi, fun i H2 L2 S2 T2 x H3 c l2 s2 hP hd' hy => by
    obtain ⟨rfl, rfl⟩ := hy
    simp only [rangeD, List.getElem?_map, Option.map_eq_some_iff] at hd'
    obtain ⟨j, hj, rfl⟩ := hd'
    have := List.getElem?_eq_some_iff.mp hj
    obtain ⟨h1, h2⟩ := this
    simp at h2
    subst h2
    exact ⟨Ladd L2 _ _, Ladd.le, Ladd.here, s2.flat rfl⟩, fun i H2 L2 S2 T2 l2 s2 hP hi => by
    show n ≤ i
    rw [hi]; simp [rangeD]⟩
def uR1 (ua : UA) : UI := fun dl S R X => ua dl S (fun ds S1 => match ds with
  | [.int j] => (-(2 ^ 62) ≤ j ∧ j < 2 ^ 62) ∧ R (rangeD 0 j.toNat) (fun _ => True) S1
  | _ => False) X
def uR2 (ua : UA) : UI := fun dl S R X => ua dl S (fun ds S1 => match ds with
  | [.int i, .int j] => (-(2 ^ 62) ≤ i ∧ i < 2 ^ 62 ∧ -(2 ^ 62) ≤ j ∧ j < 2 ^ 62) ∧ R (rangeD i (j - i).toNat) (fun _ => True) S1
  | _ => False) X
theorem di_range1 (hm : X.mg "range" = none) (ha : DA X W [a] ta ua) (hg : Gl X "range" := by rfl) (hs : starEach [a] X.env = [(false, eval a X.env)] := by rfl) : DI X W tg (.Call (.Name "range" p) [a] [] pos) (iRng1 ta) (uR1 ua) :=
  ⟨pi_range1 hg hm ha.run hs, fun {sg dl L H S T R X' Q} he hs h hq hx => ha.imp he hs h (fun vs ds L1 H1 S1 l1 p1 s1 h1 => by
    match ds, p1, h1 with
    | [.int j], p1, h1 =>
      obtain ⟨v, rfl, pv⟩ := p1.one
      rw [s1.vint pv]
      exact ⟨j, rfl, h1.1.1, h1.1.2, hq _ _ _ L1 H1 S1 l1 s1 itr_ok h1.2⟩) hx⟩
theorem di_range2 (hm : X.mg "range" = none) (ha : DA X W [a, b] ta ua) (hg : Gl X "range" := by rfl) (hs : starEach [a, b] X.env = [(false, eval a X.env), (false, eval b X.env)] := by rfl) (hs2 : starEach [b] X.env = [(false, eval b X.env)] := by rfl) : DI X W tg (.Call (.Name "range" p) [a, b] [] pos) (iRng2 ta) (uR2 ua) :=
  ⟨pi_range2 hg hm ha.run hs hs2, fun {sg dl L H S T R X' Q} he hs h hq hx => ha.imp he hs h (fun vs ds L1 H1 S1 l1 p1 s1 h1 => by
    match ds, p1, h1 with
    | [.int i, .int j], p1, h1 =>
      obtain ⟨v, w, rfl, pv, pw⟩ := p1.two
      rw [s1.vint pv, s1.vint pw]
      exact ⟨i, j, rfl, h1.1, hq _ _ _ L1 H1 S1 l1 s1 itr_ok h1.2⟩) hx⟩
end
end DL
/-! DL8: short words for what the printer prints. -/
namespace DL
open PySem L2
abbrev gSub : G2 := gInt0 fun i j => i - j
abbrev gMul : G2 := gInt CMul fun i j => i * j
abbrev gMod : G2 := gInt (fun _ j => 0 < j) fun i j => i % j
abbrev gFdiv : G2 := gInt CDiv fun i j => i / j
abbrev gPow : G2 := gInt CPow fun i j => i ^ j.toNat
abbrev gNeg : G1 := fun d S K => match d with
    | .int i => K (.int (-i)) S
    | _ => False
/-- a def that may be called, at f: what it promises; dd: its defaults -/
def Callee (P : Program) (w : World) (K : PySem.W.Frag) (mg : Str → Option Value) (base : Heap) (k : Nat) (f : Addr) (ps : List Str) (F : Spec) (dd : List Dat) : Prop :=
  ∃ fd dl dvs, FnOk P w K mg base (L2.CX P w) k f fd ps (spOf F) ∧ PySem.W.keepIn K (.ref f) = true ∧ Binds K fd ps dl ∧ Vals dvs dl ∧ Flats dd dvs
section
variable {X : Cx} {W : WX} {k j : Nat} {f : Addr} {ps : List Str} {F : Spec} {x : Str} {p pos : Pos} {e : Expr} {es : List Expr} {t : TA} {u : UA} {dd : List Dat}
/-- the reading by values hangs on the defaults: it is told by what it is -/
theorem de_callF {dvs : List V} (c : ∃ fd dl, FnOk X.prog X.w X.K X.mg X.base (L2.CX X.prog X.w) k f fd ps (spOf F) ∧ PySem.W.keepIn X.K (.ref f) = true ∧ Binds X.K fd ps dl ∧ Vals dvs dl ∧ Flats dd dvs) (hr : Room j X.A) (hj : k ≤ j) (hm : X.mg x = some (.ref f)) (tk : Takes X W)
    (ha : DA X W (e :: es) t u) (hg : Gl X x := by rfl) (hdb : (x == ("__debug__" : Str)) = false := by decide) (he : starEach (e :: es) X.env = (false, eval e X.env) :: starEach es X.env := by rfl) (hpl : (backTo pos (starEach es X.env)).any (·.1) = false := by rfl) :
    DE X W (.Call (.Name x p) (e :: es) [] pos) (tCallSD (spOf F) dvs (WE W) t) (uCall F dd u) := by
  obtain ⟨fd, dl, h1, h2, h3, h4, h5⟩ := c
  exact de_call h1 (hr.mono hj) hm h2 h3 h4 h5 tk ha hg hdb he hpl
theorem de_gint {i : Int} (h : ∃ t, X.mg x = some (.int i t)) (hg : Gl X x := by rfl) (hd : (x == ("__debug__" : Str)) = false := by decide) : DE X W (.Name x pos) (tC (.int i)) (uC (.int i)) := by
  obtain ⟨t, h⟩ := h
  exact de_glob (d := .int i) (v := .int i) h ⟨t, rfl⟩ rfl hg hd
theorem de_gstr {i : Str} (h : ∃ t, X.mg x = some (.str i t)) (hg : Gl X x := by rfl) (hd : (x == ("__debug__" : Str)) = false := by decide) : DE X W (.Name x pos) (tC (.str i)) (uC (.str i)) := by
  obtain ⟨t, h⟩ := h
  exact de_glob (d := .str i) (v := .str i) h ⟨t, rfl⟩ rfl hg hd
end
/-- the same, the defaults' values told -/
def CalleeV (P : Program) (w : World) (K : PySem.W.Frag) (mg : Str → Option Value) (base : Heap) (k : Nat) (f : Addr) (ps : List Str) (F : Spec) (dd : List Dat) (dvs : List V) : Prop :=
  ∃ fd dl, FnOk P w K mg base (L2.CX P w) k f fd ps (spOf F) ∧ PySem.W.keepIn K (.ref f) = true ∧ Binds K fd ps dl ∧ Vals dvs dl ∧ Flats dd dvs
end DL
/-! DL8K: the rules that name the frozen part, with its name told (for what stands in a comprehension). -/
namespace DL
open PySem L2
section
variable {X : Cx} {W : WX} {a b c e o : Expr} {es rest : List Expr} {ta tb tc te to : TE} {ua ub uc ue uo : UE} {tA tB' : TT} {uA uB : UT} {t : TA} {u : UA} {pos p tpos : Pos} {r r' : R2} {g g' : G2} (KK : PySem.W.Frag) (hK : X.K = KK)
include hK
theorem dt_truK (ha : DE X W a ta ua) (hh : ∀ whole, isTrue a X.env whole = (do let v ← whole; standAt a.pos; holding [v] (truthy v)) := by intro _; rfl) : DT X W a (fun sg H Q => ta sg H fun x H' => ∃ k, TruV KK x H' k ∧ Q k H') (uTru ua) := by subst hK; exact dt_tru ha hh
theorem de_andK (ha : DE X W a ta ua) (hb : DE X W (.BoolOp .And (b :: rest) pos) tb ub) : DE X W (.BoolOp .And (a :: b :: rest) pos) (tAndT KK ta tb) (uAndV ua ub) := by subst hK; exact de_and ha hb
theorem de_orK (ha : DE X W a ta ua) (hb : DE X W (.BoolOp .Or (b :: rest) pos) tb ub) : DE X W (.BoolOp .Or (a :: b :: rest) pos) (tOrT KK ta tb) (uOrV ua ub) := by subst hK; exact de_or ha hb
theorem de_notK (ha : DE X W a ta ua) : DE X W (.UnaryOp .Not a pos) (tNotT KK ta) (uNotV ua) := by subst hK; exact de_not ha
theorem dg_tupK {tr : TGs} {ur : UGs} {ts : List Nat} {k n : Nat} (hc : X.calm = true) (h : DGs X W es tr ur ts) (hn : (assignEach es X.env).length = n := by rfl) (hst : (assignEach es X.env).findIdx? (·.1) = none := by rfl) : DG X W (.Tuple es k pos) (gTup KK n tr) (uGTup n ur) ts := by subst hK; exact dg_tup hc h hn hst
theorem dop_addK : DOp X (binaryOp .Add) (rAddG KK) gAdd := by subst hK; exact dop_add
theorem dop_eqK (hu : X.A.units + 64 < cLine) : DOp X (compareOp .Eq) (fun x y H Q => rEq x y H Q ∨ rEqD KK x y H Q) gEq := by subst hK; exact dop_eq hu
theorem dop_neK (hu : X.A.units + 64 < cLine) : DOp X (compareOp .NotEq) (fun x y H Q => rNe x y H Q ∨ rNeD KK x y H Q) gNe := by subst hK; exact dop_ne hu
theorem dop_inK : DOp X (compareOp .In) (rInG KK false) (gIn id) := by subst hK; exact dop_in
theorem dop_notinK : DOp X (compareOp .NotIn) (rInG KK true) (gIn (!·)) := by subst hK; exact dop_notin
theorem de_ixK (ha : DE X W a ta ua) (hb : DE X W b tb ub) (hs : PlainIx b := by exact fun _ _ => rfl) : DE X W (.Subscript a b pos) (tOp (rIx KK) ta tb) (uOp gIx ua ub) := by subst hK; exact de_ix ha hb hs
theorem de_slK {lo hi : Option Expr} {tl th : TO} {ul uh : UO} {p2 : Pos} (ha : DE X W a ta ua) (hl : DO X W lo tl ul) (hh : DO X W hi th uh) : DE X W (.Subscript a (.Slice lo hi none p2) pos) (tSl (rSlG KK) ta tl th) (uSl ua ul uh) := by subst hK; exact de_sl ha hl hh
theorem dcb_lenK : DCb X (.builtin "len") (fun xs H Q => ∃ x n, xs = [x] ∧ LenV KK x H n ∧ Q (.int n) H) gLen := by subst hK; exact dcb_len
theorem dcb_isiK : DCb X (.builtin "isinstance") (rIsiG KK) (gIsi KK) := by subst hK; exact dcb_isi
theorem dcb_listK : DCb X (.type "list") (fun xs H Q => ∃ p ys, xs = [.ref p] ∧ (SqL KK H p ys ∨ SqT KK H p ys) ∧ ∀ l, H l = none → Q (.ref l) (upd H l (.lst ys))) gListT := by subst hK; exact dcb_list
theorem dcb_tupleK : DCb X (.type "tuple") (fun xs H Q => ∃ p ys, xs = [.ref p] ∧ ((SqL KK H p ys ∧ ∀ l, H l = none → Q (.ref l) (upd H l (.tup ys))) ∨ (SqT KK H p ys ∧ Q (.ref p) H))) gTupleC := by subst hK; exact dcb_tuple
theorem dcb_allK (hc : X.calm = true) : DCb X (.builtin "all") (rAll KK) (gBools fun bs => bs.all id) := by subst hK; exact dcb_all hc
theorem dcb_anyK (hc : X.calm = true) : DCb X (.builtin "any") (rAny KK) (gBools fun bs => bs.any id) := by subst hK; exact dcb_any hc
theorem dcb_sortedSK : DCb X (.builtin "sorted") (rSortedS KK) (gSortedS fun xs S K => K (.lst xs) S) := by subst hK; exact dcb_sortedS
theorem de_bm0K {r : V → List V → Hp → VK → Prop} {g : GM} {T id : String} {name : Str} {apos cpos : Pos} (pa : PlainAttrs T) (slot : Slot T name id) (hty : typeOf (.builtin id) = pure (.type "method_descriptor")) (hm : DMt X id r g) (ho : DE X W o to uo)
    (hbase : attributeBase o name X.env (eval o X.env) = eval o X.env := by rfl) (hline : (apos.endLine == cpos.line) = true := by rfl) : DE X W (.Call (.Attribute o name apos) [] [] cpos) (tBM0 KK T r to) (uBM0 T g uo) := by subst hK; exact de_bm0 pa slot hty hm ho hbase hline
theorem de_bmK {r : V → List V → Hp → VK → Prop} {g : GM} {T id : String} {name : Str} {apos cpos : Pos} (pa : PlainAttrs T) (slot : Slot T name id) (hty : typeOf (.builtin id) = pure (.type "method_descriptor")) (hm : DMt X id r g) (ho : DE X W o to uo) (ha : DA X W (e :: es) t u)
    (hbase : attributeBase o name X.env (eval o X.env) = eval o X.env := by rfl)
    (hfew : ((backTo cpos (starEach (e :: es) X.env)).all (fun x => !x.1) && (backToKw cpos (keywordEach [] X.env)).all (fun x => x.1.isSome)
      && decide ((e :: es).length + ([] : List Keyword).length + (if ([] : List Keyword).isEmpty then 0 else 1) < 30)) = true := by rfl)
    (hline : (apos.endLine == cpos.line) = true := by rfl) (hs : starEach (e :: es) X.env = (false, eval e X.env) :: starEach es X.env := by rfl) (hplain : (backTo cpos (starEach es X.env)).any (·.1) = false := by rfl) :
    DE X W (.Call (.Attribute o name apos) (e :: es) [] cpos) (tBM KK T r to t) (uBM T g uo u) := by subst hK; exact de_bm pa slot hty hm ho ha hbase hfew hline hs hplain
theorem dmt_joinK : DMt X "str.join" (fun x xs H Q => ∃ a p, ∃ ys : List Str, x = .str a ∧ xs = [.ref p] ∧ (SqL KK H p (ys.map V.str) ∨ SqT KK H p (ys.map V.str)) ∧
    (ys.map (·.length)).sum + ys.length * a.length ≤ 16777216 ∧ Q (.str (Txt.join a ys)) H) gJoin := by subst hK; exact dmt_join
theorem di_seqK {tg : Expr} (h : DE X W e te ue) : DI X W tg e (iSeq KK te) (uSeqI ue) := by subst hK; exact di_seq h
theorem di_zipK {e2 : Expr} {kk : Nat} {elts : List Expr} (hm : X.mg "zip" = none) (ha : DA X W [e, e2] t u) (hg : Gl X "zip" := by rfl)
    (hs : starEach [e, e2] X.env = (false, eval e X.env) :: starEach [e2] X.env := by rfl) (hpl : (backTo pos (starEach [e2] X.env)).any (·.1) = false := by rfl) :
    DI X W (.Tuple elts kk tpos) (.Call (.Name "zip" p) [e, e2] [] pos) (iZ KK t) (uZ u) := by subst hK; exact di_zip hm ha hg hs hpl
end
end DL
/-! DL9: one step of a reading at a time. -/
namespace DL
open PySem L2
def tyD : Dat → String
  | .non => "NoneType" | .bl _ => "bool" | .int _ => "int" | .str _ => "str" | .lst _ => "list" | .tup _ => "tuple" | _ => "?"
section
variable {dl : Env'} {S : Store} {K : KE} {X : KX} {D : DEnds} {i j : Nat} {d d' x y z : Dat} {ua ub uc ue : UE} {tA tB : UT} {u : UA} {a b : US} {g g' : G2} {KT : Bool → Store → Prop} {KA : List Dat → Store → Prop} {xs ys ds : List Dat} {KF : PySem.W.Frag}
theorem x_seq (h : a { D with nx := b D } dl S) : uSeq a b D dl S := h
theorem x_next (h : D.nx dl S) : uNext D dl S := h
theorem x_break (h : D.bk dl S) : uBreak D dl S := h
theorem x_cont (h : D.ct dl S) : uCont D dl S := h
theorem x_drop (h : ue dl S (fun _ S1 => D.nx dl S1) (fun e S1 => D.ex e dl S1)) : uDrop ue D dl S := h
theorem x_ret (h : ue dl S (fun d S1 => D.rt d S1) (fun e S1 => D.ex e dl S1)) : uRet ue D dl S := h
theorem x_retN (h : D.rt .non S) : uRetN D dl S := h
theorem x_ifS (h : tA dl S (fun k S1 => if k = true then a D dl S1 else b D dl S1) (fun e S1 => D.ex e dl S1)) : uIfS tA a b D dl S := h
theorem x_set (h : ue dl S (fun d S1 => i < dl.length ∧ D.nx (dl.set i (some d)) S1) (fun e S1 => D.ex e dl S1)) : uSet i ue D dl S := h
theorem x_asg {ug : UG} (h : ue dl S (fun d S1 => ug d dl S1 D.nx (fun e S1 => D.ex e dl S1)) (fun e S1 => D.ex e dl S1)) : uAsg ue ug D dl S := h
theorem x_par (h : u dl S (fun ds S1 => match ds with
  | [a, b] => i < dl.length ∧ j < dl.length ∧ D.nx ((dl.set i (some a)).set j (some b)) S1
  | _ => False) (fun e S1 => D.ex e dl S1)) : uPar i j u D dl S := h
theorem x_name {KN : Env' → Store → Prop} (h : i < dl.length) (k : KN (dl.set i (some d)) S) : uName i d dl S KN X := ⟨h, k⟩
theorem x_gsub {KN : Env' → Store → Prop} {gs : GS} (h : ua dl S (fun o S1 => ub dl S1 (fun i S2 => gs o i d S2 fun S3 => KN dl S3) X) X) : uGSub ua ub gs d dl S KN X := h
theorem x_gtup {KN : Env' → Store → Prop} {n : Nat} {ug : UGs} (h : xs.length = n) (k : ug xs dl S KN (fun _ _ => False)) : uGTup n ug (.tup xs) dl S KN X := ⟨h, k⟩
theorem x_gnil {KN : Env' → Store → Prop} (k : KN dl S) : uGNil [] dl S KN X := k
theorem x_gcons {KN : Env' → Store → Prop} {ug : UG} {ur : UGs} (k : ug d dl S (fun dl2 S2 => ur xs dl2 S2 KN X) X) : uGCons ug ur (d :: xs) dl S KN X := k
theorem x_var (h : dl[i]? = some (some d)) (k : K d S) : uVar i dl S K X := by unfold uVar; rw [h]; exact k
theorem x_c (k : K d S) : uC d dl S K X := k
theorem x_op (h : ua dl S (fun x S1 => ub dl S1 (fun y S2 => g x y S2 K) X) X) : uOp g ua ub dl S K X := h
theorem x_un {g : G1} (h : ua dl S (fun x S1 => g x S1 K) X) : uUn g ua dl S K X := h
theorem x_nil (h : KA [] S) : uNil dl S KA X := h
theorem x_cons (h : ua dl S (fun x S1 => u dl S1 (fun xs S2 => KA (x :: xs) S2) X) X) : uCons ua u dl S KA X := h
theorem x_tup (h : u dl S (fun xs S1 => xs.length ≤ sizeLine ∧ K (.tup xs) S1) X) : uTup u dl S K X := h
theorem x_lst (h : u dl S (fun xs S1 => xs.length ≤ sizeLine ∧ K (.lst xs) S1) X) : uLst u dl S K X := h
theorem x_lstC (h : u dl S (fun xs S1 => xs.length ≤ sizeLine ∧ K (.cell S1.length) (S1 ++ [.lst xs])) X) : uLstC u dl S K X := h
theorem x_cb {g : GL} (h : u dl S (fun xs S1 => g xs S1 K) X) : uCB g u dl S K X := h
theorem x_call {F : Spec} {dd : List Dat} (h : u dl S (fun ds S1 => F (ds ++ dd) S1 K X) X) : uCall F dd u dl S K X := h
theorem x_if (h : tA dl S (fun c S1 => if c = true then ua dl S1 K X else ub dl S1 K X) X) : uIf tA ua ub dl S K X := h
theorem x_test (h : ua dl S (fun d S1 => match d with
  | .bl b => KT b S1
  | _ => False) X) : uTest ua dl S KT X := h
theorem x_testB {c : Bool} (h : KT c S) : (match (Dat.bl c) with
  | .bl b => KT b S
  | _ => False) := h
theorem x_and (h : tA dl S (fun c S1 => if c = true then tB dl S1 KT X else KT false S1) X) : uAnd tA tB dl S KT X := h
theorem x_or (h : tA dl S (fun c S1 => if c = true then KT true S1 else tB dl S1 KT X) X) : uOr tA tB dl S KT X := h
theorem x_not (h : tA dl S (fun c S1 => KT (!c) S1) X) : uNot tA dl S KT X := h
theorem x_tru (h : ua dl S (fun d S1 => gTru d S1 KT) X) : uTru ua dl S KT X := h
theorem x_andV (h : ua dl S (fun d S1 => gTru d S1 fun c S2 => if c = true then ub dl S2 K X else K d S2) X) : uAndV ua ub dl S K X := h
theorem x_orV (h : ua dl S (fun d S1 => gTru d S1 fun c S2 => if c = true then K d S2 else ub dl S2 K X) X) : uOrV ua ub dl S K X := h
theorem x_notV (h : ua dl S (fun d S1 => gTru d S1 fun c S2 => K (.bl (!c)) S2) X) : uNotV ua dl S K X := h
theorem x_yes (h : KT true S) : uYes dl S KT X := h
theorem x_chain (h : ua dl S (fun x S1 => ub dl S1 (fun y S2 => g x y S2 fun z S3 => match z with
  | .bl c => if c = true then uc dl S3 (fun w S4 => g' y w S4 K) X else K (.bl false) S3
  | _ => False) X) X) : uChain g g' ua ub uc dl S K X := h
theorem x_chainB {c : Bool} {A B : Prop} (h : if c = true then A else B) : (match (Dat.bl c) with
  | .bl c => if c = true then A else B
  | _ => False) := h
/-! tests -/
theorem x_iteT {A B : Prop} (h : A) : if true = true then A else B := h
theorem x_iteF {A B : Prop} (h : B) : if false = true then A else B := h
theorem x_ite {c : Bool} {A B : Prop} (h1 : c = true → A) (h2 : c = false → B) : if c = true then A else B := by
  cases c with
  | true => exact h1 rfl
  | false => exact h2 rfl
theorem x_tN (h : KT false S) : gTru .non S KT := h
theorem x_tB {c : Bool} (h : KT c S) : gTru (.bl c) S KT := h
theorem x_tI {i : Int} (h : KT (i != 0) S) : gTru (.int i) S KT := h
theorem x_tS {s : Str} (hl : s.length ≤ sizeLine) (h : KT ((s.length : Int) != 0) S) : gTru (.str s) S KT := ⟨hl, h⟩
theorem x_tT (h : KT (!xs.isEmpty) S) : gTru (.tup xs) S KT := h
theorem x_tL (h : KT (!xs.isEmpty) S) : gTru (.lst xs) S KT := h
theorem x_tC {n : Nat} (e : S[n]? = some (.lst xs)) (h : KT (!xs.isEmpty) S) : gTru (.cell n) S KT := by show (match S[n]? with | some (.lst xs) => KT (!xs.isEmpty) S | _ => False); rw [e]; exact h
/-! operators -/
variable {m n : Int} {s t : Str} {p q : Bool}
theorem x_addI (k : K (.int (m + n)) S) : gAdd (.int m) (.int n) S K := k
theorem x_addS (h : s.length + t.length ≤ sizeLine) (k : K (.str (s ++ t)) S) : gAdd (.str s) (.str t) S K := ⟨h, k⟩
theorem x_addL (h : xs.length + ys.length ≤ sizeLine) (k : K (.lst (xs ++ ys)) S) : gAdd (.lst xs) (.lst ys) S K := ⟨h, k⟩
theorem x_sub (k : K (.int (m - n)) S) : gSub (.int m) (.int n) S K := k
theorem x_mul (h : CMul m n) (k : K (.int (m * n)) S) : gMul (.int m) (.int n) S K := ⟨h, k⟩
theorem x_mod (h : 0 < n) (k : K (.int (m % n)) S) : gMod (.int m) (.int n) S K := ⟨h, k⟩
theorem x_fdiv (h : CDiv m n) (k : K (.int (m / n)) S) : gFdiv (.int m) (.int n) S K := ⟨h, k⟩
theorem x_pow (h : CPow m n) (k : K (.int (m ^ n.toNat)) S) : gPow (.int m) (.int n) S K := ⟨h, k⟩
theorem x_neg (k : K (.int (-m)) S) : gNeg (.int m) S K := k
theorem x_ltI (k : K (.bl (decide (m < n))) S) : gLt (.int m) (.int n) S K := k
theorem x_leI (k : K (.bl (decide (m ≤ n))) S) : gLe (.int m) (.int n) S K := k
theorem x_gtI (k : K (.bl (decide (n < m))) S) : gGt (.int m) (.int n) S K := k
theorem x_geI (k : K (.bl (decide (n ≤ m))) S) : gGe (.int m) (.int n) S K := k
theorem x_ltS (k : K (.bl (ltS s t)) S) : gLt (.str s) (.str t) S K := k
theorem x_leS (k : K (.bl (!ltS t s)) S) : gLe (.str s) (.str t) S K := k
theorem x_gtS (k : K (.bl (ltS t s)) S) : gGt (.str s) (.str t) S K := k
theorem x_geS (k : K (.bl (!ltS s t)) S) : gGe (.str s) (.str t) S K := k
theorem x_eqI (k : K (.bl (decide (m = n))) S) : gEq (.int m) (.int n) S K := k
theorem x_eqS (k : K (.bl (decide (s = t))) S) : gEq (.str s) (.str t) S K := k
theorem x_eqB (k : K (.bl (decide (p = q))) S) : gEq (.bl p) (.bl q) S K := k
theorem x_neI (k : K (.bl (!decide (m = n))) S) : gNe (.int m) (.int n) S K := k
theorem x_neS (k : K (.bl (!decide (s = t))) S) : gNe (.str s) (.str t) S K := k
theorem x_neB (k : K (.bl (!decide (p = q))) S) : gNe (.bl p) (.bl q) S K := k
theorem x_eqP {p q : PyData} (e : scalD x y = none) (h1 : Py S x p) (h2 : Py S y q) (h3 : SeqAt.shaped p = true) (h4 : SeqAt.shaped q = true) (k : K (.bl (PyData.eqv p q)) S) : gEq x y S K := by
  unfold gEq gEqB; rw [e]; exact ⟨p, q, h1, h2, h3, h4, k⟩
theorem x_neP {p q : PyData} (e : scalD x y = none) (h1 : Py S x p) (h2 : Py S y q) (h3 : SeqAt.shaped p = true) (h4 : SeqAt.shaped q = true) (k : K (.bl (!PyData.eqv p q)) S) : gNe x y S K := by
  unfold gNe gEqB; rw [e]; exact ⟨p, q, h1, h2, h3, h4, k⟩
theorem x_is (h : noRaw x = true) (k : K (.bl (isNonD x)) S) : gIs id x .non S K := ⟨h, k⟩
theorem x_isnot (h : noRaw x = true) (k : K (.bl (!isNonD x)) S) : gIs (!·) x .non S K := ⟨h, k⟩
theorem x_inS {c : Nat} (k : K (.bl (decide (c ∈ s.cps.toList))) S) : gIn id (.str (sgn c)) (.str s) S K := ⟨c, rfl, k⟩
theorem x_notinS {c : Nat} (k : K (.bl (!decide (c ∈ s.cps.toList))) S) : gIn (!·) (.str (sgn c)) (.str s) S K := ⟨c, rfl, k⟩
theorem x_ixL (e : seqD S x = some xs) (h : atI xs m = some d) (k : K d S) : gIx x (.int m) S K := by
  unfold gIx
  cases x with
  | str z => simp [seqD] at e
  | _ => exact ⟨xs, d, e, h, k⟩
theorem x_ixS {c : Nat} (hl : s.length ≤ sizeLine) (h : atI s.cps.toList m = some c) (k : K (.str (sgn c)) S) : gIx (.str s) (.int m) S K := ⟨hl, c, h, k⟩
/-! built-ins -/
theorem x_lenS (hl : s.length ≤ sizeLine) (k : K (.int s.length) S) : gLen [.str s] S K := ⟨hl, k⟩
theorem x_lenL (e : seqD S x = some xs) (k : K (.int xs.length) S) : gLen [x] S K := by
  unfold gLen
  cases x with
  | str z => simp [seqD] at e
  | _ => exact ⟨xs, e, k⟩
theorem x_intI (k : K (.int m) S) : gInt1 [.int m] S K := k
theorem x_intB (k : K (.int (if p then 1 else 0)) S) : gInt1 [.bl p] S K := k
theorem x_strI (h : m.natAbs.log2 < 1920) (k : K (.str (toString m)) S) : gStr1 [.int m] S K := ⟨h, k⟩
theorem x_abs (k : K (.int (if m < 0 then -m else m)) S) : gAbs [.int m] S K := k
theorem x_isi {t : String} {T : String} (e : tyS S d = some t) (hT : T ∈ tyNames) (k : K (.bl (isB t T)) S) : gIsi KF [d, .raw (.ty T)] S K := by
  refine ⟨isB t T, ?_, k⟩
  unfold isOne
  rw [e]
  exact ⟨hT, rfl⟩
theorem x_isi2 {t T1 T2 : String} (e : tyS S d = some t) (h1 : T1 ∈ tyNames) (h2 : T2 ∈ tyNames) (k : K (.bl (isB t T1 || isB t T2)) S) : gIsi KF [d, .tup [.raw (.ty T1), .raw (.ty T2)]] S K := by
  have o : ∀ T ∈ tyNames, isOne KF S d (.raw (.ty T)) (isB t T) := fun T hT => by unfold isOne; rw [e]; exact ⟨hT, rfl⟩
  refine ⟨rfl, _, ⟨isB t T1, o T1 h1, fun z => by rw [z]; rfl, fun z => ⟨isB t T2, o T2 h2, fun z2 => by rw [z, z2]; rfl, fun z2 => by rw [z, z2]; rfl⟩⟩, k⟩
theorem x_isiD {T : String} (e : tyS S d = some (tyD d)) (hT : T ∈ tyNames) (k : K (.bl (isB (tyD d) T)) S) : gIsi KF [d, .raw (.ty T)] S K := x_isi e hT k
theorem x_isiD2 {T1 T2 : String} (e : tyS S d = some (tyD d)) (h1 : T1 ∈ tyNames) (h2 : T2 ∈ tyNames) (k : K (.bl (isB (tyD d) T1 || isB (tyD d) T2)) S) : gIsi KF [d, .tup [.raw (.ty T1), .raw (.ty T2)]] S K := x_isi2 e h1 h2 k
theorem x_list (e : seqD S x = some xs) (k : K (.lst xs) S) : gListT [x] S K := ⟨xs, e, k⟩
theorem x_listC (e : seqD S x = some xs) (k : K (.cell S.length) (S ++ [.lst xs])) : gListC [x] S K := ⟨xs, e, k⟩
theorem x_tuple (e : seqD S x = some xs) (k : K (.tup xs) S) : gTupleC [x] S K := ⟨xs, e, k⟩
theorem x_bools {f : List Bool → Bool} {bs : List Bool} (e : lstD S x = some (bs.map Dat.bl)) (k : K (.bl (f bs)) S) : gBools f [x] S K := ⟨bs, e, k⟩
theorem x_bm {g : GM} {T : String} (h : ua dl S (fun d S1 => isT T S1 d ∧ u dl S1 (fun xs S2 => g d xs S2 K) X) X) : uBM T g ua u dl S K X := h
theorem x_bm0 {g : GM} {T : String} (h : ua dl S (fun d S1 => isT T S1 d ∧ g d [] S1 K) X) : uBM0 T g ua dl S K X := h
theorem x_append {n : Nat} (e : S[n]? = some (.lst xs)) (h : xs.length < sizeLine) (k : K .non (S.set n (.lst (xs ++ [y])))) : gAppend (.cell n) [y] S K := ⟨xs, e, h, k⟩
theorem x_join {ss : List Str} (e : seqD S y = some (ss.map Dat.str)) (h : (ss.map (·.length)).sum + ss.length * s.length ≤ 16777216) (k : K (.str (Txt.join s ss)) S) : gJoin (.str s) [y] S K := ⟨ss, e, h, k⟩
theorem x_setL {n j : Nat} {KS : Store → Prop} (e : S[n]? = some (.lst xs)) (h : ixN xs.length m = some j) (k : KS (S.set n (.lst (xs.set j d)))) : gSetL (.cell n) (.int m) d S KS := ⟨xs, j, e, h, k⟩
theorem x_part (h : ua dl S (fun d S1 => match d with
  | .int i => KO (some i) S1
  | _ => False) X) : uPart ua dl S KO X := h
theorem x_no {KO : Option Int → Store → Prop} (h : KO none S) : uNo dl S KO X := h
theorem x_partI {KO : Option Int → Store → Prop} (h : KO (some m) S) : (match (Dat.int m) with
  | .int i => KO (some i) S
  | _ => False) := h
theorem x_sl {ul uh : UO} (h : ua dl S (fun d S1 => ul dl S1 (fun l S2 => uh dl S2 (fun h S3 => gSl d l h S3 K) X) X) X) : uSl ua ul uh dl S K X := h
theorem x_slS {lo hi : Option Int} (hl : s.length ≤ sizeLine) (k : K (.str (cutS s lo hi)) S) : gSl (.str s) lo hi S K := ⟨hl, k⟩
theorem x_slL {lo hi : Option Int} (k : K (.lst (cutD xs lo hi)) S) : gSl (.lst xs) lo hi S K := k
theorem x_slC {lo hi : Option Int} {n : Nat} (e : S[n]? = some (.lst xs)) (k : K (.lst (cutD xs lo hi)) S) : gSl (.cell n) lo hi S K := by
  show (match view S (.cell n) with | some (.lst xs) => K (.lst (cutD xs lo hi)) S | _ => False)
  rw [show view S (.cell n) = some (.lst xs) from e]; exact k
/-! what is walked -/
variable {R : List Dat → (Store → Prop) → Store → Prop}
theorem x_seqI (h : ua dl S (fun d S1 => ∃ xs, drawD S1 d = some xs ∧ R xs (fun S => drawD S d = some xs) S1) X) : uSeqI ua dl S R X := h
theorem x_r1 (h : u dl S (fun ds S1 => match ds with
  | [.int j] => (-(2 ^ 62) ≤ j ∧ j < 2 ^ 62) ∧ R (rangeD 0 j.toNat) (fun _ => True) S1
  | _ => False) X) : uR1 u dl S R X := h
theorem x_r2 (h : u dl S (fun ds S1 => match ds with
  | [.int i, .int j] => (-(2 ^ 62) ≤ i ∧ i < 2 ^ 62 ∧ -(2 ^ 62) ≤ j ∧ j < 2 ^ 62) ∧ R (rangeD i (j - i).toNat) (fun _ => True) S1
  | _ => False) X) : uR2 u dl S R X := h
theorem x_z (h : u dl S (fun ds S1 => match ds with
  | [a, b] => ∃ xs ys, drawD S1 a = some xs ∧ drawD S1 b = some ys ∧ R (pairs xs ys) (fun S => drawD S a = some xs ∧ drawD S b = some ys) S1
  | _ => False) X) : uZ u dl S R X := h
/-- a comprehension that keeps the store: each item gives one, or none -/
theorem lc_pick {own : List Nat} {ug : UG} {tt : UT} {P : Store → Prop} {fin : List Dat → Store → KE → Prop} (f : Dat → Option Dat) (hP : P S) (hsz : xs.length ≤ sizeLine)
    (hs : ∀ (j : Nat) d (Kt : Dat → Store → Prop) (Kf : Store → Prop), xs[j]? = some d → (∀ y, f d = some y → Kt y S) → (f d = none → Kf S) →
      ug d (wipeD dl own) S (fun dl2 S3 => tt dl2 S3 (fun b S4 => if b = true then ue dl2 S4 Kt XF0 else Kf S4) XF0) XF0)
    (k : fin (xs.filterMap f) S K) : ∃ I : Nat → List Dat → Store → Prop, I 0 [] S ∧
  (∀ (j : Nat) d acc S2, xs[j]? = some d → I j acc S2 → P S2 ∧ acc.length < sizeLine ∧ ug d (wipeD dl own) S2 (fun dl2 S3 => tt dl2 S3 (fun b S4 => if b = true then ue dl2 S4 (fun y S5 => I (j + 1) (acc ++ [y]) S5) XF0 else I (j + 1) acc S4) XF0) XF0) ∧
  ∀ acc S2, I xs.length acc S2 → P S2 ∧ fin acc S2 K := by
  refine ⟨fun j acc S' => S' = S ∧ acc = (xs.take j).filterMap f, ⟨rfl, by simp⟩, ?_, ?_⟩
  · rintro j d acc S2 hj ⟨rfl, rfl⟩
    have hlt := (List.getElem?_eq_some_iff.mp hj).1
    have et : xs.take (j + 1) = xs.take j ++ [d] := by rw [List.take_add_one, hj]; rfl
    refine ⟨hP, ?_, hs j d _ _ hj (fun y e => ?_) (fun e => ?_)⟩
    · have h1 : ((xs.take j).filterMap f).length ≤ (xs.take j).length := List.length_filterMap_le ..
      rw [List.length_take] at h1
      omega
    · refine ⟨rfl, ?_⟩
      rw [et, List.filterMap_append]
      simp [e]
    · refine ⟨rfl, ?_⟩
      rw [et, List.filterMap_append]
      simp [e]
  · rintro acc S2 ⟨rfl, rfl⟩
    rw [List.take_length]
    exact ⟨hP, k⟩
theorem lc_map {own : List Nat} {ug : UG} {tt : UT} {P : Store → Prop} {fin : List Dat → Store → KE → Prop} (f : Dat → Dat) (hP : P S) (hsz : xs.length ≤ sizeLine)
    (hs : ∀ (j : Nat) d (Kt : Dat → Store → Prop) (Kf : Store → Prop), xs[j]? = some d → Kt (f d) S →
      ug d (wipeD dl own) S (fun dl2 S3 => tt dl2 S3 (fun b S4 => if b = true then ue dl2 S4 Kt XF0 else Kf S4) XF0) XF0)
    (k : fin (xs.map f) S K) : ∃ I : Nat → List Dat → Store → Prop, I 0 [] S ∧
  (∀ (j : Nat) d acc S2, xs[j]? = some d → I j acc S2 → P S2 ∧ acc.length < sizeLine ∧ ug d (wipeD dl own) S2 (fun dl2 S3 => tt dl2 S3 (fun b S4 => if b = true then ue dl2 S4 (fun y S5 => I (j + 1) (acc ++ [y]) S5) XF0 else I (j + 1) acc S4) XF0) XF0) ∧
  ∀ acc S2, I xs.length acc S2 → P S2 ∧ fin acc S2 K :=
  lc_pick (fun d => some (f d)) hP hsz (fun j d Kt Kf hj h1 _ => hs j d Kt Kf hj (h1 _ rfl)) (by rw [show (fun d => some (f d)) = some ∘ f from rfl, List.filterMap_eq_map]; exact k)
theorem lc_pickG {own : List Nat} {ug : UG} {tt : UT} {P : Store → Prop} {G : List Dat → Store → Prop} (f : Dat → Option Dat) (hP : P S) (hsz : xs.length ≤ sizeLine)
    (hs : ∀ (j : Nat) d (Kt : Dat → Store → Prop) (Kf : Store → Prop), xs[j]? = some d → (∀ y, f d = some y → Kt y S) → (f d = none → Kf S) →
      ug d (wipeD dl own) S (fun dl2 S3 => tt dl2 S3 (fun b S4 => if b = true then ue dl2 S4 Kt XF0 else Kf S4) XF0) XF0)
    (k : G (xs.filterMap f) S) : ∃ I : Nat → List Dat → Store → Prop, I 0 [] S ∧
  (∀ (j : Nat) d acc S2, xs[j]? = some d → I j acc S2 → P S2 ∧ acc.length < sizeLine ∧ ug d (wipeD dl own) S2 (fun dl2 S3 => tt dl2 S3 (fun b S4 => if b = true then ue dl2 S4 (fun y S5 => I (j + 1) (acc ++ [y]) S5) XF0 else I (j + 1) acc S4) XF0) XF0) ∧
  ∀ acc S2, I xs.length acc S2 → P S2 ∧ G acc S2 := by
  refine ⟨fun j acc S' => S' = S ∧ acc = (xs.take j).filterMap f, ⟨rfl, by simp⟩, ?_, ?_⟩
  · rintro j d acc S2 hj ⟨rfl, rfl⟩
    have hlt := (List.getElem?_eq_some_iff.mp hj).1
    have et : xs.take (j + 1) = xs.take j ++ [d] := by rw [List.take_add_one, hj]; rfl
    refine ⟨hP, ?_, hs j d _ _ hj (fun y e => ?_) (fun e => ?_)⟩
    · have h1 : ((xs.take j).filterMap f).length ≤ (xs.take j).length := List.length_filterMap_le ..
      rw [List.length_take] at h1
      omega
    · refine ⟨rfl, ?_⟩
      rw [et, List.filterMap_append]
      simp [e]
    · refine ⟨rfl, ?_⟩
      rw [et, List.filterMap_append]
      simp [e]
  · rintro acc S2 ⟨rfl, rfl⟩
    rw [List.take_length]
    exact ⟨hP, k⟩
theorem x_lcW {ui : UI} {own : List Nat} {ug : UG} {tt : UT} {fin : List Dat → Store → KE → Prop} (h : ui dl S (fun ds P S1 => ∃ I : Nat → List Dat → Store → Prop, I 0 [] S1 ∧
  (∀ (j : Nat) d acc S2, ds[j]? = some d → I j acc S2 → P S2 ∧ acc.length < sizeLine ∧ ug d (wipeD dl own) S2 (fun dl2 S3 => tt dl2 S3 (fun b S4 => if b = true then ue dl2 S4 (fun y S5 => I (j + 1) (acc ++ [y]) S5) XF0 else I (j + 1) acc S4) XF0) XF0) ∧
  ∀ acc S2, I ds.length acc S2 → P S2 ∧ fin acc S2 K) X) : uLcW ui own ug tt ue fin dl S K X := h
theorem x_lc {ui : UI} {own : List Nat} {ug : UG} {tt : UT} (h : uLcW ui own ug tt ue (fun acc S K => K (.lst acc) S) dl S K X) : uLc ui own ug tt ue dl S K X := h
theorem x_lcC {ui : UI} {own : List Nat} {ug : UG} {tt : UT} (h : uLcW ui own ug tt ue (fun acc S K => K (.cell S.length) (S ++ [.lst acc])) dl S K X) : uLcC ui own ug tt ue dl S K X := h
/-! ways out -/
theorem x_for {ui : UI} {ug : UG} {b : US} {D : DEnds} {dl : Env'} {S : Store} (h : ui dl S (fun ds P S1 => ∃ I : Nat → Env' → Store → Prop, I 0 dl S1 ∧
  (∀ (i : Nat) d dl1 S2, ds[i]? = some d → I i dl1 S2 → P S2 ∧ ug d dl1 S2 (fun dl2 S3 => b { D with nx := GcTo S1.length (I (i + 1)), ct := GcTo S1.length (I (i + 1)), bk := D.nx } dl2 S3) (fun e S3 => D.ex e dl1 S3)) ∧
  ∀ dl1 S2, I ds.length dl1 S2 → P S2 ∧ D.nx dl1 S2) (fun e S1 => D.ex e dl S1)) : uFor ui ug b D dl S := h
theorem x_slQ {KF : PySem.W.Frag} {dl : Env'} {S : Store} {K : KE} {X : KX} {ua : UE} {ul uh : UO} (h : ua dl S (fun d S1 => ul dl S1 (fun l S2 => uh dl S2 (fun h S3 => ∃ (ns ms : List Int), d = .sq KF ns ∧ cutV (ns.map V.int) l h = ms.map V.int ∧ K (.lst (ms.map .int)) S3) X) X) X) : uSlQ KF ua ul uh dl S K X := h
theorem x_putL {i : Nat} {dl : Env'} {P : Prop} (h : Nat.blt i dl.length = true) (k : P) : i < dl.length ∧ P := ⟨Nat.le_of_ble_eq_true h, k⟩
theorem x_szL {xs : List Dat} {P : Prop} (h : Nat.ble xs.length sizeLine = true) (k : P) : xs.length ≤ sizeLine ∧ P := ⟨Nat.le_of_ble_eq_true h, k⟩
theorem x_rtE {S : Store} {K : KE} {X : KX} {d : Dat} {S' : Store} (h : ExitTo S K d S') : (endsOf S K X).rt d S' := h
theorem x_iteT2 {c : Bool} {A B : Prop} (e : c = true) (h : A) : if c = true then A else B := by rw [if_pos e]; exact h
theorem x_iteF2 {c : Bool} {A B : Prop} (e : c = false) (h : B) : if c = true then A else B := by rw [if_neg (by rw [e]; decide)]; exact h
theorem below_ints {n : Nat} : ∀ ns : List Int, belows n (ns.map Dat.int)
  | [] => by simp only [List.map_nil, belows]
  | a :: r => by simp only [List.map_cons, belows, below, true_and]; exact below_ints r
theorem below_strs {n : Nat} : ∀ ns : List Str, belows n (ns.map Dat.str)
  | [] => by simp only [List.map_nil, belows]
  | a :: r => by simp only [List.map_cons, belows, below, true_and]; exact below_strs r
/-- nothing of the caller's changes; what comes back has no cell of the def's own -/
theorem exit_pure {S0 R : Store} (hb : below S0.length d) (k : K d S0) : ExitTo S0 K d (S0 ++ R) := ⟨S0, d, ⟨⟨R, rfl⟩, Nat.le_refl _, .inl rfl⟩, .same hb, k⟩
theorem exit_here {S0 : Store} (hb : below S0.length d) (k : K d S0) : ExitTo S0 K d S0 := ⟨S0, d, ⟨⟨[], by simp⟩, Nat.le_refl _, .inl rfl⟩, .same hb, k⟩
theorem belows_set {n j : Nat} {ds : List Dat} (h : belows n ds) (hd : below n d) : belows n (ds.set j d) := by
  induction ds generalizing j with
  | nil => simpa using h
  | cons c ds ih =>
    simp only [belows] at h
    cases j with
    | zero => simp only [List.set_cons_zero, belows]; exact ⟨hd, h.2⟩
    | succ j => simp only [List.set_cons_succ, belows]; exact ⟨h.1, ih h.2⟩
/-- the caller's cell at b has changed -/
theorem exit_set {S0 R : Store} {b : Nat} {c : Dat} (hS : belows S0.length S0) (hc : below S0.length c) (hb : below S0.length d) (k : K d (S0.set b c)) : ExitTo S0 K d (S0.set b c ++ R) :=
  ⟨S0.set b c, d, ⟨⟨R, rfl⟩, by rw [List.length_set]; exact Nat.le_refl _, .inr (by rw [List.length_set]; exact belows_set hS hc)⟩, .same (by rw [List.length_set]; exact hb), k⟩
theorem exit_set0 {S0 : Store} {b : Nat} {c : Dat} (hS : belows S0.length S0) (hc : below S0.length c) (hb : below S0.length d) (k : K d (S0.set b c)) : ExitTo S0 K d (S0.set b c) := by
  have := exit_set (R := []) hS hc hb k
  rwa [List.append_nil] at this
end
/-- a new cell is handed out -/
theorem exit_new {S : Store} {K : KE} {c : Dat} (hS : belows S.length S) (hc : below S.length c) (k : K (.cell S.length) (S ++ [c])) : ExitTo S K (.cell S.length) (S ++ [c]) := by
  refine ⟨S ++ [c], .cell S.length, ⟨⟨[], by simp⟩, by simp, .inr ?_⟩, .same (by simp [below]), k⟩
  have : ∀ {n : Nat} {xs ys : List Dat}, belows n xs → belows n ys → belows n (xs ++ ys) := fun {n xs ys} h1 h2 => by
    induction xs with
    | nil => exact h2
    | cons x xs ih => simp only [belows, List.cons_append] at h1 ⊢; exact ⟨h1.1, ih h1.2⟩
  exact this (belows.mono (by simp) hS) (by simp only [belows, and_true]; exact below.mono (by simp) hc)
end DL
/-! DL10: the ends of the chain: a def without promise, the law's start. -/
namespace DL
open PySem L2
theorem cx_none {P : Program} {w : World} {outer : List Env} {H : Hp} {s : Shared} {e : Value} {s' : Shared} (h : L2.CX P w outer H s (fun _ _ _ => False) e s') : False := by
  obtain ⟨_, _, _, _, _, _, _, _, _, _, _, _, h⟩ := h
  exact h
section
variable {P : Program} {w : World} {K : PySem.W.Frag} {mg : Str → Option Value} {base : Heap} {x qual : Str} {params : Arguments} {body : List Stmt} {scope : Scope} {dvs : List V} {kws : List (Str × V)} {f : Addr} {fd fd2 : FuncData} {N ps : List Str} {k : Nat}
theorem fn_none (F : FunD K x qual params body scope dvs kws f fd) (Sc : FnScope N ps scope) : FnOk P w K mg base (L2.CX P w) (k + 1) f fd ps (spOf fun _ _ _ _ => False) :=
  F.ok Sc (fun vs H Q E h => by obtain ⟨_, _, _, _, _, _, _, _, h, _⟩ := h; exact h.elim) (fun cdv A outer s H vs Q E hr h => by obtain ⟨_, _, _, _, _, _, _, _, h, _⟩ := h; exact h.elim)
theorem funD_one (F : FunD K x qual params body scope dvs kws f fd) {x2 qual2 : Str} {params2 : Arguments} {body2 : List Stmt} {scope2 : Scope} {dvs2 : List V} {kws2 : List (Str × V)} (F2 : FunD K x2 qual2 params2 body2 scope2 dvs2 kws2 f fd2) : fd = fd2 := by
  obtain ⟨_, _, _, _, _, _, _, _, _, _, _, l, _⟩ := F.ex
  obtain ⟨_, _, _, _, _, _, _, _, _, _, _, l2, _⟩ := F2.ex
  rw [l] at l2
  injection l2 with l2
  injection l2 with _ _ l2
  injection l2
end
/-- the law's promise over data -/
def sp_law (K : PySem.W.Frag) : Spec := fun ds S Kt _ => ∃ ns : List Int, ds = [.sq K ns] ∧ ns.length ≤ 63 ∧ (∀ z ∈ ns, Builtin.Int.intBits z ≤ 1048576) ∧ S = [] ∧ ∀ S', Kt (.bl true) S'
theorem len_law {K : PySem.W.Frag} {ds S Kt X} (h : sp_law K ds S Kt X) : ds.length = 1 := by
  obtain ⟨ns, rfl, _⟩ := h
  rfl
theorem start_law {K : PySem.W.Frag} {H : Hp} {a : Addr} {ns : List Int} (hl : ns.length ≤ 63) (hb : ∀ z ∈ ns, Builtin.Int.intBits z ≤ 1048576) (hS : SqL K H a (ns.map V.int)) : spOf (sp_law K) [.ref a] H (fun v _ => v = .bl true) fun _ _ _ => False := by
  refine ⟨[.sq K ns], fun v d => v = .ref a ∧ d = .sq K ns, [], [], fun d _ => d = .bl true, fun _ _ => False, ⟨⟨rfl, rfl⟩, True.intro⟩, ⟨[], rfl, List.nodup_nil, fun n a d e => by simp at e, fun p hp => (List.not_mem_nil hp).elim, fun v d h => ?_⟩, ⟨ns, rfl, hl, hb, rfl, fun _ => rfl⟩, ?_, fun _ _ _ _ _ _ _ _ h => h.elim⟩
  · obtain ⟨rfl, rfl⟩ := h
    simp only [RD]
    refine ⟨a, rfl, ?_⟩
    rcases hS with h | h
    · exact .inl ⟨List.not_mem_nil, h⟩
    · exact .inr (.inr h)
  · intro v d L' H' S' _ hp hs hk
    obtain ⟨rho, x⟩ := hs
    have q := x.rd _ _ hp
    rw [hk] at q
    simp only [RD] at q
    exact q
end DL
/-! DL11: instances over data: made, their fields, methods, properties. -/
namespace DL
open PySem PySem.Spec PyProof.Rows L2
/-- an instance as data: its class, its fields' names, what they hold -/
def insD (S : Store) : Dat → Option (Addr × List Str × List Dat)
  | .ins C ns xs => some (C, ns, xs)
  | .cell n => match S[n]? with
    | some (.ins C ns xs) => some (C, ns, xs)
    | _ => none
  | _ => none
section
variable {H : Hp} {L : LL} {S : Store} {T : List (Addr × HO)} {v : V} {d : Dat} {C : Addr} {ns : List Str} {xs : List Dat}
theorem SR.insOf (hs : SR H L S T) (p : L v d) (e : insD S d = some (C, ns, xs)) : ∃ a dx vs, v = .ref a ∧ H a = some (.ins C dx (ns.zip vs)) ∧ ns.length = vs.length ∧ SR H (LaddL L vs xs) S T ∧ Ls (LaddL L vs xs) vs xs := by
  obtain ⟨rho, x⟩ := hs
  have key : ∀ (vs : List V), RDs H (rho ++ T.map (·.1)) rho xs vs → SR H (LaddL L vs xs) S T ∧ Ls (LaddL L vs xs) vs xs := fun vs r => by
    have q := RDs.ls (LR := fun v d => RD H (rho ++ T.map (·.1)) rho d v) (fun _ _ h => h) r
    refine ⟨⟨rho, x.more fun v d z => ?_⟩, Ls.of q.length fun i w c e1 e2 => .inr ⟨i, e1, e2⟩⟩
    rcases z with z | ⟨i, e1, e2⟩
    · exact .inl z
    · obtain ⟨w, e3, r⟩ := q.get e2
      rw [e1] at e3
      injection e3 with e3
      subst e3
      exact .inr r
  cases d with
  | ins C' ns' xs' =>
    simp only [insD, Option.some.injEq, Prod.mk.injEq] at e
    obtain ⟨rfl, rfl, rfl⟩ := e
    have q := x.rd v _ p
    simp only [RD] at q
    obtain ⟨a, dx, vs, e, _, r1, hl, r⟩ := q
    exact ⟨a, dx, vs, e, r1, hl, key vs r⟩
  | cell n =>
    obtain ⟨a, ha, ev⟩ := x.at_ p
    have e : (match S[n]? with
      | some (.ins C ns xs) => some (C, ns, xs)
      | _ => none) = some (C, ns, xs) := e
    cases q : S[n]? with
    | none => rw [q] at e; cases e
    | some d' =>
      rw [q] at e
      cases d' with
      | ins C' ns' xs' =>
        simp only [Option.some.injEq, Prod.mk.injEq] at e
        obtain ⟨rfl, rfl, rfl⟩ := e
        obtain ⟨dx, vs, e1, hl, r⟩ := x.node n a _ ha q
        exact ⟨a, dx, vs, ev, e1, hl, key vs r⟩
      | _ => cases e
  | _ => cases e
theorem SR.beside (hs : SR H L S T) {p : Addr} {o : HO} (hp : H p = none) : SR (upd H p o) L S T := let ⟨rho, x⟩ := hs; ⟨rho, x.new hp⟩
end
theorem zip_none {α : Type} {f : Str} : ∀ {ns : List Str} {vs : List α}, f ∉ ns → (ns.zip vs).lookup f = none
  | [], _, _ => by simp
  | n :: ns, [], _ => by simp
  | n :: ns, v :: vs, h => by
    have h1 : f ≠ n := fun z => h (by rw [z]; exact List.mem_cons_self)
    have h2 : f ∉ ns := fun z => h (List.mem_cons_of_mem _ z)
    rw [List.zip_cons_cons, List.lookup_cons]
    have e : (f == n) = false := by simpa using h1
    rw [e]
    exact zip_none h2
theorem zip_some {L : LL} {f : Str} {x : Dat} : ∀ {ns : List Str} {vs : List V} {xs : List Dat}, Ls L vs xs → (ns.zip xs).lookup f = some x → ∃ v, (ns.zip vs).lookup f = some v ∧ L v x
  | [], vs, xs, _, h => by simp at h
  | n :: ns, [], [], _, h => by simp at h
  | n :: ns, [], _ :: _, q, _ => q.elim
  | n :: ns, _ :: _, [], q, _ => q.elim
  | n :: ns, v :: vs, y :: xs, q, h => by
    rw [List.zip_cons_cons, List.lookup_cons] at h ⊢
    cases e : (f == n) with
    | true =>
      rw [e] at h
      injection h with h
      subst h
      exact ⟨v, rfl, q.1⟩
    | false =>
      rw [e] at h
      exact zip_some q.2 h
/-- a field's name, its data put in -/
def putN (f : Str) : List Str → List Str
  | [] => [f]
  | g :: r => if g = f then g :: r else g :: putN f r
def putX {α : Type} (f : Str) (y : α) : List Str → List α → List α
  | [], _ => [y]
  | g :: r, x :: xs => if g = f then y :: xs else x :: putX f y r xs
  | _ :: _, [] => []
theorem put_zip {f : Str} {v : V} : ∀ {ns : List Str} {vs : List V}, ns.length = vs.length → L2.putF f v (ns.zip vs) = (putN f ns).zip (putX f v ns vs) ∧ (putN f ns).length = (putX f v ns vs).length
  | [], [], _ => ⟨rfl, rfl⟩
  | [], _ :: _, h => by simp at h
  | _ :: _, [], h => by simp at h
  | n :: ns, w :: vs, h => by
    obtain ⟨i1, i2⟩ := put_zip (f := f) (v := v) (ns := ns) (vs := vs) (by simpa using h)
    unfold putN putX
    rw [List.zip_cons_cons]
    unfold L2.putF
    by_cases e : n = f
    · simp only [e, if_true]
      exact ⟨rfl, by simpa using h⟩
    · simp only [if_neg e]
      rw [i1]
      exact ⟨rfl, by simp [i2]⟩
theorem put_ls {L : LL} {f : Str} {v : V} {y : Dat} (p : L v y) : ∀ {ns : List Str} {vs : List V} {xs : List Dat}, Ls L vs xs → ns.length = vs.length → Ls L (putX f v ns vs) (putX f y ns xs)
  | [], [], [], _, _ => ⟨p, True.intro⟩
  | [], _ :: _, _, _, h => by simp at h
  | _ :: _, [], _, _, h => by simp at h
  | [], [], _ :: _, q, _ => q.elim
  | n :: ns, w :: vs, [], q, _ => q.elim
  | n :: ns, w :: vs, x :: xs, q, h => by
    unfold putX
    by_cases e : n = f
    · simp only [e, if_true]; exact ⟨p, q.2⟩
    · simp only [if_neg e]; exact ⟨q.1, put_ls p q.2 (by simpa using h)⟩
/-! ### fields -/
def uFld (Cs : List Addr) (f : Str) (ua : UE) : UE := fun dl S K X => ua dl S (fun d S1 => ∃ C ns xs x, C ∈ Cs ∧ insD S1 d = some (C, ns, xs) ∧ (ns.zip xs).lookup f = some x ∧ K x S1) X
def uSetF (Cs : List Addr) (f : Str) (uo uv : UE) : US := fun D dl S => uv dl S (fun y S1 => uo dl S1 (fun d S2 => ∃ n C ns xs, d = .cell n ∧ S2[n]? = some (.ins C ns xs) ∧ C ∈ Cs ∧ ns.length < 1000 ∧
  D.nx dl (S2.set n (.ins C (putN f ns) (putX f y ns xs)))) (fun e S2 => D.ex e dl S2)) (fun e S1 => D.ex e dl S1)
section
variable {X : Cx} {W : WX} {a o value : Expr} {ta to tv : TE} {ua uo uv : UE} {f : Str} {pos pos' : Pos} {Cs : List Addr}
theorem imp_fld {KK : PySem.W.Frag} (hC : ∀ C ∈ Cs, Cls KK C ∧ NoAttr KK C f) (ha : ImpE W ta ua) : ImpE W (tFld KK ta f) (uFld Cs f ua) := fun {sg dl L H S T K X' Q} he hs h hq hx =>
  ha he hs h (fun v d L1 H1 S1 l1 p1 s1 ⟨C, ns, xs, x, hm, hi, hl, hk⟩ => by
    obtain ⟨b, dx, vs, e, eb, _, s2, q⟩ := s1.insOf p1 hi
    obtain ⟨w, hw, pw⟩ := zip_some q hl
    exact ⟨b, C, dx, _, w, e, eb, (hC C hm).1, (hC C hm).2, hw, hq w x _ H1 S1 (l1.trans LaddL.le) pw s2 hk⟩) hx
theorem de_fld (hC : ∀ C ∈ Cs, Cls X.K C ∧ NoAttr X.K C f) (ha : DE X W a ta ua) (hb : attributeBase a f X.env (eval a X.env) = eval a X.env := by rfl) : DE X W (.Attribute a f pos) (tFld X.K ta f) (uFld Cs f ua) := ⟨pe_fld ha.run hb, imp_fld hC ha.imp⟩
theorem de_fldK (KK : PySem.W.Frag) (hK : X.K = KK) (hC : ∀ C ∈ Cs, Cls KK C ∧ NoAttr KK C f) (ha : DE X W a ta ua) (hb : attributeBase a f X.env (eval a X.env) = eval a X.env := by rfl) : DE X W (.Attribute a f pos) (tFld KK ta f) (uFld Cs f ua) := by
  subst hK; exact de_fld hC ha hb
theorem ds_fld (hC : ∀ C ∈ Cs, Cls X.K C ∧ NoAttr X.K C f) (ho : DE X W o to uo) (hv : DE X W value tv uv) (hs : swapsWith value (some (.Attribute o f pos')) pos.line X.env = pure false := by rfl) :
    DS X W (.Assign [.Attribute o f pos'] value pos) (sFld X.K to tv f) (uSetF Cs f uo uv) :=
  ⟨ps_fld ho.run hv.run hs, fun {sg dl L H S T D D'} he hs h hD => hv.imp he hs h (fun y dy L1 H1 S1 l1 p1 s1 h1 => ho.imp (he.le l1) s1 h1 (fun v d L2 H2 S2 l2 p2 s2 ⟨n, C, ns, xs, hd, hn, hm, hl, hk⟩ => by
    subst hd
    obtain ⟨b, dx, vs, e, eb, len, s3, q⟩ := s2.insOf p2 (C := C) (ns := ns) (xs := xs) (by show (match S2[n]? with | some (.ins C ns xs) => some (C, ns, xs) | _ => none) = _; rw [hn])
    subst e
    obtain ⟨z1, z2⟩ := put_zip (f := f) (v := y) len
    refine ⟨b, C, dx, _, rfl, eb, (hC C hm).1, (hC C hm).2, by rw [List.length_zip]; omega, ?_⟩
    rw [z1]
    have p3 : LaddL L2 vs xs y dy := LaddL.le _ _ (l2 _ _ p1)
    have s4 := s3.set (n := n) (a := b) (d := .ins C (putN f ns) (putX f dy ns xs)) (o := .ins C dx ((putN f ns).zip (putX f y ns vs))) (vs := putX f y ns vs) (LaddL.le _ _ p2) ⟨⟨dx, rfl⟩, z2⟩ (put_ls p3 q len)
    exact hD.nx sg dl _ _ _ ((l1.trans l2).trans LaddL.le) rfl (he.le ((l1.trans l2).trans LaddL.le)) s4 hk) ((hD.le l1).ex.x rfl (he.le l1))) (hD.ex.x rfl he)⟩
end
end DL
/-! DL12: methods, properties, the making of instances. -/
namespace DL
open PySem L2
/-- the class at C has a def m that keeps F -/
def MethV (P : Program) (w : World) (K : PySem.W.Frag) (mg : Str → Option Value) (base : Heap) (k : Nat) (m : Str) (ps : List Str) (dd : List Dat) (dvs : List V) (C : Addr) (F : Spec) : Prop :=
  ∃ f fd dl, Cls K C ∧ Meth K C m f ∧ FnOk P w K mg base (L2.CX P w) k f fd ps (spOf F) ∧ Binds K fd ps dl ∧ Vals dvs dl ∧ Flats dd dvs
/-- .. as a property -/
def PropV (P : Program) (w : World) (K : PySem.W.Frag) (mg : Str → Option Value) (base : Heap) (k : Nat) (m : Str) (C : Addr) (F : Spec) : Prop :=
  ∃ p g fd, Cls K C ∧ PropOf K C m p g ∧ FnOk P w K mg base (L2.CX P w) k g fd ["self"] (spOf F) ∧ Binds K fd ["self"] []
/-- .. as its maker -/
def MakeV (P : Program) (w : World) (K : PySem.W.Frag) (mg : Str → Option Value) (base : Heap) (k : Nat) (ps : List Str) (dd : List Dat) (dvs : List V) (C : Addr) (F : Spec) : Prop :=
  ∃ f fd dl, Mk K C f ∧ FnOk P w K mg base (L2.CX P w) k f fd ps (spOf F) ∧ Binds K fd ps dl ∧ Vals dvs dl ∧ Flats dd dvs
/-- .. made with keywords: n the written arguments with the new one, ks the keywords; gV, gD: how they lie -/
def MakeKV (P : Program) (w : World) (K : PySem.W.Frag) (mg : Str → Option Value) (base : Heap) (k : Nat) (ps : List Str) (n : Nat) (ks : List Str) (gV : List V → List V → List V) (gD : List Dat → List Dat → List Dat) (C : Addr) (F : Spec) : Prop :=
  ∃ f fd g, Mk K C f ∧ FnOk P w K mg base (L2.CX P w) k f fd ps (spOf F) ∧ KBn K fd ps n ks g gV ∧ ∀ {H L S T} {vs : List V} {ds : List Dat} {zs : List V} {es : List Dat}, SR H L S T → Ls L vs ds → Ls L zs es → ∃ L', Lle L L' ∧ Ls L' (gV vs zs) (gD ds es) ∧ SR H L' S T
/-! ### methods -/
def tMethD (MS : List (Addr × Spec)) (m : Str) (dvs : List V) (E : St → XK) (ta : TE) (t : TA) : TE := fun sg H Q => ta sg H fun x H1 => ∃ a C dx fs F, x = .ref a ∧ H1 a = some (.ins C dx fs) ∧ fs.lookup m = none ∧ (C, F) ∈ MS ∧
  t sg H1 fun vs H2 => spOf F (x :: (vs ++ dvs)) H2 Q (E sg)
def uMeth (MS : List (Addr × Spec)) (m : Str) (dd : List Dat) (uo : UE) (ua : UA) : UE := fun dl S K X => uo dl S (fun d S1 => ∃ C ns xs F, insD S1 d = some (C, ns, xs) ∧ m ∉ ns ∧ (C, F) ∈ MS ∧ ua dl S1 (fun ds S2 => F (d :: (ds ++ dd)) S2 K X) X) X
def uProp (MS : List (Addr × Spec)) (uo : UE) : UE := fun dl S K X => uo dl S (fun d S1 => ∃ C ns xs F, insD S1 d = some (C, ns, xs) ∧ (C, F) ∈ MS ∧ F [d] S1 K fun _ _ => False) X
def tPropD (MS : List (Addr × Spec)) (ta : TE) : TE := fun sg H Q => ta sg H fun x H1 => ∃ a C dx fs F, x = .ref a ∧ H1 a = some (.ins C dx fs) ∧ (C, F) ∈ MS ∧ spOf F [.ref a] H1 Q fun _ _ _ => False
section
variable {X : Cx} {W : WX} {k j : Nat} {m x : Str} {ps : List Str} {dd : List Dat} {dvs : List V} {MS : List (Addr × Spec)} {o e : Expr} {es : List Expr} {to : TE} {uo : UE} {t : TA} {u : UA} {apos pos p : Pos} {E : St → XK} {pl : Sem Bool}
theorem pe_methD (hM : ∀ q ∈ MS, MethV X.prog X.w X.K X.mg X.base k m ps dd dvs q.1 q.2) (hr : Room k X.A) (he : PE X o to) (hx : ∀ sg, PassesAt (L2.CX X.prog X.w) X sg (E sg)) (ha : PA X (e :: es) t)
    (hst : starEach (e :: es) X.env = (false, eval e X.env) :: starEach es X.env) (hpl : (backTo pos (starEach es X.env)).any (·.1) = false)
    (ht : eval (.Call (.Attribute o m apos) (e :: es) [] pos) X.env = (do
      let ov ← eval o X.env
      standAt apos.atName
      let (f, first) ← holding [ov] (getMethod ov m pl)
      callWith pos f first (backTo pos (starEach (e :: es) X.env)) (backToKw pos (keywordEach [] X.env)))) : PE X (.Call (.Attribute o m apos) (e :: es) [] pos) (tMethD MS m dvs E to t) := by
  constructor
  intro pins s sg H Q I h
  refine PySem.W.methodCall_KW (pl := pl) (thn (he.run pins s sg H _ I h) fun u s1 ⟨y, H1, I1, ry, a, C, dx, fs, F, ey, ea, l, hm, q⟩ => ?_) ht
  subst ey
  obtain rfl : u = Value.ref a := ry
  obtain ⟨f, fd, dl, c, M, G, b, vd, _⟩ := hM _ hm
  refine getmeth_ok I1 ea c M l ?_
  refine PySem.W.callWith_K (first := [.ref a]) (h₀ := X.base) I.ok.mod.kin M.kp ?_ hst hpl
  exact thn (ha.run pos pins s1 sg H1 _ I1 q) fun us s2 ⟨vs, H2, I2, r, q2⟩ => ⟨I2.kIn, run_fnSD (us := .ref a :: us) (vs := .ref a :: vs) G hr b vd (hx sg) I2 (.cons rfl r) q2⟩
theorem pe_methD0 (hM : ∀ q ∈ MS, MethV X.prog X.w X.K X.mg X.base k m ps dd dvs q.1 q.2) (hr : Room k X.A) (he : PE X o to) (hx : ∀ sg, PassesAt (L2.CX X.prog X.w) X sg (E sg))
    (ht : eval (.Call (.Attribute o m apos) [] [] pos) X.env = (do
      let ov ← eval o X.env
      standAt apos.atName
      let (f, first) ← holding [ov] (getMethod ov m pl)
      callWith pos f first (backTo pos (starEach [] X.env)) (backToKw pos (keywordEach [] X.env)))) : PE X (.Call (.Attribute o m apos) [] [] pos) (tMethD MS m dvs E to tNil) := by
  constructor
  intro pins s sg H Q I h
  refine PySem.W.methodCall_KW (pl := pl) (thn (he.run pins s sg H _ I h) fun u s1 ⟨y, H1, I1, ry, a, C, dx, fs, F, ey, ea, l, hm, q⟩ => ?_) ht
  subst ey
  obtain rfl : u = Value.ref a := ry
  obtain ⟨f, fd, dl, c, M, G, b, vd, _⟩ := hM _ hm
  refine getmeth_ok I1 ea c M l ?_
  exact PySem.W.callWith_K0 (first := [.ref a]) I1.kIn M.kp (run_fnSD (us := [.ref a]) (vs := [.ref a]) G hr b vd (hx sg) I1 (.cons rfl .nil) q)
theorem imp_meth (hM : ∀ q ∈ MS, Flats dd dvs) (ho : ImpE W to uo) (ha : ImpA W t u) : ImpE W (tMethD MS m dvs (WE W) to t) (uMeth MS m dd uo u) := fun {sg dl L H S T K X' Q} he hs h hq hx =>
  ho he hs h (fun v d L1 H1 S1 l1 p1 s1 ⟨C, ns, xs, F, hi, hn, hm, h1⟩ => by
    obtain ⟨b, dx, vs, ev, eb, _, s2, q⟩ := s1.insOf p1 hi
    subst ev
    refine ⟨b, C, dx, _, F, rfl, eb, zip_none hn, hm, ?_⟩
    refine ha (he.le (l1.trans LaddL.le)) s2 h1 (fun ws ds L3 H3 S3 l3 p3 s3 h3 => ?_) (hx.le (l1.trans LaddL.le))
    obtain ⟨L4, l4, p4, s4⟩ := s3.flats (hM _ hm)
    have l04 := ((l1.trans LaddL.le).trans l3).trans l4
    exact ⟨d :: (ds ++ dd), L4, S3, T, K, X', ⟨l4 _ _ (l3 _ _ (LaddL.le _ _ p1)), (p3.le l4).append p4⟩, s4, h3, hq.le l04, fun e dd L' H' S' l => hx e dd L' H' S' (l04.trans l)⟩) hx
theorem de_meth (hM : ∀ q ∈ MS, MethV X.prog X.w X.K X.mg X.base k m ps dd dvs q.1 q.2) (hr : Room j X.A) (hj : k ≤ j) (tk : Takes X W) (ho : DE X W o to uo) (ha : DA X W (e :: es) t u)
    (ht : eval (.Call (.Attribute o m apos) (e :: es) [] pos) X.env = (do
      let ov ← eval o X.env
      standAt apos.atName
      let (f, first) ← holding [ov] (getMethod ov m pl)
      callWith pos f first (backTo pos (starEach (e :: es) X.env)) (backToKw pos (keywordEach [] X.env))) := by rfl)
    (hst : starEach (e :: es) X.env = (false, eval e X.env) :: starEach es X.env := by rfl) (hpl : (backTo pos (starEach es X.env)).any (·.1) = false := by rfl) :
    DE X W (.Call (.Attribute o m apos) (e :: es) [] pos) (tMethD MS m dvs (WE W) to t) (uMeth MS m dd uo u) :=
  ⟨pe_methD hM (hr.mono hj) ho.run (fun sg => passAt tk sg) ha.run hst hpl ht, imp_meth (fun q hq => by obtain ⟨_, _, _, _, _, _, _, _, z⟩ := hM q hq; exact z) ho.imp ha.imp⟩
theorem de_meth0 (hM : ∀ q ∈ MS, MethV X.prog X.w X.K X.mg X.base k m ps dd dvs q.1 q.2) (hr : Room j X.A) (hj : k ≤ j) (tk : Takes X W) (ho : DE X W o to uo)
    (ht : eval (.Call (.Attribute o m apos) [] [] pos) X.env = (do
      let ov ← eval o X.env
      standAt apos.atName
      let (f, first) ← holding [ov] (getMethod ov m pl)
      callWith pos f first (backTo pos (starEach [] X.env)) (backToKw pos (keywordEach [] X.env))) := by rfl) :
    DE X W (.Call (.Attribute o m apos) [] [] pos) (tMethD MS m dvs (WE W) to tNil) (uMeth MS m dd uo uNil) :=
  ⟨pe_methD0 hM (hr.mono hj) ho.run (fun sg => passAt tk sg) ht, imp_meth (fun q hq => by obtain ⟨_, _, _, _, _, _, _, _, z⟩ := hM q hq; exact z) ho.imp (da_nil (X := X)).imp⟩
/-! ### properties -/
theorem cx_no {P : Program} {w : World} {outer : List Env} {H : Hp} {s : Shared} {e : Value} {s' : Shared} (h : L2.CX P w outer H s (fun _ _ _ => False) e s') : False := cx_none h
theorem de_prop (hM : ∀ q ∈ MS, PropV X.prog X.w X.K X.mg X.base k m q.1 q.2) (hr : Room j X.A) (hj : k + 1 ≤ j) (ho : DE X W o to uo) (hb : attributeBase o m X.env (eval o X.env) = eval o X.env := by rfl) :
    DE X W (.Attribute o m pos) (tPropD MS to) (uProp MS uo) := by
  refine ⟨⟨fun pins s sg H Q I h => ?_⟩, fun {sg dl L H S T K X' Q} he hs h hq hx => ?_⟩
  · refine attr_of hb (thn (ho.run.run pins s sg H _ I h) fun u s1 ⟨y, H1, I1, ry, a, C, dx, fs, F, ey, ea, hm, q⟩ => ?_)
    subst ey
    obtain rfl : u = Value.ref a := ry
    obtain ⟨p, g, fd, c, hp, G, b⟩ := hM _ hm
    exact getprop_ok I1 ea c hp G (hr.mono hj) b .nil (fun _ _ _ _ _ _ _ z => (cx_none z).elim) q
  · refine ho.imp he hs h (fun v d L1 H1 S1 l1 p1 s1 ⟨C, ns, xs, F, hi, hm, h1⟩ => ?_) hx
    obtain ⟨b, dx, vs, ev, eb, _, s2, q⟩ := s1.insOf p1 hi
    subst ev
    exact ⟨b, C, dx, _, F, rfl, eb, hm, [d], L1, S1, T, K, _, ⟨p1, True.intro⟩, s1, h1, hq.le l1, fun _ _ _ _ _ _ _ _ z => z.elim⟩
/-! ### making -/
def tMakeD (C : Addr) (F : Spec) (dvs : List V) (E : St → XK) (t : TA) : TE := fun sg H Q => t sg H fun vs H1 => ∀ x dx, H1 x = none → H1 dx = none → dx ≠ x →
  spOf F (.ref x :: (vs ++ dvs)) (upd (upd H1 dx (.own x)) x (.ins C dx [])) (fun v H2 => v = .non ∧ Q (.ref x) H2) (E sg)
def uMake (C : Addr) (F : Spec) (dd : List Dat) (ua : UA) : UE := fun dl S K X => ua dl S (fun ds S1 => F (.cell S1.length :: (ds ++ dd)) (S1 ++ [.ins C [] []]) (fun d S2 => d = .non ∧ ExitTo S1 K (.cell S1.length) S2) (fun e S2 => ExitX S1 X e [] S2)) X
theorem run_mkD {C f : Addr} {fd : FuncData} {dl : List Value} {sp : Sp} {Ex : XK} {pins : List (Addr × Obj)} {sg : St} {H : Hp} {s : Shared} {Q : VK} {us : List Value} {vs : List V} (M : Mk X.K C f) (G : FnOk X.prog X.w X.K X.mg X.base (L2.CX X.prog X.w) k f fd ps sp) (hr : Room (k + 1) X.A) (b : Binds X.K fd ps dl) (vd : Vals dvs dl)
    (hx : PassesAt (L2.CX X.prog X.w) X sg Ex) (I : Inv X pins sg H s) (r : Vals vs us) (h : ∀ x dx, H x = none → H dx = none → dx ≠ x → sp (.ref x :: (vs ++ dvs)) (upd (upd H dx (.own x)) x (.ins C dx [])) (fun v H2 => v = .non ∧ Q (.ref x) H2) Ex) :
    wpAny (model X.prog X.w) X.A (call (.ref C) us) (EP X pins sg Q) X.xe s := by
  have J := Inv.made (C := C) I
  have hq := h _ _ (I.hok.fresh (Nat.le_succ _)) (I.hok.fresh (Nat.le_refl _)) (Nat.ne_of_lt (Nat.lt_succ_self _))
  have rr : Vals (V.ref (s.heap.objs.size + 1) :: (vs ++ dvs)) (Value.ref (s.heap.objs.size + 1) :: (us ++ dl)) := .cons rfl (r.append vd)
  have hlen : (Value.ref (s.heap.objs.size + 1) :: us ++ dl).length = ps.length := by
    rw [show (Value.ref (s.heap.objs.size + 1) :: us ++ dl).length = _ from rr.length.symm]
    exact G.len _ _ _ _ hq
  have go := G.run _ X.stack _ _ ⟨Value.ref (s.heap.objs.size + 1) :: us, []⟩ (Value.ref (s.heap.objs.size + 1) :: (us ++ dl)) _ _ Ex (hr.make C us []) (J.env0.make C us []) (b _ (Value.ref (s.heap.objs.size + 1) :: us) J.kIn hlen) rr hq
  refine wpAny_call (make_map (f := f) I.kIn M.makes M.init (beq_iff_eq.mp M.fn) (codeAny_mono go fun res s' z => ?_))
  cases res with
  | error er => exact hx pins _ _ er s' J z
  | ok fl =>
    cases fl with
    | ret u =>
      obtain ⟨v, H', J2, rv, ev, q3⟩ := J.after z
      subst ev
      exact ⟨rv, V.ref (s.heap.objs.size + 1), H', J2, rfl, q3⟩
    | _ => exact z.elim
/-- what a maker's promise over data gives -/
theorem made_imp {C : Addr} {F : Spec} {sg : St} {L : LL} {H : Hp} {S : Store} {T : List (Addr × HO)} {K : KE} {X' : KX} {Q : VK} {vs : List V} {ds : List Dat} {x dx : Addr} (hs : SR H L S T) (p : Ls L vs ds)
    (h : F (.cell S.length :: ds) (S ++ [.ins C [] []]) (fun d S2 => d = .non ∧ ExitTo S K (.cell S.length) S2) (fun e S2 => ExitX S X' e [] S2)) (hq : EOk L T K Q) (hx : XOk W sg L T X') (nx : H x = none) (nd : H dx = none) (ne : dx ≠ x) :
    spOf F (.ref x :: vs) (upd (upd H dx (.own x)) x (.ins C dx [])) (fun v H2 => v = .non ∧ Q (.ref x) H2) (WE W sg) := by
  have s1 : SR (upd H dx (.own x)) L S T := hs.beside nd
  have nx1 : upd H dx (.own x) x = none := by rw [upd_ne (Ne.symm ne)]; exact nx
  have s2 : SR (upd (upd H dx (.own x)) x (.ins C dx [])) (Ladd L (.ref x) (.cell S.length)) (S ++ [.ins C [] []]) T := s1.cell (d := .ins C [] []) (vs := []) nx1 ⟨⟨dx, rfl⟩, rfl⟩ True.intro
  refine ⟨.cell S.length :: ds, _, _, T, _, _, ⟨Ladd.here, p.le Ladd.le⟩, s2, h, fun v d L3 H3 S3 l3 p3 s3 ⟨hd, S4, d', o, r, k⟩ => ?_, fun e de L3 H3 S3 l3 p3 s3 ⟨S4, ys, o, r, k⟩ => ?_⟩
  · subst hd
    obtain ⟨L4, l4, p4, s4⟩ := Out.go o r hs (Ladd.le.trans l3) s3 (l3 _ _ Ladd.here)
    refine ⟨?_, hq _ _ L4 H3 S4 l4 p4 s4 k⟩
    obtain ⟨rho, z⟩ := s3
    have z := z.rd _ _ p3
    simp only [RD] at z
    exact z
  · obtain ⟨L4, l4, p4, s4⟩ := Out.go o r hs (Ladd.le.trans l3) s3 p3
    exact hx ⟨e.C, e.ns, ys⟩ de L4 H3 S4 l4 p4 s4 k
theorem de_make {C : Addr} {F : Spec} (c : MakeV X.prog X.w X.K X.mg X.base k ps dd dvs C F) (hr : Room j X.A) (hj : k + 1 ≤ j) (hm : X.mg x = some (.ref C)) (tk : Takes X W) (ha : DA X W (e :: es) t u) (hg : Gl X x := by rfl)
    (hdb : (x == ("__debug__" : Str)) = false := by decide) (he : starEach (e :: es) X.env = (false, eval e X.env) :: starEach es X.env := by rfl) (hpl : (backTo pos (starEach es X.env)).any (·.1) = false := by rfl) :
    DE X W (.Call (.Name x p) (e :: es) [] pos) (tMakeD C F dvs (WE W) t) (uMake C F dd u) := by
  obtain ⟨f, fd, dl, M, G, b, vd, fl⟩ := c
  refine ⟨⟨fun pins s sg H Q I h => ?_⟩, fun {sg dl' L H S T K X' Q} he' hs h hq hx => ?_⟩
  · refine wpAny_Call_Name_kw (ld_glob I hg hm ?_ hdb)
    refine PySem.W.callWith_K (h₀ := X.base) I.ok.mod.kin M.kp ?_ he hpl
    exact thn (ha.run.run pos pins s sg H _ I h) fun us s1 ⟨vs, H1, I1, r, q⟩ => ⟨I1.kIn, run_mkD M G (hr.mono hj) b vd (passAt tk sg) I1 r q⟩
  · refine ha.imp he' hs h (fun vs ds L1 H1 S1 l1 p1 s1 h1 x dx nx nd ne => ?_) hx
    obtain ⟨L2, l2, p2, s2⟩ := s1.flats fl
    exact made_imp s2 ((p1.le l2).append p2) h1 (hq.le (l1.trans l2)) (hx.le (l1.trans l2)) nx nd ne
end
end DL
/-! DL13: enumerate; min; what is never reached; making with keywords. -/
namespace DL
open PySem L2
/-! ### what is never reached -/
def uDead : US := fun _ _ _ => False
theorem ds_dead {X : Cx} {W : WX} {s : Stmt} : DS X W s (fun _ _ _ => False) uDead := ⟨⟨fun _ _ _ _ _ _ h => h.elim⟩, fun _ _ h _ => h.elim⟩
def uDeadE : UE := fun _ _ _ _ => False
theorem de_dead {X : Cx} {W : WX} {e : Expr} : DE X W e (fun _ _ _ => False) uDeadE := ⟨⟨fun _ _ _ _ _ _ h => h.elim⟩, fun _ _ h _ _ => h.elim⟩
/-! ### min -/
def gMin2 : GL := fun ds S K => match ds with
  | [.int i, .int j] => K (.int (if j < i then j else i)) S
  | _ => False
def gMax2 : GL := fun ds S K => match ds with
  | [.int i, .int j] => K (.int (if j > i then j else i)) S
  | _ => False
section
variable {X : Cx} {S : Store} {K : KE} {i j : Int}
theorem dcb_min2 (hc : X.calm = true) : DCb X (.builtin "min") (fun xs H Q => ∃ i j, xs = [.int i, .int j] ∧ Q (.int (if j < i then j else i)) H) gMin2 := ⟨call_min2 hc, fun {xs ds L H S T K Q} hs p h hq => by
  match ds, p, h with
  | [.int i, .int j], p, h =>
    obtain ⟨v, w, rfl, pv, pw⟩ := p.two
    rw [hs.vint pv, hs.vint pw]
    exact ⟨i, j, rfl, hq.flat hs (d := .int _) rfl h⟩⟩
theorem dcb_max2 (hc : X.calm = true) : DCb X (.builtin "max") (fun xs H Q => ∃ i j, xs = [.int i, .int j] ∧ Q (.int (if j > i then j else i)) H) gMax2 := ⟨call_max2 hc, fun {xs ds L H S T K Q} hs p h hq => by
  match ds, p, h with
  | [.int i, .int j], p, h =>
    obtain ⟨v, w, rfl, pv, pw⟩ := p.two
    rw [hs.vint pv, hs.vint pw]
    exact ⟨i, j, rfl, hq.flat hs (d := .int _) rfl h⟩⟩
theorem x_min2 (k : K (.int (if j < i then j else i)) S) : gMin2 [.int i, .int j] S K := k
theorem x_max2 (k : K (.int (if j > i then j else i)) S) : gMax2 [.int i, .int j] S K := k
end
/-! ### enumerate -/
def enumD (k : Int) : List Dat → List Dat
  | [] => []
  | x :: xs => .tup [.int k, x] :: enumD (k + 1) xs
theorem enumD_len : ∀ (k : Int) (xs : List Dat), (enumD k xs).length = xs.length
  | _, [] => rfl
  | k, _ :: xs => by simp [enumD, enumD_len (k + 1) xs]
theorem enumD_at : ∀ (k : Int) (xs : List Dat) (i : Nat), (enumD k xs)[i]? = (xs[i]?).map fun x => .tup [.int (k + (i : Int)), x]
  | _, [], i => by simp [enumD]
  | k, x :: xs, 0 => by simp [enumD]
  | k, x :: xs, i + 1 => by
    simp only [enumD, List.getElem?_cons_succ, enumD_at (k + 1) xs i]
    congr 1
    funext z
    have : k + 1 + (i : Int) = k + ((i + 1 : Nat) : Int) := by push_cast; omega
    rw [this]
def uEn (ua : UA) : UI := fun dl S R X => ua dl S (fun ds S1 => match ds with
  | [a] => ∃ xs, lstD S1 a = some xs ∧ R (enumD 0 xs) (fun S => lstD S a = some xs) S1
  | _ => False) X
section
variable {X : Cx} {W : WX} {e : Expr} {ta : TA} {ua : UA} {p pos tpos : Pos} {elts : List Expr} {kk : Nat}
theorem di_enum (hm : X.mg "enumerate" = none) (ha : DA X W [e] ta ua) (hg : Gl X "enumerate" := by rfl) (hs : starEach [e] X.env = [(false, eval e X.env)] := by rfl) :
    DI X W (.Tuple elts kk tpos) (.Call (.Name "enumerate" p) [e] [] pos) (iEnum X.K ta) (uEn ua) := ⟨pi_enum hg hm ha.run hs, fun {sg dl L H S T R X' Q} he hs h hq hx =>
  ha.imp he hs h (fun vs ds L1 H1 S1 l1 p1 s1 h1 => by
    match ds, p1, h1 with
    | [a], p1, h1 =>
      obtain ⟨xs, ea, h1⟩ := h1
      obtain ⟨v, rfl, pv⟩ := p1.one
      obtain ⟨b, ws, rfl, hb, s2, q⟩ := s1.list pv (lstD_view ea)
      have look : ∀ {H2 L2 S2 T2}, Lle L1 L2 → SR H2 L2 S2 T2 → lstD S2 a = some xs → ∃ us, SqL X.K H2 b us ∧ SR H2 (LaddL L2 us xs) S2 T2 ∧ Ls (LaddL L2 us xs) us xs := fun l2 s2 hP => by
        obtain ⟨b', us, eb, hb', s3, q3⟩ := s2.list (l2 _ _ pv) (lstD_view hP)
        injection eb with eb
        subst eb
        exact ⟨us, SqL.of hb', s3, q3⟩
      refine ⟨b, ws, rfl, SqL.of hb, hq _ _ (fun S => lstD S a = some xs) L1 H1 S1 l1 s1 ⟨fun i H2 L2 S2 T2 l2 s2 hP hi => ?_, fun i H2 L2 S2 T2 x H3 d l2 s2 hP hd hy => ?_, fun i H2 L2 S2 T2 l2 s2 hP hi => ?_⟩ h1⟩
      · obtain ⟨us, h3, _, q3⟩ := look l2 s2 hP
        rw [enumD_len] at hi
        exact ⟨us, us[i]'(by rw [q3.length]; exact hi), h3, List.getElem?_eq_getElem _⟩
      · obtain ⟨us, h3, s3, q3⟩ := look l2 s2 hP
        obtain ⟨A, x1, rfl, hA, rfl, hx1⟩ := hy
        obtain ⟨c, ec, pc⟩ := q3.getV (hx1 us h3)
        rw [enumD_at, ec] at hd
        injection hd with hd
        subst hd
        have s4 := s3.flat (d := .int ((i : Nat) : Int)) (v := .int ((i : Nat) : Int)) rfl
        have e0 : (0 : Int) + (i : Int) = (i : Int) := by omega
        rw [e0]
        exact ⟨Ladd (Ladd (LaddL L2 us xs) _ _) _ _, (LaddL.le.trans Ladd.le).trans Ladd.le, Ladd.here, s4.tup hA ⟨Ladd.here, Ladd.le _ _ pc, True.intro⟩⟩
      · obtain ⟨us, h3, _, q3⟩ := look l2 s2 hP
        refine ⟨us, h3, ?_⟩
        rw [hi, q3.length, enumD_len]
        exact Nat.le_refl _
    | [], _, h1 => exact h1.elim
    | _ :: _ :: _, _, h1 => exact h1.elim) hx⟩
theorem di_enumK (KK : PySem.W.Frag) (hK : X.K = KK) (hm : X.mg "enumerate" = none) (ha : DA X W [e] ta ua) (hg : Gl X "enumerate" := by rfl) (hs : starEach [e] X.env = [(false, eval e X.env)] := by rfl) :
    DI X W (.Tuple elts kk tpos) (.Call (.Name "enumerate" p) [e] [] pos) (iEnum KK ta) (uEn ua) := by subst hK; exact di_enum hm ha hg hs
theorem x_en {dl : Env'} {S : Store} {R : List Dat → (Store → Prop) → Store → Prop} {X : KX} (h : ua dl S (fun ds S1 => match ds with
  | [a] => ∃ xs, lstD S1 a = some xs ∧ R (enumD 0 xs) (fun S => lstD S a = some xs) S1
  | _ => False) X) : uEn ua dl S R X := h
end
/-! ### steps -/
section
variable {dl : Env'} {S : Store} {K : KE} {X : KX} {D : DEnds} {ua uo uv : UE} {u : UA} {Cs : List Addr} {MS : List (Addr × Spec)} {f m : Str} {C : Addr} {F : Spec} {dd : List Dat}
theorem x_fld (h : ua dl S (fun d S1 => ∃ C ns xs x, C ∈ Cs ∧ insD S1 d = some (C, ns, xs) ∧ (ns.zip xs).lookup f = some x ∧ K x S1) X) : uFld Cs f ua dl S K X := h
theorem x_setF (h : uv dl S (fun y S1 => uo dl S1 (fun d S2 => ∃ n C ns xs, d = .cell n ∧ S2[n]? = some (.ins C ns xs) ∧ C ∈ Cs ∧ ns.length < 1000 ∧
  D.nx dl (S2.set n (.ins C (putN f ns) (putX f y ns xs)))) (fun e S2 => D.ex e dl S2)) (fun e S1 => D.ex e dl S1)) : uSetF Cs f uo uv D dl S := h
theorem x_meth (h : uo dl S (fun d S1 => ∃ C ns xs F, insD S1 d = some (C, ns, xs) ∧ m ∉ ns ∧ (C, F) ∈ MS ∧ u dl S1 (fun ds S2 => F (d :: (ds ++ dd)) S2 K X) X) X) : uMeth MS m dd uo u dl S K X := h
theorem x_prop (h : uo dl S (fun d S1 => ∃ C ns xs F, insD S1 d = some (C, ns, xs) ∧ (C, F) ∈ MS ∧ F [d] S1 K fun _ _ => False) X) : uProp MS uo dl S K X := h
theorem x_make (h : u dl S (fun ds S1 => F (.cell S1.length :: (ds ++ dd)) (S1 ++ [.ins C [] []]) (fun d S2 => d = .non ∧ ExitTo S1 K (.cell S1.length) S2) (fun e S2 => ExitX S1 X e [] S2)) X) : uMake C F dd u dl S K X := h
end
/-! ### making with keywords -/
structure DK (X : Cx) (W : WX) (kws : List Keyword) (t : TA) (u : UA) : Prop where
  run : PK X kws t
  imp : ImpA W t u
def tMakeKD (C : Addr) (n m : Nat) (F : Spec) (gV : List V → List V → List V) (E : St → XK) (t tk : TA) : TE := fun sg H Q => t sg H fun vs H1 => tk sg H1 fun zs H2 => vs.length = n ∧ zs.length = m ∧ ∀ x dx, H2 x = none → H2 dx = none → dx ≠ x →
  spOf F (gV (.ref x :: vs) zs) (upd (upd H2 dx (.own x)) x (.ins C dx [])) (fun v H3 => v = .non ∧ Q (.ref x) H3) (E sg)
end DL
/-! DL14: lists of things told by a function; loops by what is done; the store around a bag. -/
namespace DL
open PySem L2
theorem alln {P : Addr → Prop} : ∀ C ∈ ([] : List Addr), P C := fun _ h => nomatch h
theorem allc {α : Type} {P : α → Prop} {a : α} {l : List α} (h : P a) (r : ∀ C ∈ l, P C) : ∀ C ∈ a :: l, P C := fun C m => by
  rcases List.mem_cons.mp m with e | e
  · subst e; exact h
  · exact r C e
theorem allnS {α : Type} {P : α → Prop} : ∀ C ∈ ([] : List α), P C := fun _ h => nomatch h
section
variable {α β : Type} {dl : Env'} {S : Store} {K : KE} {X : KX} {D : DEnds} {ug : UG} {tt : UT} {ue : UE} {P : Store → Prop} {own : List Nat}
/-- a comprehension over xs.map e: f of the items that p takes -/
theorem lc_T (xs : List α) (e : α → Dat) {p : α → Bool} {f : α → Dat} {G : List Dat → Store → Prop} (hP : P S) (hsz : xs.length ≤ sizeLine)
    (hs : ∀ a, a ∈ xs → ∀ (Kt : Dat → Store → Prop) (Kf : Store → Prop), (p a = true → Kt (f a) S) → (p a = false → Kf S) →
      ug (e a) (wipeD dl own) S (fun dl2 S3 => tt dl2 S3 (fun b S4 => if b = true then ue dl2 S4 Kt XF0 else Kf S4) XF0) XF0)
    (k : G ((xs.filter p).map f) S) : ∃ I : Nat → List Dat → Store → Prop, I 0 [] S ∧
  (∀ (j : Nat) d acc S2, (xs.map e)[j]? = some d → I j acc S2 → P S2 ∧ acc.length < sizeLine ∧ ug d (wipeD dl own) S2 (fun dl2 S3 => tt dl2 S3 (fun b S4 => if b = true then ue dl2 S4 (fun y S5 => I (j + 1) (acc ++ [y]) S5) XF0 else I (j + 1) acc S4) XF0) XF0) ∧
  ∀ acc S2, I (xs.map e).length acc S2 → P S2 ∧ G acc S2 := by
  refine ⟨fun j acc S2 => S2 = S ∧ acc = ((xs.take j).filter p).map f, ⟨rfl, by simp⟩, fun j d acc S2 hj ⟨e1, e2⟩ => ?_, fun acc S2 ⟨e1, e2⟩ => ?_⟩
  · subst e1
    rw [List.getElem?_map, Option.map_eq_some_iff] at hj
    obtain ⟨a, ha, rfl⟩ := hj
    have hlt := (List.getElem?_eq_some_iff.mp ha).1
    have ht : xs.take (j + 1) = xs.take j ++ [a] := by rw [List.take_add_one, ha]; rfl
    refine ⟨hP, ?_, ?_⟩
    · have h1 : acc.length ≤ j := by
        rw [e2, List.length_map]
        exact Nat.le_trans (List.length_filter_le _ _) (by rw [List.length_take]; omega)
      omega
    · refine hs a (List.mem_of_getElem? ha) _ _ (fun hp => ⟨rfl, ?_⟩) (fun hp => ⟨rfl, ?_⟩)
      · rw [ht, List.filter_append, List.map_append, e2]; simp [hp]
      · rw [ht, List.filter_append, List.map_append, e2]; simp [hp]
  · rw [List.length_map, List.take_of_length_le (Nat.le_refl _)] at e2
    subst e1; subst e2
    exact ⟨hP, k⟩
theorem lc_M (xs : List α) (e : α → Dat) {f : α → Dat} {G : List Dat → Store → Prop} (hP : P S) (hsz : xs.length ≤ sizeLine)
    (hs : ∀ a, a ∈ xs → ∀ (Kt : Dat → Store → Prop) (Kf : Store → Prop), Kt (f a) S →
      ug (e a) (wipeD dl own) S (fun dl2 S3 => tt dl2 S3 (fun b S4 => if b = true then ue dl2 S4 Kt XF0 else Kf S4) XF0) XF0)
    (k : G (xs.map f) S) : ∃ I : Nat → List Dat → Store → Prop, I 0 [] S ∧
  (∀ (j : Nat) d acc S2, (xs.map e)[j]? = some d → I j acc S2 → P S2 ∧ acc.length < sizeLine ∧ ug d (wipeD dl own) S2 (fun dl2 S3 => tt dl2 S3 (fun b S4 => if b = true then ue dl2 S4 (fun y S5 => I (j + 1) (acc ++ [y]) S5) XF0 else I (j + 1) acc S4) XF0) XF0) ∧
  ∀ acc S2, I (xs.map e).length acc S2 → P S2 ∧ G acc S2 :=
  lc_T xs e (p := fun _ => true) hP hsz (fun a ha Kt Kf h1 _ => hs a ha Kt Kf (h1 rfl)) (by rw [List.filter_eq_self.mpr fun _ _ => rfl]; exact k)
/-- a comprehension whose turns change the store -/
theorem lc_S (xs : List α) (e : α → Dat) {G : List Dat → Store → Prop} (I : List α → List Dat → Store → Prop) (hsz : xs.length ≤ sizeLine) (h0 : I [] [] S) (hP : ∀ pre acc S2, I pre acc S2 → P S2 ∧ acc.length ≤ pre.length)
    (hs : ∀ pre a rest acc S2, xs = pre ++ a :: rest → I pre acc S2 →
      ug (e a) (wipeD dl own) S2 (fun dl2 S3 => tt dl2 S3 (fun b S4 => if b = true then ue dl2 S4 (fun y S5 => I (pre ++ [a]) (acc ++ [y]) S5) XF0 else I (pre ++ [a]) acc S4) XF0) XF0)
    (k : ∀ acc S2, I xs acc S2 → G acc S2) : ∃ I : Nat → List Dat → Store → Prop, I 0 [] S ∧
  (∀ (j : Nat) d acc S2, (xs.map e)[j]? = some d → I j acc S2 → P S2 ∧ acc.length < sizeLine ∧ ug d (wipeD dl own) S2 (fun dl2 S3 => tt dl2 S3 (fun b S4 => if b = true then ue dl2 S4 (fun y S5 => I (j + 1) (acc ++ [y]) S5) XF0 else I (j + 1) acc S4) XF0) XF0) ∧
  ∀ acc S2, I (xs.map e).length acc S2 → P S2 ∧ G acc S2 := by
  refine ⟨fun j acc S2 => I (xs.take j) acc S2, by simpa using h0, fun j d acc S2 hj hI => ?_, fun acc S2 hI => ?_⟩
  · rw [List.getElem?_map, Option.map_eq_some_iff] at hj
    obtain ⟨a, ha, rfl⟩ := hj
    have hlt := (List.getElem?_eq_some_iff.mp ha).1
    have ht : xs.take (j + 1) = xs.take j ++ [a] := by rw [List.take_add_one, ha]; rfl
    have hx : xs = xs.take j ++ a :: xs.drop (j + 1) := by
      rw [← (List.getElem?_eq_some_iff.mp ha).2, ← List.drop_eq_getElem_cons, List.take_append_drop]
    refine ⟨(hP _ _ _ hI).1, ?_, ?_⟩
    · have := (hP _ _ _ hI).2
      rw [List.length_take] at this
      omega
    · simp only [ht]
      exact hs _ _ _ _ _ hx hI
  · rw [List.length_map, List.take_of_length_le (Nat.le_refl _)] at hI
    exact ⟨(hP _ _ _ hI).1, k _ _ hI⟩
/-- a loop over xs.map e, by what is done -/
theorem for_T (xs : List α) (e : α → Dat) {b : US} {N : Nat} {nx bk : Env' → Store → Prop} {rt : Dat → Store → Prop} {ex eg : Exc → Env' → Store → Prop} (I : List α → Env' → Store → Prop) (h0 : I [] dl S) (hP : ∀ pre dl1 S2, I pre dl1 S2 → P S2)
    (hs : ∀ pre a rest dl1 S2, xs = pre ++ a :: rest → I pre dl1 S2 → ug (e a) dl1 S2 (fun dl2 S3 => b { nx := GcTo N (I (pre ++ [a])), rt := rt, bk := bk, ct := GcTo N (I (pre ++ [a])), ex := ex } dl2 S3) (fun er S3 => eg er dl1 S3))
    (k : ∀ dl1 S2, I xs dl1 S2 → nx dl1 S2) : ∃ I : Nat → Env' → Store → Prop, I 0 dl S ∧
  (∀ (i : Nat) d dl1 S2, (xs.map e)[i]? = some d → I i dl1 S2 → P S2 ∧ ug d dl1 S2 (fun dl2 S3 => b { nx := GcTo N (I (i + 1)), rt := rt, bk := bk, ct := GcTo N (I (i + 1)), ex := ex } dl2 S3) (fun e S3 => eg e dl1 S3)) ∧
  ∀ dl1 S2, I (xs.map e).length dl1 S2 → P S2 ∧ nx dl1 S2 := by
  refine ⟨fun j dl1 S2 => I (xs.take j) dl1 S2, by simpa using h0, fun j d dl1 S2 hj hI => ?_, fun dl1 S2 hI => ?_⟩
  · rw [List.getElem?_map, Option.map_eq_some_iff] at hj
    obtain ⟨a, ha, rfl⟩ := hj
    have ht : xs.take (j + 1) = xs.take j ++ [a] := by rw [List.take_add_one, ha]; rfl
    have hx : xs = xs.take j ++ a :: xs.drop (j + 1) := by
      rw [← (List.getElem?_eq_some_iff.mp ha).2, ← List.drop_eq_getElem_cons, List.take_append_drop]
    refine ⟨hP _ _ _ hI, ?_⟩
    simp only [ht]
    exact hs _ _ _ _ _ hx hI
  · rw [List.length_map, List.take_of_length_le (Nat.le_refl _)] at hI
    exact ⟨hP _ _ _ hI, k _ _ hI⟩
theorem gc_stay {N : Nat} {J : Env' → Store → Prop} (h : J dl S) : GcTo N J dl S := .inl h
end
theorem pairs_map {α β : Type} (xs : List α) (ys : List β) (e1 : α → Dat) (e2 : β → Dat) : pairs (xs.map e1) (ys.map e2) = (xs.zip ys).map fun p => .tup [e1 p.1, e2 p.2] := by
  unfold pairs
  induction xs generalizing ys with
  | nil => simp
  | cons x xs ih =>
    cases ys with
    | nil => simp
    | cons y ys => simp [ih]
theorem enumD_map {α : Type} (e : α → Dat) : ∀ (xs : List α) (k : Nat), enumD (k : Int) (xs.map e) = (xs.zipIdx k).map fun p => .tup [.int ((p.2 : Nat) : Int), e p.1]
  | [], _ => rfl
  | x :: xs, k => by
    simp only [List.map_cons, enumD, List.zipIdx_cons]
    rw [show ((k : Int) + 1) = ((k + 1 : Nat) : Int) by push_cast; rfl, enumD_map e xs (k + 1)]
theorem seqs_map {α : Type} (e : α → Dat) (xs : List α) (i : Nat) : (xs.map e)[i]? = (xs[i]?).map e := by simp
theorem atI_n {α : Type} (xs : List α) (i : Nat) : HT.sIx xs.length 0 (some (i : Int)) = min i xs.length := HT.sIx_nat ..
theorem cutD_map {α : Type} (e : α → Dat) (xs : List α) (lo hi : Option Int) : cutD (xs.map e) lo hi = (((xs.drop (HT.sIx xs.length 0 lo)).take (HT.sIx xs.length xs.length hi - HT.sIx xs.length 0 lo))).map e := by
  unfold cutD
  rw [List.length_map, List.map_take, List.map_drop]
theorem cut_from {α : Type} (xs : List α) (i : Nat) : (xs.drop (HT.sIx xs.length 0 (some (i : Int)))).take (HT.sIx xs.length xs.length none - HT.sIx xs.length 0 (some (i : Int))) = xs.drop i := by
  rw [HT.sIx_none, HT.sIx_nat]
  by_cases h : i ≤ xs.length
  · rw [Nat.min_eq_left h, List.take_of_length_le (by rw [List.length_drop]; omega)]
  · rw [Nat.min_eq_right (by omega), List.drop_of_length_le (Nat.le_refl _), List.drop_of_length_le (by omega)]; simp
theorem cut_to {α : Type} (xs : List α) (i : Nat) : (xs.drop (HT.sIx xs.length 0 none)).take (HT.sIx xs.length xs.length (some (i : Int)) - HT.sIx xs.length 0 none) = xs.take i := by
  rw [HT.sIx_none, HT.sIx_nat]
  simp only [List.drop_zero, Nat.sub_zero]
  by_cases h : i ≤ xs.length
  · rw [Nat.min_eq_left h]
  · rw [Nat.min_eq_right (by omega), List.take_of_length_le (Nat.le_refl _), List.take_of_length_le (by omega)]
section
variable {S : Store} {K : KE} {a b c d : Dat} {r xs : List Dat}
theorem x_ixt0 (k : K a S) : gIx (.tup (a :: r)) (.int 0) S K := x_ixL (xs := a :: r) rfl (by
  unfold atI ixN; rw [if_pos (by decide), if_pos (by simp only [List.length_cons]; omega)]; rfl) k
theorem x_ixt1 (k : K b S) : gIx (.tup (a :: b :: r)) (.int 1) S K := x_ixL (xs := a :: b :: r) rfl (by
  unfold atI ixN; rw [if_pos (by decide), if_pos (by simp only [List.length_cons]; omega)]; rfl) k
theorem x_ixt2 (k : K c S) : gIx (.tup (a :: b :: c :: r)) (.int 2) S K := x_ixL (xs := a :: b :: c :: r) rfl (by
  unfold atI ixN; rw [if_pos (by decide), if_pos (by simp only [List.length_cons]; omega)]; rfl) k
theorem x_ixt3 (k : K d S) : gIx (.tup (a :: b :: c :: d :: r)) (.int 3) S K := x_ixL (xs := a :: b :: c :: d :: r) rfl (by
  unfold atI ixN; rw [if_pos (by decide), if_pos (by simp only [List.length_cons]; omega)]; rfl) k
theorem atI_nat' {α : Type} {xs : List α} {n : Nat} {x : α} (h : xs[n]? = some x) : atI xs (n : Int) = some x := by
  have := (List.getElem?_eq_some_iff.mp h).1
  unfold atI ixN
  rw [if_pos (by omega), if_pos (by omega)]
  simpa using h
theorem x_ixn {n : Nat} {x y : Dat} (e : seqD S x = some xs) (h : xs[n]? = some y) (k : K y S) : gIx x (.int (n : Int)) S K := x_ixL e (atI_nat' h) k
theorem x_lenT (k : K (.int xs.length) S) : gLen [.tup xs] S K := x_lenL rfl k
end
def anyStr (a : Str) : List Dat → Bool
  | .str b :: r => decide (b = a) || anyStr a r
  | _ => false
def allStr : List Dat → Bool
  | [] => true
  | .str _ :: r => allStr r
  | _ => false
theorem strs_of : ∀ {xs : List Dat}, allStr xs = true → ∃ ys : List Str, xs = ys.map Dat.str
  | [], _ => ⟨[], rfl⟩
  | .str b :: r, h => by
    obtain ⟨ys, e⟩ := strs_of (xs := r) h
    exact ⟨b :: ys, by rw [e]; rfl⟩
  | .non :: _, h => by cases h
  | .bl _ :: _, h => by cases h
  | .int _ :: _, h => by cases h
  | .lst _ :: _, h => by cases h
  | .tup _ :: _, h => by cases h
  | .dct _ _ :: _, h => by cases h
  | .dtt _ _ :: _, h => by cases h
  | .sq _ _ :: _, h => by cases h
  | .ins _ _ _ :: _, h => by cases h
  | .xd _ _ :: _, h => by cases h
  | .cell _ :: _, h => by cases h
  | .raw _ :: _, h => by cases h
theorem anyStr_in (a : Str) (ys : List Str) : inF (.str a) (ys.map Dat.str) = some (anyStr a (ys.map Dat.str)) := by
  unfold inF
  rw [mapM_strs]
  show some (inV _ _) = _
  congr 1
  unfold inV
  rw [List.any_map]
  induction ys with
  | nil => rfl
  | cons b r ih => rw [List.any_cons, ih]; rfl
theorem x_inTs {S : Store} {K : KE} {f : Bool → Bool} {a : Str} {xs : List Dat} (h : allStr xs = true) (k : K (.bl (f (anyStr a xs))) S) : gIn f (.str a) (.tup xs) S K := by
  obtain ⟨ys, rfl⟩ := strs_of h
  exact ⟨_, _, rfl, anyStr_in a ys, k⟩
theorem x_inTi {S : Store} {K : KE} {a : Str} {xs : List Dat} (h : allStr xs = true) (k : K (.bl (anyStr a xs)) S) : gIn id (.str a) (.tup xs) S K := x_inTs h k
theorem x_inTn {S : Store} {K : KE} {a : Str} {xs : List Dat} (h : allStr xs = true) (k : K (.bl (!(anyStr a xs))) S) : gIn (!·) (.str a) (.tup xs) S K := x_inTs h k
section
variable {S : Store} {K : KE} {xs ys : List Dat}
theorem x_addT (h : xs.length + ys.length ≤ sizeLine) (k : K (.tup (xs ++ ys)) S) : gAdd (.tup xs) (.tup ys) S K := ⟨h, k⟩
theorem x_slT {lo hi : Option Int} (k : K (.tup (cutD xs lo hi)) S) : gSl (.tup xs) lo hi S K := k
end
end DL
/-! SB: the promises of the laws' common defs: the bag, draws, same. -/
namespace DL
open PySem L2
/-- the bag of numbers that a law draws from -/
def IsBag (d : Dat) : Prop := ∃ (ns : List Int) (i r m c : Int), d = .lst [.lst (ns.map Dat.int), .int i, .int r, .int m, .int c] ∧ ns.length ≤ 63 ∧ 0 ≤ i ∧ 0 ≤ r ∧ 0 ≤ m ∧ m < 2147483629
def sp_law_bag (K : PySem.W.Frag) : Spec := fun ds S Kt _ => ∃ ns : List Int, ds = [.sq K ns] ∧ ns.length ≤ 63 ∧ ∀ bag, IsBag bag → Kt (.cell S.length) (S ++ [bag])
def sp_law_pull (K : PySem.W.Frag) : Spec := fun ds S Kt _ => ∃ (b : Nat) (n : Int) (bag : Dat), ds = [.cell b, .int n] ∧ 0 < n ∧ n < 1073741824 ∧ S[b]? = some bag ∧ IsBag bag ∧ ∀ (k : Nat) bag', (k : Int) < n → IsBag bag' → Kt (.int k) (S.set b bag')
/-- what one draws from -/
def drawn (S : Store) (d : Dat) (xs : List Dat) : Prop := (∃ z : Str, d = .str z ∧ z.length ≤ sizeLine ∧ xs = z.cps.toList.map fun c => .str (sgn c)) ∨ ((∀ z, d ≠ .str z) ∧ seqD S d = some xs)
def sp_law_of (K : PySem.W.Frag) : Spec := fun ds S Kt _ => ∃ (b : Nat) (d : Dat) (xs : List Dat) (bag : Dat), ds = [.cell b, d] ∧ drawn S d xs ∧ (∀ bag', IsBag bag' → drawn (S.set b bag') d xs) ∧ 0 < xs.length ∧ xs.length < 1073741824 ∧ S[b]? = some bag ∧ IsBag bag ∧
  ∀ (k : Nat) x bag', xs[k]? = some x → IsBag bag' → Kt x (S.set b bag')
/-- x and y are the same data, to the depth n -/
def SameD (S : Store) : Nat → Dat → Dat → Prop
  | 0, _, _ => False
  | n + 1, x, y => (y = .non ∧ x = .non) ∨ (∃ b, y = .bl b ∧ x = .bl b) ∨ (∃ b, y = .int b ∧ x = .int b) ∨ (∃ b, y = .str b ∧ x = .str b) ∨
    (∃ xs ys, x = .tup xs ∧ y = .tup ys ∧ xs.length = ys.length ∧ xs.length ≤ sizeLine ∧ ∀ (i : Nat) a b, xs[i]? = some a → ys[i]? = some b → SameD S n a b) ∨
    (∃ xs ys, lstD S x = some xs ∧ lstD S y = some ys ∧ xs.length = ys.length ∧ xs.length ≤ sizeLine ∧ ∀ (i : Nat) a b, xs[i]? = some a → ys[i]? = some b → SameD S n a b)
def sp_law_same (K : PySem.W.Frag) : Nat → Spec
  | 0 => fun _ _ _ _ => False
  | n + 1 => fun ds S Kt _ => ∃ x y, ds = [x, y] ∧ SameD S (n + 1) x y ∧ Kt (.bl true) S
theorem len_law_bag {K : PySem.W.Frag} {ds S Kt X} (h : sp_law_bag K ds S Kt X) : ds.length = 1 := by obtain ⟨_, rfl, _⟩ := h; rfl
theorem len_law_pull {K : PySem.W.Frag} {ds S Kt X} (h : sp_law_pull K ds S Kt X) : ds.length = 2 := by obtain ⟨_, _, _, rfl, _⟩ := h; rfl
theorem len_law_of {K : PySem.W.Frag} {ds S Kt X} (h : sp_law_of K ds S Kt X) : ds.length = 2 := by obtain ⟨_, _, _, _, rfl, _⟩ := h; rfl
theorem len_law_same {K : PySem.W.Frag} {n : Nat} {ds S Kt X} (h : sp_law_same K (n + 1) ds S Kt X) : ds.length = 2 := by obtain ⟨_, _, rfl, _⟩ := h; rfl
end DL
namespace DL
open PySem L2
def u_law_bag (K : PySem.W.Frag) : US :=
  (uSeq (uSet 1 (uC (.int 5632)))
    (uSeq (uFor (uSeqI (uSlQ K (uVar 0) uNo (uPart (uC (.int 63))))) (uName 2) (uSet 1 (uOp gMod (uCB gInt1 (uCons (uOp gAdd (uOp gAdd (uOp gMul (uVar 1) (uC (.int 48271))) (uOp gMul (uOp gMod (uCB gInt1 (uCons (uVar 2) uNil)) (uC (.int 1000003))) (uC (.int 911)))) (uC (.int 7))) uNil)) (uC (.int 2147483629)))))
    (uRet (uLstC (uCons (uCB gListT (uCons (uSlQ K (uVar 0) uNo (uPart (uC (.int 63)))) uNil)) (uCons (uC (.int 0)) (uCons (uC (.int 0)) (uCons (uVar 1) (uCons (uC (.int 0)) uNil)))))))))
def u_law_pull (K : PySem.W.Frag) : US :=
  (uSeq (uAsg (uOp gAdd (uOp gIx (uVar 0) (uC (.int 4))) (uC (.int 1))) (uGSub (uVar 0) (uC (.int 4)) gSetL))
    (uSeq (uIfS (uAnd (uTest (uOp gEq (uOp gIx (uVar 0) (uC (.int 2))) (uC (.int 0)))) (uTest (uOp gLt (uOp gIx (uVar 0) (uC (.int 1))) (uCB gLen (uCons (uOp gIx (uVar 0) (uC (.int 0))) uNil))))) (uSeq (uSet 2 (uOp gIx (uOp gIx (uVar 0) (uC (.int 0))) (uOp gIx (uVar 0) (uC (.int 1)))))
    (uSeq (uAsg (uOp gAdd (uOp gIx (uVar 0) (uC (.int 1))) (uC (.int 1))) (uGSub (uVar 0) (uC (.int 1)) gSetL))
    (uIfS (uTest (uOp gGe (uCB gAbs (uCons (uVar 2) uNil)) (uOp gPow (uC (.int 10)) (uC (.int 18))))) (uAsg (uCB gAbs (uCons (uVar 2) uNil)) (uGSub (uVar 0) (uC (.int 2)) gSetL)) (uAsg (uOp gMod (uCB gInt1 (uCons (uOp gAdd (uOp gAdd (uOp gMul (uOp gIx (uVar 0) (uC (.int 3))) (uC (.int 40692))) (uOp gMul (uOp gMod (uCB gInt1 (uCons (uVar 2) uNil)) (uC (.int 1000003))) (uC (.int 613)))) (uC (.int 11))) uNil)) (uC (.int 2147483629))) (uGSub (uVar 0) (uC (.int 3)) gSetL))))) uNext)
    (uSeq (uIfS (uTest (uOp gGt (uOp gIx (uVar 0) (uC (.int 2))) (uC (.int 0)))) (uSeq (uSet 3 (uOp gMod (uCB gInt1 (uCons (uOp gIx (uVar 0) (uC (.int 2))) uNil)) (uVar 1)))
    (uSeq (uAsg (uOp gFdiv (uOp gIx (uVar 0) (uC (.int 2))) (uVar 1)) (uGSub (uVar 0) (uC (.int 2)) gSetL))
    (uRet (uVar 3)))) uNext)
    (uSeq (uSet 4 (uOp gMod (uCB gInt1 (uCons (uOp gAdd (uOp gMul (uOp gIx (uVar 0) (uC (.int 3))) (uOp gIx (uVar 0) (uC (.int 3)))) (uOp gMul (uOp gIx (uVar 0) (uC (.int 4))) (uC (.int 7919)))) uNil)) (uC (.int 2147483587))))
    (uSeq (uAsg (uOp gMod (uCB gInt1 (uCons (uOp gAdd (uOp gAdd (uOp gMul (uVar 4) (uC (.int 16807))) (uOp gMul (uOp gIx (uVar 0) (uC (.int 3))) (uC (.int 69621)))) (uC (.int 12345))) uNil)) (uC (.int 2147483629))) (uGSub (uVar 0) (uC (.int 3)) gSetL))
    (uRet (uOp gMod (uCB gInt1 (uCons (uOp gFdiv (uOp gIx (uVar 0) (uC (.int 3))) (uC (.int 64))) uNil)) (uVar 1))))))))
def u_law_of (K : PySem.W.Frag) : US :=
  (uRet (uOp gIx (uVar 1) (uCall (sp_law_pull K) [] (uCons (uVar 0) (uCons (uCB gLen (uCons (uVar 1) uNil)) uNil)))))
def u_law_same (K : PySem.W.Frag) (F : Spec) : US :=
  (uSeq (uIfS (uTru (uCB (gIsi K) (uCons (uVar 1) (uCons (uTup (uCons (uC (.raw (.ty "list"))) (uCons (uC (.raw (.ty "tuple"))) uNil))) uNil)))) (uSeq (uIfS (uOr (uTest (uOp gNe (uCB (gIsi K) (uCons (uVar 0) (uCons (uC (.raw (.ty "list"))) uNil))) (uCB (gIsi K) (uCons (uVar 1) (uCons (uC (.raw (.ty "list"))) uNil))))) (uTest (uOp gNe (uCB (gIsi K) (uCons (uVar 0) (uCons (uC (.raw (.ty "tuple"))) uNil))) (uCB (gIsi K) (uCons (uVar 1) (uCons (uC (.raw (.ty "tuple"))) uNil)))))) (uRet (uC (.bl false))) uNext)
    (uRet (uAndV (uOp gEq (uCB gLen (uCons (uVar 0) uNil)) (uCB gLen (uCons (uVar 1) uNil))) (uCB (gBools fun bs => bs.all id) (uCons (uLc (uZ (uCons (uVar 0) (uCons (uVar 1) uNil))) [2, 3] (uGTup 2 (uGCons (uName 2) (uGCons (uName 3) uGNil))) uYes (uCall F [] (uCons (uVar 2) (uCons (uVar 3) uNil)))) uNil))))) uNext)
    (uSeq (uIfS (uOr (uTest (uOp (gIs id) (uVar 1) (uC .non))) (uTest (uOp (gIs id) (uVar 0) (uC .non)))) (uRet (uAndV (uOp (gIs id) (uVar 1) (uC .non)) (uOp (gIs id) (uVar 0) (uC .non)))) uNext)
    (uSeq (uIfS (uOr (uTest (uOp gNe (uCB (gIsi K) (uCons (uVar 1) (uCons (uC (.raw (.ty "bool"))) uNil))) (uCB (gIsi K) (uCons (uVar 0) (uCons (uC (.raw (.ty "bool"))) uNil))))) (uTest (uOp gNe (uCB (gIsi K) (uCons (uVar 1) (uCons (uC (.raw (.ty "int"))) uNil))) (uCB (gIsi K) (uCons (uVar 0) (uCons (uC (.raw (.ty "int"))) uNil)))))) (uRet (uC (.bl false))) uNext)
    (uRet (uAndV (uOp gEq (uCB (gIsi K) (uCons (uVar 1) (uCons (uC (.raw (.ty "str"))) uNil))) (uCB (gIsi K) (uCons (uVar 0) (uCons (uC (.raw (.ty "str"))) uNil)))) (uOp gEq (uVar 0) (uVar 1)))))))
end DL
namespace DL
open PySem L2
local macro_rules | `(tactic| walk_at "e1") => `(tactic| with_reducible first
  | refine x_var rfl ?_ | refine x_c ?_ | refine x_op ?_ | refine x_un ?_ | refine x_nil ?_ | refine x_cons ?_ | refine x_tup ?_ | refine x_lst ?_ | refine x_lstC ?_ | refine x_cb ?_ | refine x_call ?_ | refine x_if ?_
  | refine x_test ?_ | refine x_and ?_ | refine x_or ?_ | refine x_not ?_ | refine x_tru ?_ | refine x_andV ?_ | refine x_orV ?_ | refine x_notV ?_ | refine x_yes ?_ | refine x_chain ?_
  | refine x_bm ?_ | refine x_bm0 ?_ | refine x_part ?_ | refine x_no ?_ | refine x_sl ?_ | refine x_seqI ?_ | refine x_r1 ?_ | refine x_r2 ?_ | refine x_z ?_ | refine x_lc ?_ | refine x_lcC ?_ | refine x_lcW ?_)
local macro_rules | `(tactic| walk_at "s1") => `(tactic| with_reducible first
  | refine x_seq ?_ | refine x_next ?_ | refine x_break ?_ | refine x_cont ?_ | refine x_drop ?_ | refine x_ret ?_ | refine x_retN ?_ | refine x_ifS ?_ | refine x_set ?_ | refine x_asg ?_ | refine x_par ?_ | refine x_gsub ?_ | refine x_gnil ?_ | refine x_gcons ?_)
local macro_rules | `(tactic| walk_at "g1") => `(tactic| first
  | with_reducible refine x_iteT ?_ | with_reducible refine x_iteF ?_ | with_reducible refine x_tN ?_ | with_reducible refine x_tB ?_ | with_reducible refine x_tI ?_ | with_reducible refine x_tT ?_ | with_reducible refine x_tL ?_
  | with_reducible refine x_addI ?_ | with_reducible refine x_sub ?_ | with_reducible refine x_ltI ?_ | with_reducible refine x_leI ?_ | with_reducible refine x_gtI ?_ | with_reducible refine x_geI ?_ | with_reducible refine x_ltS ?_ | with_reducible refine x_leS ?_ | with_reducible refine x_gtS ?_ | with_reducible refine x_geS ?_
  | with_reducible refine x_eqI ?_ | with_reducible refine x_eqS ?_ | with_reducible refine x_eqB ?_ | with_reducible refine x_neI ?_ | with_reducible refine x_neS ?_ | with_reducible refine x_neB ?_ | with_reducible refine x_neg ?_
  | with_reducible refine x_inS ?_ | with_reducible refine x_notinS ?_ | with_reducible refine x_intI ?_ | with_reducible refine x_intB ?_ | with_reducible refine x_abs ?_ | with_reducible refine x_slL ?_
  | ((with_reducible refine x_is ?_ ?_); · rfl) | ((with_reducible refine x_isnot ?_ ?_); · rfl) | ((with_reducible refine x_isiD ?_ ?_ ?_); (next => rfl); (next => decide)) | ((with_reducible refine x_isiD2 ?_ ?_ ?_ ?_); (next => rfl); (next => decide); (next => decide)) | ((with_reducible refine x_name ?_ ?_); · exact of_decide_eq_true rfl) | ((with_reducible refine x_gtup ?_ ?_); · rfl))
local macro_rules | `(tactic| walk_at "d") => `(tactic| repeat (first | walk_at "e1" | walk_at "s1" | walk_at "g1" | ((with_reducible refine x_putL ?_ ?_); · rfl) | ((with_reducible refine x_szL ?_ ?_); · rfl) | dsimp only [List.set_cons_succ, List.set_cons_zero]))
local macro_rules | `(tactic| walk_at "i") => `(tactic| repeat (first | walk_at "e1" | walk_at "s1" | walk_at "g1" | ((with_reducible refine x_putL ?_ ?_); · rfl) | ((with_reducible refine x_szL ?_ ?_); · rfl) | ((with_reducible refine x_iteT2 ?_ ?_); · rfl) | ((with_reducible refine x_iteF2 ?_ ?_); · rfl) | dsimp only [List.set_cons_succ, List.set_cons_zero]))
theorem bag_below {n : Nat} {d : Dat} (h : IsBag d) : below n d := by
  obtain ⟨ns, i, r, m, c, rfl, _⟩ := h
  simp only [below, belows, true_and, and_true]
  exact below_ints ns
theorem drawn_below {S : Store} {d x : Dat} {xs : List Dat} {j : Nat} (h : drawn S d xs) (hS : belows S.length S) (hd : below S.length d) (hx : xs[j]? = some x) : below S.length x := by
  rcases h with ⟨z, rfl, hl, rfl⟩ | ⟨hn, h⟩
  · rw [List.getElem?_map] at hx
    obtain ⟨c, _, rfl⟩ := Option.map_eq_some_iff.mp hx
    simp only [below]
  · have hm := List.mem_of_getElem? hx
    cases d with
    | lst ys => simp only [seqD, Option.some.injEq] at h; subst h; simp only [below] at hd; exact belows_mem hd hm
    | tup ys => simp only [seqD, Option.some.injEq] at h; subst h; simp only [below] at hd; exact belows_mem hd hm
    | cell m =>
      simp only [seqD] at h
      split at h
      · rename_i zs e
        injection h with h
        subst h
        have := belows_mem hS (List.mem_of_getElem? e)
        simp only [below] at this
        exact belows_mem this hm
      · cases h
    | _ => simp [seqD] at h
theorem drawn_len {S : Store} {d : Dat} {xs : List Dat} (h : drawn S d xs) {K : KE} (k : K (.int xs.length) S) : gLen [d] S K := by
  rcases h with ⟨z, rfl, hl, rfl⟩ | ⟨hn, h⟩
  · refine x_lenS hl ?_
    rw [List.length_map] at k
    exact k
  · refine x_lenL h k
theorem drawn_ix {S : Store} {d x : Dat} {xs : List Dat} (h : drawn S d xs) {k : Nat} (e : xs[k]? = some x) {K : KE} (q : K x S) : gIx d (.int k) S K := by
  have hk := (List.getElem?_eq_some_iff.mp e).1
  rcases h with ⟨z, rfl, hl, rfl⟩ | ⟨hn, h⟩
  · rw [List.getElem?_map] at e
    obtain ⟨c, e2, rfl⟩ := Option.map_eq_some_iff.mp e
    refine x_ixS hl (c := c) ?_ q
    unfold atI ixN
    rw [if_pos (Int.natCast_nonneg k), if_pos (by have := (List.getElem?_eq_some_iff.mp e2).1; omega)]
    exact e2
  · refine x_ixL h ?_ q
    unfold atI ixN
    rw [if_pos (Int.natCast_nonneg k), if_pos (by omega)]
    simpa using e
theorem r_law_of {KF : PySem.W.Frag} {ds S K X} (h : sp_law_of KF ds S K X) (hb : belows S.length ds) (hS : belows S.length S) : u_law_of KF (endsOf S K X) (startD ["_law_bag_here", "_law_some"] ds) S := by
  obtain ⟨b, d, xs, bag, rfl, hd, hd2, h0, hn, hbag, hB, k⟩ := h
  have hbl : b < S.length := (List.getElem?_eq_some_iff.mp hbag).1
  show u_law_of KF (endsOf S K X) [some (.cell b), some d] S
  unfold u_law_of
  walk_at "d"
  refine drawn_len hd ?_
  walk_at "d"
  refine ⟨b, _, bag, rfl, by omega, by omega, hbag, hB, fun j bag' hj hB' => ?_⟩
  obtain ⟨x, hx⟩ : ∃ x, xs[j]? = some x := ⟨xs[j]'(by omega), List.getElem?_eq_getElem (by omega)⟩
  refine drawn_ix (hd2 bag' hB') hx ?_
  refine x_rtE ?_
  refine exit_set0 hS ?_ ?_ (k j x bag' hx hB')
  · exact bag_below hB'
  · exact drawn_below hd hS (by simp only [belows] at hb; exact hb.2.1) hx
theorem cutV_int (ns : List Int) (l h : Option Int) : ∃ ms : List Int, cutV (ns.map V.int) l h = ms.map V.int ∧ ms.length ≤ ns.length := by
  unfold cutV
  refine ⟨(ns.drop (HT.sIx (ns.map V.int).length 0 l)).take (HT.sIx (ns.map V.int).length (ns.map V.int).length h - HT.sIx (ns.map V.int).length 0 l), ?_, ?_⟩
  · rw [List.map_take, List.map_drop]
  · rw [List.length_take, List.length_drop]; omega
theorem r_law_bag {KF : PySem.W.Frag} {ds S K X} (h : sp_law_bag KF ds S K X) (hb : belows S.length ds) (hS : belows S.length S) : u_law_bag KF (endsOf S K X) (startD ["_law_script", "_law_mixed", "_law_cell"] ds) S := by
  obtain ⟨ns, rfl, hl, k⟩ := h
  show u_law_bag KF (endsOf S K X) [some (.sq KF ns), none, none] S
  obtain ⟨ms, hms, hml⟩ := cutV_int ns none (some 63)
  unfold u_law_bag
  walk_at "d"
  refine x_for ?_
  walk_at "d"
  refine x_slQ ?_
  walk_at "d"
  refine ⟨ns, ms, rfl, hms, ms.map Dat.int, rfl, fun j dl1 S1 => S1 = S ∧ ∃ m x2, dl1 = [some (.sq KF ns), some (.int m), x2] ∧ 0 ≤ m ∧ m < 2147483629, ⟨rfl, 5632, none, rfl, by decide, by decide⟩, ?_, ?_⟩
  · rintro j d dl1 S2 hj ⟨rfl, m, x2, rfl, hm, hm2⟩
    rw [List.getElem?_map] at hj
    obtain ⟨c, _, rfl⟩ := Option.map_eq_some_iff.mp hj
    refine ⟨rfl, ?_⟩
    walk_at "d"
    refine x_mul (.inr ⟨by decide, by decide⟩) ?_
    walk_at "d"
    refine x_mod (by decide) ?_
    walk_at "d"
    refine x_mul (.inr ⟨by decide, by decide⟩) ?_
    walk_at "d"
    refine x_mod (by decide) ?_
    walk_at "d"
    exact .inl ⟨rfl, _, _, rfl, Int.emod_nonneg _ (by decide), Int.emod_lt_of_pos _ (by decide)⟩
  · rintro dl1 S2 ⟨rfl, m, x2, rfl, hm, hm2⟩
    refine ⟨rfl, ?_⟩
    walk_at "d"
    refine x_slQ ?_
    walk_at "d"
    refine ⟨ns, ms, rfl, hms, ?_⟩
    walk_at "d"
    refine x_list rfl ?_
    walk_at "d"
    refine x_rtE ?_
    have hB : IsBag (.lst [.lst (ms.map Dat.int), .int 0, .int 0, .int m, .int 0]) := ⟨ms, 0, 0, m, 0, rfl, by omega, by decide, by decide, hm, hm2⟩
    exact exit_new hS (bag_below hB) (k _ hB)
section
variable {S : Store} {K : KE} {b : Nat} {d p q r s t : Dat}
theorem x_ixB {xs : List Dat} {m : Int} (hb : b < S.length) (h : atI xs m = some d) (k : K d (S.set b (.lst xs))) : gIx (.cell b) (.int m) (S.set b (.lst xs)) K :=
  x_ixL (xs := xs) (by simp [seqD, hb]) h k
theorem x_set4 {KS : Store → Prop} (hb : b < S.length) (k : KS (S.set b (.lst [p, q, r, s, d]))) : gSetL (.cell b) (.int 4) d (S.set b (.lst [p, q, r, s, t])) KS :=
  x_setL (xs := [p, q, r, s, t]) (j := 4) (by simp [hb]) rfl (by rw [List.set_set]; exact k)
theorem x_set3 {KS : Store → Prop} (hb : b < S.length) (k : KS (S.set b (.lst [p, q, r, d, t]))) : gSetL (.cell b) (.int 3) d (S.set b (.lst [p, q, r, s, t])) KS :=
  x_setL (xs := [p, q, r, s, t]) (j := 3) (by simp [hb]) rfl (by rw [List.set_set]; exact k)
theorem x_set2 {KS : Store → Prop} (hb : b < S.length) (k : KS (S.set b (.lst [p, q, d, s, t]))) : gSetL (.cell b) (.int 2) d (S.set b (.lst [p, q, r, s, t])) KS :=
  x_setL (xs := [p, q, r, s, t]) (j := 2) (by simp [hb]) rfl (by rw [List.set_set]; exact k)
theorem x_set1 {KS : Store → Prop} (hb : b < S.length) (k : KS (S.set b (.lst [p, d, r, s, t]))) : gSetL (.cell b) (.int 1) d (S.set b (.lst [p, q, r, s, t])) KS :=
  x_setL (xs := [p, q, r, s, t]) (j := 1) (by simp [hb]) rfl (by rw [List.set_set]; exact k)
theorem set_self {S : Store} {b : Nat} {d : Dat} (h : S[b]? = some d) : S = S.set b d := by
  obtain ⟨hb, e⟩ := List.getElem?_eq_some_iff.mp h
  apply List.ext_getElem?
  intro i
  by_cases hi : b = i
  · subst hi; rw [h, List.getElem?_set_self hb]
  · rw [List.getElem?_set_ne hi]
end
theorem cmul_l {i j : Int} (h : 0 ≤ i) (h2 : i < 2147483629) : CMul i j := .inl ⟨Int.lt_of_lt_of_le (by decide) h, Int.lt_trans h2 (by decide)⟩
theorem exit_bag {S : Store} {K : KE} {b : Nat} {n j i' r' m' c' : Int} {ns : List Int} (hS : belows S.length S) (k : ∀ (k : Nat) (bag' : Dat), (k : Int) < n → IsBag bag' → K (Dat.int k) (List.set S b bag')) (hl : ns.length ≤ 63) (h0 : 0 < n) (hj : 0 ≤ j) (hjn : j < n) (hi' : 0 ≤ i') (hr' : 0 ≤ r') (hm' : 0 ≤ m') (hm2' : m' < 2147483629) :
    ExitTo S K (.int j) (S.set b (.lst [.lst (ns.map Dat.int), .int i', .int r', .int m', .int c'])) := by
  refine exit_set0 hS ?_ (by simp only [below]) ?_
  · simp only [below, belows, true_and, and_true]; exact below_ints ns
  · have := k j.toNat _ (by omega) ⟨ns, i', r', m', c', rfl, hl, hi', hr', hm', hm2'⟩
    rwa [Int.toNat_of_nonneg hj] at this
local macro_rules | `(tactic| walk_at "b") => `(tactic| repeat (first | walk_at "e1" | walk_at "s1" | walk_at "g1" | ((with_reducible refine x_mul ?_ ?_); · first | exact Or.inr ⟨by decide, by decide⟩ | exact cmul_l (by assumption) (by assumption)) | ((with_reducible refine x_mod ?_ ?_); · first | assumption | decide) | ((with_reducible refine x_fdiv ?_ ?_); · first | exact ⟨by decide, by decide⟩ | exact ⟨by assumption, by assumption⟩) | with_reducible refine x_ixB (by assumption) rfl ?_ | with_reducible refine x_set4 (by assumption) ?_ | with_reducible refine x_set3 (by assumption) ?_ | with_reducible refine x_set2 (by assumption) ?_ | with_reducible refine x_set1 (by assumption) ?_ | ((with_reducible refine x_putL ?_ ?_); · rfl) | ((with_reducible refine x_szL ?_ ?_); · rfl) | dsimp only [List.set_cons_succ, List.set_cons_zero]))
local macro_rules | `(tactic| walk_at "tail") => `(tactic| (
  refine x_ite (fun e9 => ?_) (fun e9 => ?_)
  · walk_at "b"
    refine x_rtE ?_
    refine exit_bag (by assumption) (by assumption) (by assumption) (by assumption) (Int.emod_nonneg _ (by omega)) (Int.emod_lt_of_pos _ (by assumption)) (by assumption) (Int.ediv_nonneg (by assumption) (by omega)) (by assumption) (by assumption)
  · walk_at "b"
    refine x_rtE ?_
    refine exit_bag (by assumption) (by assumption) (by assumption) (by assumption) (Int.emod_nonneg _ (by omega)) (Int.emod_lt_of_pos _ (by assumption)) (by assumption) (by assumption) (Int.emod_nonneg _ (by decide)) (Int.emod_lt_of_pos _ (by decide))))
theorem r_law_pull {KF : PySem.W.Frag} {ds S K X} (h : sp_law_pull KF ds S K X) (hb : belows S.length ds) (hS : belows S.length S) : u_law_pull KF (endsOf S K X) (startD ["_law_bag_here", "_law_sides", "_law_cell", "_law_digit", "_law_twice"] ds) S := by
  obtain ⟨b, n, bag, rfl, h0, hn, hbag, ⟨ns, i, r, m, c, rfl, hl, hi, hr, hm, hm2⟩, k⟩ := h
  have hbl : b < S.length := (List.getElem?_eq_some_iff.mp hbag).1
  have key : ∀ S1 : Store, S1 = S.set b (.lst [.lst (ns.map Dat.int), .int i, .int r, .int m, .int c]) → u_law_pull KF (endsOf S K X) [some (.cell b), some (.int n), none, none, none] S1 := by
    rintro S1 rfl
    unfold u_law_pull
    walk_at "b"
    refine x_ite (fun e => ?_) (fun e => ?_)
    · walk_at "b"
      refine x_lenL rfl ?_
      walk_at "b"
      refine x_ite (fun e2 => ?_) (fun e2 => ?_)
      · walk_at "b"
        have hin : i < ns.length := by simpa using of_decide_eq_true e2
        obtain ⟨q, hq⟩ : ∃ q, ns[i.toNat]? = some q := ⟨ns[i.toNat]'(by omega), List.getElem?_eq_getElem (by omega)⟩
        have hat : atI (ns.map Dat.int) i = some (.int q) := by
          unfold atI ixN
          rw [if_pos hi, if_pos (by simpa using hin)]
          rw [Option.bind_some, List.getElem?_map, hq]; rfl
        refine x_ixL (xs := ns.map Dat.int) (d := .int q) rfl hat ?_
        walk_at "b"
        refine x_pow (m := 10) (n := 18) ⟨by decide, by decide, by decide⟩ ?_
        walk_at "b"
        refine x_ite (fun e3 => ?_) (fun e3 => ?_)
        · walk_at "b"
          have hr2 : (0 : Int) ≤ (if q < 0 then -q else q) := by split <;> omega
          generalize (if q < 0 then -q else q) = r2 at hr2
          have hi2 : 0 ≤ i + 1 := by omega
          generalize i + 1 = i2 at hi2
          walk_at "tail"
        · walk_at "b"
          have hi2 : 0 ≤ i + 1 := by omega
          generalize i + 1 = i2 at hi2
          have hm3 := Int.emod_nonneg (m * 40692 + q % 1000003 * 613 + 11) (b := 2147483629) (by decide)
          have hm4 := Int.emod_lt_of_pos (m * 40692 + q % 1000003 * 613 + 11) (b := 2147483629) (by decide)
          generalize (m * 40692 + q % 1000003 * 613 + 11) % 2147483629 = m2 at hm3 hm4
          walk_at "b"
          walk_at "tail"
      · walk_at "b"
        walk_at "tail"
    · walk_at "b"
      walk_at "tail"
  exact key S (set_self hbag)
theorem lstD_cases {S : Store} {x : Dat} {xs : List Dat} (h : lstD S x = some xs) : x = .lst xs ∨ ∃ n, x = .cell n ∧ S[n]? = some (.lst xs) := by
  have e := lstD_view h
  cases x with
  | lst ys => left; simp only [view, Option.some.injEq, Dat.lst.injEq] at e; rw [e]
  | cell n => right; exact ⟨n, rfl, e⟩
  | tup ys => simp [view] at e
  | _ => simp [view] at e
theorem lstD_ty {S : Store} {x : Dat} {xs : List Dat} (h : lstD S x = some xs) : tyS S x = some "list" := by
  rcases lstD_cases h with rfl | ⟨n, rfl, e⟩
  · rfl
  · simp [tyS, e]
theorem lstD_seq {S : Store} {x : Dat} {xs : List Dat} (h : lstD S x = some xs) : seqD S x = some xs := by
  rcases lstD_cases h with rfl | ⟨n, rfl, e⟩
  · rfl
  · simp [seqD, e]
theorem lstD_draw {S : Store} {x : Dat} {xs : List Dat} (h : lstD S x = some xs) : drawD S x = some xs := by
  rcases lstD_cases h with rfl | ⟨n, rfl, e⟩
  · rfl
  · simp [drawD, seqD, e]
theorem lstD_raw {S : Store} {x : Dat} {xs : List Dat} (h : lstD S x = some xs) : noRaw x = true := by
  rcases lstD_cases h with rfl | ⟨n, rfl, e⟩ <;> rfl
theorem sp_same_of {KF : PySem.W.Frag} {n : Nat} {a b : Dat} {S : Store} {Kt : KE} {X : KX} (h : SameD S n a b) (k : Kt (.bl true) S) : sp_law_same KF n [a, b] S Kt X := by
  cases n with
  | zero => exact h.elim
  | succ n => exact ⟨a, b, rfl, h, k⟩
theorem same_lists {KF : PySem.W.Frag} {n : Nat} {S : Store} {K : KE} {X : KX} {x y : Dat} {xs ys : List Dat} (ex : seqD S x = some xs) (ey : seqD S y = some ys) (dx : drawD S x = some xs) (dy : drawD S y = some ys) (hl : xs.length = ys.length) (hs : xs.length ≤ sizeLine) (h : ∀ (i : Nat) a b, xs[i]? = some a → ys[i]? = some b → SameD S n a b)
    (hbt : ∀ b : Bool, below S.length (.bl b)) (k : K (.bl true) S) : (uRet (uAndV (uOp gEq (uCB gLen (uCons (uVar 0) uNil)) (uCB gLen (uCons (uVar 1) uNil))) (uCB (gBools fun bs => bs.all id) (uCons (uLc (uZ (uCons (uVar 0) (uCons (uVar 1) uNil))) [2, 3] (uGTup 2 (uGCons (uName 2) (uGCons (uName 3) uGNil))) uYes (uCall (sp_law_same KF n) [] (uCons (uVar 2) (uCons (uVar 3) uNil)))) uNil)))) (endsOf S K X) [some x, some y, none, none] S := by
  walk_at "i"
  refine x_lenL ex ?_
  walk_at "i"
  refine x_lenL ey ?_
  walk_at "i"
  refine x_iteT2 (by simp [hl]) ?_
  walk_at "i"
  refine ⟨xs, ys, dx, dy, ?_⟩
  refine lc_map (fun _ => .bl true) ⟨dx, dy⟩ (by unfold pairs; rw [List.length_zipWith]; omega) (fun j d Kt Kf hj hk => ?_) ?_
  · unfold pairs at hj
    rw [List.getElem?_zipWith] at hj
    obtain ⟨a, b, ea, eb, rfl⟩ : ∃ a b, xs[j]? = some a ∧ ys[j]? = some b ∧ d = .tup [a, b] := by
      cases ea : xs[j]? with
      | none => simp [ea] at hj
      | some a =>
        cases eb : ys[j]? with
        | none => simp [ea, eb] at hj
        | some b => simp [ea, eb] at hj; exact ⟨a, b, rfl, rfl, hj.symm⟩
    dsimp only [wipeD, List.set_cons_succ, List.set_cons_zero]
    walk_at "i"
    exact sp_same_of (h j a b ea eb) hk
  · walk_at "i"
    refine x_bools (bs := (pairs xs ys).map fun _ => true) (by simp [lstD, view, List.map_map, Function.comp_def]) ?_
    refine x_rtE ?_
    have e : ((pairs xs ys).map fun _ => true).all id = true := by simp
    show ExitTo S K (.bl (((pairs xs ys).map fun _ => true).all id)) S
    rw [e]
    exact exit_here (by simp only [below]) k
theorem r_law_same {KF : PySem.W.Frag} {n : Nat} {ds S K X} (h : sp_law_same KF (n + 1) ds S K X) (hb : belows S.length ds) (hS : belows S.length S) : u_law_same KF (sp_law_same KF n) (endsOf S K X) (startD ["_law_found", "_law_due", "_law_a", "_law_b"] ds) S := by
  obtain ⟨x, y, rfl, h, k⟩ := h
  show u_law_same KF (sp_law_same KF n) (endsOf S K X) [some x, some y, none, none] S
  have fin : (endsOf S K X).rt (.bl true) S := exit_here (by simp only [below]) k
  unfold u_law_same
  rcases h with ⟨rfl, rfl⟩ | ⟨b, rfl, rfl⟩ | ⟨b, rfl, rfl⟩ | ⟨b, rfl, rfl⟩ | ⟨xs, ys, rfl, rfl, hl, hs, h⟩ | ⟨xs, ys, ex, ey, hl, hs, h⟩
  · walk_at "i"
    exact fin
  · walk_at "i"
    refine x_rtE ?_
    rw [show decide (b = b) = true from decide_eq_true rfl]
    exact fin
  · walk_at "i"
    refine x_rtE ?_
    rw [show decide (b = b) = true from decide_eq_true rfl]
    exact fin
  · walk_at "i"
    refine x_rtE ?_
    rw [show decide (b = b) = true from decide_eq_true rfl]
    exact fin
  · walk_at "i"
    exact same_lists (x := .tup xs) (y := .tup ys) rfl rfl rfl rfl hl hs h (fun b => by simp only [below]) k
  · walk_at "i"
    refine x_isi2 (lstD_ty ey) (by decide) (by decide) ?_
    walk_at "i"
    refine x_isi (lstD_ty ex) (by decide) ?_
    walk_at "i"
    refine x_isi (lstD_ty ey) (by decide) ?_
    walk_at "i"
    refine x_isi (lstD_ty ex) (by decide) ?_
    walk_at "i"
    refine x_isi (lstD_ty ey) (by decide) ?_
    walk_at "i"
    exact same_lists (lstD_seq ex) (lstD_seq ey) (lstD_draw ex) (lstD_draw ey) hl hs h (fun b => by simp only [below]) k
end DL
namespace DL
open PySem L2
local macro_rules | `(tactic| walk_at "e1") => `(tactic| with_reducible first
  | refine x_var rfl ?_ | refine x_c ?_ | refine x_op ?_ | refine x_un ?_ | refine x_nil ?_ | refine x_cons ?_ | refine x_tup ?_ | refine x_lst ?_ | refine x_lstC ?_ | refine x_cb ?_ | refine x_call ?_ | refine x_if ?_
  | refine x_test ?_ | refine x_and ?_ | refine x_or ?_ | refine x_not ?_ | refine x_tru ?_ | refine x_andV ?_ | refine x_orV ?_ | refine x_notV ?_ | refine x_yes ?_ | refine x_chain ?_
  | refine x_bm ?_ | refine x_bm0 ?_ | refine x_part ?_ | refine x_no ?_ | refine x_sl ?_ | refine x_seqI ?_ | refine x_r1 ?_ | refine x_r2 ?_ | refine x_z ?_ | refine x_lc ?_ | refine x_lcC ?_ | refine x_lcW ?_ | refine x_fld ?_ | refine x_meth ?_ | refine x_prop ?_ | refine x_make ?_ | refine x_en ?_)
local macro_rules | `(tactic| walk_at "s1") => `(tactic| with_reducible first
  | refine x_seq ?_ | refine x_next ?_ | refine x_break ?_ | refine x_cont ?_ | refine x_drop ?_ | refine x_ret ?_ | refine x_retN ?_ | refine x_ifS ?_ | refine x_set ?_ | refine x_asg ?_ | refine x_par ?_ | refine x_gsub ?_ | refine x_gnil ?_ | refine x_gcons ?_ | refine x_setF ?_ | refine x_for ?_)
local macro_rules | `(tactic| walk_at "g1") => `(tactic| first
  | with_reducible refine x_iteT ?_ | with_reducible refine x_iteF ?_ | with_reducible refine x_tN ?_ | with_reducible refine x_tB ?_ | with_reducible refine x_tI ?_ | with_reducible refine x_tT ?_ | with_reducible refine x_tL ?_
  | with_reducible refine x_addI ?_ | with_reducible refine x_sub ?_ | with_reducible refine x_ltI ?_ | with_reducible refine x_leI ?_ | with_reducible refine x_gtI ?_ | with_reducible refine x_geI ?_ | with_reducible refine x_ltS ?_ | with_reducible refine x_leS ?_ | with_reducible refine x_gtS ?_ | with_reducible refine x_geS ?_
  | with_reducible refine x_eqI ?_ | with_reducible refine x_eqS ?_ | with_reducible refine x_eqB ?_ | with_reducible refine x_neI ?_ | with_reducible refine x_neS ?_ | with_reducible refine x_neB ?_ | with_reducible refine x_neg ?_
  | with_reducible refine x_inS ?_ | with_reducible refine x_notinS ?_ | with_reducible refine x_intI ?_ | with_reducible refine x_intB ?_ | with_reducible refine x_abs ?_ | with_reducible refine x_slL ?_ | with_reducible refine x_slT ?_ | with_reducible refine x_min2 ?_ | with_reducible refine x_max2 ?_
  | ((with_reducible refine x_is ?_ ?_); · rfl) | ((with_reducible refine x_isnot ?_ ?_); · rfl) | ((with_reducible refine x_isiD ?_ ?_ ?_); (next => rfl); (next => decide)) | ((with_reducible refine x_isiD2 ?_ ?_ ?_ ?_); (next => rfl); (next => decide); (next => decide)) | ((with_reducible refine x_name ?_ ?_); · exact of_decide_eq_true rfl) | ((with_reducible refine x_gtup ?_ ?_); · rfl))
local macro_rules | `(tactic| walk_at "d") => `(tactic| repeat (first | walk_at "e1" | walk_at "s1" | walk_at "g1" | ((with_reducible refine x_putL ?_ ?_); · rfl) | ((with_reducible refine x_szL ?_ ?_); · rfl) | dsimp only [List.set_cons_succ, List.set_cons_zero]))
local macro_rules | `(tactic| walk_at "i") => `(tactic| repeat (first | walk_at "e1" | walk_at "s1" | walk_at "g1" | ((with_reducible refine x_putL ?_ ?_); · rfl) | ((with_reducible refine x_szL ?_ ?_); · rfl) | ((with_reducible refine x_iteT2 ?_ ?_); · rfl) | ((with_reducible refine x_iteF2 ?_ ?_); · rfl) | dsimp only [List.set_cons_succ, List.set_cons_zero]))
local macro_rules | `(tactic| walk_at "g2") => `(tactic| with_reducible first | refine x_ixt0 ?_ | refine x_ixt1 ?_ | refine x_ixt2 ?_ | refine x_ixt3 ?_ | refine x_lenT ?_)
local macro_rules | `(tactic| walk_at "j") => `(tactic| repeat (first | walk_at "e1" | walk_at "s1" | walk_at "g1" | walk_at "g2" | ((with_reducible refine x_inTi ?_ ?_); · rfl) | ((with_reducible refine x_inTn ?_ ?_); · rfl) | ((with_reducible refine x_putL ?_ ?_); · rfl) | ((with_reducible refine x_szL ?_ ?_); · rfl) | ((with_reducible refine x_iteT2 ?_ ?_); · rfl) | ((with_reducible refine x_iteF2 ?_ ?_); · rfl) | dsimp only [List.set_cons_succ, List.set_cons_zero]))
/-! SL: promises of the small things: numbers, primes, letters. -/
/-- ascending, each once -/
def ascL : List Nat → Bool
  | a :: b :: r => decide (a < b) && ascL (b :: r)
  | _ => true
abbrev abc : Str := "abcdefghijklmnopqrstuvwxyz"
def sp_ascends (K : PySem.W.Frag) : Spec := fun ds S Kt _ => (∃ z : Str, ds = [.str z] ∧ z.length ≤ 1000000 ∧ Kt (.bl (ascL z.cps.toList)) S) ∨ ∃ ns : List Nat, ds = [.tup (ns.map fun (n : Nat) => Dat.int (n : Int))] ∧ ns.length ≤ 1000000 ∧ Kt (.bl (ascL ns)) S
def isAlpha (z : Str) : Bool := decide (1 ≤ z.cps.toList.length) && decide (z.cps.toList.length ≤ 4) && (z.cps.toList.all (fun c => decide (c ∈ abc.cps.toList)) && ascL z.cps.toList)
def notStr (S : Store) (d : Dat) : Prop := ∃ t, tyS S d = some t ∧ t ≠ "str" ∧ t ∈ tyNames
def sp_is_alphabet (K : PySem.W.Frag) : Spec := fun ds S Kt _ => (∃ z : Str, ds = [.str z] ∧ z.length ≤ 1000000 ∧ Kt (.bl (isAlpha z)) S) ∨ ∃ d, ds = [d] ∧ notStr S d ∧ Kt (.bl false) S
def isWord (a z : Str) : Bool := z.cps.toList.all fun c => decide (c ∈ a.cps.toList)
def sp_is_word (K : PySem.W.Frag) : Spec := fun ds S Kt _ => ∃ a : Str, (∃ z : Str, ds = [.str a, .str z] ∧ z.length ≤ 1000000 ∧ Kt (.bl (isWord a z)) S) ∨ ∃ d, ds = [.str a, d] ∧ notStr S d ∧ Kt (.bl false) S
/-- no number: of another kind, or a truth value -/
def notInt (S : Store) (d : Dat) : Prop := ∃ t, tyS S d = some t ∧ t ≠ "int" ∧ t ∈ tyNames
def sp_is_number (K : PySem.W.Frag) : Spec := fun ds S Kt _ => (∃ v l h : Int, ds = [.int v, .int l, .int h] ∧ Kt (.bl (decide (l ≤ v) && decide (v ≤ h))) S) ∨ (∃ v l : Int, ds = [.int v, .int l, .non] ∧ Kt (.bl (decide (l ≤ v))) S) ∨ ∃ d, ∃ l : Int, ∃ m, ds = [d, .int l, m] ∧ notInt S d ∧ Kt (.bl false) S
/-- no number parts p -/
def isPrime (p : Int) : Prop := 2 ≤ p ∧ ∀ d : Int, 2 ≤ d → d * d ≤ p → p % d ≠ 0
open Classical in
noncomputable def primeB (p : Int) : Bool := decide (isPrime p)
def sp_is_prime (K : PySem.W.Frag) : Spec := fun ds S Kt _ => (∃ v m : Int, ds = [.int v, .int m] ∧ m < 1000000 ∧ Kt (.bl (decide (v ≤ m) && primeB v)) S) ∨ ∃ d, ∃ m : Int, ds = [d, .int m] ∧ notInt S d ∧ Kt (.bl false) S
theorem len_ascends {K : PySem.W.Frag} {ds S Kt X} (h : sp_ascends K ds S Kt X) : ds.length = 1 := by rcases h with ⟨_, rfl, _⟩ | ⟨_, rfl, _⟩ <;> rfl
theorem len_is_alphabet {K : PySem.W.Frag} {ds S Kt X} (h : sp_is_alphabet K ds S Kt X) : ds.length = 1 := by rcases h with ⟨_, rfl, _⟩ | ⟨_, rfl, _⟩ <;> rfl
theorem len_is_word {K : PySem.W.Frag} {ds S Kt X} (h : sp_is_word K ds S Kt X) : ds.length = 2 := by obtain ⟨_, ⟨_, rfl, _⟩ | ⟨_, rfl, _⟩⟩ := h <;> rfl
theorem len_is_number {K : PySem.W.Frag} {ds S Kt X} (h : sp_is_number K ds S Kt X) : ds.length = 3 := by rcases h with ⟨_, _, _, rfl, _⟩ | ⟨_, _, rfl, _⟩ | ⟨_, _, _, rfl, _⟩ <;> rfl
theorem len_is_prime {K : PySem.W.Frag} {ds S Kt X} (h : sp_is_prime K ds S Kt X) : ds.length = 2 := by rcases h with ⟨_, _, rfl, _⟩ | ⟨_, _, rfl, _⟩ <;> rfl
def u_is_number (K : PySem.W.Frag) : US :=
  (uSeq (uIfS (uOr (uNot (uTru (uCB (gIsi K) (uCons (uVar 0) (uCons (uC (.raw (.ty "int"))) uNil))))) (uOr (uTru (uCB (gIsi K) (uCons (uVar 0) (uCons (uC (.raw (.ty "bool"))) uNil)))) (uTest (uOp gLt (uVar 0) (uVar 1))))) (uRet (uC (.bl false))) uNext)
    (uRet (uOrV (uOp (gIs id) (uVar 2) (uC .non)) (uOp gLe (uVar 0) (uVar 2)))))
def u_is_prime (K : PySem.W.Frag) : US :=
  (uSeq (uIfS (uNot (uTru (uCall (sp_is_number K) [] (uCons (uVar 0) (uCons (uC (.int 2)) (uCons (uVar 1) uNil)))))) (uRet (uC (.bl false))) uNext)
    (uSeq (uSet 2 (uC (.int 2)))
    (uSeq (uWhile (uTest (uOp gLe (uOp gMul (uVar 2) (uVar 2)) (uVar 0))) (uSeq (uIfS (uTest (uOp gEq (uOp gMod (uVar 0) (uVar 2)) (uC (.int 0)))) (uRet (uC (.bl false))) uNext)
    (uSet 2 (uOp gAdd (uVar 2) (uC (.int 1))))))
    (uRet (uC (.bl true))))))
def u_ascends (K : PySem.W.Frag) : US :=
  (uRet (uCB (gBools fun bs => bs.all id) (uCons (uLc (uZ (uCons (uVar 0) (uCons (uSl (uVar 0) (uPart (uC (.int 1))) uNo) uNil))) [1, 2] (uGTup 2 (uGCons (uName 1) (uGCons (uName 2) uGNil))) uYes (uOp gLt (uVar 1) (uVar 2))) uNil)))
def u_is_alphabet (K : PySem.W.Frag) : US :=
  (uSeq (uIfS (uOr (uNot (uTru (uCB (gIsi K) (uCons (uVar 0) (uCons (uC (.raw (.ty "str"))) uNil))))) (uNot (uTest (uChain gLe gLe (uC (.int 1)) (uCB gLen (uCons (uVar 0) uNil)) (uC (.int 4)))))) (uRet (uC (.bl false))) uNext)
    (uRet (uAndV (uCB (gBools fun bs => bs.all id) (uCons (uLc (uSeqI (uVar 0)) [1] (uName 1) uYes (uOp (gIn id) (uVar 1) (uC (.str "abcdefghijklmnopqrstuvwxyz")))) uNil)) (uCall (sp_ascends K) [] (uCons (uVar 0) uNil)))))
def u_is_word (K : PySem.W.Frag) : US :=
  (uRet (uAndV (uCB (gIsi K) (uCons (uVar 1) (uCons (uC (.raw (.ty "str"))) uNil))) (uCB (gBools fun bs => bs.all id) (uCons (uLc (uSeqI (uVar 1)) [2] (uName 2) uYes (uOp (gIn id) (uVar 2) (uVar 0))) uNil))))
theorem cps_len (z : Str) : z.cps.toList.length = z.length := by first | rfl | simp [Str.length]
theorem ascL_zip : ∀ l : List Nat, (List.zipWith (fun a b => decide (a < b)) l (l.drop 1)).all id = ascL l
  | [] => rfl
  | [a] => rfl
  | a :: b :: r => by
    have := ascL_zip (b :: r)
    simp only [List.drop_succ_cons, List.drop_zero, List.zipWith_cons_cons, List.all_cons, id_eq, ascL] at this ⊢
    rw [this]
theorem ltS_sgn (a b : Nat) : ltS (sgn a) (sgn b) = decide (a < b) := by
  unfold ltS sgn
  simp [List.cons_lt_cons_iff]
theorem asc_zip (l : List Nat) : (((l.zip (l.drop 1)).map fun p => decide (p.1 < p.2)).all id) = ascL l := by
  rw [← ascL_zip l]
  congr 1
  generalize l.drop 1 = m
  induction l generalizing m with
  | nil => simp
  | cons a l ih => cases m with
    | nil => simp
    | cons b m => simp [ih]
theorem cutS_from (z : Str) (i : Nat) : (cutS z (some (i : Int)) none).cps.toList = z.cps.toList.drop i := by
  have := cut_from z.cps.toList i
  rw [cps_len] at this
  exact this
theorem cutS_to (z : Str) (i : Nat) : (cutS z none (some (i : Int))).cps.toList = z.cps.toList.take i := by
  have := cut_to z.cps.toList i
  rw [cps_len] at this
  exact this
theorem x_allB {α : Type} {xs : List α} {p : α → Bool} {S : Store} {K : KE} (k : K (.bl (xs.all p)) S) : gBools (fun bs => bs.all id) [.lst (xs.map fun a => .bl (p a))] S K :=
  x_bools (bs := xs.map p) (by simp [lstD, view]) (by rw [List.all_map]; exact k)
theorem x_anyB {α : Type} {xs : List α} {p : α → Bool} {S : Store} {K : KE} (k : K (.bl (xs.any p)) S) : gBools (fun bs => bs.any id) [.lst (xs.map fun a => .bl (p a))] S K :=
  x_bools (bs := xs.map p) (by simp [lstD, view]) (by rw [List.any_map]; exact k)
theorem r_ascends {KF : PySem.W.Frag} {ds S K X} (h : sp_ascends KF ds S K X) (hb : belows S.length ds) (hS : belows S.length S) : u_ascends KF (endsOf S K X) (startD ["letters", "one", "other"] ds) S := by
  have szl : sizeLine = 16777216 := rfl
  rcases h with ⟨z, rfl, hz, k⟩ | ⟨ns, rfl, hz, k⟩
  · show u_ascends KF (endsOf S K X) [some (.str z), none, none] S
    unfold u_ascends
    walk_at "i"
    refine x_slS (by omega) ?_
    walk_at "i"
    refine ⟨_, _, rfl, rfl, ?_⟩
    rw [show (1 : Int) = ((1 : Nat) : Int) from rfl, cutS_from, pairs_map]
    refine' lc_M _ _ ⟨rfl, by show some _ = some _; rw [cutS_from]⟩ (by rw [List.length_zip, List.length_drop, cps_len]; omega) ?hs ?k
    case hs =>
      intro a _ Kt Kf hk
      dsimp only [wipeD, List.set_cons_succ, List.set_cons_zero]
      walk_at "i"
      rw [ltS_sgn]
      exact hk
    case k =>
      walk_at "i"
      refine x_bools (bs := (z.cps.toList.zip (z.cps.toList.drop 1)).map fun p => decide (p.1 < p.2)) (by simp [lstD, view]) ?_
      refine x_rtE ?_
      rw [asc_zip]
      exact exit_here (by simp only [below]) k
  · show u_ascends KF (endsOf S K X) [some (.tup (ns.map fun (n : Nat) => Dat.int (n : Int))), none, none] S
    unfold u_ascends
    walk_at "i"
    refine ⟨_, _, rfl, rfl, ?_⟩
    rw [cutD_map, show (1 : Int) = ((1 : Nat) : Int) from rfl, cut_from, pairs_map]
    refine' lc_M _ _ ⟨rfl, rfl⟩ (by rw [List.length_zip, List.length_drop]; omega) ?hs ?k
    case hs =>
      intro a _ Kt Kf hk
      dsimp only [wipeD, List.set_cons_succ, List.set_cons_zero]
      walk_at "i"
      have e : decide ((a.1 : Int) < (a.2 : Int)) = decide (a.1 < a.2) := decide_eq_decide.mpr (by omega)
      rw [e]
      exact hk
    case k =>
      walk_at "i"
      refine x_bools (bs := (ns.zip (ns.drop 1)).map fun p => decide (p.1 < p.2)) (by simp [lstD, view]) ?_
      refine x_rtE ?_
      rw [asc_zip]
      exact exit_here (by simp only [below]) k
/-- all signs of z lie in a -/
theorem all_signs {z a : Str} {dl : Env'} {S : Store} {K : KE} {X : KX} {i j : Nat} {ua : UE} (hz : z.length ≤ 1000000) (hi : dl[i]? = some (some (.str z))) (hj : j < dl.length) (ha : ∀ (c : Dat) (Kt : KE), Kt (.str a) S → ua ((dl.set j none).set j (some c)) S Kt XF0)
    (k : K (.bl (z.cps.toList.all fun c => decide (c ∈ a.cps.toList))) S) :
    uCB (gBools fun bs => bs.all id) (uCons (uLc (uSeqI (uVar i)) [j] (uName j) uYes (uOp (gIn id) (uVar j) ua)) uNil) dl S K X := by
  have szl : sizeLine = 16777216 := rfl
  refine x_cb (x_cons (x_lc (x_lcW (x_seqI (x_var hi ⟨_, rfl, ?_⟩)))))
  refine' lc_M z.cps.toList _ rfl (by rw [cps_len]; omega) ?hs ?k
  case hs =>
    intro c _ Kt Kf hk
    refine x_name (by simpa [wipeD] using hj) ?_
    refine x_yes (x_iteT (x_op ?_))
    refine x_var (d := .str (sgn c)) (by rw [List.getElem?_set_self (by simpa [wipeD] using hj)]) ?_
    refine ha _ _ ?_
    exact x_inS hk
  case k => exact x_nil (x_allB k)
theorem notStr_isB {t : String} (h : t ≠ "str") : isB t "str" = false := by simp [isB, h]
theorem r_is_word {KF : PySem.W.Frag} {ds S K X} (h : sp_is_word KF ds S K X) (hb : belows S.length ds) (hS : belows S.length S) : u_is_word KF (endsOf S K X) (startD ["alphabet", "value", "sign"] ds) S := by
  obtain ⟨a, ⟨z, rfl, hz, k⟩ | ⟨d, rfl, ⟨t, ht, htn, hm⟩, k⟩⟩ := h
  · show u_is_word KF (endsOf S K X) [some (.str a), some (.str z), none] S
    unfold u_is_word
    refine x_ret (x_andV (x_cb (x_cons (x_var rfl (x_cons (x_c (x_nil ?_)))))))
    refine x_isi (t := "str") rfl (by decide) ?_
    refine x_tB (x_iteT2 rfl ?_)
    refine all_signs (a := a) hz rfl (of_decide_eq_true rfl) (fun c Kt h => x_var rfl h) ?_
    exact exit_here (by simp only [below]) k
  · show u_is_word KF (endsOf S K X) [some (.str a), some d, none] S
    unfold u_is_word
    walk_at "i"
    refine x_isi ht (by decide) ?_
    rw [notStr_isB htn]
    walk_at "i"
    exact exit_here (by simp only [below]) k
theorem r_is_alphabet {KF : PySem.W.Frag} {ds S K X} (h : sp_is_alphabet KF ds S K X) (hb : belows S.length ds) (hS : belows S.length S) : u_is_alphabet KF (endsOf S K X) (startD ["value", "sign"] ds) S := by
  rcases h with ⟨z, rfl, hz, k⟩ | ⟨d, rfl, ⟨t, ht, htn, hm⟩, k⟩
  · show u_is_alphabet KF (endsOf S K X) [some (.str z), none] S
    have hz2 := cps_len z
    have hsz : z.length ≤ sizeLine := Nat.le_trans hz (by decide)
    have fin : ∀ b : Bool, b = isAlpha z → (endsOf S K X).rt (.bl b) S := fun b e => by subst e; exact exit_here (by simp only [below]) k
    unfold u_is_alphabet
    walk_at "i"
    refine x_lenS hsz ?_
    walk_at "i"
    refine x_ite (fun e1 => ?_) (fun e1 => ?_)
    · have h1 := of_decide_eq_true e1
      refine x_ite (fun e2 => ?_) (fun e2 => ?_)
      · have h2 : ¬ ((z.length : Int) ≤ 4) := by simpa using e2
        walk_at "i"
        refine fin false ?_
        have : ¬ (z.cps.toList.length ≤ 4) := by omega
        simp only [isAlpha, this, decide_false, Bool.and_false, Bool.false_and]
      · have h2 : ((z.length : Int) ≤ 4) := by simpa using e2
        refine x_next ?_
        dsimp only
        refine x_ret (x_andV ?_)
        refine all_signs (a := abc) hz rfl (of_decide_eq_true rfl) (fun c Kt h => x_c h) ?_
        refine x_tB ?_
        have hA : isAlpha z = ((z.cps.toList.all fun c => decide (c ∈ abc.cps.toList)) && ascL z.cps.toList) := by
          have h3 : 1 ≤ z.cps.toList.length := by omega
          have h4 : z.cps.toList.length ≤ 4 := by omega
          simp only [isAlpha, h3, h4, decide_true, Bool.true_and]
        refine x_ite (fun e3 => ?_) (fun e3 => ?_)
        · walk_at "i"
          refine .inl ⟨z, rfl, hz, fin _ ?_⟩
          rw [hA, e3, Bool.true_and]
        · refine fin _ ?_
          rw [hA, e3, Bool.false_and]
    · walk_at "i"
      refine fin false ?_
      have h1 : ¬ ((1 : Int) ≤ (z.length : Int)) := of_decide_eq_false e1
      have : ¬ (1 ≤ z.cps.toList.length) := by omega
      simp only [isAlpha, this, decide_false, Bool.and_false, Bool.false_and]
  · show u_is_alphabet KF (endsOf S K X) [some d, none] S
    unfold u_is_alphabet
    walk_at "i"
    refine x_isi ht (by decide) ?_
    rw [notStr_isB htn]
    walk_at "i"
    exact exit_here (by simp only [below]) k
theorem r_is_number {KF : PySem.W.Frag} {ds S K X} (h : sp_is_number KF ds S K X) (hb : belows S.length ds) (hS : belows S.length S) : u_is_number KF (endsOf S K X) (startD ["value", "least", "most"] ds) S := by
  have fin : ∀ b c : Bool, b = c → K (.bl c) S → (endsOf S K X).rt (.bl b) S := fun b c e k => by subst e; exact exit_here (by simp only [below]) k
  rcases h with ⟨v, l, h, rfl, k⟩ | ⟨v, l, rfl, k⟩ | ⟨d, l, m, rfl, ⟨t, ht, hn, hm⟩, k⟩
  · show u_is_number KF (endsOf S K X) [some (.int v), some (.int l), some (.int h)] S
    unfold u_is_number
    walk_at "i"
    refine x_ite (fun e => ?_) (fun e => ?_)
    · walk_at "i"
      have := of_decide_eq_true e
      exact fin _ _ (by rw [decide_eq_false (show ¬ l ≤ v by omega)]; rfl) k
    · walk_at "i"
      have := of_decide_eq_false e
      exact fin _ _ (by rw [decide_eq_true (show l ≤ v by omega)]; rfl) k
  · show u_is_number KF (endsOf S K X) [some (.int v), some (.int l), some .non] S
    unfold u_is_number
    walk_at "i"
    refine x_ite (fun e => ?_) (fun e => ?_)
    · walk_at "i"
      have := of_decide_eq_true e
      exact fin _ _ (by rw [decide_eq_false (show ¬ l ≤ v by omega)]) k
    · walk_at "i"
      have := of_decide_eq_false e
      exact fin _ _ (by rw [decide_eq_true (show l ≤ v by omega)]; rfl) k
  · show u_is_number KF (endsOf S K X) [some d, some (.int l), some m] S
    unfold u_is_number
    walk_at "i"
    refine x_isi ht (by decide) ?_
    cases e : isB t "int" with
    | false =>
      walk_at "i"
      exact fin _ _ rfl k
    | true =>
      have e2 : t = "bool" := by
        simp only [isB, Bool.or_eq_true, Bool.and_eq_true, beq_iff_eq] at e
        rcases e with e | e
        · exact absurd e hn
        · exact e.1
      subst e2
      walk_at "i"
      refine x_isi ht (by decide) ?_
      walk_at "i"
      exact fin _ _ rfl k
theorem r_is_prime {KF : PySem.W.Frag} {ds S K X} (h : sp_is_prime KF ds S K X) (hb : belows S.length ds) (hS : belows S.length S) : u_is_prime KF (endsOf S K X) (startD ["value", "most", "divisor"] ds) S := by
  have fin : ∀ b c : Bool, b = c → K (.bl c) S → (endsOf S K X).rt (.bl b) S := fun b c e k => by subst e; exact exit_here (by simp only [below]) k
  rcases h with ⟨v, m, rfl, hm, k⟩ | ⟨d, m, rfl, hn, k⟩
  · show u_is_prime KF (endsOf S K X) [some (.int v), some (.int m), none] S
    unfold u_is_prime
    walk_at "i"
    refine .inl ⟨v, 2, m, rfl, ?_⟩
    walk_at "i"
    refine x_ite (fun e => ?_) (fun e => ?_)
    · walk_at "i"
      refine fin _ _ ?_ k
      simp only [Bool.not_eq_true', Bool.and_eq_false_iff, decide_eq_false_iff_not] at e
      rcases e with e | e
      · have : primeB v = false := by unfold primeB; simp only [decide_eq_false_iff_not]; exact fun z => e z.1
        rw [this, Bool.and_false]
      · rw [decide_eq_false e, Bool.false_and]
    · simp only [Bool.not_eq_false', Bool.and_eq_true, decide_eq_true_eq] at e
      walk_at "i"
      refine ⟨fun n dl1 S1 => S1 = S ∧ ∃ q : Int, dl1 = [some (.int v), some (.int m), some (.int q)] ∧ 2 ≤ q ∧ q ≤ 1001 ∧ n = (v + 2 - q).toNat ∧ ∀ d : Int, 2 ≤ d → d < q → d * d ≤ v → v % d ≠ 0, ⟨_, rfl, 2, rfl, by omega, by omega, rfl, fun d h1 h2 => by omega⟩, ?_⟩
      rintro n dl1 S1 ⟨rfl, q, rfl, hq, hq2, rfl, hd⟩
      walk_at "i"
      refine x_mul (.inl ⟨by omega, by omega⟩) ?_
      walk_at "i"
      refine x_ite (fun e2 => ?_) (fun e2 => ?_)
      · have e2 := of_decide_eq_true e2
        walk_at "i"
        refine x_mod (by omega) ?_
        walk_at "i"
        refine x_ite (fun e3 => ?_) (fun e3 => ?_)
        · have e3 := of_decide_eq_true e3
          walk_at "i"
          refine fin _ _ ?_ k
          have : primeB v = false := by unfold primeB; simp only [decide_eq_false_iff_not]; exact fun z => z.2 q hq e2 e3
          rw [this, Bool.and_false]
        · have e3 := of_decide_eq_false e3
          walk_at "i"
          have hqv : q < v := by
            have : q * 2 ≤ q * q := Int.mul_le_mul_of_nonneg_left hq (by omega)
            omega
          have hq3 : q ≤ 1000 := by
            by_cases z : q ≤ 1000
            · exact z
            · have : 1001 * 1001 ≤ q * q := Int.mul_le_mul (by omega) (by omega) (by omega) (by omega)
              omega
          refine .inl ⟨(v + 2 - (q + 1)).toNat, by omega, rfl, q + 1, rfl, by omega, by omega, rfl, fun d h1 h2 h3 => ?_⟩
          by_cases z : d = q
          · subst z; exact e3
          · exact hd d h1 (by omega) h3
      · have e2 := of_decide_eq_false e2
        walk_at "i"
        refine fin _ _ ?_ k
        have : primeB v = true := by
          unfold primeB
          simp only [decide_eq_true_eq]
          refine ⟨e.1, fun d h1 h2 => ?_⟩
          by_cases z : d < q
          · exact hd d h1 z h2
          · have : q * q ≤ d * d := Int.mul_le_mul (by omega) (by omega) (by omega) (by omega)
            omega
        rw [this, decide_eq_true e.2]
        rfl
  · show u_is_prime KF (endsOf S K X) [some d, some (.int m), none] S
    unfold u_is_prime
    walk_at "i"
    refine .inr (.inr ⟨d, 2, .int m, rfl, hn, ?_⟩)
    walk_at "i"
    exact fin _ _ rfl k
/-! S29: promises for the formulas' rules (k29). -/
abbrev natD (n : Nat) : Dat := .int (n : Int)
inductive Ln where
  | is (z : Str) | no (r : Nat) | and (rs : List Nat) | or (rs : List Nat) | before (r : Nat) | since (a b : Nat) | count (r p k : Nat)
def encLn : Ln → Dat
  | .is z => .tup [.str "is", .str z]
  | .no r => .tup [.str "not", natD r]
  | .and rs => .tup [.str "and", .tup (rs.map fun (n : Nat) => Dat.int (n : Int))]
  | .or rs => .tup [.str "or", .tup (rs.map fun (n : Nat) => Dat.int (n : Int))]
  | .before r => .tup [.str "before", natD r]
  | .since a b => .tup [.str "since", natD a, natD b]
  | .count r p k => .tup [.str "count", natD r, natD p, natD k]
def okRefs (at_ : Nat) (rs : List Nat) : Prop := (∀ r ∈ rs, r < at_) ∧ ascL rs = true ∧ rs.length ≤ 1000000
def okLn (a : Str) (at_ : Nat) : Ln → Prop
  | .is z => isWord a z = true ∧ ascL z.cps.toList = true ∧ z.length ≤ 1000000
  | .no r => r < at_
  | .and rs => okRefs at_ rs
  | .or rs => okRefs at_ rs
  | .before r => r < at_
  | .since x y => x < at_ ∧ y < at_
  | .count r p k => r < at_ ∧ isPrime (p : Int) ∧ p ≤ 97 ∧ k < p
def okLns (a : Str) (ls : List Ln) : Prop := ∀ (i : Nat) l, ls[i]? = some l → okLn a i l
/-! what lines say -/
def b2n (b : Bool) : Nat := if b then 1 else 0
def lnVal (c : Nat) (last : List Bool) (cnt : List Nat) (l : Ln) (f : List Bool) : Bool := match l with
  | .is z => decide (c ∈ z.cps.toList)
  | .no r => !(f.getD r false)
  | .and rs => rs.all fun r => f.getD r false
  | .or rs => rs.any fun r => f.getD r false
  | .before r => last.getD r false
  | .since x y => f.getD y false || (f.getD x false && last.getD f.length false)
  | .count r p k => decide ((cnt.getD f.length 0 + b2n (f.getD r false)) % p = k)
def lnCnt (cnt : List Nat) (l : Ln) (f : List Bool) : Nat := match l with
  | .count r p _ => (cnt.getD f.length 0 + b2n (f.getD r false)) % p
  | _ => cnt.getD f.length 0
def goF (c : Nat) (last : List Bool) (cnt : List Nat) : List Ln → List Bool × List Nat → List Bool × List Nat
  | [], s => s
  | l :: r, s => goF c last cnt r (s.1 ++ [lnVal c last cnt l s.1], s.2 ++ [lnCnt cnt l s.1])
def stepF (ls : List Ln) (s : List Bool × List Nat) (c : Nat) : List Bool × List Nat := goF c s.1 s.2 ls ([], [])
def runF (ls : List Ln) (w : List Nat) : List Bool × List Nat := w.foldl (stepF ls) (ls.map fun _ => false, ls.map fun _ => 0)
/-! promises -/
def sp_need_alphabet (K : PySem.W.Frag) : Spec := fun ds S Kt _ => ∃ z : Str, ds = [.str z] ∧ z.length ≤ 1000000 ∧ isAlpha z = true ∧ Kt .non S
def sp_are_refs (K : PySem.W.Frag) : Spec := fun ds S Kt _ => ∃ (rs : List Nat) (at_ : Nat), ds = [.tup (rs.map fun (n : Nat) => Dat.int (n : Int)), natD at_] ∧ okRefs at_ rs ∧ Kt (.bl true) S
def sp_is_line (K : PySem.W.Frag) : Spec := fun ds S Kt _ => ∃ (l : Ln) (at_ : Nat) (a : Str), ds = [encLn l, natD at_, .str a] ∧ okLn a at_ l ∧ Kt (.bl true) S
def plainLn (n : Nat) : Ln → Prop
  | .is _ => True
  | .no r => r < n
  | .and rs => ∀ r ∈ rs, r < n
  | .or rs => ∀ r ∈ rs, r < n
  | _ => False
def sp_plain_truth (K : PySem.W.Frag) : Spec := fun ds S Kt _ => ∃ (l : Ln) (d : Dat) (bs : List Bool) (c : Nat), ds = [encLn l, d, .str (sgn c)] ∧ lstD S d = some (bs.map Dat.bl) ∧ bs.length ≤ 1000000 ∧ plainLn bs.length l ∧ (∀ rs, l = .and rs ∨ l = .or rs → rs.length ≤ 1000000) ∧ Kt (.bl (lnVal c [] [] l bs)) S
def sp_truths_along (K : PySem.W.Frag) : Spec := fun ds S Kt _ => ∃ (ls : List Ln) (a z : Str), ds = [.lst (ls.map encLn), .str z] ∧ okLns a ls ∧ ls.length ≤ 1000000 ∧ z.length ≤ 1000000 ∧ Kt (.lst ((runF ls z.cps.toList).1.map Dat.bl)) S
def fmNs : List Str := ["own_alphabet", "own_lines", "own_first"]
def fmD (K : PySem.W.Frag) (a : Str) (ls : List Ln) (b : Bool) : Dat := .ins (He.ga K "Formula") fmNs [.str a, .lst (ls.map encLn), .bl b]
def sp_Formula_init (K : PySem.W.Frag) : Spec := fun ds S Kt _ => ∃ (n : Nat) (a : Str) (d : Dat) (ls : List Ln) (b : Bool), ds = [.cell n, .str a, d, .bl b] ∧ lstD S d = some (ls.map encLn) ∧ d ≠ .cell n ∧ S[n]? = some (.ins (He.ga K "Formula") [] []) ∧ a.length ≤ 1000000 ∧ isAlpha a = true ∧ okLns a ls ∧ 0 < ls.length ∧ ls.length ≤ 4000 ∧ Kt .non (S.set n (fmD K a ls b))
def sp_Formula_truths (K : PySem.W.Frag) : Spec := fun ds S Kt _ => ∃ (d : Dat) (a z : Str) (ls : List Ln) (b : Bool), ds = [d, .str z] ∧ insD S d = some (He.ga K "Formula", fmNs, [.str a, .lst (ls.map encLn), .bl b]) ∧ okLns a ls ∧ ls.length ≤ 4000 ∧ isWord a z = true ∧ 0 < z.length ∧ z.length ≤ 1000000 ∧ Kt (.lst ((runF ls z.cps.toList).1.map Dat.bl)) S
/-! the law's own -/
def strD (l : List Nat) : Dat := .str ⟨l.toArray⟩
def longer (lv : List (List Nat)) (sg : List Nat) : List (List Nat) := lv.flatMap fun t => sg.map fun c => t ++ [c]
def levels (sg : List Nat) : Nat → List (List Nat)
  | 0 => [[]]
  | n + 1 => longer (levels sg n) sg
def texts (sg : List Nat) : Nat → List (List Nat)
  | 0 => [[]]
  | n + 1 => texts sg n ++ levels sg (n + 1)
def sp_law_longer (K : PySem.W.Frag) : Spec := fun ds S Kt _ => ∃ (lv : List (List Nat)) (z : Str), ds = [.lst (lv.map strD), .str z] ∧ z.length ≤ 4 ∧ lv.length ≤ 100000 ∧ (∀ t ∈ lv, t.length ≤ 1000) ∧ Kt (.lst ((longer lv z.cps.toList).map strD)) S
def sp_law_texts (K : PySem.W.Frag) : Spec := fun ds S Kt _ => ∃ (z : Str) (n : Nat), ds = [.str z, natD n] ∧ z.length ≤ 4 ∧ n ≤ 7 ∧ Kt (.lst ((texts z.cps.toList n).map strD)) S
def sp_law_some_signs (K : PySem.W.Frag) : Spec := fun ds S Kt _ => ∃ (b : Nat) (bag : Dat) (z : Str), ds = [.cell b, .str z] ∧ z.length ≤ 4 ∧ ascL z.cps.toList = true ∧ S[b]? = some bag ∧ IsBag bag ∧ ∀ t : Str, ∀ bag', isWord z t = true → ascL t.cps.toList = true → t.length ≤ 4 → IsBag bag' → Kt (.str t) (S.set b bag')
abbrev allKinds : List Dat := [.str "is", .str "not", .str "and", .str "or", .str "before", .str "since", .str "count"]
def sp_law_saying (K : PySem.W.Frag) : Spec := fun ds S Kt _ => ∃ (b : Nat) (bag : Dat) (z : Str) (n : Nat), ds = [.cell b, .str z, natD n, .lst allKinds] ∧ z.length ≤ 4 ∧ ascL z.cps.toList = true ∧ 1 ≤ n ∧ n ≤ 1000 ∧ S[b]? = some bag ∧ IsBag bag ∧ ∀ (ls : List Ln) bag', ls.length = n → okLns z ls → IsBag bag' → Kt (.lst (ls.map encLn)) (S.set b bag')
theorem len_need_alphabet {K : PySem.W.Frag} {ds S Kt X} (h : sp_need_alphabet K ds S Kt X) : ds.length = 1 := by obtain ⟨_, rfl, _⟩ := h; rfl
theorem len_are_refs {K : PySem.W.Frag} {ds S Kt X} (h : sp_are_refs K ds S Kt X) : ds.length = 2 := by obtain ⟨_, _, rfl, _⟩ := h; rfl
theorem len_is_line {K : PySem.W.Frag} {ds S Kt X} (h : sp_is_line K ds S Kt X) : ds.length = 3 := by obtain ⟨_, _, _, rfl, _⟩ := h; rfl
theorem len_plain_truth {K : PySem.W.Frag} {ds S Kt X} (h : sp_plain_truth K ds S Kt X) : ds.length = 3 := by obtain ⟨_, _, _, _, rfl, _⟩ := h; rfl
theorem len_truths_along {K : PySem.W.Frag} {ds S Kt X} (h : sp_truths_along K ds S Kt X) : ds.length = 2 := by obtain ⟨_, _, _, rfl, _⟩ := h; rfl
theorem len_Formula_init {K : PySem.W.Frag} {ds S Kt X} (h : sp_Formula_init K ds S Kt X) : ds.length = 4 := by obtain ⟨_, _, _, _, _, rfl, _⟩ := h; rfl
theorem len_Formula_truths {K : PySem.W.Frag} {ds S Kt X} (h : sp_Formula_truths K ds S Kt X) : ds.length = 2 := by obtain ⟨_, _, _, _, _, rfl, _⟩ := h; rfl
theorem len_law_longer {K : PySem.W.Frag} {ds S Kt X} (h : sp_law_longer K ds S Kt X) : ds.length = 2 := by obtain ⟨_, _, rfl, _⟩ := h; rfl
theorem len_law_texts {K : PySem.W.Frag} {ds S Kt X} (h : sp_law_texts K ds S Kt X) : ds.length = 2 := by obtain ⟨_, _, rfl, _⟩ := h; rfl
theorem len_law_some_signs {K : PySem.W.Frag} {ds S Kt X} (h : sp_law_some_signs K ds S Kt X) : ds.length = 2 := by obtain ⟨_, _, _, rfl, _⟩ := h; rfl
theorem len_law_saying {K : PySem.W.Frag} {ds S Kt X} (h : sp_law_saying K ds S Kt X) : ds.length = 4 := by obtain ⟨_, _, _, _, rfl, _⟩ := h; rfl
def u_need_alphabet (K : PySem.W.Frag) : US :=
  (uIfS (uNot (uTru (uCall (sp_is_alphabet K) [] (uCons (uVar 0) uNil)))) uDead uNext)
def u_are_refs (K : PySem.W.Frag) : US :=
  (uRet (uAndV (uCB (gIsi K) (uCons (uVar 0) (uCons (uC (.raw (.ty "tuple"))) uNil))) (uAndV (uCB (gBools fun bs => bs.all id) (uCons (uLc (uSeqI (uVar 0)) [2] (uName 2) uYes (uCall (sp_is_number K) [] (uCons (uVar 2) (uCons (uC (.int 0)) (uCons (uOp gSub (uVar 1) (uC (.int 1))) uNil))))) uNil)) (uCall (sp_ascends K) [] (uCons (uVar 0) uNil)))))
def u_is_line (K : PySem.W.Frag) : US :=
  (uSeq (uIfS (uOr (uNot (uTru (uCB (gIsi K) (uCons (uVar 0) (uCons (uC (.raw (.ty "tuple"))) uNil))))) (uOr (uTest (uOp gEq (uCB gLen (uCons (uVar 0) uNil)) (uC (.int 0)))) (uNot (uTru (uCB (gIsi K) (uCons (uOp gIx (uVar 0) (uC (.int 0))) (uCons (uC (.raw (.ty "str"))) uNil))))))) (uRet (uC (.bl false))) uNext)
    (uSeq (uPar 3 4 (uCons (uOp gIx (uVar 0) (uC (.int 0))) (uCons (uCB gLen (uCons (uVar 0) uNil)) uNil)))
    (uSeq (uIfS (uAnd (uTest (uOp gEq (uVar 3) (uC (.str "is")))) (uTest (uOp gEq (uVar 4) (uC (.int 2))))) (uRet (uAndV (uCall (sp_is_word K) [] (uCons (uVar 2) (uCons (uOp gIx (uVar 0) (uC (.int 1))) uNil))) (uCall (sp_ascends K) [] (uCons (uOp gIx (uVar 0) (uC (.int 1))) uNil)))) uNext)
    (uSeq (uIfS (uAnd (uTest (uOp (gIn id) (uVar 3) (uTup (uCons (uC (.str "and")) (uCons (uC (.str "or")) uNil))))) (uTest (uOp gEq (uVar 4) (uC (.int 2))))) (uRet (uCall (sp_are_refs K) [] (uCons (uOp gIx (uVar 0) (uC (.int 1))) (uCons (uVar 1) uNil)))) uNext)
    (uSeq (uIfS (uOr (uAnd (uTest (uOp (gIn id) (uVar 3) (uTup (uCons (uC (.str "not")) (uCons (uC (.str "before")) uNil))))) (uTest (uOp gEq (uVar 4) (uC (.int 2))))) (uAnd (uTest (uOp gEq (uVar 3) (uC (.str "since")))) (uTest (uOp gEq (uVar 4) (uC (.int 3)))))) (uRet (uCB (gBools fun bs => bs.all id) (uCons (uLc (uSeqI (uSl (uVar 0) (uPart (uC (.int 1))) uNo)) [5] (uName 5) uYes (uCall (sp_is_number K) [] (uCons (uVar 5) (uCons (uC (.int 0)) (uCons (uOp gSub (uVar 1) (uC (.int 1))) uNil))))) uNil))) uNext)
    (uSeq (uIfS (uOr (uTest (uOp gNe (uVar 3) (uC (.str "count")))) (uOr (uTest (uOp gNe (uVar 4) (uC (.int 4)))) (uOr (uNot (uTru (uCall (sp_is_number K) [] (uCons (uOp gIx (uVar 0) (uC (.int 1))) (uCons (uC (.int 0)) (uCons (uOp gSub (uVar 1) (uC (.int 1))) uNil)))))) (uNot (uTru (uCall (sp_is_prime K) [] (uCons (uOp gIx (uVar 0) (uC (.int 2))) (uCons (uC (.int 97)) uNil)))))))) (uRet (uC (.bl false))) uNext)
    (uRet (uCall (sp_is_number K) [] (uCons (uOp gIx (uVar 0) (uC (.int 3))) (uCons (uC (.int 0)) (uCons (uOp gSub (uOp gIx (uVar 0) (uC (.int 2))) (uC (.int 1))) uNil)))))))))))
def u_plain_truth (K : PySem.W.Frag) : US :=
  (uSeq (uIfS (uTest (uOp gEq (uOp gIx (uVar 0) (uC (.int 0))) (uC (.str "is")))) (uRet (uOp (gIn id) (uVar 2) (uOp gIx (uVar 0) (uC (.int 1))))) uNext)
    (uSeq (uIfS (uTest (uOp gEq (uOp gIx (uVar 0) (uC (.int 0))) (uC (.str "not")))) (uRet (uNotV (uOp gIx (uVar 1) (uOp gIx (uVar 0) (uC (.int 1)))))) uNext)
    (uSeq (uSet 3 (uLc (uSeqI (uOp gIx (uVar 0) (uC (.int 1)))) [4] (uName 4) uYes (uOp gIx (uVar 1) (uVar 4))))
    (uRet (uIf (uTest (uOp gEq (uOp gIx (uVar 0) (uC (.int 0))) (uC (.str "and")))) (uCB (gBools fun bs => bs.all id) (uCons (uVar 3) uNil)) (uCB (gBools fun bs => bs.any id) (uCons (uVar 3) uNil)))))))
def u_truths_along (K : PySem.W.Frag) : US :=
  (uSeq (uSet 2 (uLc (uSeqI (uVar 0)) [7] (uName 7) uYes (uC (.bl false))))
    (uSeq (uSet 3 (uLcC (uSeqI (uVar 0)) [7] (uName 7) uYes (uC (.int 0))))
    (uSeq (uFor (uSeqI (uVar 1)) (uName 4) (uSeq (uSet 5 (uLstC uNil))
    (uSeq (uFor (uEn (uCons (uVar 0) uNil)) (uGTup 2 (uGCons (uName 6) (uGCons (uName 7) uGNil))) (uIfS (uTest (uOp gEq (uOp gIx (uVar 7) (uC (.int 0))) (uC (.str "before")))) (uDrop (uBM "list" gAppend (uVar 5) (uCons (uOp gIx (uVar 2) (uOp gIx (uVar 7) (uC (.int 1)))) uNil))) (uIfS (uTest (uOp gEq (uOp gIx (uVar 7) (uC (.int 0))) (uC (.str "since")))) (uDrop (uBM "list" gAppend (uVar 5) (uCons (uOrV (uOp gIx (uVar 5) (uOp gIx (uVar 7) (uC (.int 2)))) (uAndV (uOp gIx (uVar 5) (uOp gIx (uVar 7) (uC (.int 1)))) (uOp gIx (uVar 2) (uVar 6)))) uNil))) (uIfS (uTest (uOp gEq (uOp gIx (uVar 7) (uC (.int 0))) (uC (.str "count")))) (uSeq (uAsg (uOp gMod (uOp gAdd (uOp gIx (uVar 3) (uVar 6)) (uCB gInt1 (uCons (uOp gIx (uVar 5) (uOp gIx (uVar 7) (uC (.int 1)))) uNil))) (uOp gIx (uVar 7) (uC (.int 2)))) (uGSub (uVar 3) (uVar 6) gSetL))
    (uDrop (uBM "list" gAppend (uVar 5) (uCons (uOp gEq (uOp gIx (uVar 3) (uVar 6)) (uOp gIx (uVar 7) (uC (.int 3)))) uNil)))) (uDrop (uBM "list" gAppend (uVar 5) (uCons (uCall (sp_plain_truth K) [] (uCons (uVar 7) (uCons (uVar 5) (uCons (uVar 4) uNil)))) uNil)))))))
    (uSet 2 (uVar 5)))))
    (uRet (uVar 2)))))
def u_Formula_init (K : PySem.W.Frag) : US :=
  (uSeq (uDrop (uCall (sp_need_alphabet K) [] (uCons (uVar 1) uNil)))
    (uSeq (uIfS (uOr (uNot (uTru (uCB (gIsi K) (uCons (uVar 2) (uCons (uTup (uCons (uC (.raw (.ty "list"))) (uCons (uC (.raw (.ty "tuple"))) uNil))) uNil))))) (uTest (uOp gEq (uCB gLen (uCons (uVar 2) uNil)) (uC (.int 0))))) uDead uNext)
    (uSeq (uIfS (uTest (uOp gGt (uCB gLen (uCons (uVar 2) uNil)) (uC (.int 4000)))) uDead uNext)
    (uSeq (uFor (uEn (uCons (uVar 2) uNil)) (uGTup 2 (uGCons (uName 4) (uGCons (uName 5) uGNil))) (uIfS (uNot (uTru (uCall (sp_is_line K) [] (uCons (uVar 5) (uCons (uVar 4) (uCons (uVar 1) uNil)))))) uDead uNext))
    (uSeq (uSetF [He.ga K "Formula"] "own_alphabet" (uVar 0) (uVar 1))
    (uSeq (uSetF [He.ga K "Formula"] "own_lines" (uVar 0) (uCB gListT (uCons (uVar 2) uNil)))
    (uSetF [He.ga K "Formula"] "own_first" (uVar 0) (uVar 3))))))))
def u_Formula_truths (K : PySem.W.Frag) : US :=
  (uSeq (uIfS (uOr (uNot (uTru (uCall (sp_is_word K) [] (uCons (uFld [He.ga K "Formula"] "own_alphabet" (uVar 0)) (uCons (uVar 1) uNil))))) (uTest (uOp gEq (uVar 1) (uC (.str ""))))) uDead uNext)
    (uRet (uCall (sp_truths_along K) [] (uCons (uFld [He.ga K "Formula"] "own_lines" (uVar 0)) (uCons (uVar 1) uNil)))))
def u_law_texts (K : PySem.W.Frag) : US :=
  (uSeq (uPar 2 3 (uCons (uLst (uCons (uC (.str "")) uNil)) (uCons (uLst (uCons (uC (.str "")) uNil)) uNil)))
    (uSeq (uFor (uR1 (uCons (uVar 1) uNil)) (uName 4) (uSeq (uSet 3 (uCall (sp_law_longer K) [] (uCons (uVar 3) (uCons (uVar 0) uNil))))
    (uSet 2 (uOp gAdd (uVar 2) (uVar 3)))))
    (uRet (uVar 2))))
def u_law_longer (K : PySem.W.Frag) : US :=
  (uSeq (uSet 2 (uLst uNil))
    (uSeq (uFor (uSeqI (uVar 0)) (uName 3) (uSet 2 (uOp gAdd (uVar 2) (uLc (uSeqI (uVar 1)) [4] (uName 4) uYes (uOp gAdd (uVar 3) (uVar 4))))))
    (uRet (uVar 2))))
def u_law_saying (K : PySem.W.Frag) : US :=
  (uSeq (uSet 4 (uLstC (uCons (uTup (uCons (uC (.str "is")) (uCons (uCall (sp_law_some_signs K) [] (uCons (uVar 0) (uCons (uVar 1) uNil))) uNil))) uNil)))
    (uSeq (uFor (uR2 (uCons (uC (.int 1)) (uCons (uVar 2) uNil))) (uName 5) (uSeq (uAsg (uTup (uCons (uCall (sp_law_of K) [] (uCons (uVar 0) (uCons (uVar 3) uNil))) (uCons (uOp gSub (uOp gSub (uVar 5) (uC (.int 1))) (uCall (sp_law_of K) [] (uCons (uVar 0) (uCons (uLst (uCons (uC (.int 0)) (uCons (uC (.int 0)) (uCons (uCall (sp_law_pull K) [] (uCons (uVar 0) (uCons (uVar 5) uNil))) uNil)))) uNil)))) uNil))) (uGTup 2 (uGCons (uName 6) (uGCons (uName 7) uGNil))))
    (uIfS (uTest (uOp gEq (uVar 6) (uC (.str "is")))) (uDrop (uBM "list" gAppend (uVar 4) (uCons (uTup (uCons (uC (.str "is")) (uCons (uCall (sp_law_some_signs K) [] (uCons (uVar 0) (uCons (uVar 1) uNil))) uNil))) uNil))) (uIfS (uTest (uOp (gIn id) (uVar 6) (uTup (uCons (uC (.str "and")) (uCons (uC (.str "or")) uNil))))) (uDrop (uBM "list" gAppend (uVar 4) (uCons (uTup (uCons (uVar 6) (uCons (uIf (uTest (uOp gGt (uCall (sp_law_pull K) [] (uCons (uVar 0) (uCons (uC (.int 9)) uNil))) (uC (.int 0)))) (uCB gTupleC (uCons (uLc (uR1 (uCons (uVar 5) uNil)) [9] (uName 9) (uOr (uTest (uOp gEq (uVar 9) (uVar 7))) (uTest (uOp gEq (uCall (sp_law_pull K) [] (uCons (uVar 0) (uCons (uC (.int 4)) uNil))) (uC (.int 0))))) (uVar 9)) uNil)) (uTup uNil)) uNil))) uNil))) (uIfS (uTest (uOp gEq (uVar 6) (uC (.str "since")))) (uDrop (uBM "list" gAppend (uVar 4) (uCons (uTup (uCons (uC (.str "since")) (uCons (uCall (sp_law_pull K) [] (uCons (uVar 0) (uCons (uVar 5) uNil))) (uCons (uVar 7) uNil)))) uNil))) (uIfS (uTest (uOp gEq (uVar 6) (uC (.str "count")))) (uSeq (uSet 8 (uCall (sp_law_of K) [] (uCons (uVar 0) (uCons (uLst (uCons (uC (.int 2)) (uCons (uC (.int 2)) (uCons (uC (.int 3)) (uCons (uC (.int 5)) uNil))))) uNil))))
    (uDrop (uBM "list" gAppend (uVar 4) (uCons (uTup (uCons (uC (.str "count")) (uCons (uVar 7) (uCons (uVar 8) (uCons (uCall (sp_law_pull K) [] (uCons (uVar 0) (uCons (uVar 8) uNil))) uNil))))) uNil)))) (uDrop (uBM "list" gAppend (uVar 4) (uCons (uTup (uCons (uVar 6) (uCons (uVar 7) uNil))) uNil)))))))))
    (uRet (uVar 4))))
def u_law_some_signs (K : PySem.W.Frag) : US :=
  (uRet (uBM "str" gJoin (uC (.str "")) (uCons (uLc (uSeqI (uVar 1)) [2] (uName 2) (uTest (uOp gEq (uCall (sp_law_pull K) [] (uCons (uVar 0) (uCons (uC (.int 2)) uNil))) (uC (.int 0)))) (uVar 2)) uNil)))
def u_law (K : PySem.W.Frag) : US :=
  (uSeq (uSet 1 (uCall (sp_law_bag K) [] (uCons (uVar 0) uNil)))
    (uSeq (uSet 2 (uLst (uCons (uC (.str "is")) (uCons (uC (.str "not")) (uCons (uC (.str "and")) (uCons (uC (.str "or")) (uCons (uC (.str "before")) (uCons (uC (.str "since")) (uCons (uC (.str "count")) uNil)))))))))
    (uSeq (uSet 3 (uCall (sp_law_of K) [] (uCons (uVar 1) (uCons (uLst (uCons (uC (.str "a")) (uCons (uC (.str "ab")) (uCons (uC (.str "ab")) (uCons (uC (.str "abc")) uNil))))) uNil))))
    (uSeq (uSet 4 (uCall (sp_law_saying K) [] (uCons (uVar 1) (uCons (uVar 3) (uCons (uOp gAdd (uC (.int 2)) (uCall (sp_law_pull K) [] (uCons (uVar 1) (uCons (uC (.int 4)) uNil)))) (uCons (uVar 2) uNil))))))
    (uSeq (uAsg (uTup (uCons (uCB gLen (uCons (uVar 4) uNil)) (uCons (uCall (sp_law_of K) [] (uCons (uVar 1) (uCons (uLst (uCons (uC (.int 2)) (uCons (uC (.int 3)) (uCons (uC (.int 5)) uNil)))) uNil))) uNil))) (uGTup 2 (uGCons (uName 5) (uGCons (uName 6) uGNil))))
    (uSeq (uAsg (uTup (uCons (uCall (sp_law_pull K) [] (uCons (uVar 1) (uCons (uVar 5) uNil))) (uCons (uCall (sp_law_pull K) [] (uCons (uVar 1) (uCons (uVar 5) uNil))) uNil))) (uGTup 2 (uGCons (uName 7) (uGCons (uName 8) uGNil))))
    (uSeq (uSet 9 (uOp gAdd (uVar 4) (uLst (uCons (uTup (uCons (uC (.str "since")) (uCons (uVar 7) (uCons (uVar 8) uNil)))) (uCons (uTup (uCons (uC (.str "before")) (uCons (uVar 5) uNil))) (uCons (uTup (uCons (uC (.str "and")) (uCons (uTup (uCons (uCB gMin2 (uCons (uVar 7) (uCons (uOp gAdd (uVar 5) (uC (.int 1))) uNil))) (uCons (uOp gAdd (uVar 5) (uC (.int 1))) uNil))) uNil))) (uCons (uTup (uCons (uC (.str "or")) (uCons (uTup (uCons (uCB gMin2 (uCons (uVar 8) (uCons (uOp gAdd (uVar 5) (uC (.int 2))) uNil))) (uCons (uOp gAdd (uVar 5) (uC (.int 2))) uNil))) uNil))) uNil)))))))
    (uSeq (uSet 9 (uOp gAdd (uVar 9) (uLst (uCons (uTup (uCons (uC (.str "and")) (uCons (uTup uNil) uNil))) (uCons (uTup (uCons (uC (.str "before")) (uCons (uOp gAdd (uVar 5) (uC (.int 4))) uNil))) (uCons (uTup (uCons (uC (.str "not")) (uCons (uVar 7) uNil))) (uCons (uTup (uCons (uC (.str "before")) (uCons (uOp gAdd (uVar 5) (uC (.int 6))) uNil))) (uCons (uTup (uCons (uC (.str "before")) (uCons (uVar 7) uNil))) (uCons (uTup (uCons (uC (.str "not")) (uCons (uOp gAdd (uVar 5) (uC (.int 8))) uNil))) uNil)))))))))
    (uSeq (uSet 9 (uOp gAdd (uOp gAdd (uVar 9) (uLc (uR1 (uCons (uVar 6) uNil)) [15] (uName 15) uYes (uTup (uCons (uC (.str "count")) (uCons (uVar 7) (uCons (uVar 6) (uCons (uVar 15) uNil))))))) (uLst (uCons (uTup (uCons (uC (.str "since")) (uCons (uOp gAdd (uVar 5) (uC (.int 4))) (uCons (uVar 7) uNil)))) (uCons (uTup (uCons (uC (.str "since")) (uCons (uVar 7) (uCons (uOp gAdd (uVar 5) (uC (.int 4))) uNil)))) uNil)))))
    (uSeq (uSet 10 (uMake (He.ga K "Formula") (sp_Formula_init K) [.bl false] (uCons (uVar 3) (uCons (uVar 9) uNil))))
    (uSeq (uFor (uSeqI (uSl (uCall (sp_law_texts K) [] (uCons (uVar 3) (uCons (uIf (uTest (uOp gLt (uCB gLen (uCons (uVar 3) uNil)) (uC (.int 3)))) (uC (.int 4)) (uC (.int 3))) uNil))) (uPart (uC (.int 1))) uNo)) (uName 11) (uSeq (uSet 12 (uMeth [(He.ga K "Formula", sp_Formula_truths K)] "truths" [] (uVar 10) (uCons (uVar 11) uNil)))
    (uSeq (uIfS (uOr (uTest (uOp gNe (uOp gIx (uVar 12) (uVar 5)) (uOp gIx (uVar 12) (uOp gAdd (uVar 5) (uC (.int 3)))))) (uTest (uOp gNe (uOp gIx (uVar 12) (uOp gAdd (uVar 5) (uC (.int 5)))) (uOp gGt (uCB gLen (uCons (uVar 11) uNil)) (uC (.int 1)))))) (uRet (uC (.bl false))) uNext)
    (uSeq (uIfS (uTest (uOp gNe (uOp gIx (uVar 12) (uOp gAdd (uVar 5) (uC (.int 7)))) (uAndV (uOp gIx (uVar 12) (uOp gAdd (uVar 5) (uC (.int 9)))) (uOp gGt (uCB gLen (uCons (uVar 11) uNil)) (uC (.int 1)))))) (uRet (uC (.bl false))) uNext)
    (uSeq (uSet 13 (uLc (uR1 (uCons (uVar 6) uNil)) [15] (uName 15) uYes (uOp gIx (uVar 12) (uOp gAdd (uOp gAdd (uVar 5) (uC (.int 10))) (uVar 15)))))
    (uSeq (uIfS (uOr (uTest (uOp gNe (uLc (uSeqI (uVar 13)) [16] (uName 16) (uTru (uVar 16)) (uVar 16)) (uLst (uCons (uC (.bl true)) uNil)))) (uTest (uOp gNe (uOp gIx (uVar 12) (uOp gAdd (uOp gAdd (uVar 5) (uC (.int 11))) (uVar 6))) (uC (.bl true))))) (uRet (uC (.bl false))) uNext)
    (uSeq (uSet 14 (uLc (uR1 (uCons (uCB gLen (uCons (uVar 11) uNil)) uNil)) [17] (uName 17) uYes (uOp gIx (uMeth [(He.ga K "Formula", sp_Formula_truths K)] "truths" [] (uVar 10) (uCons (uSl (uVar 11) uNo (uPart (uOp gAdd (uVar 17) (uC (.int 1))))) uNil)) (uVar 7))))
    (uIfS (uOr (uTest (uOp gNe (uOp gIx (uVar 12) (uOp gAdd (uOp gAdd (uVar 5) (uC (.int 10))) (uVar 6))) (uOp (gIn id) (uC (.bl true)) (uVar 14)))) (uNot (uTru (uOp gIx (uVar 13) (uOp gMod (uCB gInt1 (uCons (uCB gLen (uCons (uLc (uSeqI (uVar 14)) [16] (uName 16) (uTru (uVar 16)) (uVar 16)) uNil)) uNil)) (uVar 6)))))) (uRet (uC (.bl false))) uNext))))))))
    (uRet (uC (.bl true))))))))))))))
theorem r_need_alphabet {KF : PySem.W.Frag} {ds S K X} (h : sp_need_alphabet KF ds S K X) (hb : belows S.length ds) (hS : belows S.length S) : u_need_alphabet KF (endsOf S K X) (startD ["value"] ds) S := by
  obtain ⟨z, rfl, hz, ha, k⟩ := h
  show u_need_alphabet KF (endsOf S K X) [some (.str z)] S
  unfold u_need_alphabet
  walk_at "i"
  refine .inl ⟨z, rfl, hz, ?_⟩
  rw [ha]
  walk_at "i"
  exact exit_here (by simp only [below]) k
theorem r_are_refs {KF : PySem.W.Frag} {ds S K X} (h : sp_are_refs KF ds S K X) (hb : belows S.length ds) (hS : belows S.length S) : u_are_refs KF (endsOf S K X) (startD ["value", "at", "ref"] ds) S := by
  obtain ⟨rs, at_, rfl, ⟨h1, h2, h3⟩, k⟩ := h
  have szl : sizeLine = 16777216 := rfl
  show u_are_refs KF (endsOf S K X) [some (.tup (rs.map fun (n : Nat) => Dat.int (n : Int))), some (natD at_), none] S
  unfold u_are_refs
  walk_at "i"
  refine ⟨_, rfl, ?_⟩
  refine' lc_M rs _ rfl (by omega) (f := fun _ => .bl true) ?hs ?k
  case hs =>
    intro c hc Kt Kf hk
    dsimp only [wipeD, List.set_cons_succ, List.set_cons_zero]
    walk_at "i"
    refine .inl ⟨_, _, _, rfl, ?_⟩
    have := h1 c hc
    have e : (decide ((0 : Int) ≤ (c : Int)) && decide ((c : Int) ≤ (at_ : Int) - 1)) = true := by simp; omega
    rw [e]
    exact hk
  case k =>
    walk_at "i"
    refine x_allB (p := fun _ => true) ?_
    rw [show (rs.all fun _ => true) = true from List.all_eq_true.mpr fun _ _ => rfl]
    walk_at "i"
    refine .inr ⟨rs, rfl, h3, ?_⟩
    rw [h2]
    walk_at "i"
    exact exit_here (by simp only [below]) k
theorem cutD_one {x : Dat} {xs : List Dat} : cutD (x :: xs) (some 1) none = xs := by
  have := cut_from (x :: xs) 1
  exact this
theorem r_is_line {KF : PySem.W.Frag} {ds S K X} (h : sp_is_line KF ds S K X) (hb : belows S.length ds) (hS : belows S.length S) : u_is_line KF (endsOf S K X) (startD ["line", "at", "alphabet", "word", "many", "ref"] ds) S := by
  obtain ⟨l, at_, a, rfl, ok, k⟩ := h
  have szl : sizeLine = 16777216 := rfl
  show u_is_line KF (endsOf S K X) [some (encLn l), some (natD at_), some (.str a), none, none, none] S
  have fin : (endsOf S K X).rt (.bl true) S := exit_here (by simp only [below]) k
  have num : ∀ (v h : Int) (Kt : KE) (XX : KX), 0 ≤ v → v ≤ h → Kt (.bl true) S → sp_is_number KF [.int v, .int 0, .int h] S Kt XX := fun v h Kt XX h1 h2 q => .inl ⟨v, 0, h, rfl, by rw [decide_eq_true h1, decide_eq_true h2]; exact q⟩
  cases l with
  | is z =>
    obtain ⟨o1, o2, o3⟩ := ok
    unfold u_is_line encLn
    walk_at "j"
    refine ⟨a, .inl ⟨z, rfl, o3, ?_⟩⟩
    rw [o1]
    walk_at "j"
    refine .inl ⟨z, rfl, o3, ?_⟩
    rw [o2]
    exact fin
  | no r =>
    have ok : r < at_ := ok
    unfold u_is_line encLn
    walk_at "j"
    refine ⟨_, rfl, ?_⟩
    rw [cutD_one]
    refine' lc_M [r] (fun (n : Nat) => Dat.int (n : Int)) rfl (Nat.le_of_ble_eq_true rfl) (f := fun _ => .bl true) ?hs ?k
    case hs =>
      intro c hc Kt Kf hk
      rw [List.mem_singleton.mp hc]
      dsimp only [wipeD, List.set_cons_succ, List.set_cons_zero]
      walk_at "j"
      exact num _ _ _ _ (by omega) (by omega) hk
    case k =>
      walk_at "j"
      exact x_allB (p := fun _ => true) fin
  | before r =>
    have ok : r < at_ := ok
    unfold u_is_line encLn
    walk_at "j"
    refine ⟨_, rfl, ?_⟩
    rw [cutD_one]
    refine' lc_M [r] (fun (n : Nat) => Dat.int (n : Int)) rfl (Nat.le_of_ble_eq_true rfl) (f := fun _ => .bl true) ?hs ?k
    case hs =>
      intro c hc Kt Kf hk
      rw [List.mem_singleton.mp hc]
      dsimp only [wipeD, List.set_cons_succ, List.set_cons_zero]
      walk_at "j"
      exact num _ _ _ _ (by omega) (by omega) hk
    case k =>
      walk_at "j"
      exact x_allB (p := fun _ => true) fin
  | since x y =>
    obtain ⟨o1, o2⟩ : x < at_ ∧ y < at_ := ok
    unfold u_is_line encLn
    walk_at "j"
    refine ⟨_, rfl, ?_⟩
    rw [cutD_one]
    refine' lc_M [x, y] (fun (n : Nat) => Dat.int (n : Int)) rfl (Nat.le_of_ble_eq_true rfl) (f := fun _ => .bl true) ?hs ?k
    case hs =>
      intro c hc Kt Kf hk
      have hc : c < at_ := by
        rcases List.mem_cons.mp hc with e | e
        · rw [e]; exact o1
        · rw [List.mem_singleton.mp e]; exact o2
      dsimp only [wipeD, List.set_cons_succ, List.set_cons_zero]
      walk_at "j"
      exact num _ _ _ _ (by omega) (by omega) hk
    case k =>
      walk_at "j"
      exact x_allB (p := fun _ => true) fin
  | and rs =>
    have ok : okRefs at_ rs := ok
    unfold u_is_line encLn
    walk_at "j"
    exact ⟨rs, at_, rfl, ok, fin⟩
  | or rs =>
    have ok : okRefs at_ rs := ok
    unfold u_is_line encLn
    walk_at "j"
    exact ⟨rs, at_, rfl, ok, fin⟩
  | count r p k =>
    obtain ⟨o1, o2, o3, o4⟩ : r < at_ ∧ isPrime (p : Int) ∧ p ≤ 97 ∧ k < p := ok
    unfold u_is_line encLn
    walk_at "j"
    refine num _ _ _ _ (by omega) (by omega) ?_
    walk_at "j"
    refine .inl ⟨_, _, rfl, by decide, ?_⟩
    rw [decide_eq_true (show (p : Int) ≤ 97 by omega), show primeB (p : Int) = true from by unfold primeB; simp only [decide_eq_true_eq]; exact o2]
    walk_at "j"
    exact num _ _ _ _ (by omega) (by omega) fin
theorem bls_at {bs : List Bool} {r : Nat} (h : r < bs.length) : (bs.map Dat.bl)[r]? = some (.bl (bs.getD r false)) := by
  rw [List.getElem?_map, List.getElem?_eq_getElem h]
  simp [h]
theorem r_plain_truth {KF : PySem.W.Frag} {ds S K X} (h : sp_plain_truth KF ds S K X) (hb : belows S.length ds) (hS : belows S.length S) : u_plain_truth KF (endsOf S K X) (startD ["line", "truths", "letter", "found", "ref"] ds) S := by
  obtain ⟨l, d, bs, c, rfl, hd, hl, pl, hrs, k⟩ := h
  have szl : sizeLine = 16777216 := rfl
  show u_plain_truth KF (endsOf S K X) [some (encLn l), some d, some (.str (sgn c)), none, none] S
  have fin : ∀ b, b = lnVal c [] [] l bs → (endsOf S K X).rt (.bl b) S := fun b e => by subst e; exact exit_here (by simp only [below]) k
  have hq := lstD_seq hd
  cases l with
  | is z =>
    unfold u_plain_truth encLn
    walk_at "j"
    exact fin _ rfl
  | no r =>
    have pl : r < bs.length := pl
    unfold u_plain_truth encLn
    walk_at "j"
    refine x_ixn hq (bls_at pl) ?_
    walk_at "j"
    exact fin _ rfl
  | and rs =>
    have pl : ∀ r ∈ rs, r < bs.length := pl
    have hr := hrs rs (.inl rfl)
    unfold u_plain_truth encLn
    walk_at "j"
    refine ⟨_, rfl, ?_⟩
    refine' lc_M rs _ rfl (by omega) (f := fun r => .bl (bs.getD r false)) ?hs ?k
    case hs =>
      intro r hr Kt Kf hk
      dsimp only [wipeD, List.set_cons_succ, List.set_cons_zero]
      walk_at "j"
      exact x_ixn hq (bls_at (pl r hr)) hk
    case k =>
      walk_at "j"
      exact x_allB (fin _ rfl)
  | or rs =>
    have pl : ∀ r ∈ rs, r < bs.length := pl
    have hr := hrs rs (.inr rfl)
    unfold u_plain_truth encLn
    walk_at "j"
    refine ⟨_, rfl, ?_⟩
    refine' lc_M rs _ rfl (by omega) (f := fun r => .bl (bs.getD r false)) ?hs ?k
    case hs =>
      intro r hr Kt Kf hk
      dsimp only [wipeD, List.set_cons_succ, List.set_cons_zero]
      walk_at "j"
      exact x_ixn hq (bls_at (pl r hr)) hk
    case k =>
      walk_at "j"
      exact x_anyB (fin _ rfl)
  | _ => exact pl.elim
theorem enumD_T {α : Type} (e : α → Dat) (xs : List α) : enumD 0 (xs.map e) = (xs.zipIdx 0).map fun p => .tup [.int ((p.2 : Nat) : Int), e p.1] := enumD_map e xs 0
theorem lnD_below {n : Nat} (l : Ln) : below n (encLn l) := by
  cases l <;> simp only [encLn, below, belows, and_true]
  all_goals (rename_i rs; rw [show (rs.map fun (n : Nat) => Dat.int (n : Int)) = (rs.map fun (n : Nat) => (n : Int)).map Dat.int by rw [List.map_map]; rfl]; exact ⟨trivial, below_ints _⟩)
theorem lns_below {n : Nat} : ∀ ls : List Ln, belows n (ls.map encLn)
  | [] => by simp only [List.map_nil, belows]
  | l :: r => by simp only [List.map_cons, belows]; exact ⟨lnD_below l, lns_below r⟩
theorem fm_below {KF : PySem.W.Frag} {n : Nat} {a : Str} {ls : List Ln} {b : Bool} : below n (fmD KF a ls b) := by
  unfold fmD
  simp only [below, belows, and_true, true_and]
  exact lns_below ls
theorem r_Formula_init {KF : PySem.W.Frag} {ds S K X} (h : sp_Formula_init KF ds S K X) (hb : belows S.length ds) (hS : belows S.length S) : u_Formula_init KF (endsOf S K X) (startD ["self", "alphabet", "lines", "first", "at", "line"] ds) S := by
  obtain ⟨n, a, d, ls, b, rfl, hd, hdn, hn, ha, hal, ok, hl0, hl, k⟩ := h
  have szl : sizeLine = 16777216 := rfl
  have hnl := (List.getElem?_eq_some_iff.mp hn).1
  show u_Formula_init KF (endsOf S K X) [some (.cell n), some (.str a), some d, some (.bl b), none, none] S
  have hty := lstD_ty hd
  have hset : ∀ c, lstD (S.set n c) d = some (ls.map encLn) := fun c => by
    rcases lstD_cases hd with rfl | ⟨m, rfl, e⟩
    · rfl
    · have hm : n ≠ m := fun z => hdn (by rw [z])
      simp only [lstD, view, List.getElem?_set_ne hm, e]
  unfold u_Formula_init
  walk_at "j"
  refine ⟨a, rfl, ha, hal, ?_⟩
  walk_at "j"
  refine x_isi2 hty (by decide) (by decide) ?_
  walk_at "j"
  refine x_lenL (lstD_seq hd) ?_
  walk_at "j"
  refine x_iteF2 (by rw [List.length_map]; exact decide_eq_false (by omega)) ?_
  walk_at "j"
  refine x_lenL (lstD_seq hd) ?_
  walk_at "j"
  refine x_iteF2 (by rw [List.length_map]; exact decide_eq_false (by omega)) ?_
  walk_at "j"
  refine ⟨_, hd, ?_⟩
  rw [enumD_T]
  refine for_T _ _ (fun _ dl1 S2 => S2 = S ∧ ∃ x4 x5, dl1 = [some (.cell n), some (.str a), some d, some (.bl b), x4, x5]) ?_ ?_ ?_ ?_
  · exact ⟨rfl, _, _, rfl⟩
  · rintro _ _ _ ⟨rfl, _⟩; exact hd
  · rintro pre ⟨l, i⟩ rest dl1 S2 hx ⟨rfl, x4, x5, rfl⟩
    have hi : ls[i]? = some l := by
      have hm : (l, i) ∈ ls.zipIdx 0 := by rw [hx]; exact List.mem_append_right _ List.mem_cons_self
      have := List.mem_zipIdx_iff_getElem?.mp hm
      simpa using this
    walk_at "j"
    refine ⟨l, i, a, rfl, ok i l hi, ?_⟩
    walk_at "j"
    exact .inl ⟨rfl, _, _, rfl⟩
  · rintro dl1 S2 ⟨rfl, x4, x5, rfl⟩
    walk_at "j"
    refine ⟨n, _, [], [], rfl, hn, List.mem_cons_self, by decide, ?_⟩
    walk_at "j"
    refine x_list (lstD_seq (hset _)) ?_
    walk_at "j"
    refine ⟨n, _, ["own_alphabet"], [.str a], rfl, by rw [List.getElem?_set_self hnl]; rfl, List.mem_cons_self, by decide, ?_⟩
    rw [List.set_set]
    walk_at "j"
    refine ⟨n, _, ["own_alphabet", "own_lines"], [.str a, .lst (ls.map encLn)], rfl, by rw [List.getElem?_set_self hnl]; rfl, List.mem_cons_self, by decide, ?_⟩
    rw [List.set_set]
    show ExitTo S2 K .non (S2.set n (fmD KF a ls b))
    exact exit_set0 hS fm_below (by simp only [below]) k
theorem r_Formula_truths {KF : PySem.W.Frag} {ds S K X} (h : sp_Formula_truths KF ds S K X) (hb : belows S.length ds) (hS : belows S.length S) : u_Formula_truths KF (endsOf S K X) (startD ["self", "word"] ds) S := by
  obtain ⟨d, a, z, ls, b, rfl, hd, ok, hl, hw, hz0, hz, k⟩ := h
  show u_Formula_truths KF (endsOf S K X) [some d, some (.str z)] S
  unfold u_Formula_truths
  walk_at "j"
  refine ⟨_, _, _, .str a, List.mem_cons_self, hd, rfl, ?_⟩
  walk_at "j"
  refine ⟨a, .inl ⟨z, rfl, hz, ?_⟩⟩
  rw [hw]
  walk_at "j"
  refine x_iteF2 (decide_eq_false fun e => ?_) ?_
  · rw [e] at hz0; exact absurd hz0 (by decide)
  walk_at "j"
  refine ⟨_, _, _, .lst (ls.map encLn), List.mem_cons_self, hd, rfl, ?_⟩
  walk_at "j"
  refine ⟨ls, a, z, rfl, ok, by omega, hz, ?_⟩
  refine exit_here ?_ k
  simp only [below]
  generalize (runF ls z.cps.toList).1 = bs
  induction bs with
  | nil => simp only [List.map_nil, belows]
  | cons x r ih => simp only [List.map_cons, belows, below, true_and]; exact ih
def TSt (S : Store) (cnt : List Nat) (G : List Dat) : Store := S ++ (.lst (cnt.map fun (n : Nat) => Dat.int (n : Int)) :: G)
section
variable {S : Store} {cnt : List Nat} {G : List Dat} {x y : Dat} {m : Nat}
theorem ts_len : (TSt S cnt G).length = S.length + 1 + G.length := by unfold TSt; simp; omega
theorem ts_cnt : (TSt S cnt G)[S.length]? = some (.lst (cnt.map fun (n : Nat) => Dat.int (n : Int))) := by unfold TSt; rw [List.getElem?_append_right (Nat.le_refl _)]; simp
theorem ts_at : (TSt S cnt G)[S.length + 1 + m]? = G[m]? := by
  unfold TSt
  rw [List.getElem?_append_right (by omega), show S.length + 1 + m - S.length = m + 1 by omega]; simp
theorem ts_app : TSt S cnt G ++ [x] = TSt S cnt (G ++ [x]) := by unfold TSt; simp
theorem ts_setC {c : List Nat} : (TSt S cnt G).set S.length (.lst (c.map fun (n : Nat) => Dat.int (n : Int))) = TSt S c G := by
  unfold TSt
  rw [List.set_append_right _ _ (Nat.le_refl _)]; simp
theorem ts_set : (TSt S cnt G).set (S.length + 1 + m) x = TSt S cnt (G.set m x) := by
  unfold TSt
  rw [List.set_append_right _ _ (by omega), show S.length + 1 + m - S.length = m + 1 by omega]; simp
theorem ts_new : (TSt S cnt (G ++ [x]))[S.length + 1 + G.length]? = some x := by rw [ts_at]; simp
theorem ts_setN : (TSt S cnt (G ++ [x])).set (S.length + 1 + G.length) y = TSt S cnt (G ++ [y]) := by rw [ts_set]; simp
end
def LastD (S : Store) (G : List Dat) (d : Dat) (last : List Bool) : Prop := d = .lst (last.map Dat.bl) ∨ ∃ m, d = .cell (S.length + 1 + m) ∧ G[m]? = some (.lst (last.map Dat.bl))
theorem LastD.seq {S : Store} {G : List Dat} {d : Dat} {last : List Bool} (h : LastD S G d last) (cnt : List Nat) (x : Dat) : seqD (TSt S cnt (G ++ [x])) d = some (last.map Dat.bl) := by
  rcases h with rfl | ⟨m, rfl, e⟩
  · rfl
  · have hm := (List.getElem?_eq_some_iff.mp e).1
    simp only [seqD, ts_at, List.getElem?_append_left hm, e]
theorem LastD.more {S : Store} {G : List Dat} {d : Dat} {last : List Bool} (h : LastD S G d last) (x : Dat) : LastD S (G ++ [x]) d last := by
  rcases h with rfl | ⟨m, rfl, e⟩
  · exact .inl rfl
  · have hm := (List.getElem?_eq_some_iff.mp e).1
    exact .inr ⟨m, rfl, by rw [List.getElem?_append_left hm, e]⟩
theorem goF_append (c : Nat) (last : List Bool) (cnt : List Nat) : ∀ (xs ys : List Ln) (s : List Bool × List Nat), goF c last cnt (xs ++ ys) s = goF c last cnt ys (goF c last cnt xs s)
  | [], ys, s => rfl
  | x :: xs, ys, s => by show goF c last cnt (xs ++ ys) _ = _; rw [goF_append c last cnt xs ys]; rfl
theorem goF_len (c : Nat) (last : List Bool) (cnt : List Nat) : ∀ (xs : List Ln) (s : List Bool × List Nat), (goF c last cnt xs s).1.length = s.1.length + xs.length ∧ (goF c last cnt xs s).2.length = s.2.length + xs.length
  | [], s => ⟨rfl, rfl⟩
  | x :: xs, s => by
    obtain ⟨h1, h2⟩ := goF_len c last cnt xs (s.1 ++ [lnVal c last cnt x s.1], s.2 ++ [lnCnt cnt x s.1])
    simp only [List.length_append, List.length_cons, List.length_nil] at h1 h2
    exact ⟨by show (goF c last cnt xs _).1.length = _; rw [h1]; simp; omega, by show (goF c last cnt xs _).2.length = _; rw [h2]; simp; omega⟩
theorem stepF_len (ls : List Ln) (s : List Bool × List Nat) (c : Nat) : (stepF ls s c).1.length = ls.length ∧ (stepF ls s c).2.length = ls.length := by
  have := goF_len c s.1 s.2 ls ([], [])
  simpa [stepF] using this
theorem runF_snoc (ls : List Ln) (w : List Nat) (c : Nat) : runF ls (w ++ [c]) = stepF ls (runF ls w) c := by unfold runF; rw [List.foldl_append]; rfl
theorem fold_len (ls : List Ln) : ∀ (w : List Nat) (s : List Bool × List Nat), s.1.length = ls.length ∧ s.2.length = ls.length → (w.foldl (stepF ls) s).1.length = ls.length ∧ (w.foldl (stepF ls) s).2.length = ls.length
  | [], _, h => h
  | c :: w, s, _ => fold_len ls w _ (stepF_len ls s c)
theorem runF_len (ls : List Ln) (w : List Nat) : (runF ls w).1.length = ls.length ∧ (runF ls w).2.length = ls.length := fold_len ls w _ (by simp)
theorem set_mid {nc cnt : List Nat} {i : Nat} {v : Nat} (h : nc.length = i) (hi : i < cnt.length) : (nc ++ cnt.drop i).set i v = nc ++ [v] ++ cnt.drop (i + 1) := by
  have e : cnt.drop i = cnt[i] :: cnt.drop (i + 1) := List.drop_eq_getElem_cons hi
  rw [List.set_append_right _ _ (by omega), h, Nat.sub_self, e, List.append_assoc]
  rfl
theorem zipIdx_split {ls : List Ln} {pre rest : List (Ln × Nat)} {l : Ln} {i : Nat} (h : ls.zipIdx 0 = pre ++ (l, i) :: rest) : i = pre.length ∧ ls[i]? = some l := by
  have h1 : (ls.zipIdx 0)[pre.length]? = some (l, i) := by rw [h]; simp
  rw [List.getElem?_zipIdx] at h1
  cases e : ls[pre.length]? with
  | none => rw [e] at h1; cases h1
  | some l' =>
    rw [e] at h1
    simp at h1
    obtain ⟨rfl, rfl⟩ := h1
    exact ⟨rfl, e⟩
theorem nats_at {cs : List Nat} {r : Nat} (h : r < cs.length) : (cs.map fun (n : Nat) => Dat.int (n : Int))[r]? = some (.int ((cs.getD r 0 : Nat) : Int)) := by
  rw [List.getElem?_map, List.getElem?_eq_getElem h]
  simp [h]
/-- the turn: what the line says goes behind what is found -/
theorem truths_line {KF : PySem.W.Frag} {S : Store} {N : Nat} {J : Env' → Store → Prop} {bk : Env' → Store → Prop} {rt : Dat → Store → Prop} {ex : Exc → Env' → Store → Prop} {l : Ln} {c i : Nat} {a : Str} {last f : List Bool} {cnt nc : List Nat} {G : List Dat} {d0 d1 d2 : Dat} (ok : okLn a i l) (hi : f.length = i) (hil : i < last.length) (hcl : i < cnt.length) (hnc : nc.length = i) (hL : LastD S G d2 last) (hsz : last.length ≤ 1000000)
    (hrs : ∀ rs, l = .and rs ∨ l = .or rs → rs.length ≤ 1000000)
    (k : J [some d0, some d1, some d2, some (.cell S.length), some (.str (sgn c)), some (.cell (S.length + 1 + G.length)), some (.int (i : Int)), some (encLn l)]
        (TSt S (nc ++ [lnCnt cnt l f] ++ cnt.drop (i + 1)) (G ++ [.lst ((f ++ [lnVal c last cnt l f]).map Dat.bl)]))) :
    (uIfS (uTest (uOp gEq (uOp gIx (uVar 7) (uC (.int 0))) (uC (.str "before")))) (uDrop (uBM "list" gAppend (uVar 5) (uCons (uOp gIx (uVar 2) (uOp gIx (uVar 7) (uC (.int 1)))) uNil))) (uIfS (uTest (uOp gEq (uOp gIx (uVar 7) (uC (.int 0))) (uC (.str "since")))) (uDrop (uBM "list" gAppend (uVar 5) (uCons (uOrV (uOp gIx (uVar 5) (uOp gIx (uVar 7) (uC (.int 2)))) (uAndV (uOp gIx (uVar 5) (uOp gIx (uVar 7) (uC (.int 1)))) (uOp gIx (uVar 2) (uVar 6)))) uNil))) (uIfS (uTest (uOp gEq (uOp gIx (uVar 7) (uC (.int 0))) (uC (.str "count")))) (uSeq (uAsg (uOp gMod (uOp gAdd (uOp gIx (uVar 3) (uVar 6)) (uCB gInt1 (uCons (uOp gIx (uVar 5) (uOp gIx (uVar 7) (uC (.int 1)))) uNil))) (uOp gIx (uVar 7) (uC (.int 2)))) (uGSub (uVar 3) (uVar 6) gSetL))
    (uDrop (uBM "list" gAppend (uVar 5) (uCons (uOp gEq (uOp gIx (uVar 3) (uVar 6)) (uOp gIx (uVar 7) (uC (.int 3)))) uNil)))) (uDrop (uBM "list" gAppend (uVar 5) (uCons (uCall (sp_plain_truth KF) [] (uCons (uVar 7) (uCons (uVar 5) (uCons (uVar 4) uNil)))) uNil))))))
      { nx := GcTo N J, rt := rt, bk := bk, ct := GcTo N J, ex := ex }
      [some d0, some d1, some d2, some (.cell S.length), some (.str (sgn c)), some (.cell (S.length + 1 + G.length)), some (.int (i : Int)), some (encLn l)]
      (TSt S (nc ++ cnt.drop i) (G ++ [.lst (f.map Dat.bl)])) := by
  have szl : sizeLine = 16777216 := rfl
  have hF : ∀ cs, (TSt S cs (G ++ [.lst (f.map Dat.bl)]))[S.length + 1 + G.length]? = some (.lst (f.map Dat.bl)) := fun cs => ts_new
  have hFs : ∀ cs, seqD (TSt S cs (G ++ [.lst (f.map Dat.bl)])) (.cell (S.length + 1 + G.length)) = some (f.map Dat.bl) := fun cs => by simp only [seqD, hF]
  have hT : ∀ cs, isT "list" (TSt S cs (G ++ [.lst (f.map Dat.bl)])) (.cell (S.length + 1 + G.length)) := fun cs => ⟨rfl, by simp only [lstD, view, hF]; rfl⟩
  have fin : ∀ v cs, v = lnVal c last cnt l f → cs = nc ++ [lnCnt cnt l f] ++ cnt.drop (i + 1) → gAppend (.cell (S.length + 1 + G.length)) [.bl v] (TSt S cs (G ++ [.lst (f.map Dat.bl)])) (fun _ S1 => GcTo N J [some d0, some d1, some d2, some (.cell S.length), some (.str (sgn c)), some (.cell (S.length + 1 + G.length)), some (.int (i : Int)), some (encLn l)] S1) := fun v cs e1 e2 => by
    subst e1; subst e2
    refine x_append (hF _) (by rw [List.length_map]; omega) ?_
    rw [ts_setN]
    refine .inl ?_
    rw [show f.map Dat.bl ++ [.bl (lnVal c last cnt l f)] = (f ++ [lnVal c last cnt l f]).map Dat.bl by simp]
    exact k
  have same : cnt.getD i 0 = lnCnt cnt l f → nc ++ cnt.drop i = nc ++ [lnCnt cnt l f] ++ cnt.drop (i + 1) := fun e => by
    rw [List.drop_eq_getElem_cons hcl, List.append_assoc, ← e]
    simp [List.getD, List.getElem?_eq_getElem hcl]
  subst hi
  cases l with
  | before r =>
    have ok : r < f.length := ok
    unfold encLn
    walk_at "j"
    refine ⟨hT _, ?_⟩
    walk_at "j"
    refine x_ixn (hL.seq _ _) (bls_at (by omega)) ?_
    walk_at "j"
    exact fin _ _ rfl (same rfl)
  | since x y =>
    obtain ⟨o1, o2⟩ : x < f.length ∧ y < f.length := ok
    unfold encLn
    walk_at "j"
    refine ⟨hT _, ?_⟩
    walk_at "j"
    refine x_ixn (hFs _) (bls_at o2) ?_
    walk_at "j"
    refine x_ite (fun e => ?_) (fun e => ?_)
    · walk_at "j"
      refine fin _ _ ?_ (same rfl)
      simp only [lnVal, e, Bool.true_or]
    · walk_at "j"
      refine x_ixn (hFs _) (bls_at o1) ?_
      walk_at "j"
      refine x_ite (fun e2 => ?_) (fun e2 => ?_)
      · walk_at "j"
        refine x_ixn (hL.seq _ _) (bls_at hil) ?_
        walk_at "j"
        refine fin _ _ ?_ (same rfl)
        simp only [lnVal, e, e2, Bool.false_or, Bool.true_and]
      · walk_at "j"
        refine fin _ _ ?_ (same rfl)
        simp only [lnVal, e, e2, Bool.false_or, Bool.false_and]
  | count r p q =>
    obtain ⟨o1, o2, o3, o4⟩ : r < f.length ∧ isPrime (p : Int) ∧ p ≤ 97 ∧ q < p := ok
    have hlc : (nc ++ cnt.drop f.length).length = cnt.length := by rw [List.length_append, List.length_drop, hnc]; omega
    have hgc : (nc ++ cnt.drop f.length).getD f.length 0 = cnt.getD f.length 0 := by
      simp only [List.getD]
      rw [List.getElem?_append_right (by omega), hnc, Nat.sub_self, List.getElem?_drop, Nat.add_zero]
    unfold encLn
    walk_at "j"
    have hcs : ∀ (cs : List Nat) G', seqD (TSt S cs G') (.cell S.length) = some (cs.map fun (n : Nat) => Dat.int (n : Int)) := fun cs G' => by simp only [seqD, ts_cnt]
    refine x_ixn (hcs _ _) (nats_at (by omega)) ?_
    walk_at "j"
    refine x_ixn (hFs _) (bls_at o1) ?_
    walk_at "j"
    refine x_mod (by omega) ?_
    walk_at "j"
    have ev : (((nc ++ cnt.drop f.length).getD f.length 0 : Nat) : Int) + (if f.getD r false = true then 1 else 0) = ((cnt.getD f.length 0 + b2n (f.getD r false) : Nat) : Int) := by
      rw [hgc]
      cases f.getD r false <;> simp [b2n]
    rw [ev, show ((cnt.getD f.length 0 + b2n (f.getD r false) : Nat) : Int) % (p : Int) = ((lnCnt cnt (.count r p q) f : Nat) : Int) from rfl]
    refine x_setL (j := f.length) ts_cnt (by unfold ixN; rw [if_pos (by omega), if_pos (by rw [List.length_map, hlc]; omega)]; simp) ?_
    have es : ((nc ++ cnt.drop f.length).map fun (n : Nat) => Dat.int (n : Int)).set f.length (.int ((lnCnt cnt (.count r p q) f : Nat) : Int)) = (nc ++ [lnCnt cnt (.count r p q) f] ++ cnt.drop (f.length + 1)).map fun (n : Nat) => Dat.int (n : Int) := by
      rw [← set_mid hnc hcl, List.map_set]
    rw [es, ts_setC]
    walk_at "j"
    refine ⟨hT _, ?_⟩
    walk_at "j"
    have hl2 : (nc ++ [lnCnt cnt (.count r p q) f] ++ cnt.drop (f.length + 1)).getD f.length 0 = lnCnt cnt (.count r p q) f := by
      simp only [List.getD]
      rw [List.append_assoc, List.getElem?_append_right (by omega), hnc, Nat.sub_self]
      simp
    refine x_ixn (hcs _ _) (nats_at (by rw [List.length_append, List.length_append, List.length_drop, hnc]; simp; omega)) ?_
    walk_at "j"
    refine fin _ _ ?_ rfl
    rw [hl2]
    show _ = decide (_ = _)
    exact decide_eq_decide.mpr (by
      show ((lnCnt cnt (.count r p q) f : Nat) : Int) = (q : Int) ↔ lnCnt cnt (.count r p q) f = q
      omega)
  | is z =>
    unfold encLn
    walk_at "j"
    refine ⟨hT _, ?_⟩
    walk_at "j"
    refine ⟨.is z, _, f, c, rfl, by simp only [lstD, view, hF], by omega, trivial, (fun rs h => by rcases h with h | h <;> cases h), ?_⟩
    walk_at "j"
    exact fin _ _ rfl (same rfl)
  | no r =>
    have ok : r < f.length := ok
    unfold encLn
    walk_at "j"
    refine ⟨hT _, ?_⟩
    walk_at "j"
    refine ⟨.no r, _, f, c, rfl, by simp only [lstD, view, hF], by omega, ok, (fun rs h => by rcases h with h | h <;> cases h), ?_⟩
    walk_at "j"
    exact fin _ _ rfl (same rfl)
  | and rs =>
    have ok : okRefs f.length rs := ok
    unfold encLn
    walk_at "j"
    refine ⟨hT _, ?_⟩
    walk_at "j"
    refine ⟨.and rs, _, f, c, rfl, by simp only [lstD, view, hF], by omega, ok.1, hrs, ?_⟩
    walk_at "j"
    exact fin _ _ rfl (same rfl)
  | or rs =>
    have ok : okRefs f.length rs := ok
    unfold encLn
    walk_at "j"
    refine ⟨hT _, ?_⟩
    walk_at "j"
    refine ⟨.or rs, _, f, c, rfl, by simp only [lstD, view, hF], by omega, ok.1, hrs, ?_⟩
    walk_at "j"
    exact fin _ _ rfl (same rfl)
theorem okLn_refs {a : Str} {i : Nat} {l : Ln} (h : okLn a i l) : ∀ rs, l = .and rs ∨ l = .or rs → rs.length ≤ 1000000 := fun rs e => by
  rcases e with rfl | rfl
  · exact h.2.2
  · exact h.2.2
theorem r_truths_along {KF : PySem.W.Frag} {ds S K X} (h : sp_truths_along KF ds S K X) (hb : belows S.length ds) (hS : belows S.length S) : u_truths_along KF (endsOf S K X) (startD ["lines", "word", "last", "counts", "letter", "found", "at", "line"] ds) S := by
  obtain ⟨ls, a, z, rfl, ok, hl, hz, k⟩ := h
  have szl : sizeLine = 16777216 := rfl
  have hzl := cps_len z
  show u_truths_along KF (endsOf S K X) [some (.lst (ls.map encLn)), some (.str z), none, none, none, none, none, none] S
  unfold u_truths_along
  walk_at "j"
  refine ⟨_, rfl, ?_⟩
  refine' lc_M ls _ rfl (by omega) (f := fun _ => .bl false) ?hs ?k
  case hs =>
    intro l _ Kt Kf hk
    dsimp only [wipeD, List.set_cons_succ, List.set_cons_zero]
    walk_at "j"
    exact hk
  case k =>
  walk_at "j"
  refine ⟨_, rfl, ?_⟩
  refine' lc_M ls _ rfl (by omega) (f := fun _ => .int 0) ?hs ?k
  case hs =>
    intro l _ Kt Kf hk
    dsimp only [wipeD, List.set_cons_succ, List.set_cons_zero]
    walk_at "j"
    exact hk
  case k =>
  walk_at "j"
  refine ⟨_, rfl, ?_⟩
  refine for_T z.cps.toList _ (fun pre dl1 S2 => ∃ (G : List Dat) (d2 : Dat) (x4 x5 x6 x7 : Option Dat), dl1 = [some (.lst (ls.map encLn)), some (.str z), some d2, some (.cell S.length), x4, x5, x6, x7] ∧ S2 = TSt S (runF ls pre).2 G ∧ LastD S G d2 (runF ls pre).1) ?_ ?_ ?_ ?_
  · exact ⟨[], _, _, _, _, _, rfl, by unfold TSt runF; simp [List.map_map], .inl (by unfold runF; simp [List.map_map])⟩
  · intro _ _ _ _; rfl
  · rintro pre c rest dl1 S2 hx ⟨G, d2, x4, x5, x6, x7, rfl, rfl, hL⟩
    walk_at "j"
    rw [ts_app, ts_len]
    refine ⟨_, rfl, ?_⟩
    rw [enumD_T]
    obtain ⟨rl1, rl2⟩ := runF_len ls pre
    refine for_T (ls.zipIdx 0) _ (fun p2 dl1 S3 => ∃ (x6 x7 : Option Dat), dl1 = [some (.lst (ls.map encLn)), some (.str z), some d2, some (.cell S.length), some (.str (sgn c)), some (.cell (S.length + 1 + G.length)), x6, x7] ∧
      S3 = TSt S ((goF c (runF ls pre).1 (runF ls pre).2 (ls.take p2.length) ([], [])).2 ++ (runF ls pre).2.drop p2.length) (G ++ [.lst ((goF c (runF ls pre).1 (runF ls pre).2 (ls.take p2.length) ([], [])).1.map Dat.bl)])) ?_ ?_ ?_ ?_
    · exact ⟨_, _, rfl, by simp [goF]⟩
    · rintro _ _ _ ⟨x6, x7, rfl, rfl⟩; rfl
    · rintro p2 ⟨l, i⟩ rest2 dl1 S3 hx2 ⟨x6, x7, rfl, rfl⟩
      obtain ⟨rfl, hli⟩ := zipIdx_split hx2
      have hil := (List.getElem?_eq_some_iff.mp hli).1
      have htk : ls.take (p2.length + 1) = ls.take p2.length ++ [l] := by rw [List.take_add_one, hli]; rfl
      obtain ⟨gl1, gl2⟩ := goF_len c (runF ls pre).1 (runF ls pre).2 (ls.take p2.length) ([], [])
      simp only [List.length_take, List.length_nil, Nat.zero_add, Nat.min_eq_left (Nat.le_of_lt hil)] at gl1 gl2
      walk_at "j"
      refine truths_line (a := a) (cnt := (runF ls pre).2) (ok _ _ hli) gl1 (by omega) (by omega) gl2 hL (by omega) (okLn_refs (ok _ _ hli)) ?_
      refine ⟨_, _, rfl, ?_⟩
      rw [List.length_append, List.length_singleton, htk, goF_append]
      rfl
    · rintro dl1 S3 ⟨x6, x7, rfl, rfl⟩
      have hlen : (ls.zipIdx 0).length = ls.length := List.length_zipIdx
      rw [hlen, List.take_of_length_le (Nat.le_refl _), List.drop_of_length_le (by omega), List.append_nil]
      walk_at "j"
      refine .inl ⟨G ++ [.lst ((runF ls (pre ++ [c])).1.map Dat.bl)], _, _, _, _, _, rfl, ?_, .inr ⟨G.length, rfl, ?_⟩⟩
      · rw [runF_snoc]; rfl
      · rw [runF_snoc]; simp [stepF]
  · rintro dl1 S2 ⟨G, d2, x4, x5, x6, x7, rfl, rfl, hL⟩
    walk_at "j"
    refine x_rtE ?_
    have hbl : ∀ (n : Nat) (bs : List Bool), belows n (bs.map Dat.bl) := fun n bs => by
      induction bs with
      | nil => simp only [List.map_nil, belows]
      | cons x r ih => simp only [List.map_cons, belows, below, true_and]; exact ih
    refine ⟨S, .lst ((runF ls z.cps.toList).1.map Dat.bl), ⟨⟨_, rfl⟩, Nat.le_refl _, .inl rfl⟩, ?_, k⟩
    rcases hL with rfl | ⟨m, rfl, e⟩
    · exact .same (by simp only [below]; exact hbl _ _)
    · exact .cell (by omega) (by rw [ts_at]; exact e) (.same (by simp only [below]; exact hbl _ _))
/-! RD: draws, and the store around a bag. -/
/-- a drawn item of a list that stands in the term -/
theorem of_lst {KF : PySem.W.Frag} {b : Nat} {xs : List Dat} {bag : Dat} {S : Store} {Kt : KE} {X : KX} (h0 : 0 < xs.length) (hn : xs.length < 1073741824) (hbag : S[b]? = some bag) (hB : IsBag bag)
    (k : ∀ (i : Nat) x bag', xs[i]? = some x → IsBag bag' → Kt x (S.set b bag')) : sp_law_of KF ([.cell b, .lst xs] ++ []) S Kt X :=
  ⟨b, _, xs, bag, rfl, .inr ⟨(by intro z h; cases h), rfl⟩, fun _ _ => .inr ⟨(by intro z h; cases h), rfl⟩, h0, hn, hbag, hB, k⟩
theorem of_str {KF : PySem.W.Frag} {b : Nat} {z : Str} {bag : Dat} {S : Store} {Kt : KE} {X : KX} (h0 : 0 < z.cps.toList.length) (hn : z.length ≤ sizeLine) (hbag : S[b]? = some bag) (hB : IsBag bag)
    (k : ∀ c bag', c ∈ z.cps.toList → IsBag bag' → Kt (.str (sgn c)) (S.set b bag')) : sp_law_of KF ([.cell b, .str z] ++ []) S Kt X :=
  ⟨b, _, _, bag, rfl, .inl ⟨z, rfl, hn, rfl⟩, fun _ _ => .inl ⟨z, rfl, hn, rfl⟩, by rw [List.length_map]; exact h0, by rw [List.length_map, cps_len]; have : sizeLine = 16777216 := rfl; omega, hbag, hB, fun i x bag' hx hB' => by
    rw [List.getElem?_map] at hx
    obtain ⟨c, hc, rfl⟩ := Option.map_eq_some_iff.mp hx
    exact k c bag' (List.mem_of_getElem? hc) hB'⟩
theorem pull_of {KF : PySem.W.Frag} {b : Nat} {n : Int} {bag : Dat} {S : Store} {Kt : KE} {X : KX} (h0 : 0 < n) (hn : n < 1073741824) (hbag : S[b]? = some bag) (hB : IsBag bag)
    (k : ∀ (k : Nat) bag', (k : Int) < n → IsBag bag' → Kt (.int k) (S.set b bag')) : sp_law_pull KF ([.cell b, .int n] ++ []) S Kt X := ⟨b, n, bag, rfl, h0, hn, hbag, hB, k⟩
theorem join_cps (cs : List Nat) : (Txt.join "" (cs.map sgn)).cps.toList = cs := by
  have h1 := TL.tl_join (Str.ofString "") (cs.map sgn)
  rw [← TL.join_eq] at h1
  have h2 : ∀ z : Str, TL.tl z = z.cps.toList := fun _ => rfl
  rw [h2] at h1
  refine h1.trans ?_
  rw [List.map_map]
  have h3 : TL.tl (Str.ofString "") = [] := rfl
  rw [h3]
  clear h1 h2 h3
  induction cs with
  | nil => rfl
  | cons c r ih =>
    cases r with
    | nil => rfl
    | cons d q =>
      show [c] ++ ([] ++ TL.joinL [] ((d :: q).map (TL.tl ∘ sgn))) = _
      rw [ih]
      rfl
section
variable {S : Store} {b : Nat} {x y : Dat}
theorem st_old (hb : b < S.length) : (S.set b x ++ [y])[b]? = some x := by
  rw [List.getElem?_append_left (by rw [List.length_set]; exact hb), List.getElem?_set_self hb]
theorem st_new : (S.set b x ++ [y])[S.length]? = some y := by
  rw [List.getElem?_append_right (by simp)]
  simp
theorem st_setOld {z : Dat} (hb : b < S.length) : (S.set b x ++ [y]).set b z = S.set b z ++ [y] := by
  rw [List.set_append_left _ _ (by rw [List.length_set]; exact hb), List.set_set]
theorem st_setNew {z : Dat} : (S.set b x ++ [y]).set S.length z = S.set b x ++ [z] := by
  rw [List.set_append_right _ _ (by simp)]
  simp
end
theorem join_size (cs : List Nat) : ((cs.map sgn).map (·.length)).sum = cs.length := by
  induction cs with
  | nil => rfl
  | cons c r ih => simp only [List.map_cons, List.sum_cons, ih, List.length_cons]; show 1 + r.length = _; omega
theorem join_len (cs : List Nat) : (Txt.join "" (cs.map sgn)).length = cs.length := by rw [← cps_len, join_cps]
/-- the chosen ones of a list keep their order -/
theorem asc_sub : ∀ {l m : List Nat}, l.Sublist m → ascL m = true → ascL l = true := by
  have key : ∀ (m : List Nat), ascL m = true → m.Pairwise (· < ·) := fun m => by
    induction m with
    | nil => intro _; exact .nil
    | cons a r ih =>
      cases r with
      | nil => intro _; exact List.pairwise_singleton _ _
      | cons b q =>
        intro h
        simp only [ascL, Bool.and_eq_true, decide_eq_true_eq] at h
        have ih := ih h.2
        refine List.pairwise_cons.mpr ⟨fun x hx => ?_, ih⟩
        rcases List.mem_cons.mp hx with e | e
        · rw [e]; exact h.1
        · exact Nat.lt_trans h.1 ((List.pairwise_cons.mp ih).1 x e)
  have back : ∀ (m : List Nat), m.Pairwise (· < ·) → ascL m = true := fun m => by
    induction m with
    | nil => intro _; rfl
    | cons a r ih =>
      cases r with
      | nil => intro _; rfl
      | cons b q =>
        intro h
        have h2 := List.pairwise_cons.mp h
        simp only [ascL, Bool.and_eq_true, decide_eq_true_eq]
        exact ⟨h2.1 b List.mem_cons_self, ih h2.2⟩
  intro l m hs hm
  exact back l ((key m hm).sublist hs)
theorem asc_pair {m : List Nat} : ascL m = true ↔ m.Pairwise (· < ·) := by
  constructor
  · induction m with
    | nil => intro _; exact .nil
    | cons a r ih =>
      cases r with
      | nil => intro _; exact List.pairwise_singleton _ _
      | cons b q =>
        intro h
        simp only [ascL, Bool.and_eq_true, decide_eq_true_eq] at h
        have ih := ih h.2
        refine List.pairwise_cons.mpr ⟨fun x hx => ?_, ih⟩
        rcases List.mem_cons.mp hx with e | e
        · rw [e]; exact h.1
        · exact Nat.lt_trans h.1 ((List.pairwise_cons.mp ih).1 x e)
  · induction m with
    | nil => intro _; rfl
    | cons a r ih =>
      cases r with
      | nil => intro _; rfl
      | cons b q =>
        intro h
        have h2 := List.pairwise_cons.mp h
        simp only [ascL, Bool.and_eq_true, decide_eq_true_eq]
        exact ⟨h2.1 b List.mem_cons_self, ih h2.2⟩
theorem asc_range (n : Nat) : ascL (List.range n) = true := asc_pair.mpr List.pairwise_lt_range
theorem set_here {S : Store} {b : Nat} {d : Dat} (h : S[b]? = some d) : S.set b d = S := (set_self h).symm
theorem str_len (l : List Nat) : (⟨l.toArray⟩ : Str).length = l.length := by rw [← cps_len]
theorem str_app (l m : List Nat) : (⟨l.toArray⟩ : Str) ++ (⟨m.toArray⟩ : Str) = ⟨(l ++ m).toArray⟩ := by
  show Str.mk _ = _
  congr 1
  simp
theorem longer_len (lv : List (List Nat)) (sg : List Nat) : (longer lv sg).length = lv.length * sg.length := by
  unfold longer
  induction lv with
  | nil => simp
  | cons a r ih => rw [List.flatMap_cons, List.length_append, ih, List.length_map, List.length_cons, Nat.succ_mul]; omega
theorem strs_below {n : Nat} : ∀ lv : List (List Nat), belows n (lv.map strD)
  | [] => by simp only [List.map_nil, belows]
  | a :: r => by simp only [List.map_cons, belows, strD, below, true_and]; exact strs_below r
theorem r_law_longer {KF : PySem.W.Frag} {ds S K X} (h : sp_law_longer KF ds S K X) (hb : belows S.length ds) (hS : belows S.length S) : u_law_longer KF (endsOf S K X) (startD ["_law_level", "_law_signs", "_law_found", "_law_text", "_law_sign"] ds) S := by
  obtain ⟨lv, z, rfl, hz, hl, ht, k⟩ := h
  have szl : sizeLine = 16777216 := rfl
  have hzl := cps_len z
  show u_law_longer KF (endsOf S K X) [some (.lst (lv.map strD)), some (.str z), none, none, none] S
  unfold u_law_longer
  walk_at "j"
  refine ⟨_, rfl, ?_⟩
  refine for_T lv _ (fun pre dl1 S2 => S2 = S ∧ ∃ x3 x4, dl1 = [some (.lst (lv.map strD)), some (.str z), some (.lst ((longer pre z.cps.toList).map strD)), x3, x4]) ?_ ?_ ?_ ?_
  · exact ⟨rfl, _, _, rfl⟩
  · intros; rfl
  · rintro pre t rest dl1 S2 hx ⟨rfl, x3, x4, rfl⟩
    have htl := ht t (by rw [hx]; exact List.mem_append_right _ List.mem_cons_self)
    have hpl : pre.length ≤ lv.length := by rw [hx, List.length_append]; omega
    walk_at "j"
    refine ⟨_, rfl, ?_⟩
    refine' lc_M z.cps.toList _ rfl (by omega) (f := fun c => strD (t ++ [c])) ?hs ?k
    case hs =>
      intro c _ Kt Kf hk
      dsimp only [wipeD, List.set_cons_succ, List.set_cons_zero]
      walk_at "j"
      refine x_addS (by rw [str_len, show (sgn c).length = 1 from rfl]; omega) ?_
      rw [show (⟨t.toArray⟩ : Str) ++ sgn c = ⟨(t ++ [c]).toArray⟩ from str_app t [c]]
      exact hk
    case k =>
      walk_at "j"
      refine x_addL ?_ ?_
      · rw [List.length_map, List.length_map, longer_len]
        have : pre.length * z.cps.toList.length ≤ lv.length * 4 := Nat.mul_le_mul hpl (by omega)
        omega
      walk_at "j"
      have e : (longer pre z.cps.toList).map strD ++ z.cps.toList.map (fun c => strD (t ++ [c])) = (longer (pre ++ [t]) z.cps.toList).map strD := by unfold longer; simp
      rw [e]
      exact .inl ⟨rfl, _, _, rfl⟩
  · rintro dl1 S2 ⟨rfl, x3, x4, rfl⟩
    walk_at "j"
    exact exit_here (by simp only [below]; exact strs_below _) k
theorem levels_len (sg : List Nat) (h : sg.length ≤ 4) : ∀ n, (levels sg n).length ≤ 4 ^ n
  | 0 => by simp [levels]
  | n + 1 => by
    rw [levels, longer_len, Nat.pow_succ]
    exact Nat.mul_le_mul (levels_len sg h n) h
theorem levels_texts (sg : List Nat) : ∀ n, ∀ t ∈ levels sg n, t.length = n
  | 0, t, h => by simp [levels] at h; simp [h]
  | n + 1, t, h => by
    simp only [levels, longer, List.mem_flatMap, List.mem_map] at h
    obtain ⟨u, hu, c, _, rfl⟩ := h
    rw [List.length_append, levels_texts sg n u hu]; rfl
theorem texts_len (sg : List Nat) (h : sg.length ≤ 4) : ∀ n, (texts sg n).length ≤ 4 ^ (n + 1)
  | 0 => by simp [texts]
  | n + 1 => by
    rw [texts, List.length_append]
    have h1 := texts_len sg h n
    have h2 := levels_len sg h (n + 1)
    have h3 : 4 ^ (n + 1 + 1) = 4 ^ (n + 1) * 4 := Nat.pow_succ ..
    omega
theorem pow_le7 {n : Nat} (h : n ≤ 7) : 4 ^ n ≤ 16384 := Nat.le_trans (Nat.pow_le_pow_right (by decide) h) (by decide)
theorem r_law_texts {KF : PySem.W.Frag} {ds S K X} (h : sp_law_texts KF ds S K X) (hb : belows S.length ds) (hS : belows S.length S) : u_law_texts KF (endsOf S K X) (startD ["_law_signs", "_law_size", "_law_found", "_law_level", "_law_k"] ds) S := by
  obtain ⟨z, n, rfl, hz, hn, k⟩ := h
  have szl : sizeLine = 16777216 := rfl
  have hzl := cps_len z
  show u_law_texts KF (endsOf S K X) [some (.str z), some (natD n), none, none, none] S
  unfold u_law_texts
  walk_at "j"
  refine ⟨⟨by omega, by omega⟩, ?_⟩
  rw [show rangeD 0 (n : Int).toNat = (List.range n).map (fun (i : Nat) => Dat.int (0 + (i : Int))) from rfl]
  refine for_T (List.range n) _ (fun pre dl1 S2 => S2 = S ∧ ∃ x4, dl1 = [some (.str z), some (natD n), some (.lst ((texts z.cps.toList pre.length).map strD)), some (.lst ((levels z.cps.toList pre.length).map strD)), x4]) ?_ ?_ ?_ ?_
  · exact ⟨rfl, _, rfl⟩
  · intros; trivial
  · rintro pre i rest dl1 S2 hx ⟨rfl, x4, rfl⟩
    have hpl : pre.length + 1 ≤ n := by
      have : (List.range n).length = pre.length + (rest.length + 1) := by rw [hx]; simp
      rw [List.length_range] at this; omega
    walk_at "j"
    refine ⟨_, z, rfl, hz, ?_, fun t ht => ?_, ?_⟩
    · have := levels_len z.cps.toList (by omega) pre.length
      have := pow_le7 (n := pre.length) (by omega)
      omega
    · rw [levels_texts _ _ t ht]; omega
    walk_at "j"
    refine x_addL ?_ ?_
    · rw [List.length_map, List.length_map, longer_len]
      have h1 := texts_len z.cps.toList (by omega) pre.length
      have h2 := pow_le7 (n := pre.length + 1) (by omega)
      have h3 := levels_len z.cps.toList (by omega) pre.length
      have h4 := pow_le7 (n := pre.length) (by omega)
      have h5 : (levels z.cps.toList pre.length).length * z.cps.toList.length ≤ 16384 * 4 := Nat.mul_le_mul (by omega) (by omega)
      omega
    walk_at "j"
    refine .inl ⟨rfl, some (.int (0 + (i : Int))), ?_⟩
    rw [List.length_append, List.length_singleton, texts, levels, List.map_append]
  · rintro dl1 S2 ⟨rfl, x4, rfl⟩
    walk_at "j"
    rw [List.length_range]
    exact exit_here (by simp only [below]; exact strs_below _) k
theorem r_law_some_signs {KF : PySem.W.Frag} {ds S K X} (h : sp_law_some_signs KF ds S K X) (hb : belows S.length ds) (hS : belows S.length S) : u_law_some_signs KF (endsOf S K X) (startD ["_law_bag_here", "_law_signs", "_law_sign"] ds) S := by
  obtain ⟨b, bag, z, rfl, hz, ha, hbag, hB, k⟩ := h
  have hbl : b < S.length := (List.getElem?_eq_some_iff.mp hbag).1
  have szl : sizeLine = 16777216 := rfl
  have hzl := cps_len z
  show u_law_some_signs KF (endsOf S K X) [some (.cell b), some (.str z), none] S
  unfold u_law_some_signs
  walk_at "j"
  refine ⟨rfl, ?_⟩
  walk_at "j"
  refine ⟨_, rfl, ?_⟩
  refine lc_S z.cps.toList _ (fun pre acc S2 => ∃ (cs : List Nat) (bag' : Dat), acc = cs.map (fun c => Dat.str (sgn c)) ∧ cs.Sublist pre ∧ IsBag bag' ∧ S2 = S.set b bag') ?_ ?_ ?_ ?_ ?_
  · omega
  · exact ⟨[], bag, rfl, List.Sublist.refl _, hB, set_self hbag⟩
  · rintro pre acc S2 ⟨cs, bag', rfl, hs, _, rfl⟩
    exact ⟨rfl, by rw [List.length_map]; exact hs.length_le⟩
  · rintro pre c rest acc S2 hx ⟨cs, bag', rfl, hs, hB', rfl⟩
    dsimp only [wipeD, List.set_cons_succ, List.set_cons_zero]
    walk_at "j"
    refine pull_of (by decide) (by decide) (List.getElem?_set_self hbl) hB' (fun p bag2 hp hB2 => ?_)
    rw [List.set_set]
    walk_at "j"
    refine x_ite (fun e => ?_) (fun e => ?_)
    · walk_at "j"
      exact ⟨cs ++ [c], bag2, by simp, hs.append (List.Sublist.refl _), hB2, rfl⟩
    · exact ⟨cs, bag2, rfl, hs.trans (List.sublist_append_left _ _), hB2, rfl⟩
  · rintro acc S2 ⟨cs, bag', rfl, hs, hB', rfl⟩
    have hcl : cs.length ≤ 4 := Nat.le_trans hs.length_le (by omega)
    walk_at "j"
    refine x_join (ss := cs.map sgn) (by rw [List.map_map]; rfl) ?_ ?_
    · rw [join_size, show (Str.ofString "").length = 0 from rfl]; omega
    · refine x_rtE ?_
      refine exit_set0 hS (bag_below hB') (by simp only [below]) (k _ bag' ?_ ?_ ?_ hB')
      · unfold isWord
        rw [join_cps]
        exact List.all_eq_true.mpr fun c hc => decide_eq_true (hs.subset hc)
      · rw [join_cps]; exact asc_sub hs ha
      · rw [join_len]; exact hcl
theorem lns_one {z : Str} {ls : List Ln} (ok : okLns z ls) {l : Ln} (h : okLn z ls.length l) : okLns z (ls ++ [l]) := fun i l' e => by
  by_cases hi : i < ls.length
  · rw [List.getElem?_append_left hi] at e; exact ok i l' e
  · rw [List.getElem?_append_right (by omega)] at e
    have h0 : i - ls.length = 0 := by
      cases q : i - ls.length with
      | zero => rfl
      | succ m => rw [q] at e; simp at e
    rw [h0] at e
    simp at e
    subst e
    have : i = ls.length := by omega
    rw [this]; exact h
theorem prime_small {p : Nat} (h : p = 2 ∨ p = 3 ∨ p = 5) : isPrime (p : Int) ∧ p ≤ 97 ∧ 0 < p := by
  have key : ∀ d : Int, 2 ≤ d → d * d ≤ 5 → d = 2 := fun d h1 h2 => by
    by_cases z : d ≤ 2
    · omega
    · have : 3 * 3 ≤ d * d := Int.mul_le_mul (by omega) (by omega) (by omega) (by omega)
      omega
  rcases h with rfl | rfl | rfl
  · refine ⟨⟨by decide, fun d h1 h2 => ?_⟩, by decide, by decide⟩
    have : d = 2 := key d h1 (by omega)
    subst this; omega
  · refine ⟨⟨by decide, fun d h1 h2 => ?_⟩, by decide, by decide⟩
    have : d = 2 := key d h1 (by omega)
    subst this; omega
  · refine ⟨⟨by decide, fun d h1 h2 => ?_⟩, by decide, by decide⟩
    have : d = 2 := key d h1 (by omega)
    subst this; decide
theorem r_law_saying {KF : PySem.W.Frag} {ds S K X} (h : sp_law_saying KF ds S K X) (hb : belows S.length ds) (hS : belows S.length S) : u_law_saying KF (endsOf S K X) (startD ["_law_bag_here", "_law_signs", "_law_many", "_law_kinds", "_law_lines", "_law_at", "_law_kind", "_law_near", "_law_prime", "_law_ref"] ds) S := by
  obtain ⟨b, bag, z, n, rfl, hz, ha, hn1, hn, hbag, hB, k⟩ := h
  have hbl : b < S.length := (List.getElem?_eq_some_iff.mp hbag).1
  have szl : sizeLine = 16777216 := rfl
  have hzl := cps_len z
  show u_law_saying KF (endsOf S K X) [some (.cell b), some (.str z), some (natD n), some (.lst allKinds), none, none, none, none, none, none] S
  unfold u_law_saying
  walk_at "j"
  refine ⟨b, bag, z, rfl, hz, ha, hbag, hB, fun t bag1 ht1 ht2 ht3 hB1 => ?_⟩
  walk_at "j"
  rw [List.length_set]
  refine ⟨⟨by omega, by omega, by omega, by omega⟩, ?_⟩
  rw [show rangeD 1 ((n : Int) - 1).toNat = (List.range ((n : Int) - 1).toNat).map (fun (i : Nat) => Dat.int (1 + (i : Int))) from rfl]
  refine for_T (List.range ((n : Int) - 1).toNat) _ (fun pre dl1 S2 => ∃ (ls : List Ln) (bag' : Dat) (x5 x6 x7 x8 x9 : Option Dat), dl1 = [some (.cell b), some (.str z), some (natD n), some (.lst allKinds), some (.cell S.length), x5, x6, x7, x8, x9] ∧ S2 = S.set b bag' ++ [.lst (ls.map encLn)] ∧ ls.length = pre.length + 1 ∧ okLns z ls ∧ IsBag bag') ?_ ?_ ?_ ?_
  · refine ⟨[.is t], bag1, none, none, none, none, none, rfl, rfl, rfl, ?_, hB1⟩
    exact lns_one (ls := []) (fun i l e => by simp at e) ⟨ht1, ht2, by omega⟩
  · intros; trivial
  · rintro pre i rest dl1 S2 hx ⟨ls, bag', x5, x6, x7, x8, x9, rfl, rfl, hls, ok, hB'⟩
    have hi : i = pre.length ∧ i < ((n : Int) - 1).toNat := by
      have h1 : (List.range ((n : Int) - 1).toNat)[pre.length]? = some i := by rw [hx]; simp
      have h2 := List.getElem?_eq_some_iff.mp h1
      obtain ⟨h3, h4⟩ := h2
      simp at h3 h4
      omega
    obtain ⟨at_, hat⟩ : ∃ at_ : Nat, at_ = i + 1 := ⟨_, rfl⟩
    have hatI : (1 : Int) + (i : Int) = (at_ : Int) := by omega
    have hat1 : at_ = ls.length := by omega
    walk_at "j"
    rw [hatI]
    refine of_lst (Nat.le_of_ble_eq_true rfl) (Nat.le_of_ble_eq_true rfl) (st_old hbl) hB' (fun q x bag2 hx2 hB2 => ?_)
    rw [st_setOld hbl]
    walk_at "j"
    refine pull_of (by omega) (by omega) (st_old hbl) hB2 (fun p bag3 hp hB3 => ?_)
    rw [st_setOld hbl]
    walk_at "j"
    refine of_lst (Nat.le_of_ble_eq_true rfl) (Nat.le_of_ble_eq_true rfl) (st_old hbl) hB3 (fun q2 y bag4 hx3 hB4 => ?_)
    rw [st_setOld hbl]
    obtain ⟨o, rfl, ho⟩ : ∃ o : Nat, y = .int (o : Int) ∧ o < at_ := by
      match q2, hx3 with
      | 0, hx => exact ⟨0, (Option.some.inj hx).symm, by omega⟩
      | 1, hx => exact ⟨0, (Option.some.inj hx).symm, by omega⟩
      | 2, hx => exact ⟨p, (Option.some.inj hx).symm, by omega⟩
      | n + 3, hx => cases hx
    obtain ⟨near, hnear, hnr⟩ : ∃ near : Nat, (at_ : Int) - 1 - (o : Int) = (near : Int) ∧ near < at_ := ⟨at_ - 1 - o, by omega, by omega⟩
    have hT : ∀ bg, isT "list" (S.set b bg ++ [.lst (ls.map encLn)]) (.cell S.length) := fun bg => ⟨rfl, by simp only [lstD, view, st_new]; rfl⟩
    have fin : ∀ (N : Nat) (l : Ln) (bg : Dat) (d6 d7 d8 d9 : Option Dat), okLn z at_ l → IsBag bg → gAppend (.cell S.length) [encLn l] (S.set b bg ++ [.lst (ls.map encLn)]) (fun _ S1 => GcTo N (fun dl1 S2 => ∃ (ls : List Ln) (bag' : Dat) (x5 x6 x7 x8 x9 : Option Dat), dl1 = [some (.cell b), some (.str z), some (natD n), some (.lst allKinds), some (.cell S.length), x5, x6, x7, x8, x9] ∧ S2 = S.set b bag' ++ [.lst (ls.map encLn)] ∧ ls.length = (pre ++ [i]).length + 1 ∧ okLns z ls ∧ IsBag bag')
        [some (.cell b), some (.str z), some (natD n), some (.lst allKinds), some (.cell S.length), some (.int (at_ : Int)), d6, d7, d8, d9] S1) := fun N l bg d6 d7 d8 d9 okl hbg => by
      refine x_append st_new (by rw [List.length_map]; omega) ?_
      rw [st_setNew, show ls.map encLn ++ [encLn l] = (ls ++ [l]).map encLn by simp]
      exact .inl ⟨ls ++ [l], bg, _, _, _, _, _, rfl, rfl, by simp [hls], lns_one ok (by rw [← hat1]; exact okl), hbg⟩
    have hlen : (S.set b bag' ++ [Dat.lst (ls.map encLn)]).length = S.length + 1 := by simp
    walk_at "j"
    rw [hnear]
    have hk : x = .str "is" ∨ x = .str "not" ∨ x = .str "and" ∨ x = .str "or" ∨ x = .str "before" ∨ x = .str "since" ∨ x = .str "count" := by
      match q, hx2 with
      | 0, hx => exact .inl (Option.some.inj hx).symm
      | 1, hx => exact .inr (.inl (Option.some.inj hx).symm)
      | 2, hx => exact .inr (.inr (.inl (Option.some.inj hx).symm))
      | 3, hx => exact .inr (.inr (.inr (.inl (Option.some.inj hx).symm)))
      | 4, hx => exact .inr (.inr (.inr (.inr (.inl (Option.some.inj hx).symm))))
      | 5, hx => exact .inr (.inr (.inr (.inr (.inr (.inl (Option.some.inj hx).symm)))))
      | 6, hx => exact .inr (.inr (.inr (.inr (.inr (.inr (Option.some.inj hx).symm)))))
      | n + 7, hx => cases hx
    clear hx2
    rcases hk with rfl | rfl | rfl | rfl | rfl | rfl | rfl
    · walk_at "j"
      refine ⟨hT _, ?_⟩
      walk_at "j"
      refine ⟨b, bag4, z, rfl, hz, ha, st_old hbl, hB4, fun t2 bag5 h1 h2 h3 hB5 => ?_⟩
      rw [st_setOld hbl]
      walk_at "j"
      exact fin _ (.is t2) _ _ _ _ _ ⟨h1, h2, by omega⟩ hB5
    · walk_at "j"
      refine ⟨hT _, ?_⟩
      walk_at "j"
      exact fin _ (.no near) _ _ _ _ _ hnr hB4
    · walk_at "j"
      refine ⟨hT _, ?_⟩
      walk_at "j"
      refine pull_of (by decide) (by decide) (st_old hbl) hB4 (fun p2 bag5 hp2 hB5 => ?_)
      rw [st_setOld hbl]
      walk_at "j"
      refine x_ite (fun e9 => ?_) (fun e9 => ?_)
      · walk_at "j"
        refine ⟨⟨by omega, by omega⟩, ?_⟩
        rw [show rangeD 0 (at_ : Int).toNat = (List.range at_).map (fun (i : Nat) => Dat.int (0 + (i : Int))) from rfl]
        refine lc_S (List.range at_) _ (fun pre acc S2 => ∃ (rs : List Nat) (bag' : Dat), acc = rs.map (fun (n : Nat) => Dat.int (n : Int)) ∧ rs.Sublist pre ∧ IsBag bag' ∧ S2 = S.set b bag' ++ [.lst (ls.map encLn)]) ?_ ?_ ?_ ?_ ?_
        · rw [List.length_range]; omega
        · exact ⟨[], bag5, rfl, List.Sublist.refl _, hB5, rfl⟩
        · rintro pre acc S2 ⟨rs, bag', rfl, hs, _, rfl⟩
          exact ⟨trivial, by rw [List.length_map]; exact hs.length_le⟩
        · rintro pre c rest acc S2 hx ⟨rs, bag', rfl, hs, hB', rfl⟩
          dsimp only [wipeD, List.set_cons_succ, List.set_cons_zero]
          have app : ∀ bg, IsBag bg → ∃ (rs2 : List Nat) (bag' : Dat), (rs.map (fun (n : Nat) => Dat.int (n : Int)) ++ [Dat.int (0 + (c : Int))]) = rs2.map (fun (n : Nat) => Dat.int (n : Int)) ∧ rs2.Sublist (pre ++ [c]) ∧ IsBag bag' ∧ (S.set b bg ++ [.lst (ls.map encLn)] : Store) = S.set b bag' ++ [.lst (ls.map encLn)] := fun bg hbg =>
            ⟨rs ++ [c], bg, by rw [Int.zero_add]; simp, hs.append (List.Sublist.refl _), hbg, rfl⟩
          walk_at "j"
          refine x_ite (fun e => ?_) (fun e => ?_)
          · walk_at "j"
            exact app _ hB'
          · walk_at "j"
            refine pull_of (by decide) (by decide) (st_old hbl) hB' (fun p bag6 hp hB6 => ?_)
            rw [st_setOld hbl]
            walk_at "j"
            refine x_ite (fun e => ?_) (fun e => ?_)
            · walk_at "j"
              exact app _ hB6
            · exact ⟨rs, bag6, rfl, hs.trans (List.sublist_append_left _ _), hB6, rfl⟩
        · rintro acc S2 ⟨rs, bag', rfl, hs, hB', rfl⟩
          walk_at "j"
          refine x_tuple rfl ?_
          walk_at "j"
          refine fin _ (.and rs) _ _ _ _ _ ⟨fun r hr => List.mem_range.mp (hs.subset hr), asc_sub hs (asc_range _), ?_⟩ hB'
          have := hs.length_le
          rw [List.length_range] at this
          omega
      · walk_at "j"
        exact fin _ (.and []) _ _ _ _ _ ⟨fun r hr => (List.not_mem_nil hr).elim, rfl, by decide⟩ hB5
    · walk_at "j"
      refine ⟨hT _, ?_⟩
      walk_at "j"
      refine pull_of (by decide) (by decide) (st_old hbl) hB4 (fun p2 bag5 hp2 hB5 => ?_)
      rw [st_setOld hbl]
      walk_at "j"
      refine x_ite (fun e9 => ?_) (fun e9 => ?_)
      · walk_at "j"
        refine ⟨⟨by omega, by omega⟩, ?_⟩
        rw [show rangeD 0 (at_ : Int).toNat = (List.range at_).map (fun (i : Nat) => Dat.int (0 + (i : Int))) from rfl]
        refine lc_S (List.range at_) _ (fun pre acc S2 => ∃ (rs : List Nat) (bag' : Dat), acc = rs.map (fun (n : Nat) => Dat.int (n : Int)) ∧ rs.Sublist pre ∧ IsBag bag' ∧ S2 = S.set b bag' ++ [.lst (ls.map encLn)]) ?_ ?_ ?_ ?_ ?_
        · rw [List.length_range]; omega
        · exact ⟨[], bag5, rfl, List.Sublist.refl _, hB5, rfl⟩
        · rintro pre acc S2 ⟨rs, bag', rfl, hs, _, rfl⟩
          exact ⟨trivial, by rw [List.length_map]; exact hs.length_le⟩
        · rintro pre c rest acc S2 hx ⟨rs, bag', rfl, hs, hB', rfl⟩
          dsimp only [wipeD, List.set_cons_succ, List.set_cons_zero]
          have app : ∀ bg, IsBag bg → ∃ (rs2 : List Nat) (bag' : Dat), (rs.map (fun (n : Nat) => Dat.int (n : Int)) ++ [Dat.int (0 + (c : Int))]) = rs2.map (fun (n : Nat) => Dat.int (n : Int)) ∧ rs2.Sublist (pre ++ [c]) ∧ IsBag bag' ∧ (S.set b bg ++ [.lst (ls.map encLn)] : Store) = S.set b bag' ++ [.lst (ls.map encLn)] := fun bg hbg =>
            ⟨rs ++ [c], bg, by rw [Int.zero_add]; simp, hs.append (List.Sublist.refl _), hbg, rfl⟩
          walk_at "j"
          refine x_ite (fun e => ?_) (fun e => ?_)
          · walk_at "j"
            exact app _ hB'
          · walk_at "j"
            refine pull_of (by decide) (by decide) (st_old hbl) hB' (fun p bag6 hp hB6 => ?_)
            rw [st_setOld hbl]
            walk_at "j"
            refine x_ite (fun e => ?_) (fun e => ?_)
            · walk_at "j"
              exact app _ hB6
            · exact ⟨rs, bag6, rfl, hs.trans (List.sublist_append_left _ _), hB6, rfl⟩
        · rintro acc S2 ⟨rs, bag', rfl, hs, hB', rfl⟩
          walk_at "j"
          refine x_tuple rfl ?_
          walk_at "j"
          refine fin _ (.or rs) _ _ _ _ _ ⟨fun r hr => List.mem_range.mp (hs.subset hr), asc_sub hs (asc_range _), ?_⟩ hB'
          have := hs.length_le
          rw [List.length_range] at this
          omega
      · walk_at "j"
        exact fin _ (.or []) _ _ _ _ _ ⟨fun r hr => (List.not_mem_nil hr).elim, rfl, by decide⟩ hB5
    · walk_at "j"
      refine ⟨hT _, ?_⟩
      walk_at "j"
      exact fin _ (.before near) _ _ _ _ _ hnr hB4
    · walk_at "j"
      refine ⟨hT _, ?_⟩
      walk_at "j"
      refine pull_of (by omega) (by omega) (st_old hbl) hB4 (fun p2 bag5 hp2 hB5 => ?_)
      rw [st_setOld hbl]
      walk_at "j"
      exact fin _ (.since p2 near) _ _ _ _ _ ⟨by omega, hnr⟩ hB5
    · walk_at "j"
      refine of_lst (Nat.le_of_ble_eq_true rfl) (Nat.le_of_ble_eq_true rfl) (st_old hbl) hB4 (fun q3 y3 bag5 hx4 hB5 => ?_)
      rw [st_setOld hbl]
      obtain ⟨pr, rfl, hpr⟩ : ∃ pr : Nat, y3 = .int (pr : Int) ∧ (pr = 2 ∨ pr = 3 ∨ pr = 5) := by
        match q3, hx4 with
        | 0, hx => exact ⟨2, (Option.some.inj hx).symm, .inl rfl⟩
        | 1, hx => exact ⟨2, (Option.some.inj hx).symm, .inl rfl⟩
        | 2, hx => exact ⟨3, (Option.some.inj hx).symm, .inr (.inl rfl)⟩
        | 3, hx => exact ⟨5, (Option.some.inj hx).symm, .inr (.inr rfl)⟩
        | n + 4, hx => cases hx
      obtain ⟨pp1, pp2, pp3⟩ := prime_small hpr
      walk_at "j"
      refine ⟨hT _, ?_⟩
      walk_at "j"
      refine pull_of (by omega) (by omega) (st_old hbl) hB5 (fun p2 bag6 hp2 hB6 => ?_)
      rw [st_setOld hbl]
      walk_at "j"
      exact fin _ (.count near pr p2) _ _ _ _ _ ⟨hnr, pp1, pp2, by omega⟩ hB6
  · rintro dl1 S2 ⟨ls, bag', x5, x6, x7, x8, x9, rfl, rfl, hls, ok, hB'⟩
    walk_at "j"
    refine x_rtE ?_
    refine ⟨S.set b bag', .lst (ls.map encLn), ⟨⟨_, rfl⟩, by rw [List.length_set]; exact Nat.le_refl _, .inr ?_⟩, .cell (by rw [List.length_set]; exact Nat.le_refl _) st_new (.same (by simp only [below]; exact lns_below ls)), k ls bag' ?_ ok hB'⟩
    · rw [List.length_set]; exact belows_set hS (bag_below hB')
    · rw [hls, List.length_range]; omega
/-! M29: the plain law of k29. -/
theorem goF_pre (c : Nat) (last : List Bool) (cnt : List Nat) : ∀ (xs : List Ln) (s : List Bool × List Nat), (goF c last cnt xs s).1.take s.1.length = s.1 ∧ (goF c last cnt xs s).2.take s.2.length = s.2
  | [], s => by simp [goF]
  | x :: xs, s => by
    obtain ⟨h1, h2⟩ := goF_pre c last cnt xs (s.1 ++ [lnVal c last cnt x s.1], s.2 ++ [lnCnt cnt x s.1])
    refine ⟨?_, ?_⟩
    · show (goF c last cnt xs _).1.take s.1.length = s.1
      have := congrArg (List.take s.1.length) h1
      rw [List.take_take, List.length_append, List.length_singleton, Nat.min_eq_left (by omega)] at this
      rw [this]; simp
    · show (goF c last cnt xs _).2.take s.2.length = s.2
      have := congrArg (List.take s.2.length) h2
      rw [List.take_take, List.length_append, List.length_singleton, Nat.min_eq_left (by omega)] at this
      rw [this]; simp
theorem getD_take {α : Type} {l : List α} {k r : Nat} {d : α} (h : r < k) : (l.take k).getD r d = l.getD r d := by
  simp only [List.getD, List.getElem?_take, if_pos h]
theorem step_val {R : List Ln} {s : List Bool × List Nat} {c k : Nat} {l : Ln} (h : R[k]? = some l) :
    (stepF R s c).1.getD k false = lnVal c s.1 s.2 l ((stepF R s c).1.take k) ∧ (stepF R s c).2.getD k 0 = lnCnt s.2 l ((stepF R s c).1.take k) ∧ ((stepF R s c).1.take k).length = k := by
  have hk := (List.getElem?_eq_some_iff.mp h).1
  obtain ⟨sl1, sl2⟩ := stepF_len R s c
  have hR : R = R.take k ++ l :: R.drop (k + 1) := by
    rw [← (List.getElem?_eq_some_iff.mp h).2, ← List.drop_eq_getElem_cons, List.take_append_drop]
  obtain ⟨g, hg⟩ : ∃ g, g = goF c s.1 s.2 (R.take k) ([], []) := ⟨_, rfl⟩
  obtain ⟨gl1, gl2⟩ := goF_len c s.1 s.2 (R.take k) ([], [])
  rw [← hg] at gl1 gl2
  simp only [List.length_take, List.length_nil, Nat.zero_add, Nat.min_eq_left (Nat.le_of_lt hk)] at gl1 gl2
  have e : stepF R s c = goF c s.1 s.2 (R.drop (k + 1)) (g.1 ++ [lnVal c s.1 s.2 l g.1], g.2 ++ [lnCnt s.2 l g.1]) := by
    unfold stepF
    conv => lhs; rw [hR]
    rw [goF_append, ← hg]; rfl
  obtain ⟨p1, p2⟩ := goF_pre c s.1 s.2 (R.drop (k + 1)) (g.1 ++ [lnVal c s.1 s.2 l g.1], g.2 ++ [lnCnt s.2 l g.1])
  rw [← e] at p1 p2
  simp only [List.length_append, List.length_singleton, gl1, gl2] at p1 p2
  have t1 : (stepF R s c).1.take k = g.1 := by
    have := congrArg (List.take k) p1
    rw [List.take_take, Nat.min_eq_left (by omega)] at this
    rw [this, ← gl1]; simp
  refine ⟨?_, ?_, by rw [t1, gl1]⟩
  · rw [t1, ← getD_take (k := k + 1) (by omega), p1]
    simp only [List.getD]
    rw [List.getElem?_append_right (by omega), gl1]; simp
  · rw [t1, ← getD_take (k := k + 1) (by omega), p2]
    simp only [List.getD]
    rw [List.getElem?_append_right (by omega), gl2]; simp
section
variable {R : List Ln} {u : List Nat} {c k : Nat}
abbrev Tv (R : List Ln) (w : List Nat) (k : Nat) : Bool := (runF R w).1.getD k false
abbrev Cv (R : List Ln) (w : List Nat) (k : Nat) : Nat := (runF R w).2.getD k 0
theorem tv_before {r : Nat} (h : R[k]? = some (.before r)) : Tv R (u ++ [c]) k = Tv R u r := by
  unfold Tv; rw [runF_snoc, (step_val h).1]; rfl
theorem tv_no {r : Nat} (h : R[k]? = some (.no r)) (hr : r < k) : Tv R (u ++ [c]) k = !Tv R (u ++ [c]) r := by
  unfold Tv; rw [runF_snoc, (step_val h).1]; simp only [lnVal]; rw [getD_take hr]
theorem tv_since {x y : Nat} (h : R[k]? = some (.since x y)) (hx : x < k) (hy : y < k) : Tv R (u ++ [c]) k = (Tv R (u ++ [c]) y || (Tv R (u ++ [c]) x && Tv R u k)) := by
  unfold Tv; rw [runF_snoc, (step_val h).1]; simp only [lnVal, (step_val h).2.2]; rw [getD_take hx, getD_take hy]
theorem tv_and2 {x y : Nat} (h : R[k]? = some (.and [x, y])) (hx : x < k) (hy : y < k) : Tv R (u ++ [c]) k = (Tv R (u ++ [c]) x && Tv R (u ++ [c]) y) := by
  unfold Tv; rw [runF_snoc, (step_val h).1]; simp only [lnVal, List.all_cons, List.all_nil, Bool.and_true]; rw [getD_take hx, getD_take hy]
theorem tv_or2 {x y : Nat} (h : R[k]? = some (.or [x, y])) (hx : x < k) (hy : y < k) : Tv R (u ++ [c]) k = (Tv R (u ++ [c]) x || Tv R (u ++ [c]) y) := by
  unfold Tv; rw [runF_snoc, (step_val h).1]; simp only [lnVal, List.any_cons, List.any_nil, Bool.or_false]; rw [getD_take hx, getD_take hy]
theorem tv_and0 (h : R[k]? = some (.and [])) : Tv R (u ++ [c]) k = true := by
  unfold Tv; rw [runF_snoc, (step_val h).1]; rfl
theorem tv_count {r p q : Nat} (h : R[k]? = some (.count r p q)) (hr : r < k) : Tv R (u ++ [c]) k = decide ((Cv R u k + b2n (Tv R (u ++ [c]) r)) % p = q) ∧ Cv R (u ++ [c]) k = (Cv R u k + b2n (Tv R (u ++ [c]) r)) % p := by
  unfold Tv Cv; rw [runF_snoc, (step_val h).1, (step_val h).2.1]; simp only [lnVal, lnCnt, (step_val h).2.2]; rw [getD_take hr]; exact ⟨rfl, rfl⟩
theorem tv_nil : Tv R [] k = false := by
  unfold Tv runF
  simp only [List.foldl_nil, List.getD, List.getElem?_map]
  cases R[k]? <;> rfl
theorem cv_nil : Cv R [] k = 0 := by
  unfold Cv runF
  simp only [List.foldl_nil, List.getD, List.getElem?_map]
  cases R[k]? <;> rfl
/-- what line i said, letter by letter -/
def seenL (R : List Ln) (i : Nat) (w : List Nat) : List Bool := (List.range w.length).map fun k => Tv R (w.take (k + 1)) i
theorem seenL_snoc {i : Nat} : seenL R i (u ++ [c]) = seenL R i u ++ [Tv R (u ++ [c]) i] := by
  unfold seenL
  rw [List.length_append, List.length_singleton, List.range_succ, List.map_append]
  congr 1
  · refine List.map_congr_left fun k hk => ?_
    have hk := List.mem_range.mp hk
    rw [List.take_append_of_le_length (by omega)]
  · simp only [List.map_cons, List.map_nil]
    rw [List.take_of_length_le (by simp)]
def trues (bs : List Bool) : Nat := (bs.filter fun b => b).length
theorem trues_snoc (bs : List Bool) (b : Bool) : trues (bs ++ [b]) = trues bs + b2n b := by
  unfold trues
  cases b <;> simp [b2n]
theorem snoc_ind {P : List Nat → Prop} (h0 : P []) (h1 : ∀ u c, P u → P (u ++ [c])) : ∀ w, P w := fun w => by
  have : ∀ n (w : List Nat), w.length = n → P w := fun n => by
    induction n with
    | zero => intro w h; rw [List.eq_nil_of_length_eq_zero h]; exact h0
    | succ n ih =>
      intro w h
      have hne : w ≠ [] := fun z => by rw [z] at h; simp at h
      rw [← List.dropLast_concat_getLast hne]
      exact h1 _ _ (ih _ (by rw [List.length_dropLast]; omega))
  exact this _ w rfl
theorem cnt_seen {i p q : Nat} (h : R[k]? = some (.count i p q)) (hi : i < k) (w : List Nat) : Cv R w k = trues (seenL R i w) % p := by
  refine snoc_ind (P := fun w => Cv R w k = trues (seenL R i w) % p) ?_ (fun u c ih => ?_) w
  · rw [cv_nil]; rfl
  · rw [(tv_count h hi).2, ih, seenL_snoc, trues_snoc, Nat.mod_add_mod]
theorem late_seen {i p q : Nat} (h : R[k]? = some (.count i p q)) (hi : i < k) : Tv R (u ++ [c]) k = decide (trues (seenL R i (u ++ [c])) % p = q) := by
  rw [(tv_count h hi).1, cnt_seen h hi, seenL_snoc, trues_snoc, Nat.mod_add_mod]
theorem since_seen {i t : Nat} (h : R[k]? = some (.since t i)) (ht : t < k) (hi : i < k) (htt : ∀ u c, Tv R (u ++ [c]) t = true) (w : List Nat) : Tv R w k = (seenL R i w).any id := by
  refine snoc_ind (P := fun w => Tv R w k = (seenL R i w).any id) ?_ (fun u c ih => ?_) w
  · rw [tv_nil]; rfl
  · rw [tv_since h ht hi, htt, ih, seenL_snoc, List.any_append, Bool.true_and, Bool.or_comm]; simp
end
/-- the rows that the law makes -/
def rowsL (ls : List Ln) (i j p : Nat) : List Ln :=
  ((ls ++ [.since i j, .before ls.length, .and [i, ls.length + 1], .or [j, ls.length + 2]]) ++ [.and [], .before (ls.length + 4), .no i, .before (ls.length + 6), .before i, .no (ls.length + 8)]) ++ (List.range p).map (fun r => .count i p r) ++ [.since (ls.length + 4) i, .since i (ls.length + 4)]
section
variable {ls : List Ln} {i j p : Nat}
theorem rows_len : (rowsL ls i j p).length = ls.length + 12 + p := by unfold rowsL; simp; omega
theorem rows_a {k : Nat} (h : k < ls.length) : (rowsL ls i j p)[k]? = ls[k]? := by
  unfold rowsL
  rw [List.append_assoc, List.append_assoc, List.append_assoc, List.getElem?_append_left h]
theorem rows_b (k : Nat) : (rowsL ls i j p)[ls.length + k]? = (([.since i j, .before ls.length, .and [i, ls.length + 1], .or [j, ls.length + 2], .and [], .before (ls.length + 4), .no i, .before (ls.length + 6), .before i, .no (ls.length + 8)] : List Ln) ++ ((List.range p).map (fun r => Ln.count i p r) ++ [.since (ls.length + 4) i, .since i (ls.length + 4)]))[k]? := by
  unfold rowsL
  rw [List.append_assoc, List.append_assoc, List.append_assoc, List.getElem?_append_right (by omega), Nat.add_sub_cancel_left]
  rfl
theorem rows_c {r : Nat} (h : r < p) : (rowsL ls i j p)[ls.length + 10 + r]? = some (.count i p r) := by
  rw [Nat.add_assoc, rows_b, List.getElem?_append_right (by simp), List.getElem?_append_left (by simp; omega)]
  simp [h]
theorem rows_d : (rowsL ls i j p)[ls.length + 10 + p]? = some (.since (ls.length + 4) i) := by
  rw [Nat.add_assoc, rows_b, List.getElem?_append_right (by simp), List.getElem?_append_right (by simp)]
  simp
theorem rows_e : (rowsL ls i j p)[ls.length + 11 + p]? = some (.since i (ls.length + 4)) := by
  rw [show ls.length + 11 + p = ls.length + (11 + p) by omega, rows_b, List.getElem?_append_right (by simp; omega), List.getElem?_append_right (by simp; omega)]
  have : 11 + p - 10 - p = 1 := by omega
  simp [this]
theorem rows_ok {z : Str} (ok : okLns z ls) (hi : i < ls.length) (hj : j < ls.length) (hp : isPrime (p : Int) ∧ p ≤ 97 ∧ 0 < p) : okLns z (rowsL ls i j p) := fun k l e => by
  have hk := (List.getElem?_eq_some_iff.mp e).1
  rw [rows_len] at hk
  by_cases h1 : k < ls.length
  · rw [rows_a h1] at e; exact ok k l e
  obtain ⟨q, rfl⟩ : ∃ q, k = ls.length + q := ⟨k - ls.length, by omega⟩
  by_cases h2 : q < 10
  · rw [rows_b] at e
    match q, h2, e with
    | 0, _, e => cases e; exact ⟨by omega, by omega⟩
    | 1, _, e => cases e; show _ < _; omega
    | 2, _, e => cases e; exact ⟨fun r hr => by simp at hr; omega, by simp [ascL]; omega, Nat.le_of_ble_eq_true rfl⟩
    | 3, _, e => cases e; exact ⟨fun r hr => by simp at hr; omega, by simp [ascL]; omega, Nat.le_of_ble_eq_true rfl⟩
    | 4, _, e => cases e; exact ⟨fun r hr => by simp at hr, rfl, by decide⟩
    | 5, _, e => cases e; show _ < _; omega
    | 6, _, e => cases e; show _ < _; omega
    | 7, _, e => cases e; show _ < _; omega
    | 8, _, e => cases e; show _ < _; omega
    | 9, _, e => cases e; show _ < _; omega
    | n + 10, h, _ => omega
  · by_cases h3 : q < 10 + p
    · obtain ⟨r, rfl⟩ : ∃ r, q = 10 + r := ⟨q - 10, by omega⟩
      rw [← Nat.add_assoc, rows_c (by omega)] at e
      cases e
      exact ⟨by omega, hp.1, hp.2.1, by omega⟩
    · by_cases h4 : q = 10 + p
      · subst h4
        rw [← Nat.add_assoc, rows_d] at e
        cases e
        exact ⟨by omega, by omega⟩
      · have h5 : q = 11 + p := by omega
        subst h5
        rw [← Nat.add_assoc, rows_e] at e
        cases e
        exact ⟨by omega, by omega⟩
/-- all that the law asks of a text -/
structure Told (ls : List Ln) (i p : Nat) (R : List Ln) (w : List Nat) : Prop where
  a : Tv R w ls.length = Tv R w (ls.length + 3)
  b : Tv R w (ls.length + 5) = decide (1 < w.length)
  c : Tv R w (ls.length + 7) = (Tv R w (ls.length + 9) && decide (1 < w.length))
  d : ∀ r, r < p → Tv R w (ls.length + 10 + r) = decide (trues (seenL R i w) % p = r)
  e : Tv R w (ls.length + 11 + p) = true
  f : Tv R w (ls.length + 10 + p) = (seenL R i w).any id
theorem law_told (hi : i < ls.length) (hj : j < ls.length) {w : List Nat} (hw : w ≠ []) : Told ls i p (rowsL ls i j p) w := by
  have hb : ∀ k l, ([.since i j, .before ls.length, .and [i, ls.length + 1], .or [j, ls.length + 2], .and [], .before (ls.length + 4), .no i, .before (ls.length + 6), .before i, .no (ls.length + 8)] : List Ln)[k]? = some l → (rowsL ls i j p)[ls.length + k]? = some l := fun k l h => by
    rw [rows_b, List.getElem?_append_left (List.getElem?_eq_some_iff.mp h).1]; exact h
  have b0 := hb 0 _ rfl
  have b1 := hb 1 _ rfl
  have b2 := hb 2 _ rfl
  have b3 := hb 3 _ rfl
  have b4 := hb 4 _ rfl
  have b5 := hb 5 _ rfl
  have b6 := hb 6 _ rfl
  have b7 := hb 7 _ rfl
  have b8 := hb 8 _ rfl
  have b9 := hb 9 _ rfl
  rw [Nat.add_zero] at b0
  obtain ⟨u, c, rfl⟩ : ∃ u c, w = u ++ [c] := ⟨_, _, (List.dropLast_concat_getLast hw).symm⟩
  have hd : decide (1 < (u ++ [c]).length) = decide (u ≠ []) := decide_eq_decide.mpr (by
    rw [List.length_append, List.length_singleton]
    have : u ≠ [] ↔ 0 < u.length := List.length_pos_iff.symm
    rw [this]; omega)
  refine ⟨?_, ?_, ?_, fun r hr => late_seen (rows_c hr) (by omega), ?_, since_seen rows_d (by omega) (by omega) (fun u c => tv_and0 b4) _⟩
  · rw [tv_since b0 hi hj, tv_or2 b3 (by omega) (by omega), tv_and2 b2 (by omega) (by omega), tv_before b1]
  · rw [tv_before b5, hd]
    by_cases h : u = []
    · subst h; rw [tv_nil]; rfl
    · obtain ⟨v, d, rfl⟩ : ∃ v d, u = v ++ [d] := ⟨_, _, (List.dropLast_concat_getLast h).symm⟩
      rw [tv_and0 b4]; simp
  · rw [tv_before b7, tv_no b9 (by omega), tv_before b8, hd]
    by_cases h : u = []
    · subst h; rw [tv_nil, tv_nil]; rfl
    · obtain ⟨v, d, rfl⟩ : ∃ v d, u = v ++ [d] := ⟨_, _, (List.dropLast_concat_getLast h).symm⟩
      rw [tv_no b6 (by omega)]; simp
  · rw [tv_since rows_e (by omega) (by omega), tv_and0 b4]; rfl
end
theorem inF_bls (bs : List Bool) : inF (.bl true) (bs.map Dat.bl) = some (bs.any id) := by
  unfold inF
  rw [mapM_bls]
  show some (inV _ _) = _
  congr 1
  unfold inV
  rw [List.any_map]
  induction bs with
  | nil => rfl
  | cons b r ih =>
    rw [List.any_cons, List.any_cons, ih]
    show (eqV (.bl b) (.bl true) || _) = _
    cases b <;> rfl
theorem tru_filter {n : Nat} (m : Nat) (h : m < n) : ((List.range n).map fun r => decide (m = r)).filter (fun b => b) = [true] := by
  induction n with
  | zero => omega
  | succ n ih =>
    rw [List.range_succ, List.map_append, List.filter_append]
    by_cases e : m = n
    · subst e
      have : ((List.range m).map fun r => decide (m = r)).filter (fun b => b) = [] := by
        rw [List.filter_eq_nil_iff]
        intro b hb
        obtain ⟨r, hr, rfl⟩ := List.mem_map.mp hb
        have := List.mem_range.mp hr
        simp; omega
      rw [this]; simp
    · rw [ih (by omega)]; simp [e]
theorem x_ixz {n : Nat} {z : Int} {x y : Dat} {S : Store} {K : KE} {xs : List Dat} (hz : z = (n : Int)) (e : seqD S x = some xs) (h : xs[n]? = some y) (k : K y S) : gIx x (.int z) S K := by subst hz; exact x_ixn e h k
theorem x_andB {a b : Bool} {dl : Env'} {S : Store} {K : KE} {X : KX} {ub : UE} (hb : ∀ K' : KE, K' (.bl b) S → ub dl S K' X) (k : K (.bl (a && b)) S) : if a = true then ub dl S K X else K (.bl a) S := by
  cases a
  · exact k
  · exact hb K k
theorem tru_filter2 {n : Nat} (m : Nat) (h : m < n) : ((List.range n).filter fun r => decide (m = r)).map (fun r => Dat.bl (decide (m = r))) = [.bl true] := by
  have h1 : (List.range n).filter (fun r => decide (m = r)) = [m] := by
    induction n with
    | zero => omega
    | succ n ih =>
      rw [List.range_succ, List.filter_append]
      by_cases e : m = n
      · subst e
        have : (List.range m).filter (fun r => decide (m = r)) = [] := by
          rw [List.filter_eq_nil_iff]
          intro r hr
          have := List.mem_range.mp hr
          simp; omega
        rw [this]; simp
      · rw [ih (by omega)]; simp [e]
  rw [h1]; simp
theorem x_ifInt {c : Bool} {x y : Nat} {dl : Env'} {S : Store} {K : KE} {X : KX} (k : ∀ n : Nat, n = x ∨ n = y → K (.int (n : Int)) S) : if c = true then uC (.int (x : Int)) dl S K X else uC (.int (y : Int)) dl S K X := by
  cases c
  · exact k y (.inr rfl)
  · exact k x (.inl rfl)
theorem levels_mem (sg : List Nat) : ∀ n, ∀ t ∈ levels sg n, t.length = n ∧ ∀ c ∈ t, c ∈ sg
  | 0, t, h => by simp [levels] at h; simp [h]
  | n + 1, t, h => by
    simp only [levels, longer, List.mem_flatMap, List.mem_map] at h
    obtain ⟨u, hu, c, hc, rfl⟩ := h
    obtain ⟨h1, h2⟩ := levels_mem sg n u hu
    refine ⟨by rw [List.length_append, h1]; rfl, fun d hd => ?_⟩
    rcases List.mem_append.mp hd with e | e
    · exact h2 d e
    · rw [List.mem_singleton.mp e]; exact hc
theorem texts_mem (sg : List Nat) : ∀ n, ∀ t ∈ (texts sg n).drop 1, t ≠ [] ∧ t.length ≤ n ∧ ∀ c ∈ t, c ∈ sg
  | 0, t, h => by simp [texts] at h
  | n + 1, t, h => by
    have hne : texts sg n ≠ [] := by
      cases n with
      | zero => simp [texts]
      | succ m =>
        have : ∀ q, texts sg q ≠ [] := fun q => by
          induction q with
          | zero => simp [texts]
          | succ q ih => rw [texts]; simp [ih]
        exact this _
    rw [texts, List.drop_append_of_le_length (by have := List.length_pos_iff.mpr hne; omega)] at h
    rcases List.mem_append.mp h with e | e
    · obtain ⟨h1, h2, h3⟩ := texts_mem sg n t e
      exact ⟨h1, by omega, h3⟩
    · obtain ⟨h1, h2⟩ := levels_mem sg (n + 1) t e
      exact ⟨fun z => by rw [z] at h1; simp at h1, by omega, h2⟩
theorem r_law {KF : PySem.W.Frag} {ds S K X} (h : sp_law KF ds S K X) (hb : belows S.length ds) (hS : belows S.length S) : u_law KF (endsOf S K X) (startD ["_law_script", "_law_bag_here", "_law_kinds", "_law_signs", "_law_lines", "_law_many", "_law_prime", "_law_i", "_law_j", "_law_rows", "_law_made", "_law_text", "_law_told", "_law_late", "_law_seen", "_law_rest", "_law_one", "_law_size"] ds) S := by
  obtain ⟨ns, rfl, hns, hbits, rfl, k⟩ := h
  have szl : sizeLine = 16777216 := rfl
  show u_law KF (endsOf [] K X) [some (.sq KF ns), none, none, none, none, none, none, none, none, none, none, none, none, none, none, none, none, none] []
  have fin : ∀ S', (endsOf [] K X).rt (.bl true) S' := fun S' => exit_pure (S0 := []) (R := S') (by simp only [below]) (k _)
  unfold u_law
  walk_at "j"
  refine ⟨ns, rfl, hns, fun bag hB => ?_⟩
  walk_at "j"
  dsimp only [List.nil_append, List.length_nil]
  refine of_lst (Nat.le_of_ble_eq_true rfl) (Nat.le_of_ble_eq_true rfl) rfl hB (fun q x bag1 hx hB1 => ?_)
  dsimp only [List.set_cons_zero]
  obtain ⟨z, rfl, hz, hz3, hz0⟩ : ∃ z : Str, x = .str z ∧ isAlpha z = true ∧ z.length ≤ 3 ∧ 0 < z.length := by
    match q, hx with
    | 0, hx => exact ⟨"a", (Option.some.inj hx).symm, by decide +kernel, by decide +kernel, by decide +kernel⟩
    | 1, hx => exact ⟨"ab", (Option.some.inj hx).symm, by decide +kernel, by decide +kernel, by decide +kernel⟩
    | 2, hx => exact ⟨"ab", (Option.some.inj hx).symm, by decide +kernel, by decide +kernel, by decide +kernel⟩
    | 3, hx => exact ⟨"abc", (Option.some.inj hx).symm, by decide +kernel, by decide +kernel, by decide +kernel⟩
    | n + 4, hx => cases hx
  have hza : ascL z.cps.toList = true := by
    simp only [isAlpha, Bool.and_eq_true] at hz; exact hz.2.2
  have hzl := cps_len z
  walk_at "j"
  refine pull_of (by decide) (by decide) rfl hB1 (fun p bag2 hp hB2 => ?_)
  dsimp only [List.set_cons_zero]
  walk_at "j"
  refine ⟨0, bag2, z, 2 + p, rfl, by omega, hza, by omega, by omega, rfl, hB2, fun ls bag3 hls ok hB3 => ?_⟩
  dsimp only [List.set_cons_zero]
  obtain ⟨m, hm⟩ : ∃ m, m = ls.length := ⟨_, rfl⟩
  walk_at "j"
  refine x_lenL rfl ?_
  rw [List.length_map, ← hm]
  walk_at "j"
  refine of_lst (Nat.le_of_ble_eq_true rfl) (Nat.le_of_ble_eq_true rfl) rfl hB3 (fun q2 x2 bag4 hx2 hB4 => ?_)
  dsimp only [List.set_cons_zero]
  obtain ⟨pr, rfl, hpr⟩ : ∃ pr : Nat, x2 = .int (pr : Int) ∧ (pr = 2 ∨ pr = 3 ∨ pr = 5) := by
    match q2, hx2 with
    | 0, hx => exact ⟨2, (Option.some.inj hx).symm, .inl rfl⟩
    | 1, hx => exact ⟨3, (Option.some.inj hx).symm, .inr (.inl rfl)⟩
    | 2, hx => exact ⟨5, (Option.some.inj hx).symm, .inr (.inr rfl)⟩
    | n + 3, hx => cases hx
  have hpp := prime_small hpr
  walk_at "j"
  refine pull_of (by omega) (by omega) rfl hB4 (fun i bag5 hi hB5 => ?_)
  dsimp only [List.set_cons_zero]
  walk_at "j"
  refine pull_of (by omega) (by omega) rfl hB5 (fun j bag6 hj hB6 => ?_)
  dsimp only [List.set_cons_zero]
  walk_at "j"
  have hmin1 : (if ((m : Int) + 1) < (i : Int) then ((m : Int) + 1) else (i : Int)) = i := if_neg (by omega)
  have hmin2 : (if ((m : Int) + 2) < (j : Int) then ((m : Int) + 2) else (j : Int)) = j := if_neg (by omega)
  rw [hmin1, hmin2]
  refine x_addL (by rw [List.length_map]; simp only [List.length_cons, List.length_nil]; omega) ?_
  walk_at "j"
  refine x_addL (by rw [List.length_append, List.length_map]; simp only [List.length_cons, List.length_nil]; omega) ?_
  walk_at "j"
  refine ⟨⟨by omega, by omega⟩, ?_⟩
  rw [show rangeD 0 (pr : Int).toNat = (List.range pr).map (fun (i : Nat) => Dat.int (0 + (i : Int))) from rfl]
  refine' lc_M (List.range pr) _ trivial (by rw [List.length_range]; omega) (f := fun r => encLn (.count i pr r)) ?hs ?k
  case hs =>
    intro r hr Kt Kf hk
    dsimp only [wipeD, List.set_cons_succ, List.set_cons_zero]
    walk_at "j"
    rw [Int.zero_add]
    exact hk
  case k =>
  refine x_addL (by simp only [List.length_append, List.length_map, List.length_cons, List.length_nil, List.length_range]; omega) ?_
  walk_at "j"
  refine x_addL (by simp only [List.length_append, List.length_map, List.length_cons, List.length_nil, List.length_range]; omega) ?_
  have hrows : (ls.map encLn ++ [Dat.tup [.str "since", .int (i : Int), .int (j : Int)], .tup [.str "before", .int (m : Int)], .tup [.str "and", .tup [.int (i : Int), .int ((m : Int) + 1)]], .tup [.str "or", .tup [.int (j : Int), .int ((m : Int) + 2)]]] ++
      [Dat.tup [.str "and", .tup []], .tup [.str "before", .int ((m : Int) + 4)], .tup [.str "not", .int (i : Int)], .tup [.str "before", .int ((m : Int) + 6)], .tup [.str "before", .int (i : Int)], .tup [.str "not", .int ((m : Int) + 8)]] ++
      (List.range pr).map (fun r => encLn (.count i pr r)) ++ [Dat.tup [.str "since", .int ((m : Int) + 4), .int (i : Int)], .tup [.str "since", .int (i : Int), .int ((m : Int) + 4)]]) = (rowsL ls i j pr).map encLn := by
    unfold rowsL
    rw [hm]
    simp only [List.map_append, List.map_map]
    rfl
  rw [hrows]
  have hR : okLns z (rowsL ls i j pr) := rows_ok ok (by omega) (by omega) hpp
  have hRl : (rowsL ls i j pr).length = m + 12 + pr := by rw [rows_len, hm]
  have htold : ∀ w, w ≠ [] → Told ls i pr (rowsL ls i j pr) w := fun w hw => law_told (by omega) (by omega) hw
  rw [hm] at hRl
  generalize rowsL ls i j pr = R at hR hRl htold
  walk_at "j"
  dsimp only [List.cons_append, List.nil_append]
  refine ⟨1, z, .lst (R.map encLn), R, false, rfl, rfl, (by intro h; cases h), rfl, by omega, hz, hR, by omega, by omega, rfl, ?_⟩
  dsimp only [List.set_cons_succ, List.set_cons_zero]
  refine ⟨[bag6], fmD KF z R false, ⟨⟨[fmD KF z R false], rfl⟩, Nat.le_refl _, .inl rfl⟩, .cell (Nat.le_refl _) rfl (.same fm_below), ?_⟩
  walk_at "j"
  refine x_lenS (by omega) ?_
  walk_at "j"
  refine x_ifInt (x := 4) (y := 3) (fun sz hsz => ?_)
  have hsz4 : sz ≤ 4 := by omega
  walk_at "j"
  refine ⟨z, sz, rfl, by omega, by omega, ?_⟩
  walk_at "j"
  refine ⟨_, rfl, ?_⟩
  rw [cutD_map, show (1 : Int) = ((1 : Nat) : Int) from rfl, cut_from]
  have htx : ∀ t ∈ (texts z.cps.toList sz).drop 1, t ≠ [] ∧ t.length ≤ 4 ∧ ∀ c ∈ t, c ∈ z.cps.toList := fun t ht => by
    obtain ⟨h1, h2, h3⟩ := texts_mem z.cps.toList sz t ht
    exact ⟨h1, by omega, h3⟩
  refine for_T ((texts z.cps.toList sz).drop 1) _ (fun pre dl1 S2 => S2 = [bag6] ∧ ∃ (x11 x12 x13 x14 x15 x16 x17 : Option Dat), dl1 = [some (.sq KF ns), some (.cell 0), some (.lst allKinds), some (.str z), some (.lst (ls.map encLn)), some (.int (m : Int)), some (.int (pr : Int)), some (.int (i : Int)), some (.int (j : Int)), some (.lst (R.map encLn)), some (fmD KF z R false), x11, x12, x13, x14, x15, x16, x17]) ?_ ?_ ?_ ?_
  · exact ⟨rfl, _, _, _, _, _, _, _, rfl⟩
  · rintro _ _ _ _; rfl
  · rintro pre t rest dl1 S2 hx ⟨rfl, x11, x12, x13, x14, x15, x16, x17, rfl⟩
    obtain ⟨ht0, ht4, htz⟩ := htx t (by rw [hx]; exact List.mem_append_right _ List.mem_cons_self)
    have htl : (⟨t.toArray⟩ : Str).length = t.length := str_len t
    have htpos : 0 < t.length := List.length_pos_iff.mpr ht0
    have hT := htold t ht0
    have hrl := (runF_len R t).1
    have hV : ∀ q, q < m + 12 + pr → ((runF R t).1.map Dat.bl)[q]? = some (.bl (Tv R t q)) := fun q hq => bls_at (by omega)
    walk_at "j"
    refine ⟨_, _, _, _, rfl, by decide +kernel, List.mem_cons_self, ?_⟩
    walk_at "j"
    refine ⟨_, z, _, R, false, rfl, rfl, hR, by omega, ?_, by rw [htl]; exact htpos, by rw [htl]; omega, ?_⟩
    · exact List.all_eq_true.mpr fun c hc => decide_eq_true (htz c hc)
    walk_at "j"
    have two : decide ((1 : Int) < ((⟨t.toArray⟩ : Str).length : Int)) = decide (1 < t.length) := decide_eq_decide.mpr (by rw [htl]; omega)
    have hsl : (⟨t.toArray⟩ : Str).length ≤ sizeLine := by rw [htl]; omega
    refine x_ixz (n := m) rfl rfl (hV _ (by omega)) ?_
    walk_at "j"
    refine x_ixz (n := m + 3) rfl rfl (hV _ (by omega)) ?_
    walk_at "j"
    refine x_iteF2 (by rw [hm, hT.a]; simp) ?_
    walk_at "j"
    refine x_ixz (n := m + 5) rfl rfl (hV _ (by omega)) ?_
    walk_at "j"
    refine x_lenS hsl ?_
    walk_at "j"
    refine x_iteF2 (by show (!decide (Tv R t (m + 5) = decide ((1 : Int) < ((⟨t.toArray⟩ : Str).length : Int)))) = false; rw [two, hm, hT.b]; simp) ?_
    walk_at "j"
    refine x_ixz (n := m + 7) rfl rfl (hV _ (by omega)) ?_
    walk_at "j"
    refine x_ixz (n := m + 9) rfl rfl (hV _ (by omega)) ?_
    walk_at "j"
    refine x_andB (b := decide (1 < t.length)) (fun K' hk => ?_) ?_
    · walk_at "j"
      refine x_lenS hsl ?_
      walk_at "j"
      show K' (.bl (decide ((1 : Int) < ((⟨t.toArray⟩ : Str).length : Int)))) _
      rw [two]; exact hk
    walk_at "j"
    refine x_iteF2 (by rw [hm, hT.c]; simp) ?_
    walk_at "j"
    refine ⟨⟨by omega, by omega⟩, ?_⟩
    rw [show rangeD 0 (pr : Int).toNat = (List.range pr).map (fun (i : Nat) => Dat.int (0 + (i : Int))) from rfl]
    refine' lc_M (List.range pr) _ trivial (by rw [List.length_range]; omega) (f := fun r => .bl (decide (trues (seenL R i t) % pr = r))) ?hs ?k
    case hs =>
      intro r hr Kt Kf hk
      have hr := List.mem_range.mp hr
      dsimp only [wipeD, List.set_cons_succ, List.set_cons_zero]
      walk_at "j"
      refine x_ixz (n := m + 10 + r) (by omega) rfl (hV _ (by omega)) ?_
      rw [hm, hT.d r hr]
      exact hk
    case k =>
    walk_at "j"
    refine ⟨_, rfl, ?_⟩
    refine' lc_T (List.range pr) (fun r => Dat.bl (decide (trues (seenL R i t) % pr = r))) rfl (by rw [List.length_range]; omega) (p := fun r => decide (trues (seenL R i t) % pr = r)) (f := fun r => .bl (decide (trues (seenL R i t) % pr = r))) ?hs ?k
    case hs =>
      intro r hr Kt Kf h1 h2
      dsimp only [wipeD, List.set_cons_succ, List.set_cons_zero]
      walk_at "j"
      refine x_ite (fun e => ?_) (fun e => h2 e)
      walk_at "j"
      exact h1 e
    case k =>
    rw [tru_filter2 _ (Nat.mod_lt _ (by omega))]
    walk_at "j"
    refine x_neP (p := .list [.bool true]) (q := .list [.bool true]) rfl (.lst (.cons .bl .nil)) (.lst (.cons .bl .nil)) rfl rfl ?_
    walk_at "j"
    refine x_ixz (n := m + 11 + pr) rfl rfl (hV _ (by omega)) ?_
    walk_at "j"
    refine x_iteF2 (by rw [hm, hT.e]; rfl) ?_
    walk_at "j"
    refine x_lenS hsl ?_
    rw [htl]
    walk_at "j"
    refine ⟨⟨by omega, by omega⟩, ?_⟩
    rw [show rangeD 0 (t.length : Int).toNat = (List.range t.length).map (fun (i : Nat) => Dat.int (0 + (i : Int))) from rfl]
    refine' lc_M (List.range t.length) _ trivial (by rw [List.length_range]; omega) (f := fun q => .bl (Tv R (t.take (q + 1)) i)) ?hs ?k
    case hs =>
      intro q hq Kt Kf hk
      have hq := List.mem_range.mp hq
      dsimp only [wipeD, List.set_cons_succ, List.set_cons_zero]
      walk_at "j"
      refine ⟨_, _, _, _, rfl, by decide +kernel, List.mem_cons_self, ?_⟩
      walk_at "j"
      refine x_slS hsl ?_
      walk_at "j"
      have hcut : (cutS (⟨t.toArray⟩ : Str) none (some (0 + (q : Int) + 1))).cps.toList = t.take (q + 1) := by
        rw [show (0 : Int) + (q : Int) + 1 = ((q + 1 : Nat) : Int) by omega]; exact cutS_to _ _
      have hcl : (cutS (⟨t.toArray⟩ : Str) none (some (0 + (q : Int) + 1))).length = q + 1 := by rw [← cps_len, hcut, List.length_take]; omega
      refine ⟨_, z, cutS (⟨t.toArray⟩ : Str) none (some (0 + (q : Int) + 1)), R, false, rfl, rfl, hR, by omega, ?_, by rw [hcl]; omega, by rw [hcl]; omega, ?_⟩
      · unfold isWord
        rw [hcut]
        exact List.all_eq_true.mpr fun c hc => decide_eq_true (htz c (List.mem_of_mem_take hc))
      rw [hcut]
      walk_at "j"
      refine x_ixz (n := i) rfl rfl (bls_at (by rw [(runF_len R _).1]; omega)) ?_
      exact hk
    case k =>
    have hseen : ((List.range t.length).map fun q => Dat.bl (Tv R (t.take (q + 1)) i)) = (seenL R i t).map Dat.bl := by unfold seenL; rw [List.map_map]; rfl
    rw [hseen]
    have hsl2 : (seenL R i t).length ≤ 4 := by unfold seenL; rw [List.length_map, List.length_range]; exact ht4
    walk_at "j"
    refine x_ixz (n := m + 10 + pr) rfl rfl (hV _ (by omega)) ?_
    walk_at "j"
    refine ⟨_, _, rfl, inF_bls _, ?_⟩
    walk_at "j"
    refine x_iteF2 (by rw [hm, hT.f]; simp) ?_
    walk_at "j"
    refine ⟨_, rfl, ?_⟩
    refine' lc_T (seenL R i t) Dat.bl rfl (by omega) (p := fun b => b) (f := Dat.bl) ?hs ?k
    case hs =>
      intro r hr Kt Kf h1 h2
      dsimp only [wipeD, List.set_cons_succ, List.set_cons_zero]
      walk_at "j"
      refine x_ite (fun e => ?_) (fun e => h2 e)
      walk_at "j"
      exact h1 e
    case k =>
    walk_at "j"
    refine x_lenL rfl ?_
    rw [List.length_map, show ((seenL R i t).filter fun b => b).length = trues (seenL R i t) from rfl]
    walk_at "j"
    refine x_mod (by omega) ?_
    walk_at "j"
    have hmod := Nat.mod_lt (trues (seenL R i t)) (show 0 < pr by omega)
    refine x_ixz (n := trues (seenL R i t) % pr) rfl rfl (y := .bl true) (by rw [List.getElem?_map, List.getElem?_range hmod]; simp) ?_
    walk_at "j"
    exact .inl ⟨rfl, _, _, _, _, _, _, _, rfl⟩
  · rintro dl1 S2 ⟨rfl, x11, x12, x13, x14, x15, x16, x17, rfl⟩
    walk_at "j"
    exact fin _
end DL
namespace DL.KL
open PySem L2 DL
abbrev R : PySem.W.OpenRow := PySem.W.OpenLaw.row PySem.Challenge.rw_onlyahead_k29_whole_rules_of_formulas
def top (i : Nat) : Stmt := PySem.Challenge.pw_onlyahead_k29_whole_rules_of_formulas.main.body.getD i (.Pass ⟨0, 0, 0, 0⟩)
abbrev s_is_number : Stmt := top 11
abbrev N_is_number : List Str := ["value", "least", "most"]
theorem sc_is_number : FnScope N_is_number ["value", "least", "most"] (defScope s_is_number) := ⟨rfl, rfl, rfl, by decide +kernel, rfl, by decide +kernel, by decide +kernel⟩
abbrev s_is_prime : Stmt := top 12
abbrev N_is_prime : List Str := ["value", "most", "divisor"]
theorem sc_is_prime : FnScope N_is_prime ["value", "most"] (defScope s_is_prime) := ⟨rfl, rfl, rfl, by decide +kernel, rfl, by decide +kernel, by decide +kernel⟩
abbrev s_ascends : Stmt := top 13
abbrev N_ascends : List Str := ["letters", "one", "other"]
theorem sc_ascends : FnScope N_ascends ["letters"] (defScope s_ascends) := ⟨rfl, rfl, rfl, by decide +kernel, rfl, by decide +kernel, by decide +kernel⟩
abbrev s_is_alphabet : Stmt := top 14
abbrev N_is_alphabet : List Str := ["value", "sign"]
theorem sc_is_alphabet : FnScope N_is_alphabet ["value"] (defScope s_is_alphabet) := ⟨rfl, rfl, rfl, by decide +kernel, rfl, by decide +kernel, by decide +kernel⟩
abbrev s_is_word : Stmt := top 15
abbrev N_is_word : List Str := ["alphabet", "value", "sign"]
theorem sc_is_word : FnScope N_is_word ["alphabet", "value"] (defScope s_is_word) := ⟨rfl, rfl, rfl, by decide +kernel, rfl, by decide +kernel, by decide +kernel⟩
abbrev s_need_alphabet : Stmt := top 16
abbrev N_need_alphabet : List Str := ["value"]
theorem sc_need_alphabet : FnScope N_need_alphabet ["value"] (defScope s_need_alphabet) := ⟨rfl, rfl, rfl, by decide +kernel, rfl, by decide +kernel, by decide +kernel⟩
abbrev s_are_refs : Stmt := top 29
abbrev N_are_refs : List Str := ["value", "at", "ref"]
theorem sc_are_refs : FnScope N_are_refs ["value", "at"] (defScope s_are_refs) := ⟨rfl, rfl, rfl, by decide +kernel, rfl, by decide +kernel, by decide +kernel⟩
abbrev s_is_line : Stmt := top 30
abbrev N_is_line : List Str := ["line", "at", "alphabet", "word", "many", "ref"]
theorem sc_is_line : FnScope N_is_line ["line", "at", "alphabet"] (defScope s_is_line) := ⟨rfl, rfl, rfl, by decide +kernel, rfl, by decide +kernel, by decide +kernel⟩
abbrev s_plain_truth : Stmt := top 31
abbrev N_plain_truth : List Str := ["line", "truths", "letter", "found", "ref"]
theorem sc_plain_truth : FnScope N_plain_truth ["line", "truths", "letter"] (defScope s_plain_truth) := ⟨rfl, rfl, rfl, by decide +kernel, rfl, by decide +kernel, by decide +kernel⟩
abbrev s_truths_along : Stmt := top 32
abbrev N_truths_along : List Str := ["lines", "word", "last", "counts", "letter", "found", "at", "line"]
theorem sc_truths_along : FnScope N_truths_along ["lines", "word"] (defScope s_truths_along) := ⟨rfl, rfl, rfl, by decide +kernel, rfl, by decide +kernel, by decide +kernel⟩
abbrev s_Formula_init : Stmt := inClass (top 33) 1
abbrev N_Formula_init : List Str := ["self", "alphabet", "lines", "first", "at", "line"]
theorem sc_Formula_init : FnScope N_Formula_init ["self", "alphabet", "lines", "first"] (defScope s_Formula_init) := ⟨rfl, rfl, rfl, by decide +kernel, rfl, by decide +kernel, by decide +kernel⟩
abbrev s_Formula_truths : Stmt := inClass (top 33) 5
abbrev N_Formula_truths : List Str := ["self", "word"]
theorem sc_Formula_truths : FnScope N_Formula_truths ["self", "word"] (defScope s_Formula_truths) := ⟨rfl, rfl, rfl, by decide +kernel, rfl, by decide +kernel, by decide +kernel⟩
abbrev s_law_bag : Stmt := top 38
abbrev N_law_bag : List Str := ["_law_script", "_law_mixed", "_law_cell"]
theorem sc_law_bag : FnScope N_law_bag ["_law_script"] (defScope s_law_bag) := ⟨rfl, rfl, rfl, by decide +kernel, rfl, by decide +kernel, by decide +kernel⟩
abbrev s_law_pull : Stmt := top 39
abbrev N_law_pull : List Str := ["_law_bag_here", "_law_sides", "_law_cell", "_law_digit", "_law_twice"]
theorem sc_law_pull : FnScope N_law_pull ["_law_bag_here", "_law_sides"] (defScope s_law_pull) := ⟨rfl, rfl, rfl, by decide +kernel, rfl, by decide +kernel, by decide +kernel⟩
abbrev s_law_of : Stmt := top 40
abbrev N_law_of : List Str := ["_law_bag_here", "_law_some"]
theorem sc_law_of : FnScope N_law_of ["_law_bag_here", "_law_some"] (defScope s_law_of) := ⟨rfl, rfl, rfl, by decide +kernel, rfl, by decide +kernel, by decide +kernel⟩
abbrev s_law_texts : Stmt := top 41
abbrev N_law_texts : List Str := ["_law_signs", "_law_size", "_law_found", "_law_level", "_law_k"]
theorem sc_law_texts : FnScope N_law_texts ["_law_signs", "_law_size"] (defScope s_law_texts) := ⟨rfl, rfl, rfl, by decide +kernel, rfl, by decide +kernel, by decide +kernel⟩
abbrev s_law_longer : Stmt := top 42
abbrev N_law_longer : List Str := ["_law_level", "_law_signs", "_law_found", "_law_text", "_law_sign"]
theorem sc_law_longer : FnScope N_law_longer ["_law_level", "_law_signs"] (defScope s_law_longer) := ⟨rfl, rfl, rfl, by decide +kernel, rfl, by decide +kernel, by decide +kernel⟩
abbrev s_law_saying : Stmt := top 43
abbrev N_law_saying : List Str := ["_law_bag_here", "_law_signs", "_law_many", "_law_kinds", "_law_lines", "_law_at", "_law_kind", "_law_near", "_law_prime", "_law_ref"]
theorem sc_law_saying : FnScope N_law_saying ["_law_bag_here", "_law_signs", "_law_many", "_law_kinds"] (defScope s_law_saying) := ⟨rfl, rfl, rfl, by decide +kernel, rfl, by decide +kernel, by decide +kernel⟩
abbrev s_law_some_signs : Stmt := top 44
abbrev N_law_some_signs : List Str := ["_law_bag_here", "_law_signs", "_law_sign"]
theorem sc_law_some_signs : FnScope N_law_some_signs ["_law_bag_here", "_law_signs"] (defScope s_law_some_signs) := ⟨rfl, rfl, rfl, by decide +kernel, rfl, by decide +kernel, by decide +kernel⟩
abbrev s_law : Stmt := top 45
abbrev N_law : List Str := ["_law_script", "_law_bag_here", "_law_kinds", "_law_signs", "_law_lines", "_law_many", "_law_prime", "_law_i", "_law_j", "_law_rows", "_law_made", "_law_text", "_law_told", "_law_late", "_law_seen", "_law_rest", "_law_one", "_law_size"]
theorem sc_law : FnScope N_law ["_law_script"] (defScope s_law) := ⟨rfl, rfl, rfl, by decide +kernel, rfl, by decide +kernel, by decide +kernel⟩
structure Tx (K : PySem.W.Frag) (mg : Str → Option Value) : Prop where
  n_int : mg "int" = none
  n_isinstance : mg "isinstance" = none
  n_bool : mg "bool" = none
  g_is_number : mg "is_number" = some (.ref (He.ga K "is_number"))
  n_zip : mg "zip" = none
  n_all : mg "all" = none
  n_str : mg "str" = none
  n_len : mg "len" = none
  i_MOST_LETTERS : ∃ t, mg "MOST_LETTERS" = some (.int 4 t)
  s_SMALL : ∃ t, mg "SMALL" = some (.str "abcdefghijklmnopqrstuvwxyz" t)
  g_ascends : mg "ascends" = some (.ref (He.ga K "ascends"))
  g_is_alphabet : mg "is_alphabet" = some (.ref (He.ga K "is_alphabet"))
  n_tuple : mg "tuple" = none
  g_is_word : mg "is_word" = some (.ref (He.ga K "is_word"))
  g_are_refs : mg "are_refs" = some (.ref (He.ga K "are_refs"))
  i_MOST_PRIME : ∃ t, mg "MOST_PRIME" = some (.int 97 t)
  g_is_prime : mg "is_prime" = some (.ref (He.ga K "is_prime"))
  n_any : mg "any" = none
  n_enumerate : mg "enumerate" = none
  g_plain_truth : mg "plain_truth" = some (.ref (He.ga K "plain_truth"))
  g_need_alphabet : mg "need_alphabet" = some (.ref (He.ga K "need_alphabet"))
  n_list : mg "list" = none
  i_MOST_LINES : ∃ t, mg "MOST_LINES" = some (.int 4000 t)
  g_is_line : mg "is_line" = some (.ref (He.ga K "is_line"))
  cl_Formula : Cls K (He.ga K "Formula")
  na_Formula_own_alphabet : NoAttr K (He.ga K "Formula") "own_alphabet"
  na_Formula_own_lines : NoAttr K (He.ga K "Formula") "own_lines"
  na_Formula_own_first : NoAttr K (He.ga K "Formula") "own_first"
  g_truths_along : mg "truths_along" = some (.ref (He.ga K "truths_along"))
  n_abs : mg "abs" = none
  g_law_pull : mg "_law_pull" = some (.ref (He.ga K "_law_pull"))
  n_range : mg "range" = none
  g_law_longer : mg "_law_longer" = some (.ref (He.ga K "_law_longer"))
  g_law_some_signs : mg "_law_some_signs" = some (.ref (He.ga K "_law_some_signs"))
  g_law_of : mg "_law_of" = some (.ref (He.ga K "_law_of"))
  g_law_bag : mg "_law_bag" = some (.ref (He.ga K "_law_bag"))
  g_law_saying : mg "_law_saying" = some (.ref (He.ga K "_law_saying"))
  n_min : mg "min" = none
  g_Formula : mg "Formula" = some (.ref (He.ga K "Formula"))
  g_law_texts : mg "_law_texts" = some (.ref (He.ga K "_law_texts"))
  me_Formula_truths : Meth K (He.ga K "Formula") "truths" (He.ma K (He.ga K "Formula") "truths")
  mk_Formula : Mk K (He.ga K "Formula") (He.ma K (He.ga K "Formula") "__init__")
  d_is_number : ∃ fd, FunD K "is_number" "is_number" (defArgs s_is_number) (defBody s_is_number) (defScope s_is_number) [.non] [] (He.ga K "is_number") fd
  d_is_prime : ∃ fd, FunD K "is_prime" "is_prime" (defArgs s_is_prime) (defBody s_is_prime) (defScope s_is_prime) [] [] (He.ga K "is_prime") fd
  d_ascends : ∃ fd, FunD K "ascends" "ascends" (defArgs s_ascends) (defBody s_ascends) (defScope s_ascends) [] [] (He.ga K "ascends") fd
  d_is_alphabet : ∃ fd, FunD K "is_alphabet" "is_alphabet" (defArgs s_is_alphabet) (defBody s_is_alphabet) (defScope s_is_alphabet) [] [] (He.ga K "is_alphabet") fd
  d_is_word : ∃ fd, FunD K "is_word" "is_word" (defArgs s_is_word) (defBody s_is_word) (defScope s_is_word) [] [] (He.ga K "is_word") fd
  d_need_alphabet : ∃ fd, FunD K "need_alphabet" "need_alphabet" (defArgs s_need_alphabet) (defBody s_need_alphabet) (defScope s_need_alphabet) [] [] (He.ga K "need_alphabet") fd
  d_are_refs : ∃ fd, FunD K "are_refs" "are_refs" (defArgs s_are_refs) (defBody s_are_refs) (defScope s_are_refs) [] [] (He.ga K "are_refs") fd
  d_is_line : ∃ fd, FunD K "is_line" "is_line" (defArgs s_is_line) (defBody s_is_line) (defScope s_is_line) [] [] (He.ga K "is_line") fd
  d_plain_truth : ∃ fd, FunD K "plain_truth" "plain_truth" (defArgs s_plain_truth) (defBody s_plain_truth) (defScope s_plain_truth) [] [] (He.ga K "plain_truth") fd
  d_truths_along : ∃ fd, FunD K "truths_along" "truths_along" (defArgs s_truths_along) (defBody s_truths_along) (defScope s_truths_along) [] [] (He.ga K "truths_along") fd
  d_Formula_init : ∃ fd, FunD K "__init__" "Formula.__init__" (defArgs s_Formula_init) (defBody s_Formula_init) (defScope s_Formula_init) [] [("first", .bl false)] (He.ma K (He.ga K "Formula") "__init__") fd
  d_Formula_truths : ∃ fd, FunD K "truths" "Formula.truths" (defArgs s_Formula_truths) (defBody s_Formula_truths) (defScope s_Formula_truths) [] [] (He.ma K (He.ga K "Formula") "truths") fd
  d_law_bag : ∃ fd, FunD K "_law_bag" "_law_bag" (defArgs s_law_bag) (defBody s_law_bag) (defScope s_law_bag) [] [] (He.ga K "_law_bag") fd
  d_law_pull : ∃ fd, FunD K "_law_pull" "_law_pull" (defArgs s_law_pull) (defBody s_law_pull) (defScope s_law_pull) [] [] (He.ga K "_law_pull") fd
  d_law_of : ∃ fd, FunD K "_law_of" "_law_of" (defArgs s_law_of) (defBody s_law_of) (defScope s_law_of) [] [] (He.ga K "_law_of") fd
  d_law_texts : ∃ fd, FunD K "_law_texts" "_law_texts" (defArgs s_law_texts) (defBody s_law_texts) (defScope s_law_texts) [] [] (He.ga K "_law_texts") fd
  d_law_longer : ∃ fd, FunD K "_law_longer" "_law_longer" (defArgs s_law_longer) (defBody s_law_longer) (defScope s_law_longer) [] [] (He.ga K "_law_longer") fd
  d_law_saying : ∃ fd, FunD K "_law_saying" "_law_saying" (defArgs s_law_saying) (defBody s_law_saying) (defScope s_law_saying) [] [] (He.ga K "_law_saying") fd
  d_law_some_signs : ∃ fd, FunD K "_law_some_signs" "_law_some_signs" (defArgs s_law_some_signs) (defBody s_law_some_signs) (defScope s_law_some_signs) [] [] (He.ga K "_law_some_signs") fd
  d_law : ∃ fd, FunD K "law" "law" (defArgs s_law) (defBody s_law) (defScope s_law) [] [] (He.ga K "law") fd
section
variable {P : Program} {w : World} {K : PySem.W.Frag} {mg : Str → Option Value}
theorem ok_is_number (T : Tx K mg) (base : Heap) : ∃ fd, FunD K "is_number" "is_number" (defArgs s_is_number) (defBody s_is_number) (defScope s_is_number) [.non] [] (He.ga K "is_number") fd ∧ FnOk P w K mg base (L2.CX P w) 1 (He.ga K "is_number") fd ["value", "least", "most"] (spOf (sp_is_number K)) := by
  obtain ⟨fd, F⟩ := T.d_is_number
  refine ⟨fd, F, fnD (k := 0) F sc_is_number (fun ds S K X h => len_is_number h) ?hb (u := u_is_number K) (fun ds S K X h hb hS => r_is_number h hb hS)⟩
  intro cdv A outer s H E hr tk
  exact ⟨_, (dss_cons (ds_if (DW.dt (dw_or (dt_not (dt_tru (de_callB dcb_isi T.n_isinstance (da_cons (de_var 0) (da_cons (de_ty T.n_int) da_nil))))) (dw_or (dt_tru (de_callB dcb_isi T.n_isinstance (da_cons (de_var 0) (da_cons (de_ty T.n_bool) da_nil)))) (dw_or1 (dt_cmp dop_lt (de_var 0) (de_var 1)))))) (dss_one (ds_ret de_bl)) dss_nil)
    (dss_one (ds_ret (de_or (de_cmp dop_is (de_var 2) de_non) (de_one (de_cmp dop_le (de_var 0) (de_var 2)))))))⟩
theorem cis_number_3 (T : Tx K mg) (base : Heap) : CalleeV P w K mg base 1 (He.ga K "is_number") ["value", "least", "most"] (sp_is_number K) [] [] := by
  obtain ⟨fd, F, G⟩ := ok_is_number (P := P) (w := w) T base
  obtain ⟨ds, vd, b⟩ := F.binds1 (ps := ["value", "least", "most"]) 3 1 (by simp) rfl (fun _ _ _ _ _ _ _ us its l1 l2 => match us, its, l1, l2 with | [_, _, _], [_], _, _ => ⟨_, rfl, rfl⟩)
  exact ⟨fd, ds, G, F.kp, b, vd, True.intro⟩
theorem ok_is_prime (T : Tx K mg) (base : Heap) : ∃ fd, FunD K "is_prime" "is_prime" (defArgs s_is_prime) (defBody s_is_prime) (defScope s_is_prime) [] [] (He.ga K "is_prime") fd ∧ FnOk P w K mg base (L2.CX P w) 2 (He.ga K "is_prime") fd ["value", "most"] (spOf (sp_is_prime K)) := by
  have c_is_number_3 := cis_number_3 (P := P) (w := w) T base
  obtain ⟨fd, F⟩ := T.d_is_prime
  refine ⟨fd, F, fnD (k := 1) F sc_is_prime (fun ds S K X h => len_is_prime h) ?hb (u := u_is_prime K) (fun ds S K X h hb hS => r_is_prime h hb hS)⟩
  intro cdv A outer s H E hr tk
  exact ⟨_, (dss_cons (ds_if (dt_not (dt_tru (de_callF c_is_number_3 hr (by first | decide | omega) T.g_is_number tk (da_cons (de_var 0) (da_cons de_int (da_cons (de_var 1) da_nil)))))) (dss_one (ds_ret de_bl)) dss_nil)
    (dss_cons (ds_set (i := 2) sc_is_prime.nd de_int)
    (dss_cons (ds_while (passes_of rfl) (dt_cmp dop_le (de_bin dop_mul (de_var 2) (de_var 2)) (de_var 0)) (dss_cons (ds_if (dt_cmp (dop_eq hr.units) (de_bin dop_mod (de_var 0) (de_var 2)) de_int) (dss_one (ds_ret de_bl)) dss_nil)
    (dss_one (ds_set (i := 2) sc_is_prime.nd (de_bin dop_add (de_var 2) de_int)))))
    (dss_one (ds_ret de_bl)))))⟩
theorem cis_prime_2 (T : Tx K mg) (base : Heap) : CalleeV P w K mg base 2 (He.ga K "is_prime") ["value", "most"] (sp_is_prime K) [] [] := by
  obtain ⟨fd, F, G⟩ := ok_is_prime (P := P) (w := w) T base
  obtain ⟨ds, vd, b⟩ : ∃ ds, Vals [] ds ∧ Binds K fd ["value", "most"] ds := ⟨[], .nil, F.bindsN (fun _ _ _ _ _ _ us hl => match us, hl with | [_, _], _ => rfl)⟩
  exact ⟨fd, ds, G, F.kp, b, vd, True.intro⟩
theorem ok_ascends (T : Tx K mg) (base : Heap) : ∃ fd, FunD K "ascends" "ascends" (defArgs s_ascends) (defBody s_ascends) (defScope s_ascends) [] [] (He.ga K "ascends") fd ∧ FnOk P w K mg base (L2.CX P w) 1 (He.ga K "ascends") fd ["letters"] (spOf (sp_ascends K)) := by
  obtain ⟨fd, F⟩ := T.d_ascends
  refine ⟨fd, F, fnD (k := 0) F sc_ascends (fun ds S K X h => len_ascends h) ?hb (u := u_ascends K) (fun ds S K X h hb hS => r_ascends h hb hS)⟩
  intro cdv A outer s H E hr tk
  exact ⟨_, (dss_one (ds_ret (de_callB (dcb_all rfl) T.n_all (da_cons (de_lc (own := [("one", 1), ("other", 2)]) rfl sc_ascends.nd (di_zip T.n_zip (da_cons (de_var 0) (da_cons (de_sl (de_var 0) (do_some de_int) do_none) da_nil))) (blkOk_by (N := N_ascends) (sc := defScope s_ascends) (by decide +kernel)) (fun _ _ _ _ _ => (dg_tupK K rfl rfl (dgs_cons (dg_name (i := 1) sc_ascends.nd) (dgs_cons (dg_name (i := 2) sc_ascends.nd) dgs_nil)))) (fun _ _ _ _ _ => dts_nil) (fun _ _ _ _ _ => (de_cmp dop_lt (de_var 1) (de_var 2))) (by decide)) da_nil))))⟩
theorem cascends_1 (T : Tx K mg) (base : Heap) : CalleeV P w K mg base 1 (He.ga K "ascends") ["letters"] (sp_ascends K) [] [] := by
  obtain ⟨fd, F, G⟩ := ok_ascends (P := P) (w := w) T base
  obtain ⟨ds, vd, b⟩ : ∃ ds, Vals [] ds ∧ Binds K fd ["letters"] ds := ⟨[], .nil, F.bindsN (fun _ _ _ _ _ _ us hl => match us, hl with | [_], _ => rfl)⟩
  exact ⟨fd, ds, G, F.kp, b, vd, True.intro⟩
theorem ok_is_alphabet (T : Tx K mg) (base : Heap) : ∃ fd, FunD K "is_alphabet" "is_alphabet" (defArgs s_is_alphabet) (defBody s_is_alphabet) (defScope s_is_alphabet) [] [] (He.ga K "is_alphabet") fd ∧ FnOk P w K mg base (L2.CX P w) 2 (He.ga K "is_alphabet") fd ["value"] (spOf (sp_is_alphabet K)) := by
  have c_ascends_1 := cascends_1 (P := P) (w := w) T base
  obtain ⟨fd, F⟩ := T.d_is_alphabet
  refine ⟨fd, F, fnD (k := 1) F sc_is_alphabet (fun ds S K X h => len_is_alphabet h) ?hb (u := u_is_alphabet K) (fun ds S K X h hb hS => r_is_alphabet h hb hS)⟩
  intro cdv A outer s H E hr tk
  exact ⟨_, (dss_cons (ds_if (DW.dt (dw_or (dt_not (dt_tru (de_callB dcb_isi T.n_isinstance (da_cons (de_var 0) (da_cons (de_ty T.n_str) da_nil))))) (dw_or1 (dt_not (dt_chain dop_le dop_le de_int (de_callB dcb_len T.n_len (da_cons (de_var 0) da_nil)) (de_gint T.i_MOST_LETTERS)))))) (dss_one (ds_ret de_bl)) dss_nil)
    (dss_one (ds_ret (de_and (de_callB (dcb_all rfl) T.n_all (da_cons (de_lc (own := [("sign", 1)]) rfl sc_is_alphabet.nd (di_seq (de_var 0)) (blkOk_by (N := N_is_alphabet) (sc := defScope s_is_alphabet) (by decide +kernel)) (fun _ _ _ _ _ => (dg_name (i := 1) sc_is_alphabet.nd)) (fun _ _ _ _ _ => dts_nil) (fun _ _ _ _ _ => (de_cmp (dop_inK K rfl) (de_var 1) (de_gstr T.s_SMALL))) (by decide)) da_nil)) (de_one (de_callF c_ascends_1 hr (by first | decide | omega) T.g_ascends tk (da_cons (de_var 0) da_nil)))))))⟩
theorem cis_alphabet_1 (T : Tx K mg) (base : Heap) : CalleeV P w K mg base 2 (He.ga K "is_alphabet") ["value"] (sp_is_alphabet K) [] [] := by
  obtain ⟨fd, F, G⟩ := ok_is_alphabet (P := P) (w := w) T base
  obtain ⟨ds, vd, b⟩ : ∃ ds, Vals [] ds ∧ Binds K fd ["value"] ds := ⟨[], .nil, F.bindsN (fun _ _ _ _ _ _ us hl => match us, hl with | [_], _ => rfl)⟩
  exact ⟨fd, ds, G, F.kp, b, vd, True.intro⟩
theorem ok_is_word (T : Tx K mg) (base : Heap) : ∃ fd, FunD K "is_word" "is_word" (defArgs s_is_word) (defBody s_is_word) (defScope s_is_word) [] [] (He.ga K "is_word") fd ∧ FnOk P w K mg base (L2.CX P w) 1 (He.ga K "is_word") fd ["alphabet", "value"] (spOf (sp_is_word K)) := by
  obtain ⟨fd, F⟩ := T.d_is_word
  refine ⟨fd, F, fnD (k := 0) F sc_is_word (fun ds S K X h => len_is_word h) ?hb (u := u_is_word K) (fun ds S K X h hb hS => r_is_word h hb hS)⟩
  intro cdv A outer s H E hr tk
  exact ⟨_, (dss_one (ds_ret (de_and (de_callB dcb_isi T.n_isinstance (da_cons (de_var 1) (da_cons (de_ty T.n_str) da_nil))) (de_one (de_callB (dcb_all rfl) T.n_all (da_cons (de_lc (own := [("sign", 2)]) rfl sc_is_word.nd (di_seq (de_var 1)) (blkOk_by (N := N_is_word) (sc := defScope s_is_word) (by decide +kernel)) (fun _ _ _ _ _ => (dg_name (i := 2) sc_is_word.nd)) (fun _ _ _ _ _ => dts_nil) (fun _ _ _ _ _ => (de_cmp (dop_inK K rfl) (de_var 2) (de_var 0))) (by decide)) da_nil))))))⟩
theorem cis_word_2 (T : Tx K mg) (base : Heap) : CalleeV P w K mg base 1 (He.ga K "is_word") ["alphabet", "value"] (sp_is_word K) [] [] := by
  obtain ⟨fd, F, G⟩ := ok_is_word (P := P) (w := w) T base
  obtain ⟨ds, vd, b⟩ : ∃ ds, Vals [] ds ∧ Binds K fd ["alphabet", "value"] ds := ⟨[], .nil, F.bindsN (fun _ _ _ _ _ _ us hl => match us, hl with | [_, _], _ => rfl)⟩
  exact ⟨fd, ds, G, F.kp, b, vd, True.intro⟩
theorem ok_need_alphabet (T : Tx K mg) (base : Heap) : ∃ fd, FunD K "need_alphabet" "need_alphabet" (defArgs s_need_alphabet) (defBody s_need_alphabet) (defScope s_need_alphabet) [] [] (He.ga K "need_alphabet") fd ∧ FnOk P w K mg base (L2.CX P w) 3 (He.ga K "need_alphabet") fd ["value"] (spOf (sp_need_alphabet K)) := by
  have c_is_alphabet_1 := cis_alphabet_1 (P := P) (w := w) T base
  obtain ⟨fd, F⟩ := T.d_need_alphabet
  refine ⟨fd, F, fnD (k := 2) F sc_need_alphabet (fun ds S K X h => len_need_alphabet h) ?hb (u := u_need_alphabet K) (fun ds S K X h hb hS => r_need_alphabet h hb hS)⟩
  intro cdv A outer s H E hr tk
  exact ⟨_, (dss_one (ds_if (dt_not (dt_tru (de_callF c_is_alphabet_1 hr (by first | decide | omega) T.g_is_alphabet tk (da_cons (de_var 0) da_nil)))) (dss_one ds_dead) dss_nil))⟩
theorem cneed_alphabet_1 (T : Tx K mg) (base : Heap) : CalleeV P w K mg base 3 (He.ga K "need_alphabet") ["value"] (sp_need_alphabet K) [] [] := by
  obtain ⟨fd, F, G⟩ := ok_need_alphabet (P := P) (w := w) T base
  obtain ⟨ds, vd, b⟩ : ∃ ds, Vals [] ds ∧ Binds K fd ["value"] ds := ⟨[], .nil, F.bindsN (fun _ _ _ _ _ _ us hl => match us, hl with | [_], _ => rfl)⟩
  exact ⟨fd, ds, G, F.kp, b, vd, True.intro⟩
theorem ok_are_refs (T : Tx K mg) (base : Heap) : ∃ fd, FunD K "are_refs" "are_refs" (defArgs s_are_refs) (defBody s_are_refs) (defScope s_are_refs) [] [] (He.ga K "are_refs") fd ∧ FnOk P w K mg base (L2.CX P w) 2 (He.ga K "are_refs") fd ["value", "at"] (spOf (sp_are_refs K)) := by
  have c_is_number_3 := cis_number_3 (P := P) (w := w) T base
  have c_ascends_1 := cascends_1 (P := P) (w := w) T base
  obtain ⟨fd, F⟩ := T.d_are_refs
  refine ⟨fd, F, fnD (k := 1) F sc_are_refs (fun ds S K X h => len_are_refs h) ?hb (u := u_are_refs K) (fun ds S K X h hb hS => r_are_refs h hb hS)⟩
  intro cdv A outer s H E hr tk
  exact ⟨_, (dss_one (ds_ret (de_and (de_callB dcb_isi T.n_isinstance (da_cons (de_var 0) (da_cons (de_ty T.n_tuple) da_nil))) (de_and (de_callB (dcb_all rfl) T.n_all (da_cons (de_lc (own := [("ref", 2)]) rfl sc_are_refs.nd (di_seq (de_var 0)) (blkOk_by (N := N_are_refs) (sc := defScope s_are_refs) (by decide +kernel)) (fun _ _ _ _ _ => (dg_name (i := 2) sc_are_refs.nd)) (fun _ _ _ _ _ => dts_nil) (fun _ _ _ _ _ => (de_callF c_is_number_3 hr (by first | decide | omega) T.g_is_number takes_none5 (da_cons (de_var 2) (da_cons de_int (da_cons (de_bin dop_sub (de_var 1) de_int) da_nil))))) (by decide)) da_nil)) (de_one (de_callF c_ascends_1 hr (by first | decide | omega) T.g_ascends tk (da_cons (de_var 0) da_nil)))))))⟩
theorem care_refs_2 (T : Tx K mg) (base : Heap) : CalleeV P w K mg base 2 (He.ga K "are_refs") ["value", "at"] (sp_are_refs K) [] [] := by
  obtain ⟨fd, F, G⟩ := ok_are_refs (P := P) (w := w) T base
  obtain ⟨ds, vd, b⟩ : ∃ ds, Vals [] ds ∧ Binds K fd ["value", "at"] ds := ⟨[], .nil, F.bindsN (fun _ _ _ _ _ _ us hl => match us, hl with | [_, _], _ => rfl)⟩
  exact ⟨fd, ds, G, F.kp, b, vd, True.intro⟩
theorem ok_is_line (T : Tx K mg) (base : Heap) : ∃ fd, FunD K "is_line" "is_line" (defArgs s_is_line) (defBody s_is_line) (defScope s_is_line) [] [] (He.ga K "is_line") fd ∧ FnOk P w K mg base (L2.CX P w) 3 (He.ga K "is_line") fd ["line", "at", "alphabet"] (spOf (sp_is_line K)) := by
  have c_is_word_2 := cis_word_2 (P := P) (w := w) T base
  have c_ascends_1 := cascends_1 (P := P) (w := w) T base
  have c_are_refs_2 := care_refs_2 (P := P) (w := w) T base
  have c_is_number_3 := cis_number_3 (P := P) (w := w) T base
  have c_is_prime_2 := cis_prime_2 (P := P) (w := w) T base
  obtain ⟨fd, F⟩ := T.d_is_line
  refine ⟨fd, F, fnD (k := 2) F sc_is_line (fun ds S K X h => len_is_line h) ?hb (u := u_is_line K) (fun ds S K X h hb hS => r_is_line h hb hS)⟩
  intro cdv A outer s H E hr tk
  exact ⟨_, (dss_cons (ds_if (DW.dt (dw_or (dt_not (dt_tru (de_callB dcb_isi T.n_isinstance (da_cons (de_var 0) (da_cons (de_ty T.n_tuple) da_nil))))) (dw_or (dt_cmp (dop_eq hr.units) (de_callB dcb_len T.n_len (da_cons (de_var 0) da_nil)) de_int) (dw_or1 (dt_not (dt_tru (de_callB dcb_isi T.n_isinstance (da_cons (de_ix (de_var 0) de_int) (da_cons (de_ty T.n_str) da_nil))))))))) (dss_one (ds_ret de_bl)) dss_nil)
    (dss_cons (ds_par (i := 3) (j := 4) rfl sc_is_line.nd (da_cons (de_ix (de_var 0) de_int) (da_cons (de_callB dcb_len T.n_len (da_cons (de_var 0) da_nil)) da_nil)))
    (dss_cons (ds_if (DW.dt (dw_and (dt_cmp (dop_eq hr.units) (de_var 3) de_str) (dw_and1 (dt_cmp (dop_eq hr.units) (de_var 4) de_int)))) (dss_one (ds_ret (de_and (de_callF c_is_word_2 hr (by first | decide | omega) T.g_is_word tk (da_cons (de_var 2) (da_cons (de_ix (de_var 0) de_int) da_nil))) (de_one (de_callF c_ascends_1 hr (by first | decide | omega) T.g_ascends tk (da_cons (de_ix (de_var 0) de_int) da_nil)))))) dss_nil)
    (dss_cons (ds_if (DW.dt (dw_and (dt_cmp dop_in (de_var 3) (de_tup (da_cons de_str (da_cons de_str da_nil)))) (dw_and1 (dt_cmp (dop_eq hr.units) (de_var 4) de_int)))) (dss_one (ds_ret (de_callF c_are_refs_2 hr (by first | decide | omega) T.g_are_refs tk (da_cons (de_ix (de_var 0) de_int) (da_cons (de_var 1) da_nil))))) dss_nil)
    (dss_cons (ds_if (DW.dt (dw_or (DW.dt (dw_and (dt_cmp dop_in (de_var 3) (de_tup (da_cons de_str (da_cons de_str da_nil)))) (dw_and1 (dt_cmp (dop_eq hr.units) (de_var 4) de_int)))) (dw_or1 (DW.dt (dw_and (dt_cmp (dop_eq hr.units) (de_var 3) de_str) (dw_and1 (dt_cmp (dop_eq hr.units) (de_var 4) de_int))))))) (dss_one (ds_ret (de_callB (dcb_all rfl) T.n_all (da_cons (de_lc (own := [("ref", 5)]) rfl sc_is_line.nd (di_seq (de_sl (de_var 0) (do_some de_int) do_none)) (blkOk_by (N := N_is_line) (sc := defScope s_is_line) (by decide +kernel)) (fun _ _ _ _ _ => (dg_name (i := 5) sc_is_line.nd)) (fun _ _ _ _ _ => dts_nil) (fun _ _ _ _ _ => (de_callF c_is_number_3 hr (by first | decide | omega) T.g_is_number takes_none5 (da_cons (de_var 5) (da_cons de_int (da_cons (de_bin dop_sub (de_var 1) de_int) da_nil))))) (by decide)) da_nil)))) dss_nil)
    (dss_cons (ds_if (DW.dt (dw_or (dt_cmp (dop_ne hr.units) (de_var 3) de_str) (dw_or (dt_cmp (dop_ne hr.units) (de_var 4) de_int) (dw_or (dt_not (dt_tru (de_callF c_is_number_3 hr (by first | decide | omega) T.g_is_number tk (da_cons (de_ix (de_var 0) de_int) (da_cons de_int (da_cons (de_bin dop_sub (de_var 1) de_int) da_nil)))))) (dw_or1 (dt_not (dt_tru (de_callF c_is_prime_2 hr (by first | decide | omega) T.g_is_prime tk (da_cons (de_ix (de_var 0) de_int) (da_cons (de_gint T.i_MOST_PRIME) da_nil)))))))))) (dss_one (ds_ret de_bl)) dss_nil)
    (dss_one (ds_ret (de_callF c_is_number_3 hr (by first | decide | omega) T.g_is_number tk (da_cons (de_ix (de_var 0) de_int) (da_cons de_int (da_cons (de_bin dop_sub (de_ix (de_var 0) de_int) de_int) da_nil))))))))))))⟩
theorem cis_line_3 (T : Tx K mg) (base : Heap) : CalleeV P w K mg base 3 (He.ga K "is_line") ["line", "at", "alphabet"] (sp_is_line K) [] [] := by
  obtain ⟨fd, F, G⟩ := ok_is_line (P := P) (w := w) T base
  obtain ⟨ds, vd, b⟩ : ∃ ds, Vals [] ds ∧ Binds K fd ["line", "at", "alphabet"] ds := ⟨[], .nil, F.bindsN (fun _ _ _ _ _ _ us hl => match us, hl with | [_, _, _], _ => rfl)⟩
  exact ⟨fd, ds, G, F.kp, b, vd, True.intro⟩
theorem ok_plain_truth (T : Tx K mg) (base : Heap) : ∃ fd, FunD K "plain_truth" "plain_truth" (defArgs s_plain_truth) (defBody s_plain_truth) (defScope s_plain_truth) [] [] (He.ga K "plain_truth") fd ∧ FnOk P w K mg base (L2.CX P w) 1 (He.ga K "plain_truth") fd ["line", "truths", "letter"] (spOf (sp_plain_truth K)) := by
  obtain ⟨fd, F⟩ := T.d_plain_truth
  refine ⟨fd, F, fnD (k := 0) F sc_plain_truth (fun ds S K X h => len_plain_truth h) ?hb (u := u_plain_truth K) (fun ds S K X h hb hS => r_plain_truth h hb hS)⟩
  intro cdv A outer s H E hr tk
  exact ⟨_, (dss_cons (ds_if (dt_cmp (dop_eq hr.units) (de_ix (de_var 0) de_int) de_str) (dss_one (ds_ret (de_cmp dop_in (de_var 2) (de_ix (de_var 0) de_int)))) dss_nil)
    (dss_cons (ds_if (dt_cmp (dop_eq hr.units) (de_ix (de_var 0) de_int) de_str) (dss_one (ds_ret (de_not (de_ix (de_var 1) (de_ix (de_var 0) de_int))))) dss_nil)
    (dss_cons (ds_setLc (own := [("ref", 4)]) (i := 3) rfl sc_plain_truth.nd (di_seq (de_ix (de_var 0) de_int)) (blkOk_by (N := N_plain_truth) (sc := defScope s_plain_truth) (by decide +kernel)) (fun _ _ _ _ _ => (dg_name (i := 4) sc_plain_truth.nd)) (fun _ _ _ _ _ => dts_nil) (fun _ _ _ _ _ => (de_ixK K rfl (de_var 1) (de_var 4))) (by decide))
    (dss_one (ds_ret (de_if (dt_cmp (dop_eq hr.units) (de_ix (de_var 0) de_int) de_str) (de_callB (dcb_all rfl) T.n_all (da_cons (de_var 3) da_nil)) (de_callB (dcb_any rfl) T.n_any (da_cons (de_var 3) da_nil))))))))⟩
theorem cplain_truth_3 (T : Tx K mg) (base : Heap) : CalleeV P w K mg base 1 (He.ga K "plain_truth") ["line", "truths", "letter"] (sp_plain_truth K) [] [] := by
  obtain ⟨fd, F, G⟩ := ok_plain_truth (P := P) (w := w) T base
  obtain ⟨ds, vd, b⟩ : ∃ ds, Vals [] ds ∧ Binds K fd ["line", "truths", "letter"] ds := ⟨[], .nil, F.bindsN (fun _ _ _ _ _ _ us hl => match us, hl with | [_, _, _], _ => rfl)⟩
  exact ⟨fd, ds, G, F.kp, b, vd, True.intro⟩
theorem ok_truths_along (T : Tx K mg) (base : Heap) : ∃ fd, FunD K "truths_along" "truths_along" (defArgs s_truths_along) (defBody s_truths_along) (defScope s_truths_along) [] [] (He.ga K "truths_along") fd ∧ FnOk P w K mg base (L2.CX P w) 2 (He.ga K "truths_along") fd ["lines", "word"] (spOf (sp_truths_along K)) := by
  have c_plain_truth_3 := cplain_truth_3 (P := P) (w := w) T base
  obtain ⟨fd, F⟩ := T.d_truths_along
  refine ⟨fd, F, fnD (k := 1) F sc_truths_along (fun ds S K X h => len_truths_along h) ?hb (u := u_truths_along K) (fun ds S K X h hb hS => r_truths_along h hb hS)⟩
  intro cdv A outer s H E hr tk
  exact ⟨_, (dss_cons (ds_setLc (own := [("line", 7)]) (i := 2) rfl sc_truths_along.nd (di_seq (de_var 0)) (blkOk_by (N := N_truths_along) (sc := defScope s_truths_along) (by decide +kernel)) (fun _ _ _ _ _ => (dg_name (i := 7) sc_truths_along.nd)) (fun _ _ _ _ _ => dts_nil) (fun _ _ _ _ _ => de_bl) (by decide))
    (dss_cons (ds_setLcC (own := [("line", 7)]) (i := 3) rfl sc_truths_along.nd (di_seq (de_var 0)) (blkOk_by (N := N_truths_along) (sc := defScope s_truths_along) (by decide +kernel)) (fun _ _ _ _ _ => (dg_name (i := 7) sc_truths_along.nd)) (fun _ _ _ _ _ => dts_nil) (fun _ _ _ _ _ => de_int) (by decide))
    (dss_cons (ds_for (passes_of rfl) rfl (di_seq (de_var 1)) (dg_name (i := 4) sc_truths_along.nd) (dss_cons (ds_set (i := 5) sc_truths_along.nd (de_lstC da_nil))
    (dss_cons (ds_for (passes_of rfl) rfl (di_enum T.n_enumerate (da_cons (de_var 0) da_nil)) (dg_tup rfl (dgs_cons (dg_name (i := 6) sc_truths_along.nd) (dgs_cons (dg_name (i := 7) sc_truths_along.nd) dgs_nil))) (dss_one (ds_if (dt_cmp (dop_eq hr.units) (de_ix (de_var 7) de_int) de_str) (dss_one (ds_expr (de_bm PySem.F.plainAttrs_list PySem.F.slot_list_append PySem.F.type_list_append dmt_append (de_var 5) (da_cons (de_ix (de_var 2) (de_ix (de_var 7) de_int)) da_nil)))) (dss_one (ds_if (dt_cmp (dop_eq hr.units) (de_ix (de_var 7) de_int) de_str) (dss_one (ds_expr (de_bm PySem.F.plainAttrs_list PySem.F.slot_list_append PySem.F.type_list_append dmt_append (de_var 5) (da_cons (de_or (de_ix (de_var 5) (de_ix (de_var 7) de_int)) (de_one (de_and (de_ix (de_var 5) (de_ix (de_var 7) de_int)) (de_one (de_ix (de_var 2) (de_var 6)))))) da_nil)))) (dss_one (ds_if (dt_cmp (dop_eq hr.units) (de_ix (de_var 7) de_int) de_str) (dss_cons (ds_asg (de_bin dop_mod (de_bin dop_add (de_ix (de_var 3) (de_var 6)) (de_callT dcb_int T.n_int (da_cons (de_ix (de_var 5) (de_ix (de_var 7) de_int)) da_nil))) (de_ix (de_var 7) de_int)) (dg_sub (de_var 3) (de_var 6) set_list set_imp))
    (dss_one (ds_expr (de_bm PySem.F.plainAttrs_list PySem.F.slot_list_append PySem.F.type_list_append dmt_append (de_var 5) (da_cons (de_cmp (dop_eq hr.units) (de_ix (de_var 3) (de_var 6)) (de_ix (de_var 7) de_int)) da_nil))))) (dss_one (ds_expr (de_bm PySem.F.plainAttrs_list PySem.F.slot_list_append PySem.F.type_list_append dmt_append (de_var 5) (da_cons (de_callF c_plain_truth_3 hr (by first | decide | omega) T.g_plain_truth tk (da_cons (de_var 7) (da_cons (de_var 5) (da_cons (de_var 4) da_nil)))) da_nil)))))))))))
    (dss_one (ds_set (i := 2) sc_truths_along.nd (de_var 5))))))
    (dss_one (ds_ret (de_var 2))))))⟩
theorem ctruths_along_2 (T : Tx K mg) (base : Heap) : CalleeV P w K mg base 2 (He.ga K "truths_along") ["lines", "word"] (sp_truths_along K) [] [] := by
  obtain ⟨fd, F, G⟩ := ok_truths_along (P := P) (w := w) T base
  obtain ⟨ds, vd, b⟩ : ∃ ds, Vals [] ds ∧ Binds K fd ["lines", "word"] ds := ⟨[], .nil, F.bindsN (fun _ _ _ _ _ _ us hl => match us, hl with | [_, _], _ => rfl)⟩
  exact ⟨fd, ds, G, F.kp, b, vd, True.intro⟩
theorem ok_Formula_init (T : Tx K mg) (base : Heap) : ∃ fd, FunD K "__init__" "Formula.__init__" (defArgs s_Formula_init) (defBody s_Formula_init) (defScope s_Formula_init) [] [("first", .bl false)] (He.ma K (He.ga K "Formula") "__init__") fd ∧ FnOk P w K mg base (L2.CX P w) 4 (He.ma K (He.ga K "Formula") "__init__") fd ["self", "alphabet", "lines", "first"] (spOf (sp_Formula_init K)) := by
  have c_need_alphabet_1 := cneed_alphabet_1 (P := P) (w := w) T base
  have c_is_line_3 := cis_line_3 (P := P) (w := w) T base
  obtain ⟨fd, F⟩ := T.d_Formula_init
  refine ⟨fd, F, fnD (k := 3) F sc_Formula_init (fun ds S K X h => len_Formula_init h) ?hb (u := u_Formula_init K) (fun ds S K X h hb hS => r_Formula_init h hb hS)⟩
  intro cdv A outer s H E hr tk
  exact ⟨_, (dss_cons (ds_expr (de_callF c_need_alphabet_1 hr (by first | decide | omega) T.g_need_alphabet tk (da_cons (de_var 1) da_nil)))
    (dss_cons (ds_if (DW.dt (dw_or (dt_not (dt_tru (de_callB dcb_isi T.n_isinstance (da_cons (de_var 2) (da_cons (de_tup (da_cons (de_ty T.n_list) (da_cons (de_ty T.n_tuple) da_nil))) da_nil))))) (dw_or1 (dt_cmp (dop_eq hr.units) (de_callB dcb_len T.n_len (da_cons (de_var 2) da_nil)) de_int)))) (dss_one ds_dead) dss_nil)
    (dss_cons (ds_if (dt_cmp dop_gt (de_callB dcb_len T.n_len (da_cons (de_var 2) da_nil)) (de_gint T.i_MOST_LINES)) (dss_one ds_dead) dss_nil)
    (dss_cons (ds_for (passes_of rfl) rfl (di_enum T.n_enumerate (da_cons (de_var 2) da_nil)) (dg_tup rfl (dgs_cons (dg_name (i := 4) sc_Formula_init.nd) (dgs_cons (dg_name (i := 5) sc_Formula_init.nd) dgs_nil))) (dss_one (ds_if (dt_not (dt_tru (de_callF c_is_line_3 hr (by first | decide | omega) T.g_is_line tk (da_cons (de_var 5) (da_cons (de_var 4) (da_cons (de_var 1) da_nil)))))) (dss_one ds_dead) dss_nil)))
    (dss_cons (ds_fld (allc ⟨T.cl_Formula, T.na_Formula_own_alphabet⟩ alln) (de_var 0) (de_var 1))
    (dss_cons (ds_fld (allc ⟨T.cl_Formula, T.na_Formula_own_lines⟩ alln) (de_var 0) (de_callT dcb_list T.n_list (da_cons (de_var 2) da_nil)))
    (dss_one (ds_fld (allc ⟨T.cl_Formula, T.na_Formula_own_first⟩ alln) (de_var 0) (de_var 3)))))))))⟩
theorem tk_Formula_3 (T : Tx K mg) (base : Heap) : MakeV P w K mg base 4 ["self", "alphabet", "lines", "first"] [.bl false] [.bl false] (He.ga K "Formula") (sp_Formula_init K) := by
  obtain ⟨fd, F, G⟩ := ok_Formula_init (P := P) (w := w) T base
  obtain ⟨ds, vd, b⟩ := F.binds0 (ps := ["self", "alphabet", "lines", "first"]) 3 (by simp) rfl (fun _ _ _ _ _ _ us ks l1 l2 => match us, ks, l1, l2 with | [_, _, _], [_], _, _ => ⟨_, _, _, _, _, _, rfl, rfl, rfl⟩)
  exact ⟨_, fd, ds, T.mk_Formula, G, b, vd, ⟨rfl, True.intro⟩⟩
theorem ok_Formula_truths (T : Tx K mg) (base : Heap) : ∃ fd, FunD K "truths" "Formula.truths" (defArgs s_Formula_truths) (defBody s_Formula_truths) (defScope s_Formula_truths) [] [] (He.ma K (He.ga K "Formula") "truths") fd ∧ FnOk P w K mg base (L2.CX P w) 3 (He.ma K (He.ga K "Formula") "truths") fd ["self", "word"] (spOf (sp_Formula_truths K)) := by
  have c_is_word_2 := cis_word_2 (P := P) (w := w) T base
  have c_truths_along_2 := ctruths_along_2 (P := P) (w := w) T base
  obtain ⟨fd, F⟩ := T.d_Formula_truths
  refine ⟨fd, F, fnD (k := 2) F sc_Formula_truths (fun ds S K X h => len_Formula_truths h) ?hb (u := u_Formula_truths K) (fun ds S K X h hb hS => r_Formula_truths h hb hS)⟩
  intro cdv A outer s H E hr tk
  exact ⟨_, (dss_cons (ds_if (DW.dt (dw_or (dt_not (dt_tru (de_callF c_is_word_2 hr (by first | decide | omega) T.g_is_word tk (da_cons (de_fld (allc ⟨T.cl_Formula, T.na_Formula_own_alphabet⟩ alln) (de_var 0)) (da_cons (de_var 1) da_nil))))) (dw_or1 (dt_cmp (dop_eq hr.units) (de_var 1) de_str)))) (dss_one ds_dead) dss_nil)
    (dss_one (ds_ret (de_callF c_truths_along_2 hr (by first | decide | omega) T.g_truths_along tk (da_cons (de_fld (allc ⟨T.cl_Formula, T.na_Formula_own_lines⟩ alln) (de_var 0)) (da_cons (de_var 1) da_nil))))))⟩
theorem tm_truths_2 (T : Tx K mg) (base : Heap) : ∀ q ∈ ([(He.ga K "Formula", sp_Formula_truths K)] : List (Addr × Spec)), MethV P w K mg base 3 "truths" ["self", "word"] [] [] q.1 q.2 := by
  refine (allc ?_ allnS)
  · obtain ⟨fd, F, G⟩ := ok_Formula_truths (P := P) (w := w) T base
    obtain ⟨ds, vd, b⟩ : ∃ ds, Vals [] ds ∧ Binds K fd ["self", "word"] ds := ⟨[], .nil, F.bindsN (fun _ _ _ _ _ _ us hl => match us, hl with | [_, _], _ => rfl)⟩
    exact ⟨_, fd, ds, T.cl_Formula, T.me_Formula_truths, G.mono (by decide), b, vd, True.intro⟩
theorem ok_law_bag (T : Tx K mg) (base : Heap) : ∃ fd, FunD K "_law_bag" "_law_bag" (defArgs s_law_bag) (defBody s_law_bag) (defScope s_law_bag) [] [] (He.ga K "_law_bag") fd ∧ FnOk P w K mg base (L2.CX P w) 1 (He.ga K "_law_bag") fd ["_law_script"] (spOf (sp_law_bag K)) := by
  obtain ⟨fd, F⟩ := T.d_law_bag
  refine ⟨fd, F, fnD (k := 0) F sc_law_bag (fun ds S K X h => len_law_bag h) ?hb (u := u_law_bag K) (fun ds S K X h hb hS => r_law_bag h hb hS)⟩
  intro cdv A outer s H E hr tk
  exact ⟨_, (dss_cons (ds_set (i := 1) sc_law_bag.nd de_int)
    (dss_cons (ds_for (passes_of rfl) rfl (di_seq (de_slQ (de_var 0) do_none (do_some de_int))) (dg_name (i := 2) sc_law_bag.nd) (dss_one (ds_set (i := 1) sc_law_bag.nd (de_bin dop_mod (de_callT dcb_int T.n_int (da_cons (de_bin dop_add (de_bin dop_add (de_bin dop_mul (de_var 1) de_int) (de_bin dop_mul (de_bin dop_mod (de_callT dcb_int T.n_int (da_cons (de_var 2) da_nil)) de_int) de_int)) de_int) da_nil)) de_int))))
    (dss_one (ds_ret (de_lstC (da_cons (de_callT dcb_list T.n_list (da_cons (de_slQ (de_var 0) do_none (do_some de_int)) da_nil)) (da_cons de_int (da_cons de_int (da_cons (de_var 1) (da_cons de_int da_nil))))))))))⟩
theorem claw_bag_1 (T : Tx K mg) (base : Heap) : CalleeV P w K mg base 1 (He.ga K "_law_bag") ["_law_script"] (sp_law_bag K) [] [] := by
  obtain ⟨fd, F, G⟩ := ok_law_bag (P := P) (w := w) T base
  obtain ⟨ds, vd, b⟩ : ∃ ds, Vals [] ds ∧ Binds K fd ["_law_script"] ds := ⟨[], .nil, F.bindsN (fun _ _ _ _ _ _ us hl => match us, hl with | [_], _ => rfl)⟩
  exact ⟨fd, ds, G, F.kp, b, vd, True.intro⟩
theorem ok_law_pull (T : Tx K mg) (base : Heap) : ∃ fd, FunD K "_law_pull" "_law_pull" (defArgs s_law_pull) (defBody s_law_pull) (defScope s_law_pull) [] [] (He.ga K "_law_pull") fd ∧ FnOk P w K mg base (L2.CX P w) 1 (He.ga K "_law_pull") fd ["_law_bag_here", "_law_sides"] (spOf (sp_law_pull K)) := by
  obtain ⟨fd, F⟩ := T.d_law_pull
  refine ⟨fd, F, fnD (k := 0) F sc_law_pull (fun ds S K X h => len_law_pull h) ?hb (u := u_law_pull K) (fun ds S K X h hb hS => r_law_pull h hb hS)⟩
  intro cdv A outer s H E hr tk
  exact ⟨_, (dss_cons (ds_asg (de_bin dop_add (de_ix (de_var 0) de_int) de_int) (dg_sub (de_var 0) de_int set_list set_imp))
    (dss_cons (ds_if (DW.dt (dw_and (dt_cmp (dop_eq hr.units) (de_ix (de_var 0) de_int) de_int) (dw_and1 (dt_cmp dop_lt (de_ix (de_var 0) de_int) (de_callB dcb_len T.n_len (da_cons (de_ix (de_var 0) de_int) da_nil)))))) (dss_cons (ds_set (i := 2) sc_law_pull.nd (de_ix (de_ix (de_var 0) de_int) (de_ix (de_var 0) de_int)))
    (dss_cons (ds_asg (de_bin dop_add (de_ix (de_var 0) de_int) de_int) (dg_sub (de_var 0) de_int set_list set_imp))
    (dss_one (ds_if (dt_cmp dop_ge (de_callB dcb_abs T.n_abs (da_cons (de_var 2) da_nil)) (de_bin dop_pow de_int de_int)) (dss_one (ds_asg (de_callB dcb_abs T.n_abs (da_cons (de_var 2) da_nil)) (dg_sub (de_var 0) de_int set_list set_imp))) (dss_one (ds_asg (de_bin dop_mod (de_callT dcb_int T.n_int (da_cons (de_bin dop_add (de_bin dop_add (de_bin dop_mul (de_ix (de_var 0) de_int) de_int) (de_bin dop_mul (de_bin dop_mod (de_callT dcb_int T.n_int (da_cons (de_var 2) da_nil)) de_int) de_int)) de_int) da_nil)) de_int) (dg_sub (de_var 0) de_int set_list set_imp))))))) dss_nil)
    (dss_cons (ds_if (dt_cmp dop_gt (de_ix (de_var 0) de_int) de_int) (dss_cons (ds_set (i := 3) sc_law_pull.nd (de_bin dop_mod (de_callT dcb_int T.n_int (da_cons (de_ix (de_var 0) de_int) da_nil)) (de_var 1)))
    (dss_cons (ds_asg (de_bin dop_fdiv (de_ix (de_var 0) de_int) (de_var 1)) (dg_sub (de_var 0) de_int set_list set_imp))
    (dss_one (ds_ret (de_var 3))))) dss_nil)
    (dss_cons (ds_set (i := 4) sc_law_pull.nd (de_bin dop_mod (de_callT dcb_int T.n_int (da_cons (de_bin dop_add (de_bin dop_mul (de_ix (de_var 0) de_int) (de_ix (de_var 0) de_int)) (de_bin dop_mul (de_ix (de_var 0) de_int) de_int)) da_nil)) de_int))
    (dss_cons (ds_asg (de_bin dop_mod (de_callT dcb_int T.n_int (da_cons (de_bin dop_add (de_bin dop_add (de_bin dop_mul (de_var 4) de_int) (de_bin dop_mul (de_ix (de_var 0) de_int) de_int)) de_int) da_nil)) de_int) (dg_sub (de_var 0) de_int set_list set_imp))
    (dss_one (ds_ret (de_bin dop_mod (de_callT dcb_int T.n_int (da_cons (de_bin dop_fdiv (de_ix (de_var 0) de_int) de_int) da_nil)) (de_var 1)))))))))⟩
theorem claw_pull_2 (T : Tx K mg) (base : Heap) : CalleeV P w K mg base 1 (He.ga K "_law_pull") ["_law_bag_here", "_law_sides"] (sp_law_pull K) [] [] := by
  obtain ⟨fd, F, G⟩ := ok_law_pull (P := P) (w := w) T base
  obtain ⟨ds, vd, b⟩ : ∃ ds, Vals [] ds ∧ Binds K fd ["_law_bag_here", "_law_sides"] ds := ⟨[], .nil, F.bindsN (fun _ _ _ _ _ _ us hl => match us, hl with | [_, _], _ => rfl)⟩
  exact ⟨fd, ds, G, F.kp, b, vd, True.intro⟩
theorem ok_law_of (T : Tx K mg) (base : Heap) : ∃ fd, FunD K "_law_of" "_law_of" (defArgs s_law_of) (defBody s_law_of) (defScope s_law_of) [] [] (He.ga K "_law_of") fd ∧ FnOk P w K mg base (L2.CX P w) 2 (He.ga K "_law_of") fd ["_law_bag_here", "_law_some"] (spOf (sp_law_of K)) := by
  have c_law_pull_2 := claw_pull_2 (P := P) (w := w) T base
  obtain ⟨fd, F⟩ := T.d_law_of
  refine ⟨fd, F, fnD (k := 1) F sc_law_of (fun ds S K X h => len_law_of h) ?hb (u := u_law_of K) (fun ds S K X h hb hS => r_law_of h hb hS)⟩
  intro cdv A outer s H E hr tk
  exact ⟨_, (dss_one (ds_ret (de_ix (de_var 1) (de_callF c_law_pull_2 hr (by first | decide | omega) T.g_law_pull tk (da_cons (de_var 0) (da_cons (de_callB dcb_len T.n_len (da_cons (de_var 1) da_nil)) da_nil))))))⟩
theorem claw_of_2 (T : Tx K mg) (base : Heap) : CalleeV P w K mg base 2 (He.ga K "_law_of") ["_law_bag_here", "_law_some"] (sp_law_of K) [] [] := by
  obtain ⟨fd, F, G⟩ := ok_law_of (P := P) (w := w) T base
  obtain ⟨ds, vd, b⟩ : ∃ ds, Vals [] ds ∧ Binds K fd ["_law_bag_here", "_law_some"] ds := ⟨[], .nil, F.bindsN (fun _ _ _ _ _ _ us hl => match us, hl with | [_, _], _ => rfl)⟩
  exact ⟨fd, ds, G, F.kp, b, vd, True.intro⟩
theorem ok_law_longer (T : Tx K mg) (base : Heap) : ∃ fd, FunD K "_law_longer" "_law_longer" (defArgs s_law_longer) (defBody s_law_longer) (defScope s_law_longer) [] [] (He.ga K "_law_longer") fd ∧ FnOk P w K mg base (L2.CX P w) 1 (He.ga K "_law_longer") fd ["_law_level", "_law_signs"] (spOf (sp_law_longer K)) := by
  obtain ⟨fd, F⟩ := T.d_law_longer
  refine ⟨fd, F, fnD (k := 0) F sc_law_longer (fun ds S K X h => len_law_longer h) ?hb (u := u_law_longer K) (fun ds S K X h hb hS => r_law_longer h hb hS)⟩
  intro cdv A outer s H E hr tk
  exact ⟨_, (dss_cons (ds_set (i := 2) sc_law_longer.nd (de_lst da_nil))
    (dss_cons (ds_for (passes_of rfl) rfl (di_seq (de_var 0)) (dg_name (i := 3) sc_law_longer.nd) (dss_one (ds_set (i := 2) sc_law_longer.nd (de_bin dop_add (de_var 2) (de_lc (own := [("_law_sign", 4)]) rfl sc_law_longer.nd (di_seq (de_var 1)) (blkOk_by (N := N_law_longer) (sc := defScope s_law_longer) (by decide +kernel)) (fun _ _ _ _ _ => (dg_name (i := 4) sc_law_longer.nd)) (fun _ _ _ _ _ => dts_nil) (fun _ _ _ _ _ => (de_bin (dop_addK K rfl) (de_var 3) (de_var 4))) (by decide))))))
    (dss_one (ds_ret (de_var 2)))))⟩
theorem claw_longer_2 (T : Tx K mg) (base : Heap) : CalleeV P w K mg base 1 (He.ga K "_law_longer") ["_law_level", "_law_signs"] (sp_law_longer K) [] [] := by
  obtain ⟨fd, F, G⟩ := ok_law_longer (P := P) (w := w) T base
  obtain ⟨ds, vd, b⟩ : ∃ ds, Vals [] ds ∧ Binds K fd ["_law_level", "_law_signs"] ds := ⟨[], .nil, F.bindsN (fun _ _ _ _ _ _ us hl => match us, hl with | [_, _], _ => rfl)⟩
  exact ⟨fd, ds, G, F.kp, b, vd, True.intro⟩
theorem ok_law_texts (T : Tx K mg) (base : Heap) : ∃ fd, FunD K "_law_texts" "_law_texts" (defArgs s_law_texts) (defBody s_law_texts) (defScope s_law_texts) [] [] (He.ga K "_law_texts") fd ∧ FnOk P w K mg base (L2.CX P w) 2 (He.ga K "_law_texts") fd ["_law_signs", "_law_size"] (spOf (sp_law_texts K)) := by
  have c_law_longer_2 := claw_longer_2 (P := P) (w := w) T base
  obtain ⟨fd, F⟩ := T.d_law_texts
  refine ⟨fd, F, fnD (k := 1) F sc_law_texts (fun ds S K X h => len_law_texts h) ?hb (u := u_law_texts K) (fun ds S K X h hb hS => r_law_texts h hb hS)⟩
  intro cdv A outer s H E hr tk
  exact ⟨_, (dss_cons (ds_par (i := 2) (j := 3) rfl sc_law_texts.nd (da_cons (de_lst (da_cons de_str da_nil)) (da_cons (de_lst (da_cons de_str da_nil)) da_nil)))
    (dss_cons (ds_for (passes_of rfl) rfl (di_range1 T.n_range (da_cons (de_var 1) da_nil)) (dg_name (i := 4) sc_law_texts.nd) (dss_cons (ds_set (i := 3) sc_law_texts.nd (de_callF c_law_longer_2 hr (by first | decide | omega) T.g_law_longer tk (da_cons (de_var 3) (da_cons (de_var 0) da_nil))))
    (dss_one (ds_set (i := 2) sc_law_texts.nd (de_bin dop_add (de_var 2) (de_var 3))))))
    (dss_one (ds_ret (de_var 2)))))⟩
theorem claw_texts_2 (T : Tx K mg) (base : Heap) : CalleeV P w K mg base 2 (He.ga K "_law_texts") ["_law_signs", "_law_size"] (sp_law_texts K) [] [] := by
  obtain ⟨fd, F, G⟩ := ok_law_texts (P := P) (w := w) T base
  obtain ⟨ds, vd, b⟩ : ∃ ds, Vals [] ds ∧ Binds K fd ["_law_signs", "_law_size"] ds := ⟨[], .nil, F.bindsN (fun _ _ _ _ _ _ us hl => match us, hl with | [_, _], _ => rfl)⟩
  exact ⟨fd, ds, G, F.kp, b, vd, True.intro⟩
theorem ok_law_some_signs (T : Tx K mg) (base : Heap) : ∃ fd, FunD K "_law_some_signs" "_law_some_signs" (defArgs s_law_some_signs) (defBody s_law_some_signs) (defScope s_law_some_signs) [] [] (He.ga K "_law_some_signs") fd ∧ FnOk P w K mg base (L2.CX P w) 2 (He.ga K "_law_some_signs") fd ["_law_bag_here", "_law_signs"] (spOf (sp_law_some_signs K)) := by
  have c_law_pull_2 := claw_pull_2 (P := P) (w := w) T base
  obtain ⟨fd, F⟩ := T.d_law_some_signs
  refine ⟨fd, F, fnD (k := 1) F sc_law_some_signs (fun ds S K X h => len_law_some_signs h) ?hb (u := u_law_some_signs K) (fun ds S K X h hb hS => r_law_some_signs h hb hS)⟩
  intro cdv A outer s H E hr tk
  exact ⟨_, (dss_one (ds_ret (de_bm PySem.F.plainAttrs_str PySem.F.slot_str_join PySem.F.type_str_join dmt_join de_str (da_cons (de_lc (own := [("_law_sign", 2)]) rfl sc_law_some_signs.nd (di_seq (de_var 1)) (blkOk_by (N := N_law_some_signs) (sc := defScope s_law_some_signs) (by decide +kernel)) (fun _ _ _ _ _ => (dg_name (i := 2) sc_law_some_signs.nd)) (fun _ _ _ _ _ => (dts_one (dt_cmp (dop_eqK K rfl hr.units) (de_callF c_law_pull_2 hr (by first | decide | omega) T.g_law_pull takes_none5 (da_cons (de_var 0) (da_cons de_int da_nil))) de_int))) (fun _ _ _ _ _ => (de_var 2)) (by decide)) da_nil))))⟩
theorem claw_some_signs_2 (T : Tx K mg) (base : Heap) : CalleeV P w K mg base 2 (He.ga K "_law_some_signs") ["_law_bag_here", "_law_signs"] (sp_law_some_signs K) [] [] := by
  obtain ⟨fd, F, G⟩ := ok_law_some_signs (P := P) (w := w) T base
  obtain ⟨ds, vd, b⟩ : ∃ ds, Vals [] ds ∧ Binds K fd ["_law_bag_here", "_law_signs"] ds := ⟨[], .nil, F.bindsN (fun _ _ _ _ _ _ us hl => match us, hl with | [_, _], _ => rfl)⟩
  exact ⟨fd, ds, G, F.kp, b, vd, True.intro⟩
theorem ok_law_saying (T : Tx K mg) (base : Heap) : ∃ fd, FunD K "_law_saying" "_law_saying" (defArgs s_law_saying) (defBody s_law_saying) (defScope s_law_saying) [] [] (He.ga K "_law_saying") fd ∧ FnOk P w K mg base (L2.CX P w) 3 (He.ga K "_law_saying") fd ["_law_bag_here", "_law_signs", "_law_many", "_law_kinds"] (spOf (sp_law_saying K)) := by
  have c_law_some_signs_2 := claw_some_signs_2 (P := P) (w := w) T base
  have c_law_of_2 := claw_of_2 (P := P) (w := w) T base
  have c_law_pull_2 := claw_pull_2 (P := P) (w := w) T base
  obtain ⟨fd, F⟩ := T.d_law_saying
  refine ⟨fd, F, fnD (k := 2) F sc_law_saying (fun ds S K X h => len_law_saying h) ?hb (u := u_law_saying K) (fun ds S K X h hb hS => r_law_saying h hb hS)⟩
  intro cdv A outer s H E hr tk
  exact ⟨_, (dss_cons (ds_set (i := 4) sc_law_saying.nd (de_lstC (da_cons (de_tup (da_cons de_str (da_cons (de_callF c_law_some_signs_2 hr (by first | decide | omega) T.g_law_some_signs tk (da_cons (de_var 0) (da_cons (de_var 1) da_nil))) da_nil))) da_nil)))
    (dss_cons (ds_for (passes_of rfl) rfl (di_range2 T.n_range (da_cons de_int (da_cons (de_var 2) da_nil))) (dg_name (i := 5) sc_law_saying.nd) (dss_cons (ds_asg (de_tup (da_cons (de_callF c_law_of_2 hr (by first | decide | omega) T.g_law_of tk (da_cons (de_var 0) (da_cons (de_var 3) da_nil))) (da_cons (de_bin dop_sub (de_bin dop_sub (de_var 5) de_int) (de_callF c_law_of_2 hr (by first | decide | omega) T.g_law_of tk (da_cons (de_var 0) (da_cons (de_lst (da_cons de_int (da_cons de_int (da_cons (de_callF c_law_pull_2 hr (by first | decide | omega) T.g_law_pull tk (da_cons (de_var 0) (da_cons (de_var 5) da_nil))) da_nil)))) da_nil)))) da_nil))) (dg_tup rfl (dgs_cons (dg_name (i := 6) sc_law_saying.nd) (dgs_cons (dg_name (i := 7) sc_law_saying.nd) dgs_nil))))
    (dss_one (ds_if (dt_cmp (dop_eq hr.units) (de_var 6) de_str) (dss_one (ds_expr (de_bm PySem.F.plainAttrs_list PySem.F.slot_list_append PySem.F.type_list_append dmt_append (de_var 4) (da_cons (de_tup (da_cons de_str (da_cons (de_callF c_law_some_signs_2 hr (by first | decide | omega) T.g_law_some_signs tk (da_cons (de_var 0) (da_cons (de_var 1) da_nil))) da_nil))) da_nil)))) (dss_one (ds_if (dt_cmp dop_in (de_var 6) (de_tup (da_cons de_str (da_cons de_str da_nil)))) (dss_one (ds_expr (de_bm PySem.F.plainAttrs_list PySem.F.slot_list_append PySem.F.type_list_append dmt_append (de_var 4) (da_cons (de_tup (da_cons (de_var 6) (da_cons (de_if (dt_cmp dop_gt (de_callF c_law_pull_2 hr (by first | decide | omega) T.g_law_pull tk (da_cons (de_var 0) (da_cons de_int da_nil))) de_int) (de_callT dcb_tuple T.n_tuple (da_cons (de_lc (own := [("_law_ref", 9)]) rfl sc_law_saying.nd (di_range1 T.n_range (da_cons (de_var 5) da_nil)) (blkOk_by (N := N_law_saying) (sc := defScope s_law_saying) (by decide +kernel)) (fun _ _ _ _ _ => (dg_name (i := 9) sc_law_saying.nd)) (fun _ _ _ _ _ => (dts_one (DW.dt (dw_or (dt_cmp (dop_eqK K rfl hr.units) (de_var 9) (de_var 7)) (dw_or1 (dt_cmp (dop_eqK K rfl hr.units) (de_callF c_law_pull_2 hr (by first | decide | omega) T.g_law_pull takes_none5 (da_cons (de_var 0) (da_cons de_int da_nil))) de_int)))))) (fun _ _ _ _ _ => (de_var 9)) (by decide)) da_nil)) (de_tup da_nil)) da_nil))) da_nil)))) (dss_one (ds_if (dt_cmp (dop_eq hr.units) (de_var 6) de_str) (dss_one (ds_expr (de_bm PySem.F.plainAttrs_list PySem.F.slot_list_append PySem.F.type_list_append dmt_append (de_var 4) (da_cons (de_tup (da_cons de_str (da_cons (de_callF c_law_pull_2 hr (by first | decide | omega) T.g_law_pull tk (da_cons (de_var 0) (da_cons (de_var 5) da_nil))) (da_cons (de_var 7) da_nil)))) da_nil)))) (dss_one (ds_if (dt_cmp (dop_eq hr.units) (de_var 6) de_str) (dss_cons (ds_set (i := 8) sc_law_saying.nd (de_callF c_law_of_2 hr (by first | decide | omega) T.g_law_of tk (da_cons (de_var 0) (da_cons (de_lst (da_cons de_int (da_cons de_int (da_cons de_int (da_cons de_int da_nil))))) da_nil))))
    (dss_one (ds_expr (de_bm PySem.F.plainAttrs_list PySem.F.slot_list_append PySem.F.type_list_append dmt_append (de_var 4) (da_cons (de_tup (da_cons de_str (da_cons (de_var 7) (da_cons (de_var 8) (da_cons (de_callF c_law_pull_2 hr (by first | decide | omega) T.g_law_pull tk (da_cons (de_var 0) (da_cons (de_var 8) da_nil))) da_nil))))) da_nil))))) (dss_one (ds_expr (de_bm PySem.F.plainAttrs_list PySem.F.slot_list_append PySem.F.type_list_append dmt_append (de_var 4) (da_cons (de_tup (da_cons (de_var 6) (da_cons (de_var 7) da_nil))) da_nil))))))))))))))
    (dss_one (ds_ret (de_var 4)))))⟩
theorem claw_saying_4 (T : Tx K mg) (base : Heap) : CalleeV P w K mg base 3 (He.ga K "_law_saying") ["_law_bag_here", "_law_signs", "_law_many", "_law_kinds"] (sp_law_saying K) [] [] := by
  obtain ⟨fd, F, G⟩ := ok_law_saying (P := P) (w := w) T base
  obtain ⟨ds, vd, b⟩ : ∃ ds, Vals [] ds ∧ Binds K fd ["_law_bag_here", "_law_signs", "_law_many", "_law_kinds"] ds := ⟨[], .nil, F.bindsN (fun _ _ _ _ _ _ us hl => match us, hl with | [_, _, _, _], _ => rfl)⟩
  exact ⟨fd, ds, G, F.kp, b, vd, True.intro⟩
theorem ok_law (T : Tx K mg) (base : Heap) : ∃ fd, FunD K "law" "law" (defArgs s_law) (defBody s_law) (defScope s_law) [] [] (He.ga K "law") fd ∧ FnOk P w K mg base (L2.CX P w) 6 (He.ga K "law") fd ["_law_script"] (spOf (sp_law K)) := by
  have c_law_bag_1 := claw_bag_1 (P := P) (w := w) T base
  have c_law_of_2 := claw_of_2 (P := P) (w := w) T base
  have c_law_pull_2 := claw_pull_2 (P := P) (w := w) T base
  have c_law_saying_4 := claw_saying_4 (P := P) (w := w) T base
  have c_law_texts_2 := claw_texts_2 (P := P) (w := w) T base
  have mm_truths_2 := tm_truths_2 (P := P) (w := w) T base
  have mk_Formula_3 := tk_Formula_3 (P := P) (w := w) T base
  obtain ⟨fd, F⟩ := T.d_law
  refine ⟨fd, F, fnD (k := 5) F sc_law (fun ds S K X h => len_law h) ?hb (u := u_law K) (fun ds S K X h hb hS => r_law h hb hS)⟩
  intro cdv A outer s H E hr tk
  exact ⟨_, (dss_cons (ds_set (i := 1) sc_law.nd (de_callF c_law_bag_1 hr (by first | decide | omega) T.g_law_bag tk (da_cons (de_var 0) da_nil)))
    (dss_cons (ds_set (i := 2) sc_law.nd (de_lst (da_cons de_str (da_cons de_str (da_cons de_str (da_cons de_str (da_cons de_str (da_cons de_str (da_cons de_str da_nil)))))))))
    (dss_cons (ds_set (i := 3) sc_law.nd (de_callF c_law_of_2 hr (by first | decide | omega) T.g_law_of tk (da_cons (de_var 1) (da_cons (de_lst (da_cons de_str (da_cons de_str (da_cons de_str (da_cons de_str da_nil))))) da_nil))))
    (dss_cons (ds_set (i := 4) sc_law.nd (de_callF c_law_saying_4 hr (by first | decide | omega) T.g_law_saying tk (da_cons (de_var 1) (da_cons (de_var 3) (da_cons (de_bin dop_add de_int (de_callF c_law_pull_2 hr (by first | decide | omega) T.g_law_pull tk (da_cons (de_var 1) (da_cons de_int da_nil)))) (da_cons (de_var 2) da_nil))))))
    (dss_cons (ds_asg (de_tup (da_cons (de_callB dcb_len T.n_len (da_cons (de_var 4) da_nil)) (da_cons (de_callF c_law_of_2 hr (by first | decide | omega) T.g_law_of tk (da_cons (de_var 1) (da_cons (de_lst (da_cons de_int (da_cons de_int (da_cons de_int da_nil)))) da_nil))) da_nil))) (dg_tup rfl (dgs_cons (dg_name (i := 5) sc_law.nd) (dgs_cons (dg_name (i := 6) sc_law.nd) dgs_nil))))
    (dss_cons (ds_asg (de_tup (da_cons (de_callF c_law_pull_2 hr (by first | decide | omega) T.g_law_pull tk (da_cons (de_var 1) (da_cons (de_var 5) da_nil))) (da_cons (de_callF c_law_pull_2 hr (by first | decide | omega) T.g_law_pull tk (da_cons (de_var 1) (da_cons (de_var 5) da_nil))) da_nil))) (dg_tup rfl (dgs_cons (dg_name (i := 7) sc_law.nd) (dgs_cons (dg_name (i := 8) sc_law.nd) dgs_nil))))
    (dss_cons (ds_set (i := 9) sc_law.nd (de_bin dop_add (de_var 4) (de_lst (da_cons (de_tup (da_cons de_str (da_cons (de_var 7) (da_cons (de_var 8) da_nil)))) (da_cons (de_tup (da_cons de_str (da_cons (de_var 5) da_nil))) (da_cons (de_tup (da_cons de_str (da_cons (de_tup (da_cons (de_callB (dcb_min2 rfl) T.n_min (da_cons (de_var 7) (da_cons (de_bin dop_add (de_var 5) de_int) da_nil))) (da_cons (de_bin dop_add (de_var 5) de_int) da_nil))) da_nil))) (da_cons (de_tup (da_cons de_str (da_cons (de_tup (da_cons (de_callB (dcb_min2 rfl) T.n_min (da_cons (de_var 8) (da_cons (de_bin dop_add (de_var 5) de_int) da_nil))) (da_cons (de_bin dop_add (de_var 5) de_int) da_nil))) da_nil))) da_nil)))))))
    (dss_cons (ds_set (i := 9) sc_law.nd (de_bin dop_add (de_var 9) (de_lst (da_cons (de_tup (da_cons de_str (da_cons (de_tup da_nil) da_nil))) (da_cons (de_tup (da_cons de_str (da_cons (de_bin dop_add (de_var 5) de_int) da_nil))) (da_cons (de_tup (da_cons de_str (da_cons (de_var 7) da_nil))) (da_cons (de_tup (da_cons de_str (da_cons (de_bin dop_add (de_var 5) de_int) da_nil))) (da_cons (de_tup (da_cons de_str (da_cons (de_var 7) da_nil))) (da_cons (de_tup (da_cons de_str (da_cons (de_bin dop_add (de_var 5) de_int) da_nil))) da_nil)))))))))
    (dss_cons (ds_set (i := 9) sc_law.nd (de_bin dop_add (de_bin dop_add (de_var 9) (de_lc (own := [("_law_rest", 15)]) rfl sc_law.nd (di_range1 T.n_range (da_cons (de_var 6) da_nil)) (blkOk_by (N := N_law) (sc := defScope s_law) (by decide +kernel)) (fun _ _ _ _ _ => (dg_name (i := 15) sc_law.nd)) (fun _ _ _ _ _ => dts_nil) (fun _ _ _ _ _ => (de_tup (da_cons de_str (da_cons (de_var 7) (da_cons (de_var 6) (da_cons (de_var 15) da_nil)))))) (by decide))) (de_lst (da_cons (de_tup (da_cons de_str (da_cons (de_bin dop_add (de_var 5) de_int) (da_cons (de_var 7) da_nil)))) (da_cons (de_tup (da_cons de_str (da_cons (de_var 7) (da_cons (de_bin dop_add (de_var 5) de_int) da_nil)))) da_nil)))))
    (dss_cons (ds_set (i := 10) sc_law.nd (de_make mk_Formula_3 hr (by first | decide | omega) T.g_Formula tk (da_cons (de_var 3) (da_cons (de_var 9) da_nil))))
    (dss_cons (ds_for (passes_of rfl) rfl (di_seq (de_sl (de_callF c_law_texts_2 hr (by first | decide | omega) T.g_law_texts tk (da_cons (de_var 3) (da_cons (de_if (dt_cmp dop_lt (de_callB dcb_len T.n_len (da_cons (de_var 3) da_nil)) de_int) de_int de_int) da_nil))) (do_some de_int) do_none)) (dg_name (i := 11) sc_law.nd) (dss_cons (ds_set (i := 12) sc_law.nd (de_meth mm_truths_2 hr (by first | decide | omega) tk (de_var 10) (da_cons (de_var 11) da_nil)))
    (dss_cons (ds_if (DW.dt (dw_or (dt_cmp (dop_ne hr.units) (de_ix (de_var 12) (de_var 5)) (de_ix (de_var 12) (de_bin dop_add (de_var 5) de_int))) (dw_or1 (dt_cmp (dop_ne hr.units) (de_ix (de_var 12) (de_bin dop_add (de_var 5) de_int)) (de_cmp dop_gt (de_callB dcb_len T.n_len (da_cons (de_var 11) da_nil)) de_int))))) (dss_one (ds_ret de_bl)) dss_nil)
    (dss_cons (ds_if (dt_cmp (dop_ne hr.units) (de_ix (de_var 12) (de_bin dop_add (de_var 5) de_int)) (de_and (de_ix (de_var 12) (de_bin dop_add (de_var 5) de_int)) (de_one (de_cmp dop_gt (de_callB dcb_len T.n_len (da_cons (de_var 11) da_nil)) de_int)))) (dss_one (ds_ret de_bl)) dss_nil)
    (dss_cons (ds_setLc (own := [("_law_rest", 15)]) (i := 13) rfl sc_law.nd (di_range1 T.n_range (da_cons (de_var 6) da_nil)) (blkOk_by (N := N_law) (sc := defScope s_law) (by decide +kernel)) (fun _ _ _ _ _ => (dg_name (i := 15) sc_law.nd)) (fun _ _ _ _ _ => dts_nil) (fun _ _ _ _ _ => (de_ixK K rfl (de_var 12) (de_bin (dop_addK K rfl) (de_bin (dop_addK K rfl) (de_var 5) de_int) (de_var 15)))) (by decide))
    (dss_cons (ds_if (DW.dt (dw_or (dt_cmp (dop_ne hr.units) (de_lc (own := [("_law_one", 16)]) rfl sc_law.nd (di_seq (de_var 13)) (blkOk_by (N := N_law) (sc := defScope s_law) (by decide +kernel)) (fun _ _ _ _ _ => (dg_name (i := 16) sc_law.nd)) (fun _ _ _ _ _ => (dts_one (dt_truK K rfl (de_var 16)))) (fun _ _ _ _ _ => (de_var 16)) (by decide)) (de_lst (da_cons de_bl da_nil))) (dw_or1 (dt_cmp (dop_ne hr.units) (de_ix (de_var 12) (de_bin dop_add (de_bin dop_add (de_var 5) de_int) (de_var 6))) de_bl)))) (dss_one (ds_ret de_bl)) dss_nil)
    (dss_cons (ds_setLc (own := [("_law_size", 17)]) (i := 14) rfl sc_law.nd (di_range1 T.n_range (da_cons (de_callB dcb_len T.n_len (da_cons (de_var 11) da_nil)) da_nil)) (blkOk_by (N := N_law) (sc := defScope s_law) (by decide +kernel)) (fun _ _ _ _ _ => (dg_name (i := 17) sc_law.nd)) (fun _ _ _ _ _ => dts_nil) (fun _ _ _ _ _ => (de_ixK K rfl (de_meth mm_truths_2 hr (by first | decide | omega) takes_none5 (de_var 10) (da_cons (de_slK K rfl (de_var 11) do_none (do_some (de_bin (dop_addK K rfl) (de_var 17) de_int))) da_nil)) (de_var 7))) (by decide))
    (dss_one (ds_if (DW.dt (dw_or (dt_cmp (dop_ne hr.units) (de_ix (de_var 12) (de_bin dop_add (de_bin dop_add (de_var 5) de_int) (de_var 6))) (de_cmp dop_in de_bl (de_var 14))) (dw_or1 (dt_not (dt_tru (de_ix (de_var 13) (de_bin dop_mod (de_callT dcb_int T.n_int (da_cons (de_callB dcb_len T.n_len (da_cons (de_lc (own := [("_law_one", 16)]) rfl sc_law.nd (di_seq (de_var 14)) (blkOk_by (N := N_law) (sc := defScope s_law) (by decide +kernel)) (fun _ _ _ _ _ => (dg_name (i := 16) sc_law.nd)) (fun _ _ _ _ _ => (dts_one (dt_truK K rfl (de_var 16)))) (fun _ _ _ _ _ => (de_var 16)) (by decide)) da_nil)) da_nil)) (de_var 6)))))))) (dss_one (ds_ret de_bl)) dss_nil)))))))))
    (dss_one (ds_ret de_bl)))))))))))))⟩
end
def dd_is_number : He.DefD := ⟨("is_number", none), "is_number", "is_number", defArgs s_is_number, defBody s_is_number, defScope s_is_number, [.non], []⟩
def dd_is_prime : He.DefD := ⟨("is_prime", none), "is_prime", "is_prime", defArgs s_is_prime, defBody s_is_prime, defScope s_is_prime, [], []⟩
def dd_ascends : He.DefD := ⟨("ascends", none), "ascends", "ascends", defArgs s_ascends, defBody s_ascends, defScope s_ascends, [], []⟩
def dd_is_alphabet : He.DefD := ⟨("is_alphabet", none), "is_alphabet", "is_alphabet", defArgs s_is_alphabet, defBody s_is_alphabet, defScope s_is_alphabet, [], []⟩
def dd_is_word : He.DefD := ⟨("is_word", none), "is_word", "is_word", defArgs s_is_word, defBody s_is_word, defScope s_is_word, [], []⟩
def dd_need_alphabet : He.DefD := ⟨("need_alphabet", none), "need_alphabet", "need_alphabet", defArgs s_need_alphabet, defBody s_need_alphabet, defScope s_need_alphabet, [], []⟩
def dd_are_refs : He.DefD := ⟨("are_refs", none), "are_refs", "are_refs", defArgs s_are_refs, defBody s_are_refs, defScope s_are_refs, [], []⟩
def dd_is_line : He.DefD := ⟨("is_line", none), "is_line", "is_line", defArgs s_is_line, defBody s_is_line, defScope s_is_line, [], []⟩
def dd_plain_truth : He.DefD := ⟨("plain_truth", none), "plain_truth", "plain_truth", defArgs s_plain_truth, defBody s_plain_truth, defScope s_plain_truth, [], []⟩
def dd_truths_along : He.DefD := ⟨("truths_along", none), "truths_along", "truths_along", defArgs s_truths_along, defBody s_truths_along, defScope s_truths_along, [], []⟩
def dd_Formula_init : He.DefD := ⟨("Formula", some "__init__"), "__init__", "Formula.__init__", defArgs s_Formula_init, defBody s_Formula_init, defScope s_Formula_init, [], [("first", .bl false)]⟩
def dd_Formula_truths : He.DefD := ⟨("Formula", some "truths"), "truths", "Formula.truths", defArgs s_Formula_truths, defBody s_Formula_truths, defScope s_Formula_truths, [], []⟩
def dd_law_bag : He.DefD := ⟨("_law_bag", none), "_law_bag", "_law_bag", defArgs s_law_bag, defBody s_law_bag, defScope s_law_bag, [], []⟩
def dd_law_pull : He.DefD := ⟨("_law_pull", none), "_law_pull", "_law_pull", defArgs s_law_pull, defBody s_law_pull, defScope s_law_pull, [], []⟩
def dd_law_of : He.DefD := ⟨("_law_of", none), "_law_of", "_law_of", defArgs s_law_of, defBody s_law_of, defScope s_law_of, [], []⟩
def dd_law_texts : He.DefD := ⟨("_law_texts", none), "_law_texts", "_law_texts", defArgs s_law_texts, defBody s_law_texts, defScope s_law_texts, [], []⟩
def dd_law_longer : He.DefD := ⟨("_law_longer", none), "_law_longer", "_law_longer", defArgs s_law_longer, defBody s_law_longer, defScope s_law_longer, [], []⟩
def dd_law_saying : He.DefD := ⟨("_law_saying", none), "_law_saying", "_law_saying", defArgs s_law_saying, defBody s_law_saying, defScope s_law_saying, [], []⟩
def dd_law_some_signs : He.DefD := ⟨("_law_some_signs", none), "_law_some_signs", "_law_some_signs", defArgs s_law_some_signs, defBody s_law_some_signs, defScope s_law_some_signs, [], []⟩
def dd_law : He.DefD := ⟨("law", none), "law", "law", defArgs s_law, defBody s_law, defScope s_law, [], []⟩
def fa : List He.Fa := ([.free "int", .free "isinstance", .free "bool", .glo "is_number", .free "zip", .free "all", .free "str", .free "len", .int "MOST_LETTERS" 4, .str "SMALL" "abcdefghijklmnopqrstuvwxyz"] : List He.Fa) ++ ([.glo "ascends", .glo "is_alphabet", .free "tuple", .glo "is_word", .glo "are_refs", .int "MOST_PRIME" 97, .glo "is_prime", .free "any", .free "enumerate", .glo "plain_truth"] : List He.Fa) ++ ([.glo "need_alphabet", .free "list", .int "MOST_LINES" 4000, .glo "is_line", .cls "Formula", .noat "Formula" "own_alphabet", .noat "Formula" "own_lines", .noat "Formula" "own_first", .glo "truths_along", .free "abs"] : List He.Fa) ++ ([.glo "_law_pull", .free "range", .glo "_law_longer", .glo "_law_some_signs", .glo "_law_of", .glo "_law_bag", .glo "_law_saying", .free "min", .glo "Formula", .glo "_law_texts"] : List He.Fa) ++ ([.meth "Formula" "truths", .mkr "Formula", .glo "law"] : List He.Fa)
def fn : List He.DefD := ([dd_is_number, dd_is_prime, dd_ascends, dd_is_alphabet, dd_is_word, dd_need_alphabet, dd_are_refs, dd_is_line, dd_plain_truth, dd_truths_along] : List He.DefD) ++ ([dd_Formula_init, dd_Formula_truths, dd_law_bag, dd_law_pull, dd_law_of, dd_law_texts, dd_law_longer, dd_law_saying, dd_law_some_signs, dd_law] : List He.DefD)
abbrev hk : PySem.W.Hook := He.hookD 4 fa fn
def ob (s : PySem.W.SharedT) : He.AlD := He.obsDG 4 fa fn (HandSHeadRun.getT s)
theorem ob_eq (s : PySem.W.SharedT) : ob s = hk.obs s.abs := He.obsDG_eq (HandSHeadRun.getT_eq s)
def names : List PySem.Str := (["AheadError", "InvalidAlphabet", "InvalidWord", "InvalidLine", "InvalidText", "AlphabetsDiffer", "TooMany", "SMALL", "MOST_LETTERS", "is_number", "is_prime", "ascends"] : List PySem.Str) ++ (["is_alphabet", "is_word", "need_alphabet", "FIGURES", "MOST_FIGURES", "number_in", "numbers_in", "rows_of", "words_of", "need_alike", "MOST_LINES", "MOST_PRIME"] : List PySem.Str) ++ (["are_refs", "is_line", "plain_truth", "truths_along", "Formula", "moved", "row_of", "line_in", "_law_bag", "_law_pull", "_law_of", "_law_texts"] : List PySem.Str) ++ (["_law_longer", "_law_saying", "_law_some_signs"] : List PySem.Str)
theorem run (w : World) : HandSHeadRun.RunEq R (PySem.W.view R.prog [45]) hk ob 9000 names w := by
  intro os
  kernel_rfl
theorem tx_of {K : PySem.W.Frag} {h : Heap} {mg : Str → Option Value} (X : K.In h) (G : h.Ns mainGlobals mg) (c : He.SaysD fa fn K) : Tx K mg where
  n_int := He.free_ok X G (c.fact 0 (f := .free "int") rfl)
  n_isinstance := He.free_ok X G (c.fact 1 (f := .free "isinstance") rfl)
  n_bool := He.free_ok X G (c.fact 2 (f := .free "bool") rfl)
  g_is_number := He.glo_ok X G (c.fact 3 (f := .glo "is_number") rfl)
  n_zip := He.free_ok X G (c.fact 4 (f := .free "zip") rfl)
  n_all := He.free_ok X G (c.fact 5 (f := .free "all") rfl)
  n_str := He.free_ok X G (c.fact 6 (f := .free "str") rfl)
  n_len := He.free_ok X G (c.fact 7 (f := .free "len") rfl)
  i_MOST_LETTERS := He.int_ok X G (c.fact 8 (f := .int "MOST_LETTERS" 4) rfl)
  s_SMALL := He.str_ok X G (c.fact 9 (f := .str "SMALL" "abcdefghijklmnopqrstuvwxyz") rfl)
  g_ascends := He.glo_ok X G (c.fact 10 (f := .glo "ascends") rfl)
  g_is_alphabet := He.glo_ok X G (c.fact 11 (f := .glo "is_alphabet") rfl)
  n_tuple := He.free_ok X G (c.fact 12 (f := .free "tuple") rfl)
  g_is_word := He.glo_ok X G (c.fact 13 (f := .glo "is_word") rfl)
  g_are_refs := He.glo_ok X G (c.fact 14 (f := .glo "are_refs") rfl)
  i_MOST_PRIME := He.int_ok X G (c.fact 15 (f := .int "MOST_PRIME" 97) rfl)
  g_is_prime := He.glo_ok X G (c.fact 16 (f := .glo "is_prime") rfl)
  n_any := He.free_ok X G (c.fact 17 (f := .free "any") rfl)
  n_enumerate := He.free_ok X G (c.fact 18 (f := .free "enumerate") rfl)
  g_plain_truth := He.glo_ok X G (c.fact 19 (f := .glo "plain_truth") rfl)
  g_need_alphabet := He.glo_ok X G (c.fact 20 (f := .glo "need_alphabet") rfl)
  n_list := He.free_ok X G (c.fact 21 (f := .free "list") rfl)
  i_MOST_LINES := He.int_ok X G (c.fact 22 (f := .int "MOST_LINES" 4000) rfl)
  g_is_line := He.glo_ok X G (c.fact 23 (f := .glo "is_line") rfl)
  cl_Formula := He.cls_ok (c.fact 24 (f := .cls "Formula") rfl)
  na_Formula_own_alphabet := He.noat_ok (c.fact 25 (f := .noat "Formula" "own_alphabet") rfl)
  na_Formula_own_lines := He.noat_ok (c.fact 26 (f := .noat "Formula" "own_lines") rfl)
  na_Formula_own_first := He.noat_ok (c.fact 27 (f := .noat "Formula" "own_first") rfl)
  g_truths_along := He.glo_ok X G (c.fact 28 (f := .glo "truths_along") rfl)
  n_abs := He.free_ok X G (c.fact 29 (f := .free "abs") rfl)
  g_law_pull := He.glo_ok X G (c.fact 30 (f := .glo "_law_pull") rfl)
  n_range := He.free_ok X G (c.fact 31 (f := .free "range") rfl)
  g_law_longer := He.glo_ok X G (c.fact 32 (f := .glo "_law_longer") rfl)
  g_law_some_signs := He.glo_ok X G (c.fact 33 (f := .glo "_law_some_signs") rfl)
  g_law_of := He.glo_ok X G (c.fact 34 (f := .glo "_law_of") rfl)
  g_law_bag := He.glo_ok X G (c.fact 35 (f := .glo "_law_bag") rfl)
  g_law_saying := He.glo_ok X G (c.fact 36 (f := .glo "_law_saying") rfl)
  n_min := He.free_ok X G (c.fact 37 (f := .free "min") rfl)
  g_Formula := He.glo_ok X G (c.fact 38 (f := .glo "Formula") rfl)
  g_law_texts := He.glo_ok X G (c.fact 39 (f := .glo "_law_texts") rfl)
  me_Formula_truths := He.meth_ok (c.fact 40 (f := .meth "Formula" "truths") rfl)
  mk_Formula := He.mkr_ok (c.fact 41 (f := .mkr "Formula") rfl)
  d_is_number := c.def_ 0 (d := dd_is_number) rfl
  d_is_prime := c.def_ 1 (d := dd_is_prime) rfl
  d_ascends := c.def_ 2 (d := dd_ascends) rfl
  d_is_alphabet := c.def_ 3 (d := dd_is_alphabet) rfl
  d_is_word := c.def_ 4 (d := dd_is_word) rfl
  d_need_alphabet := c.def_ 5 (d := dd_need_alphabet) rfl
  d_are_refs := c.def_ 6 (d := dd_are_refs) rfl
  d_is_line := c.def_ 7 (d := dd_is_line) rfl
  d_plain_truth := c.def_ 8 (d := dd_plain_truth) rfl
  d_truths_along := c.def_ 9 (d := dd_truths_along) rfl
  d_Formula_init := c.def_ 10 (d := dd_Formula_init) rfl
  d_Formula_truths := c.def_ 11 (d := dd_Formula_truths) rfl
  d_law_bag := c.def_ 12 (d := dd_law_bag) rfl
  d_law_pull := c.def_ 13 (d := dd_law_pull) rfl
  d_law_of := c.def_ 14 (d := dd_law_of) rfl
  d_law_texts := c.def_ 15 (d := dd_law_texts) rfl
  d_law_longer := c.def_ 16 (d := dd_law_longer) rfl
  d_law_saying := c.def_ 17 (d := dd_law_saying) rfl
  d_law_some_signs := c.def_ 18 (d := dd_law_some_signs) rfl
  d_law := c.def_ 19 (d := dd_law) rfl
theorem law_glo {K : PySem.W.Frag} {h : Heap} {mg : Str → Option Value} (X : K.In h) (G : h.Ns mainGlobals mg) (c : He.SaysD fa fn K) : mg "law" = some (.ref (He.ga K "law")) := He.glo_ok X G (c.fact 42 (f := .glo "law") rfl)
end DL.KL
open PySem PySem.W PySem.Calls PyProof.Rows
theorem PySem.Challenge.cw_onlyahead_k29_whole_rules_of_formulas_holds : PySem.Challenge.rw_onlyahead_k29_whole_rules_of_formulas.Holds := by
  w_on; o_law
  refine HandSHeadRun.head_any (r := OpenLaw.row PySem.Challenge.rw_onlyahead_k29_whole_rules_of_formulas) (q := view (OpenLaw.row PySem.Challenge.rw_onlyahead_k29_whole_rules_of_formulas).prog [45]) (H := DL.KL.hk) (ob := DL.KL.ob) (M := 9000) (loose := DL.KL.names) (d := HandSHeadRun.topDef (OpenLaw.row PySem.Challenge.rw_onlyahead_k29_whole_rules_of_formulas).prog 45) (kwd := []) DL.KL.ob_eq
    (by kernel_rfl) (fun s => by kernel_rfl) DL.KL.run (by kernel_rfl) (by kernel_rfl) (by kernel_rfl) (by rfl) (by first | assumption | decide +kernel) (by decide +kernel) ⟨rfl, rfl, rfl, rfl, rfl, by decide +kernel⟩ ?hw ?hc
  case hw => w_witness2
  case hc =>
    refine LamX.walk_ofTsE (l := PySem.Challenge.rw_onlyahead_k29_whole_rules_of_formulas) (n := 63) (k := 6) (x := "_law_script") (CX := fun w => L2.CX (PySem.Challenge.rw_onlyahead_k29_whole_rules_of_formulas).prog w) rfl (by decide) (by kernel_rfl) ⟨rfl, by decide, by decide⟩ ?F ?cx
    case cx => exact fun w H s e s' h => DL.cx_none h
    case F =>
    intro w mg fa h Y G hmg0
    obtain ⟨K, KX, c⟩ := Y
    refine ⟨K, KX, ?_⟩
    have hmg : mg ("law" : PySem.Str) = some (.ref fa) := by
      have e : (HandSHeadRun.topDef (OpenLaw.row PySem.Challenge.rw_onlyahead_k29_whole_rules_of_formulas).prog 45).name = ("law" : PySem.Str) := by kernel_rfl
      rw [← e]
      exact hmg0
    have e := hmg.symm.trans (DL.KL.law_glo KX G c)
    cases e
    have T := DL.KL.tx_of KX G c
    obtain ⟨fd, F⟩ := T.d_law
    refine ⟨fd, [], DL.spOf (DL.sp_law K), fun _ h => (List.not_mem_nil h).elim, fun _ h => (List.not_mem_nil h).elim, fun _ h => (List.not_mem_nil h).elim, ?_, ?_, ?_⟩
    · have b := L2.FunD.bindsA (ps := ["_law_script"]) F fun _ _ _ _ _ _ us hl => match us, hl with | [_], _ => rfl
      exact fun s v => b s [v] rfl
    · exact fun H a ns hl hbits _ hS => DL.start_law hl hbits hS
    · intro base _ _ _
      obtain ⟨fd2, F2, G2⟩ := DL.KL.ok_law (P := (PySem.Challenge.rw_onlyahead_k29_whole_rules_of_formulas).prog) (w := w) T base
      cases DL.funD_one F F2
      exact G2
