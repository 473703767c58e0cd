import PyProof.Rows.All
import Wide.All
import OpenK.AllK
import Wide.FinOn
import HandS.Base
import HandS.Exc
import HandS.TryMany
import HandS.CallSlots
import HandS.Flow
import HandS.List
import HandS.Text
import HandS.ExcOwn
import HandS.Words
import HandS.Comp
import HandS.Defaults
import HandS.IsInst
import HandS.Dict
import HandS.TupAny
import HandS.Deep
import HandS.Iter
import KE.GoesNew
import KE.GoesMore
import HandS.HeadHook1
import HandS.HeadHook2
import HandS.HeadHook4
import HandS.Head0
import HandS.Head1
import HandS.Head2
import HandS.HeadWalk
import HandS.HeadEnd
import PySem.Challenge.RW_onlyahead_k01_alphabets_and_words_judged
set_option Elab.async false
set_option linter.all false
set_option maxRecDepth 100000
set_option maxHeartbeats 0
/-! DL0: data as trees, a store of things that change, and how the abstract heap bears them. -/
namespace DL
open PySem L2

/-- data: trees of what never changes, and the places (cells) of what does -/
inductive Dat where
  | non | bl (b : Bool) | int (i : Int) | str (s : Str)
  | lst (xs : List Dat) | tup (xs : List Dat)
  | dct (ks : List Key) (xs : List Dat)
  | dtt (ks : List (List Key)) (xs : List Dat)
  | sq (K : PySem.W.Frag) (ns : List Int)
  | ins (C : Addr) (ns : List Str) (xs : List Dat)
  | xd (ns : List Str) (xs : List Dat)
  | cell (n : Nat)
  | raw (v : V)

mutual
/-- d is borne by v: R are the addresses that no tree may touch, rho the places of the cells -/
def RD (H : Hp) (R rho : List Addr) : Dat → V → Prop
  | .non, v => v = .non
  | .bl b, v => v = .bl b
  | .int i, v => v = .int i
  | .str s, v => v = .str s
  | .lst xs, v => ∃ a vs, v = .ref a ∧ a ∉ R ∧ H a = some (.lst vs) ∧ RDs H R rho xs vs
  | .tup xs, v => ∃ a vs, v = .ref a ∧ a ∉ R ∧ H a = some (.tup vs) ∧ RDs H R rho xs vs
  | .dct ks xs, v => ∃ a vs, v = .ref a ∧ a ∉ R ∧ Rd H a (.dK (ks.zip vs)) ∧ ks.length = vs.length ∧ RDs H R rho xs vs
  | .dtt ks xs, v => ∃ a vs, v = .ref a ∧ a ∉ R ∧ Rd H a (.dT (ks.zip vs)) ∧ ks.length = vs.length ∧ RDs H R rho xs vs
  | .sq K ns, v => ∃ a, v = .ref a ∧ ((a ∉ R ∧ Rd H a (.lst (ns.map V.int))) ∨ SqL K (fun _ => none) a (ns.map V.int))
  | .ins C ns xs, v => ∃ a dx vs, v = .ref a ∧ a ∉ R ∧ H a = some (.ins C dx (ns.zip vs)) ∧ ns.length = vs.length ∧ RDs H R rho xs vs
  | .xd ns xs, v => ∃ a vs, v = .ref a ∧ a ∉ R ∧ H a = some (.xd (ns.zip vs)) ∧ ns.length = vs.length ∧ RDs H R rho xs vs
  | .cell n, v => ∃ a, rho[n]? = some a ∧ v = .ref a
  | .raw w, v => v = w
def RDs (H : Hp) (R rho : List Addr) : List Dat → List V → Prop
  | [], vs => vs = []
  | d :: ds, vs => ∃ w ws, vs = w :: ws ∧ RD H R rho d w ∧ RDs H R rho ds ws
end
mutual
/-- all cells lie below n -/
def below (n : Nat) : Dat → Prop
  | .non => True | .bl _ => True | .int _ => True | .str _ => True | .raw _ => True
  | .sq _ _ => True | .lst xs => belows n xs | .tup xs => belows n xs | .dct _ xs => belows n xs | .dtt _ xs => belows n xs | .ins _ _ xs => belows n xs | .xd _ xs => belows n xs
  | .cell m => m < n
def belows (n : Nat) : List Dat → Prop
  | [] => True
  | d :: ds => below n d ∧ belows n ds
end

section
variable {H H' : Hp} {R R' rho rho' : List Addr}
theorem rd_some {a : Addr} {u : HO} (h : Rd H a u) : ∃ o, H a = some o := by
  rcases h with h | ⟨o, h⟩
  · exact ⟨_, h⟩
  · exact ⟨_, h⟩
theorem rd_keep {a : Addr} {u : HO} (h : Rd H a u) (k : ∀ o, H a = some o → H' a = some o) : Rd H' a u := by
  rcases h with h | ⟨o, h⟩
  · exact .inl (k _ h)
  · exact .inr ⟨o, k _ h⟩
/-- what R and rho mean may grow -/
structure Mono (H H' : Hp) (R R' rho rho' : List Addr) : Prop where
  keep : ∀ a o, a ∉ R → H a = some o → H' a = some o
  more : ∀ a, a ∈ R' → a ∈ R ∨ H a = none
  cell : ∀ (n : Nat) a, rho[n]? = some a → rho'[n]? = some a
theorem Mono.out (m : Mono H H' R R' rho rho') {a : Addr} (h : a ∉ R) (e : ∃ o, H a = some o) : a ∉ R' := fun z => by
  rcases m.more a z with q | q
  · exact h q
  · obtain ⟨o, e⟩ := e
    rw [q] at e
    cases e
mutual
theorem RD.mono (m : Mono H H' R R' rho rho') : ∀ {d : Dat} {v : V}, RD H R rho d v → RD H' R' rho' d v
  | .non, _, h => by simp only [RD] at h ⊢; exact h
  | .bl _, _, h => by simp only [RD] at h ⊢; exact h
  | .int _, _, h => by simp only [RD] at h ⊢; exact h
  | .str _, _, h => by simp only [RD] at h ⊢; exact h
  | .raw _, _, h => by simp only [RD] at h ⊢; exact h
  | .lst xs, _, h => by
    simp only [RD] at h ⊢
    obtain ⟨a, vs, e, ha, hr, hs⟩ := h
    exact ⟨a, vs, e, m.out ha ⟨_, hr⟩, m.keep a _ ha hr, RDs.mono m hs⟩
  | .tup xs, _, h => by
    simp only [RD] at h ⊢
    obtain ⟨a, vs, e, ha, hr, hs⟩ := h
    exact ⟨a, vs, e, m.out ha ⟨_, hr⟩, m.keep a _ ha hr, RDs.mono m hs⟩
  | .dct ks xs, _, h => by
    simp only [RD] at h ⊢
    obtain ⟨a, vs, e, ha, hr, hl, hs⟩ := h
    exact ⟨a, vs, e, m.out ha (rd_some hr), rd_keep hr fun o q => m.keep a o ha q, hl, RDs.mono m hs⟩
  | .dtt ks xs, _, h => by
    simp only [RD] at h ⊢
    obtain ⟨a, vs, e, ha, hr, hl, hs⟩ := h
    exact ⟨a, vs, e, m.out ha (rd_some hr), rd_keep hr fun o q => m.keep a o ha q, hl, RDs.mono m hs⟩
  | .sq K ns, _, h => by
    simp only [RD] at h ⊢
    obtain ⟨a, e, h⟩ := h
    refine ⟨a, e, ?_⟩
    rcases h with ⟨ha, hr⟩ | h
    · exact .inl ⟨m.out ha (rd_some hr), rd_keep hr fun o q => m.keep a o ha q⟩
    · exact .inr h
  | .ins C ns xs, _, h => by
    simp only [RD] at h ⊢
    obtain ⟨a, dx, vs, e, ha, hr, hl, hs⟩ := h
    exact ⟨a, dx, vs, e, m.out ha ⟨_, hr⟩, m.keep a _ ha hr, hl, RDs.mono m hs⟩
  | .xd ns xs, _, h => by
    simp only [RD] at h ⊢
    obtain ⟨a, vs, e, ha, hr, hl, hs⟩ := h
    exact ⟨a, vs, e, m.out ha ⟨_, hr⟩, m.keep a _ ha hr, hl, RDs.mono m hs⟩
  | .cell n, _, h => by
    simp only [RD] at h ⊢
    obtain ⟨a, ha, e⟩ := h
    exact ⟨a, m.cell n a ha, e⟩
theorem RDs.mono (m : Mono H H' R R' rho rho') : ∀ {ds : List Dat} {vs : List V}, RDs H R rho ds vs → RDs H' R' rho' ds vs
  | [], _, h => by simp only [RDs] at h ⊢; exact h
  | d :: ds, _, h => by
    simp only [RDs] at h ⊢
    obtain ⟨w, ws, e, h1, h2⟩ := h
    exact ⟨w, ws, e, RD.mono m h1, RDs.mono m h2⟩
end
mutual
theorem RD.below : ∀ {d : Dat} {v : V}, RD H R rho d v → below rho.length d
  | .non, _, h => by simp only [DL.below]
  | .bl _, _, h => by simp only [DL.below]
  | .int _, _, h => by simp only [DL.below]
  | .str _, _, h => by simp only [DL.below]
  | .raw _, _, h => by simp only [DL.below]
  | .lst xs, _, h => by
    simp only [RD] at h; simp only [DL.below]
    obtain ⟨a, vs, e, ha, hr, hs⟩ := h
    exact RDs.belows hs
  | .tup xs, _, h => by
    simp only [RD] at h; simp only [DL.below]
    obtain ⟨a, vs, e, ha, hr, hs⟩ := h
    exact RDs.belows hs
  | .dct ks xs, _, h => by
    simp only [RD] at h; simp only [DL.below]
    obtain ⟨a, vs, e, ha, hr, hl, hs⟩ := h
    exact RDs.belows hs
  | .dtt ks xs, _, h => by
    simp only [RD] at h; simp only [DL.below]
    obtain ⟨a, vs, e, ha, hr, hl, hs⟩ := h
    exact RDs.belows hs
  | .sq _ _, _, _ => by simp only [DL.below]
  | .ins C ns xs, _, h => by
    simp only [RD] at h; simp only [DL.below]
    obtain ⟨a, dx, vs, e, ha, hr, hl, hs⟩ := h
    exact RDs.belows hs
  | .xd ns xs, _, h => by
    simp only [RD] at h; simp only [DL.below]
    obtain ⟨a, vs, e, ha, hr, hl, hs⟩ := h
    exact RDs.belows hs
  | .cell n, _, h => by
    simp only [RD] at h; simp only [DL.below]
    obtain ⟨a, ha, e⟩ := h
    exact (List.getElem?_eq_some_iff.mp ha).1
theorem RDs.belows : ∀ {ds : List Dat} {vs : List V}, RDs H R rho ds vs → belows rho.length ds
  | [], _, h => by simp only [DL.belows]
  | d :: ds, _, h => by
    simp only [RDs] at h; simp only [DL.belows]
    obtain ⟨w, ws, e, h1, h2⟩ := h
    exact ⟨RD.below h1, RDs.belows h2⟩
end
mutual
theorem RD.trim {n : Nat} (hR : ∀ a, a ∈ R' → a ∈ R) : ∀ {d : Dat} {v : V}, RD H R rho d v → below n d → RD H R' (rho.take n) d v
  | .non, _, h, _ => by simp only [RD] at h ⊢; exact h
  | .bl _, _, h, _ => by simp only [RD] at h ⊢; exact h
  | .int _, _, h, _ => by simp only [RD] at h ⊢; exact h
  | .str _, _, h, _ => by simp only [RD] at h ⊢; exact h
  | .raw _, _, h, _ => by simp only [RD] at h ⊢; exact h
  | .lst xs, _, h, b => by
    simp only [RD] at h ⊢; simp only [DL.below] at b
    obtain ⟨a, vs, e, ha, hr, hs⟩ := h
    exact ⟨a, vs, e, fun z => ha (hR a z), hr, RDs.trim hR hs b⟩
  | .tup xs, _, h, b => by
    simp only [RD] at h ⊢; simp only [DL.below] at b
    obtain ⟨a, vs, e, ha, hr, hs⟩ := h
    exact ⟨a, vs, e, fun z => ha (hR a z), hr, RDs.trim hR hs b⟩
  | .dct ks xs, _, h, b => by
    simp only [RD] at h ⊢; simp only [DL.below] at b
    obtain ⟨a, vs, e, ha, hr, hl, hs⟩ := h
    exact ⟨a, vs, e, fun z => ha (hR a z), hr, hl, RDs.trim hR hs b⟩
  | .dtt ks xs, _, h, b => by
    simp only [RD] at h ⊢; simp only [DL.below] at b
    obtain ⟨a, vs, e, ha, hr, hl, hs⟩ := h
    exact ⟨a, vs, e, fun z => ha (hR a z), hr, hl, RDs.trim hR hs b⟩
  | .sq K ns, _, h, _ => by
    simp only [RD] at h ⊢
    obtain ⟨a, e, h⟩ := h
    refine ⟨a, e, ?_⟩
    rcases h with ⟨ha, hr⟩ | h
    · exact .inl ⟨fun z => ha (hR a z), hr⟩
    · exact .inr h
  | .ins C ns xs, _, h, b => by
    simp only [RD] at h ⊢; simp only [DL.below] at b
    obtain ⟨a, dx, vs, e, ha, hr, hl, hs⟩ := h
    exact ⟨a, dx, vs, e, fun z => ha (hR a z), hr, hl, RDs.trim hR hs b⟩
  | .xd ns xs, _, h, b => by
    simp only [RD] at h ⊢; simp only [DL.below] at b
    obtain ⟨a, vs, e, ha, hr, hl, hs⟩ := h
    exact ⟨a, vs, e, fun z => ha (hR a z), hr, hl, RDs.trim hR hs b⟩
  | .cell m, _, h, b => by
    simp only [RD] at h ⊢; simp only [DL.below] at b
    obtain ⟨a, ha, e⟩ := h
    exact ⟨a, by rw [List.getElem?_take, if_pos b]; exact ha, e⟩
theorem RDs.trim {n : Nat} (hR : ∀ a, a ∈ R' → a ∈ R) : ∀ {ds : List Dat} {vs : List V}, RDs H R rho ds vs → belows n ds → RDs H R' (rho.take n) ds vs
  | [], _, h, _ => by simp only [RDs] at h ⊢; exact h
  | d :: ds, _, h, b => by
    simp only [RDs] at h ⊢; simp only [DL.belows] at b
    obtain ⟨w, ws, e, h1, h2⟩ := h
    exact ⟨w, ws, e, RD.trim hR h1 b.1, RDs.trim hR h2 b.2⟩
end
end
end DL
/-! DL1: the state: live pairs L, the store S, pinned objects T. -/
namespace DL
open PySem L2

abbrev LL := V → Dat → Prop
/-- what stands at a cell -/
def Node (H : Hp) (R rho : List Addr) (a : Addr) : Dat → Prop
  | .lst xs => ∃ vs, H a = some (.lst vs) ∧ RDs H R rho xs vs
  | .dct ks xs => ∃ vs, H a = some (.dK (ks.zip vs)) ∧ ks.length = vs.length ∧ RDs H R rho xs vs
  | .dtt ks xs => ∃ vs, H a = some (.dT (ks.zip vs)) ∧ ks.length = vs.length ∧ RDs H R rho xs vs
  | .ins C ns xs => ∃ dx vs, H a = some (.ins C dx (ns.zip vs)) ∧ ns.length = vs.length ∧ RDs H R rho xs vs
  | _ => False
theorem Node.some {H : Hp} {R rho : List Addr} {a : Addr} {d : Dat} (h : Node H R rho a d) : ∃ o, H a = .some o := by
  cases d with
  | lst xs => obtain ⟨vs, e, _⟩ := h; exact ⟨_, e⟩
  | dct ks xs => obtain ⟨vs, e, _⟩ := h; exact ⟨_, e⟩
  | dtt ks xs => obtain ⟨vs, e, _⟩ := h; exact ⟨_, e⟩
  | ins C ns xs => obtain ⟨dx, vs, e, _⟩ := h; exact ⟨_, e⟩
  | _ => exact h.elim
abbrev TT' := List (Addr × HO)
structure SRx (H : Hp) (L : LL) (S : List Dat) (T : List (Addr × HO)) (rho : List Addr) : Prop where
  len : rho.length = S.length
  nd : (rho ++ T.map (·.1)).Nodup
  node : ∀ (n : Nat) a d, rho[n]? = some a → S[n]? = some d → Node H (rho ++ T.map (·.1)) rho a d
  pin : ∀ p ∈ T, H p.1 = some p.2
  rd : ∀ v d, L v d → RD H (rho ++ T.map (·.1)) rho d v
def SR (H : Hp) (L : LL) (S : List Dat) (T : List (Addr × HO)) : Prop := ∃ rho, SRx H L S T rho
abbrev Lle (L L' : LL) : Prop := ∀ v d, L v d → L' v d
theorem Lle.refl (L : LL) : Lle L L := fun _ _ h => h
theorem Lle.trans {L L1 L2 : LL} (a : Lle L L1) (b : Lle L1 L2) : Lle L L2 := fun v d h => b v d (a v d h)
def Ladd (L : LL) (v : V) (d : Dat) : LL := fun v' d' => L v' d' ∨ (v' = v ∧ d' = d)
theorem Ladd.le {L : LL} {v : V} {d : Dat} : Lle L (Ladd L v d) := fun _ _ h => .inl h
theorem Ladd.here {L : LL} {v : V} {d : Dat} : Ladd L v d v d := .inr ⟨rfl, rfl⟩
def LaddL (L : LL) (vs : List V) (ds : List Dat) : LL := fun v' d' => L v' d' ∨ ∃ i : Nat, vs[i]? = some v' ∧ ds[i]? = some d'
theorem LaddL.le {L : LL} {vs : List V} {ds : List Dat} : Lle L (LaddL L vs ds) := fun _ _ h => .inl h
/-- pair by pair -/
def Ls (L : LL) : List V → List Dat → Prop
  | [], [] => True
  | v :: vs, d :: ds => L v d ∧ Ls L vs ds
  | _, _ => False
theorem Ls.length {L : LL} : ∀ {vs : List V} {ds : List Dat}, Ls L vs ds → vs.length = ds.length
  | [], [], _ => rfl
  | v :: vs, d :: ds, h => by simp [Ls.length h.2]
  | [], d :: ds, h => h.elim
  | v :: vs, [], h => h.elim
theorem Ls.le {L L' : LL} (l : Lle L L') : ∀ {vs : List V} {ds : List Dat}, Ls L vs ds → Ls L' vs ds
  | [], [], _ => True.intro
  | v :: vs, d :: ds, h => ⟨l _ _ h.1, Ls.le l h.2⟩
  | [], d :: ds, h => h.elim
  | v :: vs, [], h => h.elim
theorem Ls.get {L : LL} : ∀ {vs : List V} {ds : List Dat} {i : Nat} {d : Dat}, Ls L vs ds → ds[i]? = some d → ∃ v, vs[i]? = some v ∧ L v d
  | [], [], i, d, _, e => by simp at e
  | v :: vs, c :: ds, 0, d, h, e => by simp at e; subst e; exact ⟨v, by simp, h.1⟩
  | v :: vs, c :: ds, i + 1, d, h, e => by
    obtain ⟨w, h1, h2⟩ := Ls.get (i := i) h.2 (by simpa using e)
    exact ⟨w, by simpa using h1, h2⟩
  | [], d :: ds, _, _, h, _ => h.elim
  | v :: vs, [], _, _, h, _ => h.elim
theorem Ls.getV {L : LL} : ∀ {vs : List V} {ds : List Dat} {i : Nat} {v : V}, Ls L vs ds → vs[i]? = some v → ∃ d, ds[i]? = some d ∧ L v d
  | [], [], i, d, _, e => by simp at e
  | v :: vs, c :: ds, 0, d, h, e => by simp at e; subst e; exact ⟨c, by simp, h.1⟩
  | v :: vs, c :: ds, i + 1, d, h, e => by
    obtain ⟨w, h1, h2⟩ := Ls.getV (i := i) h.2 (by simpa using e)
    exact ⟨w, by simpa using h1, h2⟩
  | [], d :: ds, _, _, h, _ => h.elim
  | v :: vs, [], _, _, h, _ => h.elim
theorem Ls.of {L : LL} : ∀ {vs : List V} {ds : List Dat}, vs.length = ds.length → (∀ (i : Nat) v d, vs[i]? = some v → ds[i]? = some d → L v d) → Ls L vs ds
  | [], [], _, _ => True.intro
  | v :: vs, d :: ds, l, h => ⟨h 0 v d (by simp) (by simp), Ls.of (by simpa using l) fun i w c e1 e2 => h (i + 1) w c (by simpa using e1) (by simpa using e2)⟩
  | [], d :: ds, l, _ => by simp at l
  | v :: vs, [], l, _ => by simp at l
theorem Ls.append {L : LL} : ∀ {vs ws : List V} {ds es : List Dat}, Ls L vs ds → Ls L ws es → Ls L (vs ++ ws) (ds ++ es)
  | [], _, [], _, _, k => k
  | v :: vs, _, d :: ds, _, h, k => ⟨h.1, Ls.append h.2 k⟩
  | [], _, d :: ds, _, h, _ => h.elim
  | v :: vs, _, [], _, h, _ => h.elim
section
variable {H H' : Hp} {L L' : LL} {S : List Dat} {T : List (Addr × HO)} {R rho : List Addr}
theorem RDs.ls {LR : LL} (hL : ∀ v d, RD H R rho d v → LR v d) : ∀ {ds : List Dat} {vs : List V}, RDs H R rho ds vs → Ls LR vs ds
  | [], vs, h => by simp only [RDs] at h; subst h; exact True.intro
  | d :: ds, vs, h => by
    simp only [RDs] at h
    obtain ⟨w, ws, e, h1, h2⟩ := h
    subst e
    exact ⟨hL _ _ h1, RDs.ls hL h2⟩
theorem Ls.rds (hL : ∀ v d, L v d → RD H R rho d v) : ∀ {vs : List V} {ds : List Dat}, Ls L vs ds → RDs H R rho ds vs
  | [], [], _ => by simp only [RDs]
  | v :: vs, d :: ds, h => by
    simp only [RDs]
    exact ⟨v, vs, rfl, hL _ _ h.1, Ls.rds hL h.2⟩
  | [], d :: ds, h => h.elim
  | v :: vs, [], h => h.elim
theorem RDs.len : ∀ {ds : List Dat} {vs : List V}, RDs H R rho ds vs → vs.length = ds.length := fun h => (RDs.ls (LR := fun _ _ => True) (fun _ _ _ => True.intro) h).length
/-- every true pair may be added -/
theorem SRx.more (s : SRx H L S T rho) (h : ∀ v d, L' v d → L v d ∨ RD H (rho ++ T.map (·.1)) rho d v) : SRx H L' S T rho :=
  ⟨s.len, s.nd, s.node, s.pin, fun v d q => (h v d q).elim (s.rd v d) id⟩
theorem SR.less (s : SR H L S T) (h : Lle L' L) : SR H L' S T := let ⟨rho, x⟩ := s; ⟨rho, x.more fun v d q => .inl (h v d q)⟩
/-- a pair that holds whatever the heap is -/
def Flat : Dat → V → Prop
  | .non, v => v = .non
  | .bl b, v => v = .bl b
  | .int i, v => v = .int i
  | .str s, v => v = .str s
  | .raw w, v => v = w
  | _, _ => False
theorem Flat.rd {d : Dat} {v : V} (h : Flat d v) : RD H R rho d v := by
  cases d with
  | non => simp only [RD]; exact h
  | bl b => simp only [RD]; exact h
  | int b => simp only [RD]; exact h
  | str b => simp only [RD]; exact h
  | raw b => simp only [RD]; exact h
  | _ => exact h.elim
theorem SR.flat (s : SR H L S T) {d : Dat} {v : V} (h : Flat d v) : SR H (Ladd L v d) S T := by
  obtain ⟨rho, x⟩ := s
  refine ⟨rho, x.more fun v' d' q => ?_⟩
  rcases q with q | ⟨rfl, rfl⟩
  · exact .inl q
  · exact .inr h.rd
/-- a new address lies outside of all that is told -/
theorem SRx.fresh (s : SRx H L S T rho) {p : Addr} (hp : H p = none) : p ∉ rho ++ T.map (·.1) := fun z => by
  rcases List.mem_append.mp z with q | q
  · obtain ⟨n, hn, e⟩ := List.mem_iff_getElem.mp q
    have hs : n < S.length := by rw [← s.len]; exact hn
    obtain ⟨o, ho⟩ := (s.node n p S[n] (by rw [List.getElem?_eq_getElem hn, e]) (List.getElem?_eq_getElem hs)).some
    rw [hp] at ho
    cases ho
  · obtain ⟨t, ht, e⟩ := List.mem_map.mp q
    have ho := s.pin t ht
    rw [e, hp] at ho
    cases ho
theorem Node.mono {R' rho' : List Addr} {a : Addr} {d : Dat} (m : Mono H H' R R' rho rho') (ha : H a = H' a) (h : Node H R rho a d) : Node H' R' rho' a d := by
  cases d with
  | lst xs => obtain ⟨vs, e, r⟩ := h; exact ⟨vs, by rw [← ha]; exact e, RDs.mono m r⟩
  | dct ks xs => obtain ⟨vs, e, l, r⟩ := h; exact ⟨vs, by rw [← ha]; exact e, l, RDs.mono m r⟩
  | dtt ks xs => obtain ⟨vs, e, l, r⟩ := h; exact ⟨vs, by rw [← ha]; exact e, l, RDs.mono m r⟩
  | ins C ns xs => obtain ⟨dx, vs, e, l, r⟩ := h; exact ⟨dx, vs, by rw [← ha]; exact e, l, RDs.mono m r⟩
  | _ => exact h.elim
theorem Mono.upd {p : Addr} {o : HO} (hp : H p = none) : Mono H (upd H p o) R R rho rho :=
  ⟨fun a u _ e => by rw [upd_ne (ne_of_none e hp)]; exact e, fun a h => .inl h, fun _ _ h => h⟩
/-- a new object beside: nothing that was told changes -/
theorem SRx.new (s : SRx H L S T rho) {p : Addr} {o : HO} (hp : H p = none) : SRx (upd H p o) L S T rho := by
  have m : Mono H (upd H p o) (rho ++ T.map (·.1)) (rho ++ T.map (·.1)) rho rho := .upd hp
  refine ⟨s.len, s.nd, fun n a d h1 h2 => ?_, fun q hq => ?_, fun v d h => RD.mono m (s.rd v d h)⟩
  · have hn := s.node n a d h1 h2
    obtain ⟨o, ho⟩ := hn.some
    exact hn.mono m (by rw [upd_ne (ne_of_none ho hp)])
  · have hq' := s.pin q hq
    rw [upd_ne (ne_of_none hq' hp)]
    exact hq'
/-- a new tree -/
theorem SR.tree (s : SR H L S T) {p : Addr} {o : HO} {d : Dat} (hp : H p = none) (h : ∀ R rho, p ∉ R → (∀ v d, L v d → RD (upd H p o) R rho d v) → RD (upd H p o) R rho d (.ref p)) : SR (upd H p o) (Ladd L (.ref p) d) S T := by
  obtain ⟨rho, x⟩ := s
  have y := x.new (o := o) hp
  refine ⟨rho, y.more fun v' d' q => ?_⟩
  rcases q with q | ⟨rfl, rfl⟩
  · exact .inl q
  · exact .inr (h _ _ (x.fresh hp) y.rd)
theorem SR.lst (s : SR H L S T) {p : Addr} {vs : List V} {ds : List Dat} (hp : H p = none) (h : Ls L vs ds) : SR (upd H p (.lst vs)) (Ladd L (.ref p) (.lst ds)) S T :=
  s.tree hp fun R rho nr hL => by simp only [RD]; exact ⟨p, vs, rfl, nr, upd_same, Ls.rds hL h⟩
theorem SR.tup (s : SR H L S T) {p : Addr} {vs : List V} {ds : List Dat} (hp : H p = none) (h : Ls L vs ds) : SR (upd H p (.tup vs)) (Ladd L (.ref p) (.tup ds)) S T :=
  s.tree hp fun R rho nr hL => by simp only [RD]; exact ⟨p, vs, rfl, nr, upd_same, Ls.rds hL h⟩
theorem SR.dct (s : SR H L S T) {p : Addr} {ks : List Key} {vs : List V} {ds : List Dat} (hp : H p = none) (hl : ks.length = vs.length) (h : Ls L vs ds) : SR (upd H p (.dK (ks.zip vs))) (Ladd L (.ref p) (.dct ks ds)) S T :=
  s.tree hp fun R rho nr hL => by simp only [RD]; exact ⟨p, vs, rfl, nr, .inl upd_same, hl, Ls.rds hL h⟩
/-- the object that bears a node's data -/
def HoOf (vs : List V) : Dat → HO → Prop
  | .lst _, o => o = .lst vs
  | .dct ks _, o => o = .dK (ks.zip vs) ∧ ks.length = vs.length
  | .dtt ks _, o => o = .dT (ks.zip vs) ∧ ks.length = vs.length
  | .ins C ns _, o => (∃ dx, o = .ins C dx (ns.zip vs)) ∧ ns.length = vs.length
  | _, _ => False
def kids : Dat → List Dat
  | .lst xs => xs | .tup xs => xs | .dct _ xs => xs | .dtt _ xs => xs | .ins _ _ xs => xs | .xd _ xs => xs
  | _ => []
theorem node_of {vs : List V} {a : Addr} {d : Dat} {o : HO} (ha : H a = some o) (ho : HoOf vs d o) (h : RDs H R rho (kids d) vs) : Node H R rho a d := by
  cases d with
  | lst xs => exact ⟨vs, by rw [ha, show o = .lst vs from ho], h⟩
  | dct ks xs => obtain ⟨e, l⟩ := ho; exact ⟨vs, by rw [ha, e], l, h⟩
  | dtt ks xs => obtain ⟨e, l⟩ := ho; exact ⟨vs, by rw [ha, e], l, h⟩
  | ins C ns xs => obtain ⟨⟨dx, e⟩, l⟩ := ho; exact ⟨dx, vs, by rw [ha, e], l, h⟩
  | _ => exact ho.elim
theorem nodup_snoc {xs ys : List Addr} {p : Addr} (h : (xs ++ ys).Nodup) (hp : p ∉ xs ++ ys) : ((xs ++ [p]) ++ ys).Nodup := by
  rw [List.append_assoc]
  have hperm : (xs ++ ([p] ++ ys)).Perm (p :: (xs ++ ys)) := by
    have := List.perm_middle (a := p) (l₁ := xs) (l₂ := ys)
    simpa using this
  exact hperm.nodup_iff.mpr (List.nodup_cons.mpr ⟨hp, h⟩)
/-- a new cell -/
theorem SR.cell (s : SR H L S T) {p : Addr} {o : HO} {vs : List V} {d : Dat} (hp : H p = none) (ho : HoOf vs d o) (h : Ls L vs (kids d)) : SR (upd H p o) (Ladd L (.ref p) (.cell S.length)) (S ++ [d]) T := by
  obtain ⟨rho, x⟩ := s
  have y := x.new (o := o) hp
  have np := x.fresh hp
  have m : Mono (L2.upd H p o) (L2.upd H p o) (rho ++ T.map (·.1)) ((rho ++ [p]) ++ T.map (·.1)) rho (rho ++ [p]) → True := fun _ => True.intro
  -- p is in the new R: trees known ahead do not touch it
  have m2 : Mono H (L2.upd H p o) (rho ++ T.map (·.1)) ((rho ++ [p]) ++ T.map (·.1)) rho (rho ++ [p]) :=
    ⟨fun a u _ e => by rw [upd_ne (ne_of_none e hp)]; exact e, fun a h => by
      simp only [List.mem_append, List.mem_singleton] at h ⊢
      rcases h with (h | h) | h
      · exact .inl (.inl h)
      · subst h; exact .inr hp
      · exact .inl (.inr h), fun n a e => by rw [List.getElem?_append_left (List.getElem?_eq_some_iff.mp e).1]; exact e⟩
  refine ⟨rho ++ [p], ?_, nodup_snoc x.nd np, fun n a c h1 h2 => ?_, y.pin, fun v c q => ?_⟩
  · simp [x.len]
  · by_cases hn : n < rho.length
    · rw [List.getElem?_append_left hn] at h1
      rw [List.getElem?_append_left (by rw [← x.len]; exact hn)] at h2
      have hx := x.node n a c h1 h2
      obtain ⟨u, hu⟩ := hx.some
      exact hx.mono m2 (by rw [upd_ne (ne_of_none hu hp)])
    · have e : n = rho.length := by
        have := (List.getElem?_eq_some_iff.mp h1).1
        simp at this; omega
      subst e
      rw [List.getElem?_append_right (Nat.le_refl _)] at h1
      rw [List.getElem?_append_right (by rw [x.len]; exact Nat.le_refl _), x.len] at h2
      simp at h1 h2
      subst h1; subst h2
      exact node_of upd_same ho (Ls.rds (fun v c q => RD.mono m2 (x.rd v c q)) h)
  · rcases q with q | ⟨rfl, rfl⟩
    · exact RD.mono m2 (x.rd v c q)
    · simp only [RD]
      exact ⟨p, by rw [← x.len, List.getElem?_append_right (Nat.le_refl _)]; simp, rfl⟩
/-- where a cell stands -/
theorem SRx.at_ (s : SRx H L S T rho) {v : V} {n : Nat} (h : L v (.cell n)) : ∃ a, rho[n]? = some a ∧ v = .ref a := by
  have := s.rd v _ h
  simp only [RD] at this
  exact this
/-- a cell gets other data -/
theorem SR.set (s : SR H L S T) {a : Addr} {n : Nat} {o : HO} {vs : List V} {d : Dat} (hc : L (.ref a) (.cell n)) (ho : HoOf vs d o) (h : Ls L vs (kids d)) : SR (upd H a o) L (S.set n d) T := by
  obtain ⟨rho, x⟩ := s
  obtain ⟨b, hb, e⟩ := x.at_ hc
  injection e with e
  subst e
  have hin : a ∈ rho := List.mem_of_getElem? hb
  have hn := (List.getElem?_eq_some_iff.mp hb).1
  have m : Mono H (L2.upd H a o) (rho ++ T.map (·.1)) (rho ++ T.map (·.1)) rho rho :=
    ⟨fun c u hc e => by rw [upd_ne fun z => hc (by rw [z]; exact List.mem_append_left _ hin)]; exact e, fun _ h => .inl h, fun _ _ h => h⟩
  have ndr : rho.Nodup := (List.nodup_append.mp x.nd).1
  refine ⟨rho, by rw [List.length_set]; exact x.len, x.nd, fun k c f h1 h2 => ?_, fun p hp => ?_, fun v c q => RD.mono m (x.rd v c q)⟩
  · by_cases hk : k = n
    · subst hk
      rw [hb] at h1
      injection h1 with h1
      subst h1
      rw [List.getElem?_set_self (by rw [← x.len]; exact hn)] at h2
      injection h2 with h2
      subst h2
      exact node_of upd_same ho (Ls.rds (fun v c q => RD.mono m (x.rd v c q)) h)
    · rw [List.getElem?_set_ne (Ne.symm hk)] at h2
      have hne : c ≠ a := fun z => by
        subst z
        exact hk ((List.getElem?_inj (List.getElem?_eq_some_iff.mp h1).1 ndr).mp (h1.trans hb.symm))
      exact (x.node k c f h1 h2).mono m (by rw [upd_ne hne])
  · have hne : p.1 ≠ a := fun z => by
      have hd := List.nodup_append.mp x.nd
      exact hd.2.2 a hin p.1 (List.mem_map.mpr ⟨p, hp, rfl⟩) z.symm
    rw [upd_ne hne]
    exact x.pin p hp
/-- data as it may be looked at: a tree itself, what stands at a cell -/
def view (S : List Dat) : Dat → Option Dat
  | .cell n => S[n]?
  | d => some d
/-- a list's, a tuple's items -/
theorem SR.list (s : SR H L S T) {v : V} {d : Dat} {ds : List Dat} (h : L v d) (hv : view S d = some (.lst ds)) : ∃ a vs, v = .ref a ∧ H a = some (.lst vs) ∧ SR H (LaddL L vs ds) S T ∧ Ls (LaddL L vs ds) vs ds := by
  obtain ⟨rho, x⟩ := s
  have key : ∀ (vs : List V), RDs H (rho ++ T.map (·.1)) rho ds vs → SR H (LaddL L vs ds) S T ∧ Ls (LaddL L vs ds) vs ds := fun vs r => by
    have q := RDs.ls (LR := fun v d => RD H (rho ++ T.map (·.1)) rho d v) (fun _ _ h => h) r
    refine ⟨⟨rho, x.more fun v d z => ?_⟩, Ls.of q.length fun i w c e1 e2 => .inr ⟨i, e1, e2⟩⟩
    rcases z with z | ⟨i, e1, e2⟩
    · exact .inl z
    · obtain ⟨w, e3, r⟩ := q.get e2
      rw [e1] at e3
      injection e3 with e3
      subst e3
      exact .inr r
  cases d with
  | cell n =>
    obtain ⟨a, ha, e⟩ := x.at_ h
    obtain ⟨vs, e1, r⟩ := x.node n a _ ha hv
    exact ⟨a, vs, e, e1, key vs r⟩
  | lst xs =>
    simp only [view, Option.some.injEq, Dat.lst.injEq] at hv
    subst hv
    have q := x.rd v _ h
    simp only [RD] at q
    obtain ⟨a, vs, e, _, r1, r⟩ := q
    exact ⟨a, vs, e, r1, key vs r⟩
  | _ => simp [view] at hv
theorem SR.tuple (s : SR H L S T) {v : V} {ds : List Dat} (h : L v (.tup ds)) : ∃ a vs, v = .ref a ∧ H a = some (.tup vs) ∧ SR H (LaddL L vs ds) S T ∧ Ls (LaddL L vs ds) vs ds := by
  obtain ⟨rho, x⟩ := s
  have q := x.rd v _ h
  simp only [RD] at q
  obtain ⟨a, vs, e, _, r1, r⟩ := q
  have q := RDs.ls (LR := fun v d => RD H (rho ++ T.map (·.1)) rho d v) (fun _ _ h => h) r
  refine ⟨a, vs, e, r1, ⟨rho, x.more fun v d z => ?_⟩, Ls.of q.length fun i w c e1 e2 => .inr ⟨i, e1, e2⟩⟩
  rcases z with z | ⟨i, e1, e2⟩
  · exact .inl z
  · obtain ⟨w, e3, r⟩ := q.get e2
    rw [e1] at e3
    injection e3 with e3
    subst e3
    exact .inr r
theorem SR.dtt (s : SR H L S T) {p : Addr} {ks : List (List Key)} {vs : List V} {ds : List Dat} (hp : H p = none) (hl : ks.length = vs.length) (h : Ls L vs ds) : SR (upd H p (.dT (ks.zip vs))) (Ladd L (.ref p) (.dtt ks ds)) S T :=
  s.tree hp fun R rho nr hL => by simp only [RD]; exact ⟨p, vs, rfl, nr, .inl upd_same, hl, Ls.rds hL h⟩
end
end DL
/-! DL2: expressions over data. -/
namespace DL
open PySem L2

/-- an error: its class, its attributes -/
structure Exc where
  C : Addr
  ns : List Str
  xs : List Dat
abbrev Env' := List (Option Dat)
abbrev Store := List Dat
abbrev KE := Dat → Store → Prop
abbrev KX := Exc → Store → Prop
abbrev UE := Env' → Store → KE → KX → Prop
abbrev UT := Env' → Store → (Bool → Store → Prop) → KX → Prop
abbrev UA := Env' → Store → (List Dat → Store → Prop) → KX → Prop
def EnvIn (sg : St) (dl : Env') (L : LL) : Prop := sg.length = dl.length ∧ ∀ (i : Nat) d, dl[i]? = some (some d) → ∃ v, sg[i]? = some (some v) ∧ L v d
theorem EnvIn.le {sg : St} {dl : Env'} {L L' : LL} (e : EnvIn sg dl L) (l : Lle L L') : EnvIn sg dl L' := ⟨e.1, fun i d h => let ⟨v, a, b⟩ := e.2 i d h; ⟨v, a, l _ _ b⟩⟩
def XOk (W : WX) (sg : St) (L : LL) (T : List (Addr × HO)) (X : KX) : Prop := ∀ e dd L' H' S', Lle L L' → L' (.ref dd) (.xd e.ns e.xs) → SR H' L' S' T → X e S' → W (.ref e.C) (some dd) sg H'
def EOk (L : LL) (T : List (Addr × HO)) (K : KE) (Q : VK) : Prop := ∀ v d L' H' S', Lle L L' → L' v d → SR H' L' S' T → K d S' → Q v H'
def TOk (L : LL) (T : List (Addr × HO)) (K : Bool → Store → Prop) (Q : Bool → Hp → Prop) : Prop := ∀ b L' H' S', Lle L L' → SR H' L' S' T → K b S' → Q b H'
def AOk (L : LL) (T : List (Addr × HO)) (K : List Dat → Store → Prop) (Q : List V → Hp → Prop) : Prop := ∀ vs ds L' H' S', Lle L L' → Ls L' vs ds → SR H' L' S' T → K ds S' → Q vs H'
theorem XOk.le {W : WX} {sg : St} {L L' : LL} {T : List (Addr × HO)} {X : KX} (x : XOk W sg L T X) (l : Lle L L') : XOk W sg L' T X := fun e dd L2 H' S' h => x e dd L2 H' S' (l.trans h)
theorem EOk.le {L L' : LL} {T : List (Addr × HO)} {K : KE} {Q : VK} (x : EOk L T K Q) (l : Lle L L') : EOk L' T K Q := fun v d L2 H' S' h => x v d L2 H' S' (l.trans h)
theorem TOk.le {L L' : LL} {T : List (Addr × HO)} {K : Bool → Store → Prop} {Q : Bool → Hp → Prop} (x : TOk L T K Q) (l : Lle L L') : TOk L' T K Q := fun b L2 H' S' h => x b L2 H' S' (l.trans h)
theorem AOk.le {L L' : LL} {T : List (Addr × HO)} {K : List Dat → Store → Prop} {Q : List V → Hp → Prop} (x : AOk L T K Q) (l : Lle L L') : AOk L' T K Q := fun b d L2 H' S' h => x b d L2 H' S' (l.trans h)
/-- the reading t over values is met by the reading u over data -/
def ImpE (W : WX) (t : TE) (u : UE) : Prop := ∀ {sg dl L H S T K X Q}, EnvIn sg dl L → SR H L S T → u dl S K X → EOk L T K Q → XOk W sg L T X → t sg H Q
def ImpT (W : WX) (t : TT) (u : UT) : Prop := ∀ {sg dl L H S T K X Q}, EnvIn sg dl L → SR H L S T → u dl S K X → TOk L T K Q → XOk W sg L T X → t sg H Q
def ImpA (W : WX) (t : TA) (u : UA) : Prop := ∀ {sg dl L H S T K X Q}, EnvIn sg dl L → SR H L S T → u dl S K X → AOk L T K Q → XOk W sg L T X → t sg H Q
/-- an operation on values, on data -/
abbrev G1 := Dat → Store → KE → Prop
abbrev G2 := Dat → Dat → Store → KE → Prop
abbrev GL := List Dat → Store → KE → Prop
abbrev GM := Dat → List Dat → Store → KE → Prop
def OpI (r : R2) (g : G2) : Prop := ∀ {x y dx dy L H S T K Q}, SR H L S T → L x dx → L y dy → g dx dy S K → EOk L T K Q → r x y H Q
def UnI (r : V → Hp → VK → Prop) (g : G1) : Prop := ∀ {x dx L H S T K Q}, SR H L S T → L x dx → g dx S K → EOk L T K Q → r x H Q
def CbI (r : List V → Hp → VK → Prop) (g : GL) : Prop := ∀ {xs ds L H S T K Q}, SR H L S T → Ls L xs ds → g ds S K → EOk L T K Q → r xs H Q
def MtI (r : V → List V → Hp → VK → Prop) (g : GM) : Prop := ∀ {x dx xs ds L H S T K Q}, SR H L S T → L x dx → Ls L xs ds → g dx ds S K → EOk L T K Q → r x xs H Q

structure DE (X : Cx) (W : WX) (e : Expr) (t : TE) (u : UE) : Prop where
  run : PE X e t
  imp : ImpE W t u
structure DT (X : Cx) (W : WX) (e : Expr) (t : TT) (u : UT) : Prop where
  run : PT X e t
  imp : ImpT W t u
structure DW (X : Cx) (W : WX) (e : Expr) (t : TT) (u : UT) : Prop where
  run : PW X e t
  imp : ImpT W t u
structure DA (X : Cx) (W : WX) (es : List Expr) (t : TA) (u : UA) : Prop where
  run : PA X es t
  imp : ImpA W t u
theorem DW.dt {X : Cx} {W : WX} {e : Expr} {t : TT} {u : UT} (h : DW X W e t u) : DT X W e t u := ⟨h.run.pt, h.imp⟩

/-! ### readings over data -/
def uVar (i : Nat) : UE := fun dl S K _ => match dl[i]? with
  | some (some d) => K d S
  | _ => False
def uC (d : Dat) : UE := fun _ S K _ => K d S
def uOp (g : G2) (ua ub : UE) : UE := fun dl S K X => ua dl S (fun x S1 => ub dl S1 (fun y S2 => g x y S2 K) X) X
def uUn (g : G1) (ua : UE) : UE := fun dl S K X => ua dl S (fun x S1 => g x S1 K) X
def uNil : UA := fun _ S K _ => K [] S
def uCons (ua : UE) (ur : UA) : UA := fun dl S K X => ua dl S (fun x S1 => ur dl S1 (fun xs S2 => K (x :: xs) S2) X) X
def uTup (ua : UA) : UE := fun dl S K X => ua dl S (fun xs S1 => xs.length ≤ sizeLine ∧ K (.tup xs) S1) X
/-- a display that never changes; one that may be changed -/
def uLst (ua : UA) : UE := fun dl S K X => ua dl S (fun xs S1 => xs.length ≤ sizeLine ∧ K (.lst xs) S1) X
def uLstC (ua : UA) : UE := fun dl S K X => ua dl S (fun xs S1 => xs.length ≤ sizeLine ∧ K (.cell S1.length) (S1 ++ [.lst xs])) X
def uCB (g : GL) (ua : UA) : UE := fun dl S K X => ua dl S (fun xs S1 => g xs S1 K) X
def uIf (t : UT) (ua ub : UE) : UE := fun dl S K X => t dl S (fun c S1 => if c = true then ua dl S1 K X else ub dl S1 K X) X
def uTest (ua : UE) : UT := fun dl S K X => ua dl S (fun d S1 => match d with
  | .bl b => K b S1
  | _ => False) X
def uAnd (a b : UT) : UT := fun dl S K X => a dl S (fun c S1 => if c = true then b dl S1 K X else K false S1) X
def uOr (a b : UT) : UT := fun dl S K X => a dl S (fun c S1 => if c = true then K true S1 else b dl S1 K X) X
def uNot (a : UT) : UT := fun dl S K X => a dl S (fun c S1 => K (!c) S1) X
/-- the truth of data -/
def gTru (d : Dat) (S : Store) (K : Bool → Store → Prop) : Prop := match d with
  | .non => K false S
  | .bl b => K b S
  | .int i => K (i != 0) S
  | .str y => y.length ≤ sizeLine ∧ K ((y.length : Int) != 0) S
  | .tup xs => K (!xs.isEmpty) S
  | .lst xs => K (!xs.isEmpty) S
  | .cell n => match S[n]? with
    | some (.lst xs) => K (!xs.isEmpty) S
    | _ => False
  | _ => False
def uTru (ua : UE) : UT := fun dl S K X => ua dl S (fun d S1 => gTru d S1 K) X
def uAndV (ua ub : UE) : UE := fun dl S K X => ua dl S (fun d S1 => gTru d S1 fun c S2 => if c = true then ub dl S2 K X else K d S2) X
def uOrV (ua ub : UE) : UE := fun dl S K X => ua dl S (fun d S1 => gTru d S1 fun c S2 => if c = true then K d S2 else ub dl S2 K X) X
def uNotV (ua : UE) : UE := fun dl S K X => ua dl S (fun d S1 => gTru d S1 fun c S2 => K (.bl (!c)) S2) X
def uChain (g g' : G2) (ua ub uc : UE) : UE := fun dl S K X => ua dl S (fun x S1 => ub dl S1 (fun y S2 => g x y S2 fun z S3 => match z with
  | .bl c => if c = true then uc dl S3 (fun w S4 => g' y w S4 K) X else K (.bl false) S3
  | _ => False) X) X

section
variable {X : Cx} {W : WX} {a b c e : Expr} {es rest : List Expr} {ta tb tc te : TE} {ua ub uc ue : UE} {tA tB' : TT} {uA uB : UT} {t : TA} {u : UA} {pos : Pos} {r r' : R2} {g g' : G2}
theorem imp_var {i : Nat} : ImpE W (tVar i) (uVar i) := fun {sg dl L H S T K X Q} he hs h ho _ => by
  unfold uVar at h
  cases e : dl[i]? with
  | none => rw [e] at h; exact h.elim
  | some o =>
    rw [e] at h
    cases o with
    | none => exact h.elim
    | some d =>
      obtain ⟨v, h1, h2⟩ := he.2 i d e
      exact ⟨v, h1, ho v d L H S (.refl L) h2 hs h⟩
theorem de_var (i : Nat) {x : Str} (hN : X.N[i]? = some x := by rfl) (hv : Vis X.env.scope x := by first | exact Or.inl rfl | exact Or.inr (Or.inl rfl) | exact Or.inr (Or.inr rfl)) (hd : (x == ("__debug__" : Str)) = false := by decide)
    (hcd : (x == ("__classdict__" : Str)) = false := by decide) : DE X W (.Name x pos) (tVar i) (uVar i) := ⟨pe_var hN hv hd hcd, imp_var⟩
theorem imp_c {v : V} {d : Dat} (h : Flat d v) : ImpE W (tC v) (uC d) := fun {sg dl L H S T K X Q} _ hs hu ho _ =>
  ho v d (Ladd L v d) H S Ladd.le Ladd.here (hs.flat h) hu
theorem de_int {i j} : DE X W (.Constant (.int i) j pos) (tC (.int i)) (uC (.int i)) := ⟨pe_int, imp_c (d := .int i) (v := .int i) rfl⟩
theorem de_bl {b j} : DE X W (.Constant (.bool b) j pos) (tC (.bl b)) (uC (.bl b)) := ⟨pe_bl, imp_c (d := .bl b) (v := .bl b) rfl⟩
theorem de_non {j} : DE X W (.Constant .none j pos) (tC .non) (uC .non) := ⟨pe_non, imp_c (d := .non) (v := .non) rfl⟩
theorem de_str {x j} : DE X W (.Constant (.str x) j pos) (tC (.str x)) (uC (.str x)) := ⟨pe_str, imp_c (d := .str x) (v := .str x) rfl⟩
/-- a module's constant -/
theorem de_glob {x : Str} {v : V} {d : Dat} {w : Value} (hm : X.mg x = some w) (r : RelV v w) (hf : Flat d v := by rfl) (hg : Gl X x := by rfl) (hd : (x == ("__debug__" : Str)) = false := by decide) : DE X W (.Name x pos) (tC v) (uC d) := ⟨pe_glob hg hm r hd, imp_c hf⟩
theorem imp_op (ho : OpI r g) (ha : ImpE W ta ua) (hb : ImpE W tb ub) : ImpE W (tOp r ta tb) (uOp g ua ub) := fun {sg dl L H S T K X Q} he hs h hq hx =>
  ha he hs h (fun x dx L1 H1 S1 l1 p1 s1 h1 => hb (he.le l1) s1 h1 (fun y dy L2 H2 S2 l2 p2 s2 h2 => ho s2 (l2 _ _ p1) p2 h2 (hq.le (l1.trans l2))) (hx.le l1)) hx
theorem imp_un {r : V → Hp → VK → Prop} {g : G1} (ho : UnI r g) (ha : ImpE W ta ua) : ImpE W (tUn r ta) (uUn g ua) := fun {sg dl L H S T K X Q} he hs h hq hx =>
  ha he hs h (fun x dx L1 H1 S1 l1 p1 s1 h1 => ho s1 p1 h1 (hq.le l1)) hx
theorem da_nil : DA X W [] tNil uNil := ⟨pa_nil, fun {sg dl L H S T K X Q} _ hs h hq _ => hq [] [] L H S (.refl L) True.intro hs h⟩
theorem imp_cons (ha : ImpE W ta ua) (hr : ImpA W t u) : ImpA W (tCons ta t) (uCons ua u) := fun {sg dl L H S T K X Q} he hs h hq hx =>
  ha he hs h (fun x dx L1 H1 S1 l1 p1 s1 h1 => hr (he.le l1) s1 h1 (fun ys dys L2 H2 S2 l2 p2 s2 h2 => hq (x :: ys) (dx :: dys) L2 H2 S2 (l1.trans l2) ⟨l2 _ _ p1, p2⟩ s2 h2) (hx.le l1)) hx
theorem da_cons (ha : DE X W e te ue) (hr : DA X W es t u) (hs : starEach (e :: es) X.env = (false, eval e X.env) :: starEach es X.env := by rfl) : DA X W (e :: es) (tCons te t) (uCons ue u) := ⟨pa_cons ha.run hr.run hs, imp_cons ha.imp hr.imp⟩
theorem de_tup {x1} (h : DA X W es t u) : DE X W (.Tuple es x1 pos) (tTup t) (uTup u) := ⟨pe_tup h.run, fun {sg dl L H S T K X Q} he hs h' hq hx =>
  h.imp he hs h' (fun vs ds L1 H1 S1 l1 p1 s1 h1 => ⟨by rw [p1.length]; exact h1.1, fun p hp => hq _ _ _ _ S1 (l1.trans Ladd.le) Ladd.here (s1.tup hp p1) h1.2⟩) hx⟩
theorem de_lst (h : DA X W es t u) : DE X W (.List es pos) (tLst t) (uLst u) := ⟨pe_lst h.run, fun {sg dl L H S T K X Q} he hs h' hq hx =>
  h.imp he hs h' (fun vs ds L1 H1 S1 l1 p1 s1 h1 => ⟨by rw [p1.length]; exact h1.1, fun p hp => hq _ _ _ _ S1 (l1.trans Ladd.le) Ladd.here (s1.lst hp p1) h1.2⟩) hx⟩
theorem de_lstC (h : DA X W es t u) : DE X W (.List es pos) (tLst t) (uLstC u) := ⟨pe_lst h.run, fun {sg dl L H S T K X Q} he hs h' hq hx =>
  h.imp he hs h' (fun vs ds L1 H1 S1 l1 p1 s1 h1 => ⟨by rw [p1.length]; exact h1.1, fun p hp => hq _ _ _ _ _ (l1.trans Ladd.le) Ladd.here (s1.cell (d := .lst ds) hp rfl p1) h1.2⟩) hx⟩
/-! operators: the rule by values and by data -/
structure DOp (X : Cx) (f : Value → Value → Sem Value) (r : R2) (g : G2) : Prop where
  run : OpR X f r
  imp : OpI r g
theorem de_bin {op : Operator} (ho : DOp X (binaryOp op) r g) (ha : DE X W a ta ua) (hb : DE X W b tb ub) : DE X W (.BinOp a op b pos) (tOp r ta tb) (uOp g ua ub) := ⟨pe_op ho.run ha.run hb.run, imp_op ho.imp ha.imp hb.imp⟩
theorem de_cmp {op : CmpOp} (ho : DOp X (compareOp op) r g) (ha : DE X W a ta ua) (hb : DE X W b tb ub) (hm : behindInMarks op b = false := by first | exact nomark _ | rfl) : DE X W (.Compare a [op] [b] pos) (tOp r ta tb) (uOp g ua ub) := ⟨pe_cmpR ho.run ha.run hb.run hm, imp_op ho.imp ha.imp hb.imp⟩
theorem imp_test (ha : ImpE W ta ua) : ImpT W (tTest ta) (uTest ua) := fun {sg dl L H S T K X Q} he hs h hq hx =>
  ha he hs h (fun v d L1 H1 S1 l1 p1 s1 h1 => by
    cases d with
    | bl b =>
      obtain ⟨rho, x⟩ := id s1
      have := x.rd _ _ p1
      simp only [RD] at this
      exact ⟨b, this, hq b L1 H1 S1 l1 s1 h1⟩
    | _ => exact h1.elim) hx
theorem dt_cmp {op : CmpOp} (ho : DOp X (compareOp op) r g) (ha : DE X W a ta ua) (hb : DE X W b tb ub) (hm : behindInMarks op b = false := by first | exact nomark _ | rfl) : DT X W (.Compare a [op] [b] pos) (tTest (tOp r ta tb)) (uTest (uOp g ua ub)) := ⟨pt_cmpR ho.run ha.run hb.run hm, imp_test (imp_op ho.imp ha.imp hb.imp)⟩
theorem imp_chain (ho : OpI r g) (ho' : OpI r' g') (ha : ImpE W ta ua) (hb : ImpE W tb ub) (hc : ImpE W tc uc) : ImpE W (tChain r r' ta tb tc) (uChain g g' ua ub uc) := fun {sg dl L H S T K X Q} he hs h hq hx =>
  ha he hs h (fun x dx L1 H1 S1 l1 p1 s1 h1 => hb (he.le l1) s1 h1 (fun y dy L2 H2 S2 l2 p2 s2 h2 => ho s2 (l2 _ _ p1) p2 h2 fun z dz L3 H3 S3 l3 p3 s3 h3 => by
    cases dz with
    | bl c =>
      obtain ⟨rho, q⟩ := id s3
      have := q.rd _ _ p3
      simp only [RD] at this
      refine ⟨c, this, ?_⟩
      cases c with
      | true => exact hc (he.le ((l1.trans l2).trans l3)) s3 h3 (fun w dw L4 H4 S4 l4 p4 s4 h4 => ho' s4 (l4 _ _ (l3 _ _ p2)) p4 h4 (hq.le (((l1.trans l2).trans l3).trans l4))) (hx.le ((l1.trans l2).trans l3))
      | false => exact hq (.bl false) (.bl false) (Ladd L3 _ _) H3 S3 (((l1.trans l2).trans l3).trans Ladd.le) Ladd.here (s3.flat rfl) h3
    | _ => exact h3.elim) (hx.le l1)) hx
theorem de_chain {op op' : CmpOp} (ho : DOp X (compareOp op) r g) (ho' : DOp X (compareOp op') r' g') (ha : DE X W a ta ua) (hb : DE X W b tb ub) (hc : DE X W c tc uc) (hm : lastMarks [op, op'] [b, c] = false := by with_unfolding_all rfl) : DE X W (.Compare a [op, op'] [b, c] pos) (tChain r r' ta tb tc) (uChain g g' ua ub uc) :=
  ⟨pe_chain ho.run ho'.run ha.run hb.run hc.run hm, imp_chain ho.imp ho'.imp ha.imp hb.imp hc.imp⟩
theorem dt_chain {op op' : CmpOp} (ho : DOp X (compareOp op) r g) (ho' : DOp X (compareOp op') r' g') (ha : DE X W a ta ua) (hb : DE X W b tb ub) (hc : DE X W c tc uc) (hm : lastMarks [op, op'] [b, c] = false := by with_unfolding_all rfl) :
    DT X W (.Compare a [op, op'] [b, c] pos) (tTest (tChain r r' ta tb tc)) (uTest (uChain g g' ua ub uc)) := ⟨pt_chain ho.run ho'.run ha.run hb.run hc.run hm, imp_test (imp_chain ho.imp ho'.imp ha.imp hb.imp hc.imp)⟩
/-! truth -/
theorem tru_of {K' : PySem.W.Frag} {L : LL} {H : Hp} {S : Store} {T : List (Addr × HO)} {K : Bool → Store → Prop} {d : Dat} {v : V} (hs : SR H L S T) (hp : L v d) (h : gTru d S K) : ∃ k, TruV K' v H k ∧ K k S := by
  obtain ⟨rho, x⟩ := id hs
  have q := x.rd _ _ hp
  cases d with
  | non => simp only [RD] at q; subst q; exact ⟨false, rfl, h⟩
  | bl b => simp only [RD] at q; subst q; exact ⟨b, rfl, h⟩
  | int i => simp only [RD] at q; subst q; exact ⟨_, rfl, h⟩
  | str y => simp only [RD] at q; subst q; exact ⟨_, ⟨h.1, rfl⟩, h.2⟩
  | tup xs =>
    obtain ⟨a, vs, e, r, _, k⟩ := hs.tuple hp
    subst e
    refine ⟨_, .inr (.inl ⟨vs, .of r, rfl⟩), ?_⟩
    have l := k.length
    have e : vs.isEmpty = xs.isEmpty := by cases vs <;> cases xs <;> simp at l ⊢
    rw [e]; exact h
  | lst xs =>
    obtain ⟨a, vs, e, r, _, k⟩ := hs.list hp rfl
    subst e
    refine ⟨_, .inl ⟨vs, .of r, rfl⟩, ?_⟩
    have l := k.length
    have e : vs.isEmpty = xs.isEmpty := by cases vs <;> cases xs <;> simp at l ⊢
    rw [e]; exact h
  | cell n =>
    have h : (match S[n]? with
      | some (.lst xs) => K (!xs.isEmpty) S
      | _ => False) := h
    cases e : S[n]? with
    | none => rw [e] at h; exact h.elim
    | some d' =>
      rw [e] at h
      cases d' with
      | lst xs =>
        obtain ⟨a, vs, e, r, _, k⟩ := hs.list (ds := xs) hp e
        subst e
        refine ⟨_, .inl ⟨vs, .of r, rfl⟩, ?_⟩
        have l := k.length
        have e : vs.isEmpty = xs.isEmpty := by cases vs <;> cases xs <;> simp at l ⊢
        rw [e]; exact h
      | _ => exact h.elim
  | _ => exact h.elim
theorem dt_tru (ha : DE X W a ta ua) (hh : ∀ whole, isTrue a X.env whole = (do let v ← whole; standAt a.pos; holding [v] (truthy v)) := by intro _; rfl) : DT X W a (fun sg H Q => ta sg H fun x H' => ∃ k, TruV X.K x H' k ∧ Q k H') (uTru ua) :=
  ⟨pt_truth ha.run hh, fun {sg dl L H S T K X' Q} he hs h hq hx => ha.imp he hs h (fun v d L1 H1 S1 l1 p1 s1 h1 => by
    obtain ⟨k, hk, q⟩ := tru_of (K' := X.K) s1 p1 h1
    exact ⟨k, hk, hq k L1 H1 S1 l1 s1 q⟩) hx⟩
theorem gTru_imp {d : Dat} {S : Store} {K K' : Bool → Store → Prop} (h : gTru d S K) (k : ∀ b, K b S → K' b S) : gTru d S K' := by
  cases d with
  | non => exact k _ h
  | bl b => exact k _ h
  | int i => exact k _ h
  | str y => exact ⟨h.1, k _ h.2⟩
  | tup xs => exact k _ h
  | lst xs => exact k _ h
  | cell n =>
    have h : (match S[n]? with
      | some (.lst xs) => K (!xs.isEmpty) S
      | _ => False) := h
    show (match S[n]? with
      | some (.lst xs) => K' (!xs.isEmpty) S
      | _ => False)
    cases e : S[n]? with
    | none => rw [e] at h; exact h.elim
    | some d' =>
      rw [e] at h
      cases d' with
      | lst xs => exact k _ h
      | _ => exact h.elim
  | _ => exact h.elim
theorem de_and (ha : DE X W a ta ua) (hb : DE X W (.BoolOp .And (b :: rest) pos) tb ub) : DE X W (.BoolOp .And (a :: b :: rest) pos) (tAndT X.K ta tb) (uAndV ua ub) := ⟨pe_andT ha.run hb.run, fun {sg dl L H S T K X' Q} he hs h hq hx =>
  ha.imp he hs h (fun v d L1 H1 S1 l1 p1 s1 h1 => by
    obtain ⟨k, hk, q⟩ := tru_of (K' := X.K) s1 p1 h1
    refine ⟨k, hk, ?_⟩
    cases k with
    | true => exact hb.imp (he.le l1) s1 q (hq.le l1) (hx.le l1)
    | false => exact hq v d L1 H1 S1 l1 p1 s1 q) hx⟩
theorem de_or (ha : DE X W a ta ua) (hb : DE X W (.BoolOp .Or (b :: rest) pos) tb ub) : DE X W (.BoolOp .Or (a :: b :: rest) pos) (tOrT X.K ta tb) (uOrV ua ub) := ⟨pe_orT ha.run hb.run, fun {sg dl L H S T K X' Q} he hs h hq hx =>
  ha.imp he hs h (fun v d L1 H1 S1 l1 p1 s1 h1 => by
    obtain ⟨k, hk, q⟩ := tru_of (K' := X.K) s1 p1 h1
    refine ⟨k, hk, ?_⟩
    cases k with
    | true => exact hq v d L1 H1 S1 l1 p1 s1 q
    | false => exact hb.imp (he.le l1) s1 q (hq.le l1) (hx.le l1)) hx⟩
theorem de_one {op} (ha : DE X W a ta ua) : DE X W (.BoolOp op [a] pos) ta ua := ⟨pe_one ha.run, ha.imp⟩
theorem de_not (ha : DE X W a ta ua) : DE X W (.UnaryOp .Not a pos) (tNotT X.K ta) (uNotV ua) := ⟨pe_notT ha.run, fun {sg dl L H S T K X' Q} he hs h hq hx =>
  ha.imp he hs h (fun v d L1 H1 S1 l1 p1 s1 h1 => by
    obtain ⟨k, hk, q⟩ := tru_of (K' := X.K) s1 p1 h1
    exact ⟨k, hk, hq (.bl (!k)) (.bl (!k)) (Ladd L1 _ _) H1 S1 (l1.trans Ladd.le) Ladd.here (s1.flat rfl) q⟩) hx⟩
theorem imp_and (ha : ImpT W tA uA) (hb : ImpT W tB' uB) : ImpT W (tAnd tA tB') (uAnd uA uB) := fun {sg dl L H S T K X Q} he hs h hq hx =>
  ha he hs h (fun c L1 H1 S1 l1 s1 h1 => by
    cases c with
    | true => exact hb (he.le l1) s1 h1 (hq.le l1) (hx.le l1)
    | false => exact hq false L1 H1 S1 l1 s1 h1) hx
theorem imp_or (ha : ImpT W tA uA) (hb : ImpT W tB' uB) : ImpT W (tOr tA tB') (uOr uA uB) := fun {sg dl L H S T K X Q} he hs h hq hx =>
  ha he hs h (fun c L1 H1 S1 l1 s1 h1 => by
    cases c with
    | true => exact hq true L1 H1 S1 l1 s1 h1
    | false => exact hb (he.le l1) s1 h1 (hq.le l1) (hx.le l1)) hx
theorem dw_and1 (ha : DT X W a tA uA) : DW X W (.BoolOp .And [a] pos) tA uA := ⟨pw_and1 ha.run, ha.imp⟩
theorem dw_or1 (ha : DT X W a tA uA) : DW X W (.BoolOp .Or [a] pos) tA uA := ⟨pw_or1 ha.run, ha.imp⟩
theorem dw_and (ha : DT X W a tA uA) (hb : DW X W (.BoolOp .And (b :: rest) pos) tB' uB) : DW X W (.BoolOp .And (a :: b :: rest) pos) (tAnd tA tB') (uAnd uA uB) := ⟨pw_and ha.run hb.run, imp_and ha.imp hb.imp⟩
theorem dw_or (ha : DT X W a tA uA) (hb : DW X W (.BoolOp .Or (b :: rest) pos) tB' uB) : DW X W (.BoolOp .Or (a :: b :: rest) pos) (tOr tA tB') (uOr uA uB) := ⟨pw_or ha.run hb.run, imp_or ha.imp hb.imp⟩
theorem dt_not (ha : DT X W a tA uA) : DT X W (.UnaryOp .Not a pos) (tNot tA) (uNot uA) := ⟨pt_not ha.run, fun {sg dl L H S T K X' Q} he hs h hq hx => ha.imp he hs h (fun c L1 H1 S1 l1 s1 h1 => hq (!c) L1 H1 S1 l1 s1 h1) hx⟩
theorem de_if (hc : DT X W c tA uA) (ha : DE X W a ta ua) (hb : DE X W b tb ub) : DE X W (.IfExp c a b pos) (tIf tA ta tb) (uIf uA ua ub) := ⟨pe_ifExp hc.run ha.run hb.run, fun {sg dl L H S T K X' Q} he hs h hq hx =>
  hc.imp he hs h (fun k L1 H1 S1 l1 s1 h1 => by
    cases k with
    | true => exact ha.imp (he.le l1) s1 h1 (hq.le l1) (hx.le l1)
    | false => exact hb.imp (he.le l1) s1 h1 (hq.le l1) (hx.le l1)) hx⟩
end
end DL
/-! DL3: statements over data. -/
namespace DL
open PySem L2

structure DEnds where
  nx : Env' → Store → Prop
  rt : Dat → Store → Prop
  bk : Env' → Store → Prop := fun _ _ => False
  ct : Env' → Store → Prop := fun _ _ => False
  ex : Exc → Env' → Store → Prop := fun _ _ _ => False
abbrev US := DEnds → Env' → Store → Prop
/-- what the end of a statement over values must bear -/
def NOk (n : Nat) (L : LL) (T : List (Addr × HO)) (K : Env' → Store → Prop) (Q : St → Hp → Prop) : Prop := ∀ sg dl L' H' S', Lle L L' → sg.length = n → EnvIn sg dl L' → SR H' L' S' T → K dl S' → Q sg H'
def WOk (n : Nat) (W : WX) (L : LL) (T : List (Addr × HO)) (X : Exc → Env' → Store → Prop) : Prop := ∀ e dd sg dl L' H' S', Lle L L' → sg.length = n → EnvIn sg dl L' → L' (.ref dd) (.xd e.ns e.xs) → SR H' L' S' T → X e dl S' → W (.ref e.C) (some dd) sg H'
theorem NOk.le {n : Nat} {L L' : LL} {T : List (Addr × HO)} {K : Env' → Store → Prop} {Q : St → Hp → Prop} (x : NOk n L T K Q) (l : Lle L L') : NOk n L' T K Q := fun sg dl L2 H' S' h => x sg dl L2 H' S' (l.trans h)
theorem WOk.le {n : Nat} {W : WX} {L L' : LL} {T : List (Addr × HO)} {X : Exc → Env' → Store → Prop} (x : WOk n W L T X) (l : Lle L L') : WOk n W L' T X := fun e dd sg dl L2 H' S' h => x e dd sg dl L2 H' S' (l.trans h)
theorem WOk.x {n : Nat} {W : WX} {L : LL} {T : List (Addr × HO)} {X : Exc → Env' → Store → Prop} (x : WOk n W L T X) {sg : St} {dl : Env'} (hl : sg.length = n) (he : EnvIn sg dl L) : XOk W sg L T (fun e S => X e dl S) :=
  fun e dd L' H' S' h1 h2 h3 h4 => x e dd sg dl L' H' S' h1 hl (he.le h1) h2 h3 h4
structure SOk (n : Nat) (W : WX) (L : LL) (T : List (Addr × HO)) (D : DEnds) (D' : Ends) : Prop where
  nx : NOk n L T D.nx D'.nx
  rt : EOk L T D.rt D'.rt
  bk : NOk n L T D.bk D'.bk
  ct : NOk n L T D.ct D'.ct
  ex : WOk n W L T D.ex
theorem SOk.le {n : Nat} {W : WX} {L L' : LL} {T : List (Addr × HO)} {D : DEnds} {D' : Ends} (x : SOk n W L T D D') (l : Lle L L') : SOk n W L' T D D' := ⟨x.nx.le l, x.rt.le l, x.bk.le l, x.ct.le l, x.ex.le l⟩
def ImpS (W : WX) (t : TS) (u : US) : Prop := ∀ {sg dl L H S T D D'}, EnvIn sg dl L → SR H L S T → u D dl S → SOk sg.length W L T D D' → t D' sg H
structure DS (X : Cx) (W : WX) (s : Stmt) (t : TS) (u : US) : Prop where
  run : PS X s t
  imp : ImpS W t u
structure DSs (X : Cx) (W : WX) (s : List Stmt) (t : TS) (u : US) : Prop where
  run : PSs X s t
  imp : ImpS W t u
/-- targets -/
abbrev UG := Dat → Env' → Store → (Env' → Store → Prop) → KX → Prop
def GOk (sg : St) (ts : List Nat) (L : LL) (T : List (Addr × HO)) (K : Env' → Store → Prop) (Q : St → Hp → Prop) : Prop := ∀ sg' dl L' H' S', Lle L L' → sg'.length = sg.length → (∀ vs : List Nat, (∀ i ∈ ts, i ∈ vs) → wipe sg' vs = wipe sg vs) → EnvIn sg' dl L' → SR H' L' S' T → K dl S' → Q sg' H'
theorem NOk.g {n : Nat} {sg : St} {ts : List Nat} {L : LL} {T : List (Addr × HO)} {K : Env' → Store → Prop} {Q : St → Hp → Prop} (x : NOk n L T K Q) (h : sg.length = n) : GOk sg ts L T K Q := fun sg' dl L' H' S' l hl _ he hs hk => x sg' dl L' H' S' l (hl.trans h) he hs hk
/-- ts: the slots that the target stores into -/
def ImpG (W : WX) (t : TG) (u : UG) (ts : List Nat) : Prop := ∀ {sg dl L H S T v d K X Q}, EnvIn sg dl L → SR H L S T → L v d → u d dl S K X → GOk sg ts L T K Q → XOk W sg L T X → t v sg H Q
structure DG (X : Cx) (W : WX) (e : Expr) (t : TG) (u : UG) (ts : List Nat) : Prop where
  run : PG X e t
  imp : ImpG W t u ts
theorem wipe_set {sg : St} {i : Nat} {v : Option V} : ∀ {vs : List Nat}, i ∈ vs → wipe (sg.set i v) vs = wipe sg vs
  | j :: vs, h => by
    unfold wipe
    by_cases e : i ∈ vs
    · rw [wipe_set e]
    · have ej : i = j := by
        rcases List.mem_cons.mp h with q | q
        · exact q
        · exact absurd q e
      subst ej
      have key : ∀ us : List Nat, i ∉ us → wipe (sg.set i v) us = (wipe sg us).set i v := fun us => by
        induction us with
        | nil => intro _; rfl
        | cons k us ih =>
          intro hk
          unfold wipe
          have hne : i ≠ k := fun z => hk (z ▸ List.mem_cons_self)
          rw [ih fun z => hk (List.mem_cons_of_mem _ z), List.set_comm _ _ hne]
      rw [key vs e, List.set_set]

def uSeq (a b : US) : US := fun D dl S => a { D with nx := b D } dl S
/-- the rest is shown once, from a word between -/
def uCut (a b : US) : US := fun D dl S => ∃ M : Env' → Store → Prop, a { D with nx := M } dl S ∧ ∀ dl' S', M dl' S' → b D dl' S'
def uNext : US := fun D dl S => D.nx dl S
def uBreak : US := fun D dl S => D.bk dl S
def uCont : US := fun D dl S => D.ct dl S
def uDrop (ue : UE) : US := fun D dl S => ue dl S (fun _ S1 => D.nx dl S1) (fun e S1 => D.ex e dl S1)
def uRet (ue : UE) : US := fun D dl S => ue dl S (fun d S1 => D.rt d S1) (fun e S1 => D.ex e dl S1)
def uRetN : US := fun D _ S => D.rt .non S
def uIfS (c : UT) (a b : US) : US := fun D dl S => c dl S (fun k S1 => if k = true then a D dl S1 else b D dl S1) (fun e S1 => D.ex e dl S1)
def uName (i : Nat) : UG := fun d dl S K _ => i < dl.length ∧ K (dl.set i (some d)) S
def uSet (i : Nat) (ue : UE) : US := fun D dl S => ue dl S (fun d S1 => i < dl.length ∧ D.nx (dl.set i (some d)) S1) (fun e S1 => D.ex e dl S1)
def uAsg (ue : UE) (g : UG) : US := fun D dl S => ue dl S (fun d S1 => g d dl S1 D.nx (fun e S1 => D.ex e dl S1)) (fun e S1 => D.ex e dl S1)
def uPar (i j : Nat) (ua : UA) : US := fun D dl S => ua dl S (fun ds S1 => match ds with
  | [a, b] => i < dl.length ∧ j < dl.length ∧ D.nx ((dl.set i (some a)).set j (some b)) S1
  | _ => False) (fun e S1 => D.ex e dl S1)

section
variable {X : Cx} {W : WX} {s : Stmt} {ss : List Stmt} {t t' : TS} {u u' : US} {e : Expr} {te : TE} {ue : UE} {pos : Pos}
theorem EnvIn.set {sg : St} {dl : Env'} {L : LL} (he : EnvIn sg dl L) {i : Nat} {v : V} {d : Dat} (hi : i < dl.length) (h : L v d) : EnvIn (sg.set i (some v)) (dl.set i (some d)) L := by
  refine ⟨by rw [List.length_set, List.length_set]; exact he.1, fun k c hk => ?_⟩
  by_cases e : k = i
  · subst e
    rw [List.getElem?_set_self hi] at hk
    injection hk with hk
    injection hk with hk
    subst hk
    exact ⟨v, by rw [List.getElem?_set_self (by rw [he.1]; exact hi)], h⟩
  · rw [List.getElem?_set_ne (Ne.symm e)] at hk
    obtain ⟨w, h1, h2⟩ := he.2 k c hk
    exact ⟨w, by rw [List.getElem?_set_ne (Ne.symm e)]; exact h1, h2⟩
theorem dss_nil : DSs X W [] tNext uNext := ⟨pss_nil, fun {sg dl L H S T D D'} he hs h hk => hk.nx sg dl L H S (.refl L) rfl he hs h⟩
theorem imp_seq (h1 : ImpS W t u) (h2 : ImpS W t' u') : ImpS W (tSeq t t') (uSeq u u') := fun {sg dl L H S T D D'} he hs h hk =>
  h1 (D := { D with nx := u' D }) (D' := { D' with nx := t' D' }) he hs h ⟨fun sg' dl' L' H' S' l hl he' hs' h' => h2 he' hs' h' (by rw [hl]; exact hk.le l), hk.rt, hk.bk, hk.ct, hk.ex⟩
theorem dss_cons (h1 : DS X W s t u) (h2 : DSs X W ss t' u') : DSs X W (s :: ss) (tSeq t t') (uSeq u u') := ⟨pss_cons h1.run h2.run, imp_seq h1.imp h2.imp⟩
theorem dss_one (h1 : DS X W s t u) : DSs X W [s] t u := ⟨pss_one h1.run, h1.imp⟩
theorem dss_cut (h1 : DS X W s t u) (h2 : DSs X W ss t' u') : DSs X W (s :: ss) (tSeq t t') (uCut u u') := ⟨pss_cons h1.run h2.run, fun {sg dl L H S T D D'} he hs h hk => by
  obtain ⟨M, hm, hu⟩ := h
  exact h1.imp (D := { D with nx := M }) (D' := { D' with nx := t' D' }) he hs hm ⟨fun sg' dl' L' H' S' l hl he' hs' h' => h2.imp he' hs' (hu dl' S' h') (by rw [hl]; exact hk.le l), hk.rt, hk.bk, hk.ct, hk.ex⟩⟩
theorem ds_pass : DS X W (.Pass pos) tNext uNext := ⟨ps_pass, fun {sg dl L H S T D D'} he hs h hk => hk.nx sg dl L H S (.refl L) rfl he hs h⟩
theorem ds_break : DS X W (.Break pos) tBreak uBreak := ⟨ps_break, fun {sg dl L H S T D D'} he hs h hk => hk.bk sg dl L H S (.refl L) rfl he hs h⟩
theorem ds_cont : DS X W (.Continue pos) tCont uCont := ⟨ps_continue, fun {sg dl L H S T D D'} he hs h hk => hk.ct sg dl L H S (.refl L) rfl he hs h⟩
theorem ds_expr (h : DE X W e te ue) (hs : swapsWith e none pos.line X.env = pure false := by rfl) : DS X W (.Expr e pos) (tDrop te) (uDrop ue) := ⟨ps_expr h.run hs, fun {sg dl L H S T D D'} he hs h' hk =>
  h.imp he hs h' (fun v d L1 H1 S1 l1 p1 s1 h1 => hk.nx sg dl L1 H1 S1 l1 rfl (he.le l1) s1 h1) (hk.ex.x rfl he)⟩
theorem ds_ret (h : DE X W e te ue) : DS X W (.Return (some e) pos) (tRet te) (uRet ue) := ⟨ps_ret h.run, fun {sg dl L H S T D D'} he hs h' hk => h.imp he hs h' hk.rt (hk.ex.x rfl he)⟩
theorem ds_retN : DS X W (.Return none pos) tRetN uRetN := ⟨ps_retN, fun {sg dl L H S T D D'} he hs h' hk => hk.rt .non .non (Ladd L .non .non) H S Ladd.le Ladd.here (hs.flat rfl) h'⟩
theorem ds_if {c : Expr} {a b : List Stmt} {tc : TT} {uc : UT} {ta tb : TS} {ua ub : US} (hc : DT X W c tc uc) (ha : DSs X W a ta ua) (hb : DSs X W b tb ub) : DS X W (.If c a b pos) (tIfS tc ta tb) (uIfS uc ua ub) := ⟨ps_if hc.run ha.run hb.run, fun {sg dl L H S T D D'} he hs h' hk =>
  hc.imp he hs h' (fun k L1 H1 S1 l1 s1 h1 => by
    cases k with
    | true => exact ha.imp (he.le l1) s1 h1 (hk.le l1)
    | false => exact hb.imp (he.le l1) s1 h1 (hk.le l1)) (hk.ex.x rfl he)⟩
theorem dg_name {i : Nat} {x : Str} (hN : X.N.Nodup) (hi : X.N[i]? = some x := by rfl) (hx : Loc X.env.scope x := by first | exact Or.inl rfl | exact Or.inr rfl) (hf : X.fn x = true ∨ X.env.scope.names.lookup x = some .local := by first | exact .inl rfl | exact .inr rfl | assumption) : DG X W (.Name x pos) (gName i) (uName i) [i] :=
  ⟨pg_name hN hi hx hf, fun {sg dl L H S T v d K X' Q} he hs hp h hk _ => hk (sg.set i (some v)) (dl.set i (some d)) L H S (.refl L) (List.length_set ..) (fun vs hv => wipe_set (hv i List.mem_cons_self)) (he.set h.1 hp) hs h.2⟩
theorem ds_asg {tg : Expr} {g : TG} {ug : UG} {ts : List Nat} (h : DE X W e te ue) (hg : DG X W tg g ug ts) (hs : swapsWithSole [tg] e pos.line X.env = pure false := by rfl) (hw : swappedStores [tg] e X.env = pure none := by rfl)
    (h1 : (assignEach [tg] X.env).map (·.2) = [assign tg X.env] := by rfl) : DS X W (.Assign [tg] e pos) (tAsg te g) (uAsg ue ug) := ⟨ps_asg h.run hg.run hs hw h1, fun {sg dl L H S T D D'} he hs h' hk =>
  h.imp he hs h' (fun v d L1 H1 S1 l1 p1 s1 h1 => hg.imp (he.le l1) s1 p1 h1 ((hk.nx.le l1).g rfl) ((hk.ex.x rfl he).le l1)) (hk.ex.x rfl he)⟩
theorem ds_set {i : Nat} {x : Str} {p : Pos} (hN : X.N.Nodup) (h : DE X W e te ue) (hi : X.N[i]? = some x := by rfl) (hx : Loc X.env.scope x := by first | exact Or.inl rfl | exact Or.inr rfl) (hf : X.fn x = true ∨ X.env.scope.names.lookup x = some .local := by first | exact .inl rfl | exact .inr rfl | assumption)
    (hs : swapsWithSole [.Name x p] e pos.line X.env = pure false := by rfl) (hw : swappedStores [.Name x p] e X.env = pure none := by rfl)
    (h1 : (assignEach [.Name x p] X.env).map (·.2) = [assign (.Name x p) X.env] := by rfl) : DS X W (.Assign [.Name x p] e pos) (tAsg te (gName i)) (uSet i ue) := ⟨ps_asg h.run (pg_name hN hi hx hf) hs hw h1, fun {sg dl L H S T D D'} he hs h' hk =>
  h.imp he hs h' (fun v d L1 H1 S1 l1 p1 s1 h1 => hk.nx (sg.set i (some v)) (dl.set i (some d)) L1 H1 S1 l1 (List.length_set ..) ((he.le l1).set h1.1 p1) s1 h1.2) (hk.ex.x rfl he)⟩
theorem ds_par {i j : Nat} {x y : Str} {a b : Expr} {ta : TA} {ua : UA} {px py pt : Pos} {kt k2 pt2} (hc : X.calm = true) (hN : X.N.Nodup) (ha : DA X W [a, b] ta ua) (hi : X.N[i]? = some x := by rfl) (hj : X.N[j]? = some y := by rfl) (hij : i ≠ j := by decide)
    (hx : X.env.scope.names.lookup x = some .local := by rfl) (hy : X.env.scope.names.lookup y = some .local := by rfl)
    (hw : swappedStores [.Tuple [.Name x px, .Name y py] kt pt] (.Tuple [a, b] k2 pt2) X.env = pure (some [x, y]) := by rfl)
    (hs : swapsWithSole [.Tuple [.Name x px, .Name y py] kt pt] (.Tuple [a, b] k2 pt2) pos.line X.env = pure false := by rfl) :
    DS X W (.Assign [.Tuple [.Name x px, .Name y py] kt pt] (.Tuple [a, b] k2 pt2) pos) (tPar i j ta) (uPar i j ua) := ⟨ps_par hc hN hi hj hij hx hy ha.run hw hs, fun {sg dl L H S T D D'} he hs h' hk =>
  ha.imp he hs h' (fun vs ds L1 H1 S1 l1 p1 s1 h1 => by
    match vs, ds, p1, h1 with
    | [v, w], [c, d], p1, h1 =>
      refine ⟨v, w, rfl, hk.nx _ _ L1 H1 S1 l1 (by rw [List.length_set, List.length_set]) (((he.le l1).set h1.1 p1.1).set (by rw [List.length_set]; exact h1.2.1) p1.2.1) s1 h1.2.2⟩
    | [], [], _, h1 => exact h1.elim
    | [_], [_], _, h1 => exact h1.elim
    | _ :: _ :: _ :: _, _ :: _ :: _ :: _, _, h1 => exact h1.elim
    | [], _ :: _, p1, _ => exact p1.elim
    | _ :: _, [], p1, _ => exact p1.elim
    | [_], _ :: _ :: _, p1, _ => exact p1.2.elim
    | _ :: _ :: _, [_], p1, _ => exact p1.2.elim
    | [_, _], _ :: _ :: _ :: _, p1, _ => exact p1.2.2.elim
    | _ :: _ :: _ :: _, [_, _], p1, _ => exact p1.2.2.elim) (hk.ex.x rfl he)⟩
/-! what is no longer wanted may be dropped -/
structure Gc (N : Nat) (dl : Env') (S : Store) (dl2 : Env') (S2 : Store) : Prop where
  pre : ∃ R, S = S2 ++ R
  enough : N ≤ S2.length
  bel : belows S2.length S2
  slots : dl2.length = dl.length ∧ ∀ (i : Nat) d, dl2[i]? = some (some d) → dl[i]? = some (some d) ∧ below S2.length d
def GcTo (N : Nat) (J : Env' → Store → Prop) : Env' → Store → Prop := fun dl S => J dl S ∨ ∃ dl2 S2, Gc N dl S dl2 S2 ∧ J dl2 S2
theorem belows_mem {n : Nat} : ∀ {ds : List Dat} {d : Dat}, belows n ds → d ∈ ds → below n d
  | c :: ds, d, h, m => by
    simp only [belows] at h
    rcases List.mem_cons.mp m with e | e
    · subst e; exact h.1
    · exact belows_mem h.2 e
theorem kids_below {n : Nat} {d : Dat} (h : below n d) : belows n (kids d) := by
  cases d with
  | lst xs => simp only [below] at h; exact h
  | tup xs => simp only [below] at h; exact h
  | dct ks xs => simp only [below] at h; exact h
  | dtt ks xs => simp only [below] at h; exact h
  | ins C ns xs => simp only [below] at h; exact h
  | xd ns xs => simp only [below] at h; exact h
  | _ => simp only [kids, belows]
theorem Node.trim {H : Hp} {R R' rho : List Addr} {n : Nat} {a : Addr} {d : Dat} (hR : ∀ a, a ∈ R' → a ∈ R) (h : Node H R rho a d) (b : below n d) : Node H R' (rho.take n) a d := by
  cases d with
  | lst xs => obtain ⟨vs, e, r⟩ := h; simp only [below] at b; exact ⟨vs, e, RDs.trim hR r b⟩
  | dct ks xs => obtain ⟨vs, e, l, r⟩ := h; simp only [below] at b; exact ⟨vs, e, l, RDs.trim hR r b⟩
  | dtt ks xs => obtain ⟨vs, e, l, r⟩ := h; simp only [below] at b; exact ⟨vs, e, l, RDs.trim hR r b⟩
  | ins C ns xs => obtain ⟨dx, vs, e, l, r⟩ := h; simp only [below] at b; exact ⟨dx, vs, e, l, RDs.trim hR r b⟩
  | _ => exact h.elim
/-- the cells from n on are dropped; pairs that lie below stay -/
theorem SRx.cutAt {H : Hp} {L L2 : LL} {S2 R : Store} {T : List (Addr × HO)} {rho : List Addr} (s : SRx H L (S2 ++ R) T rho) (hb : belows S2.length S2)
    (hL : ∀ v d, L2 v d → RD H (rho.take S2.length ++ T.map (·.1)) (rho.take S2.length) d v) : SRx H L2 S2 T (rho.take S2.length) := by
  have hle : S2.length ≤ rho.length := by rw [s.len, List.length_append]; omega
  have hsub : ∀ a, a ∈ rho.take S2.length ++ T.map (·.1) → a ∈ rho ++ T.map (·.1) := fun a h => by
    rcases List.mem_append.mp h with h | h
    · exact List.mem_append_left _ (List.mem_of_mem_take h)
    · exact List.mem_append_right _ h
  refine ⟨by rw [List.length_take]; omega, ?_, fun n a d h1 h2 => ?_, s.pin, hL⟩
  · refine List.Nodup.sublist (List.Sublist.append (List.take_sublist _ _) (List.Sublist.refl _)) s.nd
  · have hn : n < S2.length := (List.getElem?_eq_some_iff.mp h2).1
    rw [List.getElem?_take, if_pos hn] at h1
    have h3 : (S2 ++ R)[n]? = some d := by rw [List.getElem?_append_left hn]; exact h2
    exact (s.node n a d h1 h3).trim hsub (belows_mem hb (List.mem_of_getElem? h2))
theorem SR.below {H : Hp} {L : LL} {S : Store} {T : List (Addr × HO)} (s : SR H L S T) {v : V} {d : Dat} (h : L v d) : below S.length d := by
  obtain ⟨rho, x⟩ := s
  rw [← x.len]
  exact (x.rd v d h).below
mutual
theorem below.mono {n m : Nat} (h : n ≤ m) : ∀ {d : Dat}, below n d → below m d
  | .non, _ => by simp only [DL.below]
  | .bl _, _ => by simp only [DL.below]
  | .int _, _ => by simp only [DL.below]
  | .str _, _ => by simp only [DL.below]
  | .raw _, _ => by simp only [DL.below]
  | .lst xs, b => by simp only [DL.below] at b ⊢; exact belows.mono h b
  | .tup xs, b => by simp only [DL.below] at b ⊢; exact belows.mono h b
  | .dct ks xs, b => by simp only [DL.below] at b ⊢; exact belows.mono h b
  | .dtt ks xs, b => by simp only [DL.below] at b ⊢; exact belows.mono h b
  | .sq _ _, _ => by simp only [DL.below]
  | .ins C ns xs, b => by simp only [DL.below] at b ⊢; exact belows.mono h b
  | .xd ns xs, b => by simp only [DL.below] at b ⊢; exact belows.mono h b
  | .cell k, b => by simp only [DL.below] at b ⊢; omega
theorem belows.mono {n m : Nat} (h : n ≤ m) : ∀ {ds : List Dat}, belows n ds → belows m ds
  | [], _ => by simp only [DL.belows]
  | d :: ds, b => by simp only [DL.belows] at b ⊢; exact ⟨below.mono h b.1, belows.mono h b.2⟩
end
theorem Gc.go {N : Nat} {sg : St} {dl dl2 : Env'} {S S2 : Store} {H : Hp} {L L' : LL} {T : List (Addr × HO)} (g : Gc N dl S dl2 S2) (hN : ∀ v d, L v d → DL.below N d) (l : Lle L L') (he : EnvIn sg dl L') (hs : SR H L' S T) :
    ∃ L2, Lle L L2 ∧ EnvIn sg dl2 L2 ∧ SR H L2 S2 T := by
  obtain ⟨⟨R, rfl⟩, hn, hb, hsl⟩ := g
  obtain ⟨rho, x⟩ := hs
  have hsub : ∀ a, a ∈ rho.take S2.length ++ T.map (·.1) → a ∈ rho ++ T.map (·.1) := fun a h => by
    rcases List.mem_append.mp h with h | h
    · exact List.mem_append_left _ (List.mem_of_mem_take h)
    · exact List.mem_append_right _ h
  refine ⟨fun v d => L v d ∨ (L' v d ∧ ∃ i : Nat, sg[i]? = some (some v) ∧ dl2[i]? = some (some d)), fun v d h => .inl h, ⟨by rw [he.1, hsl.1], fun i d h => ?_⟩, _, x.cutAt hb fun v d h => ?_⟩
  · obtain ⟨h1, h2⟩ := hsl.2 i d h
    obtain ⟨v, h3, h4⟩ := he.2 i d h1
    exact ⟨v, h3, .inr ⟨h4, i, h3, h⟩⟩
  · rcases h with h | ⟨h, i, h1, h2⟩
    · exact RD.trim hsub (x.rd v d (l v d h)) ((hN v d h).mono hn)
    · exact RD.trim hsub (x.rd v d h) (hsl.2 i d h2).2
theorem NOk.gc {n N : Nat} {L : LL} {T : List (Addr × HO)} {J : Env' → Store → Prop} {Q : St → Hp → Prop} (hN : ∀ v d, L v d → DL.below N d) (x : NOk n L T J Q) : NOk n L T (GcTo N J) Q := fun sg dl L' H' S' l hl he hs h => by
  rcases h with h | ⟨dl2, S2, g, h⟩
  · exact x sg dl L' H' S' l hl he hs h
  · obtain ⟨L2, l2, he2, hs2⟩ := g.go hN l he hs
    exact x sg dl2 L2 H' S2 l2 hl he2 hs2 h
/-- a word between, with what is no longer wanted dropped -/
def uCutG (a b : US) : US := fun D dl S => ∃ M : Env' → Store → Prop, a { D with nx := GcTo S.length M } dl S ∧ ∀ dl' S', M dl' S' → b D dl' S'
theorem dss_cutG (h1 : DS X W s t u) (h2 : DSs X W ss t' u') : DSs X W (s :: ss) (tSeq t t') (uCutG u u') := ⟨pss_cons h1.run h2.run, fun {sg dl L H S T D D'} he hs h hk => by
  obtain ⟨M, hm, hu⟩ := h
  exact h1.imp (D := { D with nx := GcTo S.length M }) (D' := { D' with nx := t' D' }) he hs hm ⟨NOk.gc (fun v d h => hs.below h) fun sg' dl' L' H' S' l hl he' hs' h' => h2.imp he' hs' (hu dl' S' h') (by rw [hl]; exact hk.le l), hk.rt, hk.bk, hk.ct, hk.ex⟩⟩
/-! while -/
def uWhile (c : UT) (b : US) : US := fun D dl S => ∃ I : Nat → Env' → Store → Prop, (∃ m, I m dl S) ∧ ∀ m dl1 S1, I m dl1 S1 →
  c dl1 S1 (fun k S2 => if k = true then b { D with nx := GcTo S.length fun dl' S' => ∃ m', m' < m ∧ I m' dl' S', ct := GcTo S.length fun dl' S' => ∃ m', m' < m ∧ I m' dl' S', bk := D.nx } dl1 S2 else D.nx dl1 S2) (fun e S2 => D.ex e dl1 S2)
theorem ds_while {c : Expr} {body : List Stmt} {tc : TT} {uc : UT} {tb : TS} {ub : US} (hp : PassesOwn (model X.prog X.w) X.A X.env X.xe) (hc : DT X W c tc uc) (hb : DSs X W body tb ub) : DS X W (.While c body [] pos) (tWhile tc tb) (uWhile uc ub) :=
  ⟨ps_while hp hc.run hb.run, fun {sg dl L H S T D D'} he hs h hk => by
    obtain ⟨I, ⟨m0, h0⟩, hI⟩ := h
    refine ⟨fun m sg1 H1 => ∃ dl1 L1 S1, Lle L L1 ∧ sg1.length = sg.length ∧ EnvIn sg1 dl1 L1 ∧ SR H1 L1 S1 T ∧ I m dl1 S1, ⟨m0, dl, L, S, .refl L, rfl, he, hs, h0⟩, ?_⟩
    rintro m sg1 H1 ⟨dl1, L1, S1, l1, hl1, he1, hs1, hi⟩
    have hk1 := hk.le l1
    rw [← hl1] at hk1
    refine hc.imp he1 hs1 (hI m dl1 S1 hi) (fun k L2 H2 S2 l2 s2 h2 => ?_) (hk1.ex.x rfl he1)
    cases k with
    | true =>
      refine ⟨fun sg2 H2 => ∃ m', m' < m ∧ ∃ dl1 L1 S1, Lle L L1 ∧ sg2.length = sg.length ∧ EnvIn sg2 dl1 L1 ∧ SR H2 L1 S1 T ∧ I m' dl1 S1, fun sg2 H2 h => h, ?_⟩
      have hn : NOk sg1.length L T (GcTo S.length fun dl' S' => ∃ m', m' < m ∧ I m' dl' S') (fun sg2 H2 => ∃ m', m' < m ∧ ∃ dl1 L1 S1, Lle L L1 ∧ sg2.length = sg.length ∧ EnvIn sg2 dl1 L1 ∧ SR H2 L1 S1 T ∧ I m' dl1 S1) :=
        NOk.gc (fun v d h => hs.below h) fun sg' dl' L' H' S' l hl he' hs' ⟨m', hm, h'⟩ => ⟨m', hm, dl', L', S', l, hl.trans hl1, he', hs', h'⟩
      exact hb.imp (D := { D with nx := _, ct := _, bk := D.nx }) (he1.le l2) s2 h2 ⟨hn.le (l1.trans l2), hk1.rt.le l2, hk1.nx.le l2, hn.le (l1.trans l2), hk1.ex.le l2⟩
    | false => exact hk1.nx sg1 dl1 L2 H2 S2 l2 rfl (he1.le l2) s2 h2⟩
/-! for: what is walked is known ahead -/
structure ItI (J : It) (ds : List Dat) (L0 : LL) (P : Store → Prop) : Prop where
  go : ∀ (i : Nat) H L S T, Lle L0 L → SR H L S T → P S → i < ds.length → J.go i H
  yld : ∀ (i : Nat) H L S T x H' d, Lle L0 L → SR H L S T → P S → ds[i]? = some d → J.yld i H x H' → ∃ L', Lle L L' ∧ L' x d ∧ SR H' L' S T
  stop : ∀ (i : Nat) H L S T, Lle L0 L → SR H L S T → P S → i = ds.length → J.stop i H
abbrev UI := Env' → Store → (List Dat → (Store → Prop) → Store → Prop) → KX → Prop
def ImpI (W : WX) (t : TI) (u : UI) : Prop := ∀ {sg dl L H S T R X Q}, EnvIn sg dl L → SR H L S T → u dl S R X → (∀ J ds P L1 H1 S1, Lle L L1 → SR H1 L1 S1 T → ItI J ds L1 P → R ds P S1 → Q J H1) → XOk W sg L T X → t sg H Q
structure DI (X : Cx) (W : WX) (tg e : Expr) (t : TI) (u : UI) : Prop where
  run : PI X tg e t
  imp : ImpI W t u
def uFor (i : UI) (g : UG) (b : US) : US := fun D dl S => i dl S (fun ds P S1 => ∃ I : Nat → Env' → Store → Prop, I 0 dl S1 ∧
  (∀ (i : Nat) d dl1 S2, ds[i]? = some d → I i dl1 S2 → P S2 ∧ g d dl1 S2 (fun dl2 S3 => b { D with nx := GcTo S1.length (I (i + 1)), ct := GcTo S1.length (I (i + 1)), bk := D.nx } dl2 S3) (fun e S3 => D.ex e dl1 S3)) ∧
  ∀ dl1 S2, I ds.length dl1 S2 → P S2 ∧ D.nx dl1 S2) (fun e S1 => D.ex e dl S1)
theorem ds_for {tg iter : Expr} {body : List Stmt} {wi : TI} {ui : UI} {g : TG} {ug : UG} {ts : List Nat} {tb : TS} {ub : US} (hp : PassesOwn (model X.prog X.w) X.A X.env X.xe) (hc : X.calm = true) (hi : DI X W tg iter wi ui) (hg : DG X W tg g ug ts) (hb : DSs X W body tb ub)
    (hq : ∀ x, foldedSetIterable iter X.env x = pure x := by intro _; rfl) : DS X W (.For tg iter body [] pos) (tFor wi g tb) (uFor ui ug ub) :=
  ⟨ps_for hp hc hi.run hg.run hb.run hq, fun {sg dl L H S T D D'} he hs h hk => by
    refine hi.imp he hs h (fun J ds P L1 H1 S1 l1 s1 hJ h1 => ?_) (hk.ex.x rfl he)
    obtain ⟨I, h0, hI, hd⟩ := h1
    refine ⟨fun i m sg2 H2 => m = ds.length - i ∧ i ≤ ds.length ∧ ∃ dl2 L2 S2, Lle L1 L2 ∧ sg2.length = sg.length ∧ EnvIn sg2 dl2 L2 ∧ SR H2 L2 S2 T ∧ I i dl2 S2, ⟨_, rfl, Nat.zero_le _, dl, L1, S1, .refl _, rfl, he.le l1, s1, h0⟩, ?_⟩
    rintro i m sg2 H2 ⟨rfl, hi2, dl2, L2, S2, l2, hl2, he2, s2, h2⟩
    have hk2 := hk.le (l1.trans l2)
    rw [← hl2] at hk2
    by_cases hlt : i < ds.length
    · obtain ⟨hP, hb2⟩ := hI i ds[i] dl2 S2 (List.getElem?_eq_getElem hlt) h2
      refine .inr ⟨hJ.go i H2 L2 S2 T l2 s2 hP hlt, fun sg' H' => ∃ m', m' < ds.length - i ∧ m' = ds.length - (i + 1) ∧ i + 1 ≤ ds.length ∧ ∃ dl2 L2 S2, Lle L1 L2 ∧ sg'.length = sg.length ∧ EnvIn sg' dl2 L2 ∧ SR H' L2 S2 T ∧ I (i + 1) dl2 S2, fun sg' H' h => h, fun x H' hy => ?_⟩
      obtain ⟨L3, l3, p3, s3⟩ := hJ.yld i H2 L2 S2 T x H' ds[i] l2 s2 hP (List.getElem?_eq_getElem hlt) hy
      refine hg.imp (he2.le l3) s3 p3 hb2 (fun sg4 dl4 L4 H4 S4 l4 hl4 _ he4 s4 h4 => ?_) ((hk2.ex.x rfl he2).le l3)
      have hn : NOk sg2.length L1 T (GcTo S1.length (I (i + 1))) (fun sg' H' => ∃ m', m' < ds.length - i ∧ m' = ds.length - (i + 1) ∧ i + 1 ≤ ds.length ∧ ∃ dl2 L2 S2, Lle L1 L2 ∧ sg'.length = sg.length ∧ EnvIn sg' dl2 L2 ∧ SR H' L2 S2 T ∧ I (i + 1) dl2 S2) :=
        NOk.gc (fun v d h => s1.below h) fun sg' dl' L' H' S' l hl he' hs' h' => ⟨_, by omega, rfl, hlt, dl', L', S', l, hl.trans hl2, he', hs', h'⟩
      have hk4 := hk2.le (l3.trans l4)
      rw [← hl4] at hk4 hn
      exact hb.imp (D := { D with nx := _, ct := _, bk := D.nx }) he4 s4 h4 ⟨hn.le ((l2.trans l3).trans l4), hk4.rt, hk4.nx, hn.le ((l2.trans l3).trans l4), hk4.ex⟩
    · have e : i = ds.length := by omega
      subst e
      obtain ⟨hP, hn⟩ := hd dl2 S2 h2
      exact .inl ⟨hJ.stop ds.length H2 L2 S2 T l2 s2 hP rfl, hk2.nx sg2 dl2 L2 H2 S2 (.refl _) rfl he2 s2 hn⟩⟩
end
end DL
/-! DL4: defs, their calls; comprehensions; targets of several. -/
namespace DL
open PySem L2 PyProof.Rows

/-- what a def promises, over data -/
abbrev Spec := List Dat → Store → KE → KX → Prop
def spOf (F : Spec) : Sp := fun vs H Q E => ∃ ds L S T K X, Ls L vs ds ∧ SR H L S T ∧ F ds S K X ∧ EOk L T K Q ∧
  ∀ e dd L' H' S', Lle L L' → L' (.ref dd) (.xd e.ns e.xs) → SR H' L' S' T → X e S' → E (.ref e.C) (some dd) H'
def uCall (F : Spec) (dd : List Dat) (ua : UA) : UE := fun dl S K X => ua dl S (fun ds S1 => F (ds ++ dd) S1 K X) X
def Flats : List Dat → List V → Prop
  | [], [] => True
  | d :: ds, v :: vs => Flat d v ∧ Flats ds vs
  | _, _ => False
section
variable {H : Hp} {L : LL} {S : Store} {T : List (Addr × HO)}
theorem SR.flats (s : SR H L S T) : ∀ {ds : List Dat} {vs : List V}, Flats ds vs → ∃ L', Lle L L' ∧ Ls L' vs ds ∧ SR H L' S T
  | [], [], _ => ⟨L, .refl L, True.intro, s⟩
  | d :: ds, v :: vs, h => by
    obtain ⟨L1, l1, p1, s1⟩ := SR.flats s (ds := ds) (vs := vs) h.2
    exact ⟨Ladd L1 v d, l1.trans Ladd.le, ⟨Ladd.here, p1.le Ladd.le⟩, s1.flat h.1⟩
  | [], _ :: _, h => h.elim
  | _ :: _, [], h => h.elim
end
section
variable {X : Cx} {W : WX} {k : Nat} {f : Addr} {fd : FuncData} {ps : List Str} {F : Spec} {x : Str} {p pos : Pos} {e : Expr} {es : List Expr} {t : TA} {u : UA} {dvs : List V} {dd : List Dat} {dl' : List Value}
theorem de_call (F' : FnOk X.prog X.w X.K X.mg X.base (L2.CX X.prog X.w) k f fd ps (spOf F)) (hr : Room k X.A) (hm : X.mg x = some (.ref f)) (hk : PySem.W.keepIn X.K (.ref f) = true) (hb : Binds X.K fd ps dl') (hd : Vals dvs dl') (hf : Flats dd dvs) (tk : Takes X W)
    (ha : DA X W (e :: es) t u) (hg : Gl X x := by rfl) (hdb : (x == ("__debug__" : Str)) = false := by decide) (he : starEach (e :: es) X.env = (false, eval e X.env) :: starEach es X.env := by rfl) (hpl : (backTo pos (starEach es X.env)).any (·.1) = false := by rfl) :
    DE X W (.Call (.Name x p) (e :: es) [] pos) (tCallSD (spOf F) dvs (WE W) t) (uCall F dd u) :=
  ⟨pe_callSD F' hr hg hm hk hb hd (fun sg => passAt tk sg) ha.run hdb he hpl, fun {sg dl L H S T K X' Q} he hs h hq hx =>
    ha.imp he hs h (fun vs ds L1 H1 S1 l1 p1 s1 h1 => by
      obtain ⟨L2, l2, p2, s2⟩ := s1.flats hf
      exact ⟨ds ++ dd, L2, S1, T, K, X', (p1.le l2).append p2, s2, h1, hq.le (l1.trans l2), fun e dd L' H' S' l => hx e dd L' H' S' ((l1.trans l2).trans l)⟩) hx⟩
theorem de_call0 (F' : FnOk X.prog X.w X.K X.mg X.base (L2.CX X.prog X.w) k f fd ps (spOf F)) (hr : Room k X.A) (hm : X.mg x = some (.ref f)) (hk : PySem.W.keepIn X.K (.ref f) = true) (hb : Binds X.K fd ps dl') (hd : Vals dvs dl') (hf : Flats dd dvs) (hx : Passes (L2.CX X.prog X.w) X E0)
    (hg : Gl X x := by rfl) (hdb : (x == ("__debug__" : Str)) = false := by decide) :
    DE X W (.Call (.Name x p) [] [] pos) (tCall (spOf F) dvs E0 tNil) (fun _ S K _ => F dd S K fun _ _ => False) :=
  ⟨pe_call0 F' hr hg hm hk hb hd hx hdb, fun {sg dl L H S T K X' Q} he hs h hq hx => by
      obtain ⟨L2, l2, p2, s2⟩ := hs.flats hf
      exact ⟨dd, L2, S, T, K, _, p2, s2, h, hq.le l2, fun e dd L' H' S' l _ _ h => h.elim⟩⟩
end
/-! ### the way out of a def -/
/-- d with the places from n on read off -/
inductive Res (n : Nat) (S : Store) : Dat → Dat → Prop where
  | same {d : Dat} : below n d → Res n S d d
  | cell {m : Nat} {d d' : Dat} : n ≤ m → S[m]? = some d → Res n S d d' → Res n S (.cell m) d'
  | lst {xs ys : List Dat} : xs.length = ys.length → (∀ (i : Nat) x y, xs[i]? = some x → ys[i]? = some y → Res n S x y) → Res n S (.lst xs) (.lst ys)
  | tup {xs ys : List Dat} : xs.length = ys.length → (∀ (i : Nat) x y, xs[i]? = some x → ys[i]? = some y → Res n S x y) → Res n S (.tup xs) (.tup ys)
  | dct {ks : List Key} {xs ys : List Dat} : xs.length = ys.length → (∀ (i : Nat) x y, xs[i]? = some x → ys[i]? = some y → Res n S x y) → Res n S (.dct ks xs) (.dct ks ys)
  | dtt {ks : List (List Key)} {xs ys : List Dat} : xs.length = ys.length → (∀ (i : Nat) x y, xs[i]? = some x → ys[i]? = some y → Res n S x y) → Res n S (.dtt ks xs) (.dtt ks ys)
  | ins {C : Addr} {ns : List Str} {xs ys : List Dat} : xs.length = ys.length → (∀ (i : Nat) x y, xs[i]? = some x → ys[i]? = some y → Res n S x y) → Res n S (.ins C ns xs) (.ins C ns ys)
  | xd {ns : List Str} {xs ys : List Dat} : xs.length = ys.length → (∀ (i : Nat) x y, xs[i]? = some x → ys[i]? = some y → Res n S x y) → Res n S (.xd ns xs) (.xd ns ys)
section
variable {H : Hp} {R R' rho rho' : List Addr}
theorem rds_res {xs ys : List Dat} (hl : xs.length = ys.length) (h : ∀ (i : Nat) x y, xs[i]? = some x → ys[i]? = some y → ∀ v, RD H R rho x v → RD H R' rho' y v) : ∀ {vs : List V}, RDs H R rho xs vs → RDs H R' rho' ys vs := fun {vs} r => by
  have q := RDs.ls (LR := fun v d => RD H R rho d v) (fun _ _ h => h) r
  refine Ls.rds (L := fun v d => RD H R' rho' d v) (fun _ _ h => h) (Ls.of (by rw [q.length, hl]) fun i v d e1 e2 => ?_)
  obtain ⟨c, e3, r⟩ := q.getV e1
  exact h i c d e3 e2 v r
/-- what Res says of the bearing -/
theorem Res.rd {n : Nat} {S : Store} {T : List (Addr × HO)} (hn : ∀ (m : Nat) a d, rho[m]? = some a → S[m]? = some d → Node H R rho a d) (hR : ∀ a, a ∈ R' → a ∈ R) (hout : ∀ (m : Nat) a, n ≤ m → rho[m]? = some a → a ∉ R') (hlen : rho.length = S.length) {d d' : Dat} (r : Res n S d d') :
    (∀ v, RD H R rho d v → RD H R' (rho.take n) d' v) ∧ ∀ a, Node H R rho a d → a ∉ R' → RD H R' (rho.take n) d' (.ref a) := by
  induction r with
  | same b =>
    rename_i d
    refine ⟨fun v h => RD.trim hR h b, fun a h na => ?_⟩
    cases d with
    | lst xs => obtain ⟨vs, e, q⟩ := h; simp only [DL.below] at b; simp only [RD]; exact ⟨a, vs, rfl, na, e, RDs.trim hR q b⟩
    | dct ks xs => obtain ⟨vs, e, l, q⟩ := h; simp only [DL.below] at b; simp only [RD]; exact ⟨a, vs, rfl, na, .inl e, l, RDs.trim hR q b⟩
    | dtt ks xs => obtain ⟨vs, e, l, q⟩ := h; simp only [DL.below] at b; simp only [RD]; exact ⟨a, vs, rfl, na, .inl e, l, RDs.trim hR q b⟩
    | ins C ns xs => obtain ⟨dx, vs, e, l, q⟩ := h; simp only [DL.below] at b; simp only [RD]; exact ⟨a, dx, vs, rfl, na, e, l, RDs.trim hR q b⟩
    | _ => exact h.elim
  | cell hm he _ ih =>
    refine ⟨fun v h => ?_, fun a h => h.elim⟩
    simp only [RD] at h
    obtain ⟨a, ha, e⟩ := h
    subst e
    exact ih.2 a (hn _ a _ ha he) (hout _ a hm ha)
  | lst hl _ ih =>
    have key : ∀ {vs : List V}, RDs H R rho _ vs → RDs H R' (rho.take n) _ vs := fun {vs} q => rds_res hl (fun i x y e1 e2 => (ih i x y e1 e2).1) q
    refine ⟨fun v h => ?_, fun a h na => ?_⟩
    · simp only [RD] at h ⊢
      obtain ⟨a, vs, e, ha, q1, q2⟩ := h
      exact ⟨a, vs, e, fun z => ha (hR a z), q1, key q2⟩
    · obtain ⟨vs, e, q⟩ := h
      simp only [RD]
      exact ⟨a, vs, rfl, na, e, key q⟩
  | tup hl _ ih =>
    have key : ∀ {vs : List V}, RDs H R rho _ vs → RDs H R' (rho.take n) _ vs := fun {vs} q => rds_res hl (fun i x y e1 e2 => (ih i x y e1 e2).1) q
    refine ⟨fun v h => ?_, fun a h na => h.elim⟩
    simp only [RD] at h ⊢
    obtain ⟨a, vs, e, ha, q1, q2⟩ := h
    exact ⟨a, vs, e, fun z => ha (hR a z), q1, key q2⟩
  | dct hl _ ih =>
    have key : ∀ {vs : List V}, RDs H R rho _ vs → RDs H R' (rho.take n) _ vs := fun {vs} q => rds_res hl (fun i x y e1 e2 => (ih i x y e1 e2).1) q
    refine ⟨fun v h => ?_, fun a h na => ?_⟩
    · simp only [RD] at h ⊢
      obtain ⟨a, vs, e, ha, q1, l, q2⟩ := h
      exact ⟨a, vs, e, fun z => ha (hR a z), q1, l, key q2⟩
    · obtain ⟨vs, e, l, q⟩ := h
      simp only [RD]
      exact ⟨a, vs, rfl, na, .inl e, l, key q⟩
  | dtt hl _ ih =>
    have key : ∀ {vs : List V}, RDs H R rho _ vs → RDs H R' (rho.take n) _ vs := fun {vs} q => rds_res hl (fun i x y e1 e2 => (ih i x y e1 e2).1) q
    refine ⟨fun v h => ?_, fun a h na => ?_⟩
    · simp only [RD] at h ⊢
      obtain ⟨a, vs, e, ha, q1, l, q2⟩ := h
      exact ⟨a, vs, e, fun z => ha (hR a z), q1, l, key q2⟩
    · obtain ⟨vs, e, l, q⟩ := h
      simp only [RD]
      exact ⟨a, vs, rfl, na, .inl e, l, key q⟩
  | ins hl _ ih =>
    have key : ∀ {vs : List V}, RDs H R rho _ vs → RDs H R' (rho.take n) _ vs := fun {vs} q => rds_res hl (fun i x y e1 e2 => (ih i x y e1 e2).1) q
    refine ⟨fun v h => ?_, fun a h na => ?_⟩
    · simp only [RD] at h ⊢
      obtain ⟨a, dx, vs, e, ha, q1, l, q2⟩ := h
      exact ⟨a, dx, vs, e, fun z => ha (hR a z), q1, l, key q2⟩
    · obtain ⟨dx, vs, e, l, q⟩ := h
      simp only [RD]
      exact ⟨a, dx, vs, rfl, na, e, l, key q⟩
  | xd hl _ ih =>
    have key : ∀ {vs : List V}, RDs H R rho _ vs → RDs H R' (rho.take n) _ vs := fun {vs} q => rds_res hl (fun i x y e1 e2 => (ih i x y e1 e2).1) q
    refine ⟨fun v h => ?_, fun a h na => h.elim⟩
    simp only [RD] at h ⊢
    obtain ⟨a, vs, e, ha, q1, l, q2⟩ := h
    exact ⟨a, vs, e, fun z => ha (hR a z), q1, l, key q2⟩
end
/-- out of a def whose caller's store was S0: S' is what stands at the end, S1 what the caller sees of it -/
structure Out (S0 S' S1 : Store) : Prop where
  pre : ∃ R, S' = S1 ++ R
  len : S0.length ≤ S1.length
  bel : S1 = S0 ∨ belows S1.length S1
def ExitTo (S0 : Store) (K : KE) : KE := fun d S' => ∃ S1 d', Out S0 S' S1 ∧ Res S1.length S' d d' ∧ K d' S1
def ExitX (S0 : Store) (X : KX) : Exc → Env' → Store → Prop := fun e _ S' => ∃ S1 ys, Out S0 S' S1 ∧ Res S1.length S' (.xd e.ns e.xs) (.xd e.ns ys) ∧ X ⟨e.C, e.ns, ys⟩ S1
def endsOf (S0 : Store) (K : KE) (X : KX) : DEnds := { nx := fun _ S' => ExitTo S0 K .non S', rt := ExitTo S0 K, ex := ExitX S0 X }
theorem SR.belows {H : Hp} {L : LL} {S : Store} {T : List (Addr × HO)} (s : SR H L S T) : DL.belows S.length S := by
  obtain ⟨rho, x⟩ := s
  have key : ∀ ds : List Dat, (∀ d ∈ ds, DL.below S.length d) → DL.belows S.length ds := fun ds => by
    induction ds with
    | nil => intro _; simp only [DL.belows]
    | cons d ds ih =>
      intro h
      simp only [DL.belows]
      exact ⟨h d List.mem_cons_self, ih fun c hc => h c (List.mem_cons_of_mem _ hc)⟩
  refine key S fun d hd => ?_
  obtain ⟨n, hn, e⟩ := List.mem_iff_getElem.mp hd
  have hr : n < rho.length := by rw [x.len]; exact hn
  have hx := x.node n rho[n] d (List.getElem?_eq_getElem hr) (by rw [List.getElem?_eq_getElem hn, e])
  rw [← x.len]
  cases d with
  | lst xs => obtain ⟨vs, _, q⟩ := hx; simp only [DL.below]; exact q.belows
  | dct ks xs => obtain ⟨vs, _, _, q⟩ := hx; simp only [DL.below]; exact q.belows
  | dtt ks xs => obtain ⟨vs, _, _, q⟩ := hx; simp only [DL.below]; exact q.belows
  | ins C ns xs => obtain ⟨dx, vs, _, _, q⟩ := hx; simp only [DL.below]; exact q.belows
  | _ => exact hx.elim
theorem Out.go {S0 S' S1 : Store} {H H' : Hp} {L L' : LL} {T : List (Addr × HO)} {d d' : Dat} {v : V} (o : Out S0 S' S1) (r : Res S1.length S' d d') (s0 : SR H L S0 T) (l : Lle L L') (s : SR H' L' S' T) (p : L' v d) :
    ∃ L2, Lle L L2 ∧ L2 v d' ∧ SR H' L2 S1 T := by
  obtain ⟨⟨R, rfl⟩, hl, hb⟩ := o
  have hbel : DL.belows S1.length S1 := by
    rcases hb with h | h
    · rw [h]; exact s0.belows
    · exact h
  obtain ⟨rho, x⟩ := s
  have hsub : ∀ a, a ∈ rho.take S1.length ++ T.map (·.1) → a ∈ rho ++ T.map (·.1) := fun a h => by
    rcases List.mem_append.mp h with h | h
    · exact List.mem_append_left _ (List.mem_of_mem_take h)
    · exact List.mem_append_right _ h
  have hout : ∀ (m : Nat) a, S1.length ≤ m → rho[m]? = some a → a ∉ rho.take S1.length ++ T.map (·.1) := fun m a hm ha z => by
    have nd := List.nodup_append.mp x.nd
    rcases List.mem_append.mp z with h | h
    · obtain ⟨i, hi, e⟩ := List.mem_iff_getElem.mp h
      have hi2 : i < S1.length := by have := hi; rw [List.length_take] at this; omega
      have e2 : rho[i]? = some a := by
        have : (rho.take S1.length)[i]? = some a := by rw [List.getElem?_eq_getElem hi, e]
        rw [List.getElem?_take, if_pos hi2] at this
        exact this
      have := (List.getElem?_inj (List.getElem?_eq_some_iff.mp ha).1 nd.1).mp (ha.trans e2.symm)
      omega
    · exact nd.2.2 a (List.mem_of_getElem? ha) a h rfl
  have key := Res.rd (R' := rho.take S1.length ++ T.map (·.1)) (T := T) x.node hsub hout x.len r
  exact ⟨Ladd L v d', Ladd.le, Ladd.here, _, x.cutAt hbel fun w c h => by
    rcases h with h | ⟨rfl, rfl⟩
    · exact RD.trim hsub (x.rd w c (l w c h)) ((s0.below h).mono hl)
    · exact key.1 _ (x.rd _ _ p)⟩
/-- the slots at a def's entry -/
def startD (N : List Str) (ds : List Dat) : Env' := ds.map some ++ List.replicate (N.length - ds.length) none
theorem envIn_start {N : List Str} {vs : List V} {ds : List Dat} {L : LL} (h : Ls L vs ds) : EnvIn (L2.start N vs) (startD N ds) L := by
  refine ⟨by simp [L2.start, startD, h.length], fun i d e => ?_⟩
  unfold startD at e
  by_cases hi : i < ds.length
  · rw [List.getElem?_append_left (by simpa using hi), List.getElem?_map] at e
    cases q : ds[i]? with
    | none => rw [q] at e; cases e
    | some c =>
      rw [q] at e
      injection e with e
      injection e with e
      subst e
      obtain ⟨v, h1, h2⟩ := h.get q
      refine ⟨v, ?_, h2⟩
      unfold L2.start
      rw [List.getElem?_append_left (by simpa [h.length] using hi), List.getElem?_map, h1]
      rfl
  · rw [List.getElem?_append_right (by simpa using Nat.le_of_not_lt hi)] at e
    rw [List.getElem?_replicate] at e
    split at e <;> cases e
section
variable {P : Program} {w : World} {K : PySem.W.Frag} {mg : Str → Option Value} {base : Heap} {x qual : Str} {params : Arguments} {body : List Stmt} {scope : Scope} {dvs : List V} {kws : List (Str × V)} {f : Addr} {fd : FuncData} {N ps : List Str} {k : Nat}
abbrev WE0 (E : XK) : WX := fun cls d _ H => E cls d H
/-- A DEF KEEPS ITS PROMISE: its body's reading u, from the promise G -/
theorem fnD {G : Spec} {u : US} (F : FunD K x qual params body scope dvs kws f fd) (Sc : FnScope N ps scope) (len : ∀ ds S K X, G ds S K X → ds.length = ps.length)
    (hb : ∀ (cdv : Value) (A : Around) (outer : List Env) (s : Shared) (H : Hp) (E : XK), Room k (A.deeper (envOfC qual scope s.heap.objs.size f cdv)) →
      Takes (cxOf (L2.CX P w) P w K mg base N qual scope f cdv A outer s H E) (WE0 E) → ∃ t, DSs (cxOf (L2.CX P w) P w K mg base N qual scope f cdv A outer s H E) (WE0 E) body t u)
    (hu : ∀ ds S K X, G ds S K X → belows S.length ds → belows S.length S → u (endsOf S K X) (startD N ds) S) : FnOk P w K mg base (L2.CX P w) (k + 1) f fd ps (spOf G) := by
  refine F.ok Sc (fun vs H Q E h => ?_) (fun cdv A outer s H vs Q E hr h => ?_)
  · obtain ⟨ds, L, S, T, K', X, p, _, g, _⟩ := h
    rw [p.length]
    exact len ds S K' X g
  · have tk : Takes (cxOf (L2.CX P w) P w K mg base N qual scope f cdv A outer s H E) (WE0 E) := takes_of rfl rfl rfl rfl
    obtain ⟨t, ht⟩ := hb cdv A outer s H E hr tk
    refine ⟨t, ht.run, ?_⟩
    obtain ⟨ds, L, S, T, K', X, p, hs, g, hq, hx⟩ := h
    have hbd : belows S.length ds := by
      have : ∀ {vs : List V} {ds : List Dat}, Ls L vs ds → belows S.length ds := fun {vs ds} q => by
        induction ds generalizing vs with
        | nil => simp only [belows]
        | cons d ds ih =>
          match vs, q with
          | v :: vs, q => simp only [belows]; exact ⟨hs.below q.1, ih q.2⟩
          | [], q => exact q.elim
      exact this p
    refine ht.imp (envIn_start p) hs (hu ds S K' X g hbd hs.belows) ⟨fun sg dl L' H' S' l hl he hs' hk => ?_, fun v d L' H' S' l hp hs' hk => ?_, fun sg dl L' H' S' l hl he hs' hk => hk.elim, fun sg dl L' H' S' l hl he hs' hk => hk.elim, fun e dd sg dl L' H' S' l hl he hp hs' hk => ?_⟩
    · obtain ⟨S1, d', o, r, hk⟩ := hk
      obtain ⟨L2, l2, p2, s2⟩ := o.go r hs (l.trans Ladd.le) (hs'.flat (d := .non) (v := .non) rfl) Ladd.here
      exact hq .non d' L2 H' S1 l2 p2 s2 hk
    · obtain ⟨S1, d', o, r, hk⟩ := hk
      obtain ⟨L2, l2, p2, s2⟩ := o.go r hs l hs' hp
      exact hq v d' L2 H' S1 l2 p2 s2 hk
    · obtain ⟨S1, ys, o, r, hk⟩ := hk
      obtain ⟨L2, l2, p2, s2⟩ := o.go r hs l hs' hp
      exact hx ⟨e.C, e.ns, ys⟩ dd L2 H' S1 l2 p2 s2 hk
end
/-! ### several targets -/
abbrev UGs := List Dat → Env' → Store → (Env' → Store → Prop) → KX → Prop
def ImpGs (W : WX) (t : TGs) (u : UGs) (ts : List Nat) : Prop := ∀ {sg dl L H S T vs ds K X Q}, EnvIn sg dl L → SR H L S T → Ls L vs ds → u ds dl S K X → GOk sg ts L T K Q → (∀ sg', sg'.length = sg.length → XOk W sg' L T X) → t vs sg H Q
structure DGs (X : Cx) (W : WX) (es : List Expr) (t : TGs) (u : UGs) (ts : List Nat) : Prop where
  run : PGs X es t
  imp : ImpGs W t u ts
def uGNil : UGs := fun ds dl S K _ => match ds with
  | [] => K dl S
  | _ => False
def uGCons (a : UG) (b : UGs) : UGs := fun ds dl S K X => match ds with
  | d :: r => a d dl S (fun dl2 S2 => b r dl2 S2 K X) X
  | [] => False
def uGTup (n : Nat) (b : UGs) : UG := fun d dl S K X => match d with
  | .tup xs => xs.length = n ∧ b xs dl S K (fun _ _ => False)
  | _ => False
section
variable {X : Cx} {W : WX} {e : Expr} {es : List Expr} {t : TG} {tr : TGs} {u : UG} {ur : UGs} {ts rs : List Nat} {pos : Pos}
theorem dgs_nil : DGs X W [] gNil uGNil [] := ⟨pgs_nil, fun {sg dl L H S T vs ds K X Q} he hs p h hk _ => by
  match vs, ds, p, h with
  | [], [], _, h => exact ⟨rfl, hk sg dl L H S (.refl L) rfl (fun _ _ => rfl) he hs h⟩
  | _, _ :: _, _, h => exact h.elim
  | _ :: _, [], p, _ => exact p.elim⟩
theorem dgs_cons (h1 : DG X W e t u ts) (h2 : DGs X W es tr ur rs) (hs : (assignEach (e :: es) X.env).map (·.2) = assign e X.env :: (assignEach es X.env).map (·.2) := by rfl) : DGs X W (e :: es) (gCons t tr) (uGCons u ur) (ts ++ rs) :=
  ⟨pgs_cons h1.run h2.run hs, fun {sg dl L H S T vs ds K X Q} he hs p h hk hx => by
    match vs, ds, p, h with
    | v :: vs, d :: ds, p, h =>
      refine ⟨v, vs, rfl, h1.imp he hs p.1 h (fun sg2 dl2 L2 H2 S2 l2 hl2 hw2 he2 hs2 h2' => ?_) (hx sg rfl)⟩
      refine h2.imp he2 hs2 (p.2.le l2) h2' (fun sg3 dl3 L3 H3 S3 l3 hl3 hw3 he3 hs3 h3 => ?_) fun sg' hl' => (hx sg' (hl'.trans hl2)).le l2
      exact hk sg3 dl3 L3 H3 S3 (l2.trans l3) (hl3.trans hl2) (fun vs hv => (hw3 vs fun i hi => hv i (List.mem_append_right _ hi)).trans (hw2 vs fun i hi => hv i (List.mem_append_left _ hi))) he3 hs3 h3
    | _, [], _, h => exact h.elim
    | [], _ :: _, p, _ => exact p.elim⟩
theorem dg_tup {k n : Nat} (hc : X.calm = true) (h : DGs X W es tr ur ts) (hn : (assignEach es X.env).length = n := by rfl) (hst : (assignEach es X.env).findIdx? (·.1) = none := by rfl) : DG X W (.Tuple es k pos) (gTup X.K n tr) (uGTup n ur) ts :=
  ⟨pg_tup hc h.run hn hst, fun {sg dl L H S T v d K X' Q} he hs p hu hk hx => by
    cases d with
    | tup xs =>
      obtain ⟨a, vs, e, r, s1, q⟩ := hs.tuple p
      refine ⟨a, vs, e, .of r, by rw [q.length]; exact hu.1, h.imp (he.le LaddL.le) s1 q hu.2 (fun sg2 dl2 L2 H2 S2 l2 => hk sg2 dl2 L2 H2 S2 (LaddL.le.trans l2)) fun sg' _ e dd L' H' S' _ _ _ z => z.elim⟩
    | _ => exact hu.elim⟩
end
/-! ### comprehensions -/
theorem wipe_len (sg : L2.St) : ∀ vs : List Nat, (wipe sg vs).length = sg.length
  | [] => rfl
  | v :: vs => by
    show ((wipe sg vs).set v none).length = sg.length
    rw [List.length_set, wipe_len sg vs]
theorem wipe_at {sg : L2.St} {n : Nat} : ∀ {zs : List Nat}, n ∈ zs → n < sg.length → (wipe sg zs)[n]? = some none
  | z :: zs, hz, hl => by
    show ((wipe sg zs).set z none)[n]? = some none
    by_cases hzn : z = n
    · subst hzn
      rw [List.getElem?_set_self (by rw [wipe_len]; exact hl)]
    · rw [List.getElem?_set_ne hzn]
      rcases List.mem_cons.mp hz with q | q
      · exact absurd q.symm hzn
      · exact wipe_at q hl
theorem wipe_wipe {sg : L2.St} {vs : List Nat} : ∀ us : List Nat, (∀ i ∈ us, i ∈ vs) → wipe (wipe sg vs) us = wipe sg vs
  | [], _ => rfl
  | j :: us, hj => by
    show (wipe (wipe sg vs) us).set j none = wipe sg vs
    rw [wipe_wipe us fun i hi => hj i (List.mem_cons_of_mem _ hi)]
    refine List.ext_getElem? fun n => ?_
    by_cases hn : n = j
    · subst hn
      by_cases hlen : n < sg.length
      · rw [List.getElem?_set_self (by rw [wipe_len]; exact hlen), wipe_at (hj n List.mem_cons_self) hlen]
      · rw [List.getElem?_eq_none_iff.mpr (by rw [List.length_set, wipe_len]; omega), List.getElem?_eq_none_iff.mpr (by rw [wipe_len]; omega)]
    · rw [List.getElem?_set_ne (Ne.symm hn)]
def wipeD (dl : Env') : List Nat → Env'
  | [] => dl
  | v :: vs => (wipeD dl vs).set v none
theorem EnvIn.unset {sg : L2.St} {dl : Env'} {L : LL} (he : EnvIn sg dl L) (i : Nat) : EnvIn (sg.set i none) (dl.set i none) L := by
  refine ⟨by rw [List.length_set, List.length_set]; exact he.1, fun k c hk => ?_⟩
  by_cases e : k = i
  · subst e
    by_cases hi : k < dl.length
    · rw [List.getElem?_set_self hi] at hk
      cases hk
    · rw [List.getElem?_eq_none_iff.mpr (by rw [List.length_set]; omega)] at hk
      cases hk
  · rw [List.getElem?_set_ne (Ne.symm e)] at hk
    obtain ⟨w, h1, h2⟩ := he.2 k c hk
    exact ⟨w, by rw [List.getElem?_set_ne (Ne.symm e)]; exact h1, h2⟩
theorem EnvIn.wipe {sg : L2.St} {dl : Env'} {L : LL} (he : EnvIn sg dl L) : ∀ vs : List Nat, EnvIn (L2.wipe sg vs) (wipeD dl vs) L
  | [] => he
  | v :: vs => (EnvIn.wipe he vs).unset v
abbrev WF0 : WX := fun _ _ _ _ => False
abbrev XF0 : KX := fun _ _ => False
structure DTs (X : Cx) (W : WX) (es : List Expr) (t : TT) (u : UT) : Prop where
  run : PTs X es t
  imp : ImpT W t u
def uYes : UT := fun _ S K _ => K true S
theorem dts_nil {X : Cx} {W : WX} : DTs X W [] tYes uYes := ⟨pts_nil, fun {sg dl L H S T K X Q} he hs h hq _ => hq true L H S (.refl L) hs h⟩
theorem dts_one {X : Cx} {W : WX} {c : Expr} {t : TT} {u : UT} (h : DT X W c t u) : DTs X W [c] t u := ⟨pts_one h.run, h.imp⟩
/-- the comprehension: I speaks of the turn, of what is made, of the store -/
def uLcW (i : UI) (own : List Nat) (g : UG) (tt : UT) (ue : UE) (fin : List Dat → Store → KE → Prop) : UE := fun dl S K X => i dl S (fun ds P S1 => ∃ I : Nat → List Dat → Store → Prop, I 0 [] S1 ∧
  (∀ (j : Nat) d acc S2, ds[j]? = some d → I j acc S2 → P S2 ∧ acc.length < sizeLine ∧ g d (wipeD dl own) S2 (fun dl2 S3 => tt dl2 S3 (fun b S4 => if b = true then ue dl2 S4 (fun y S5 => I (j + 1) (acc ++ [y]) S5) XF0 else I (j + 1) acc S4) XF0) XF0) ∧
  ∀ acc S2, I ds.length acc S2 → P S2 ∧ fin acc S2 K) X
def uLc (i : UI) (own : List Nat) (g : UG) (tt : UT) (ue : UE) : UE := uLcW i own g tt ue fun acc S K => K (.lst acc) S
def uLcC (i : UI) (own : List Nat) (g : UG) (tt : UT) (ue : UE) : UE := uLcW i own g tt ue fun acc S K => K (.cell S.length) (S ++ [.lst acc])
section
variable {H : Hp} {L : LL} {S : Store} {T : List (Addr × HO)}
theorem SRx.pinSet {rho : List Addr} {D : Addr} {o o' : HO} (s : SRx H L S ((D, o) :: T) rho) : SRx (upd H D o') L S ((D, o') :: T) rho := by
  have hin : D ∈ rho ++ ((D, o) :: T).map (·.1) := by simp
  have nd := s.nd
  have hne : ∀ n a, rho[n]? = some a → a ≠ D := fun n a h z => by
    have q := (List.nodup_append.mp nd).2.2 a (List.mem_of_getElem? h) D (by simp)
    exact q z
  have m : Mono H (upd H D o') (rho ++ ((D, o) :: T).map (·.1)) (rho ++ ((D, o') :: T).map (·.1)) rho rho :=
    ⟨fun a u h e => by rw [upd_ne fun z => h (by rw [z]; exact hin)]; exact e, fun a h => .inl h, fun _ _ h => h⟩
  refine ⟨s.len, s.nd, fun n a d h1 h2 => (s.node n a d h1 h2).mono m (by rw [upd_ne (hne n a h1)]), fun p hp => ?_, fun v d h => RD.mono m (s.rd v d h)⟩
  rcases List.mem_cons.mp hp with e | e
  · subst e; exact upd_same
  · have hp' := s.pin p (List.mem_cons_of_mem _ e)
    have : p.1 ≠ D := fun z => by
      have q := (List.nodup_append.mp nd).2.1
      simp only [List.map_cons, List.nodup_cons] at q
      exact q.1 (List.mem_map.mpr ⟨p, e, z⟩)
    rw [upd_ne this]; exact hp'
/-- a new object is pinned -/
theorem SR.pinNew (s : SR H L S T) {D : Addr} {o : HO} (hD : H D = none) : SR (upd H D o) L S ((D, o) :: T) := by
  obtain ⟨rho, x⟩ := s
  have nf := x.fresh hD
  have m : Mono H (upd H D o) (rho ++ T.map (·.1)) (rho ++ ((D, o) :: T).map (·.1)) rho rho :=
    ⟨fun a u _ e => by rw [upd_ne (ne_of_none e hD)]; exact e, fun a h => by
      simp only [List.map_cons, List.mem_append, List.mem_cons] at h ⊢
      rcases h with h | h | h
      · exact .inl (.inl h)
      · subst h; exact .inr hD
      · exact .inl (.inr h), fun _ _ h => h⟩
  refine ⟨rho, x.len, ?_, fun n a d h1 h2 => ?_, fun p hp => ?_, fun v d h => RD.mono m (x.rd v d h)⟩
  · have : (rho ++ ((D, o) :: T).map (·.1)).Perm (D :: (rho ++ T.map (·.1))) := List.perm_middle
    exact this.nodup_iff.mpr (List.nodup_cons.mpr ⟨nf, x.nd⟩)
  · have hx := x.node n a d h1 h2
    obtain ⟨u, hu⟩ := hx.some
    exact hx.mono m (by rw [upd_ne (ne_of_none hu hD)])
  · rcases List.mem_cons.mp hp with e | e
    · subst e; exact upd_same
    · have hp' := x.pin p e
      rw [upd_ne (ne_of_none hp' hD)]; exact hp'
theorem pin_mono {rho : List Addr} {D : Addr} {o : HO} : Mono H H (rho ++ ((D, o) :: T).map (·.1)) (rho ++ T.map (·.1)) rho rho :=
  ⟨fun _ _ _ e => e, fun a h => .inl (by
    simp only [List.map_cons, List.mem_append, List.mem_cons] at h ⊢
    rcases h with h | h
    · exact .inl h
    · exact .inr (.inr h)), fun _ _ h => h⟩
theorem SRx.unpin {rho : List Addr} {D : Addr} {o : HO} (s : SRx H L S ((D, o) :: T) rho) : SRx H L S T rho ∧ D ∉ rho ++ T.map (·.1) ∧ H D = some o := by
  have hp : (rho ++ ((D, o) :: T).map (·.1)).Perm (D :: (rho ++ T.map (·.1))) := List.perm_middle
  have nd := List.nodup_cons.mp (hp.nodup_iff.mp s.nd)
  refine ⟨⟨s.len, nd.2, fun n a d h1 h2 => (s.node n a d h1 h2).mono pin_mono rfl, fun p hp => s.pin p (List.mem_cons_of_mem _ hp), fun v d h => RD.mono pin_mono (s.rd v d h)⟩, nd.1, s.pin (D, o) List.mem_cons_self⟩
theorem SR.unpin {D : Addr} {o : HO} (s : SR H L S ((D, o) :: T)) : SR H L S T := let ⟨rho, x⟩ := s; ⟨rho, x.unpin.1⟩
/-- the pinned list becomes a tree -/
theorem SR.pinTree {D : Addr} {vs : List V} {ds : List Dat} (s : SR H L S ((D, .lst vs) :: T)) (p : Ls L vs ds) : SR H (Ladd L (.ref D) (.lst ds)) S T := by
  obtain ⟨rho, x⟩ := s
  obtain ⟨y, nD, hD⟩ := x.unpin
  refine ⟨rho, y.more fun v d q => ?_⟩
  rcases q with q | ⟨rfl, rfl⟩
  · exact .inl q
  · refine .inr ?_
    simp only [RD]
    exact ⟨D, vs, rfl, nD, hD, Ls.rds y.rd p⟩
/-- .. a cell -/
theorem SR.pinCell {D : Addr} {vs : List V} {ds : List Dat} (s : SR H L S ((D, .lst vs) :: T)) (p : Ls L vs ds) : SR H (Ladd L (.ref D) (.cell S.length)) (S ++ [.lst ds]) T := by
  obtain ⟨rho, x⟩ := s
  have hD := x.pin (D, .lst vs) List.mem_cons_self
  have e1 : ((rho ++ [D]) ++ T.map (·.1)).Perm (rho ++ ((D, HO.lst vs) :: T).map (·.1)) := by simp
  have m : Mono H H (rho ++ ((D, HO.lst vs) :: T).map (·.1)) ((rho ++ [D]) ++ T.map (·.1)) rho (rho ++ [D]) :=
    ⟨fun _ _ _ e => e, fun a h => .inl (e1.mem_iff.mp h), fun n a e => by rw [List.getElem?_append_left (List.getElem?_eq_some_iff.mp e).1]; exact e⟩
  refine ⟨rho ++ [D], by simp [x.len], e1.nodup_iff.mpr x.nd, fun n a c h1 h2 => ?_, fun p hp => x.pin p (List.mem_cons_of_mem _ hp), fun v c q => ?_⟩
  · by_cases hn : n < rho.length
    · rw [List.getElem?_append_left hn] at h1
      rw [List.getElem?_append_left (by rw [← x.len]; exact hn)] at h2
      exact (x.node n a c h1 h2).mono m rfl
    · have e : n = rho.length := by
        have := (List.getElem?_eq_some_iff.mp h1).1
        simp at this; omega
      subst e
      rw [List.getElem?_append_right (Nat.le_refl _)] at h1
      rw [List.getElem?_append_right (by rw [x.len]; exact Nat.le_refl _), x.len] at h2
      simp at h1 h2
      subst h1; subst h2
      exact ⟨vs, hD, Ls.rds (fun v c q => RD.mono m (x.rd v c q)) p⟩
  · rcases q with q | ⟨rfl, rfl⟩
    · exact RD.mono m (x.rd v c q)
    · simp only [RD]
      exact ⟨D, by rw [← x.len, List.getElem?_append_right (Nat.le_refl _)]; simp, rfl⟩
theorem Ls.snoc {vs : List V} {ds : List Dat} {v : V} {d : Dat} (h : Ls L vs ds) (p : L v d) : Ls L (vs ++ [v]) (ds ++ [d]) := h.append ⟨p, True.intro⟩
end
section
variable {X : Cx} {W : WX} {elt tg iter : Expr} {ifs : List Expr} {scope : Scope} {own : List (Str × Nat)} {pos : Pos} {wi : TI} {ui : UI} {g : TG} {ug : UG} {ts : List Nat} {tt : TT} {ut : UT} {te : TE} {ue : UE}
theorem imp_lc {fin : List Dat → Store → KE → Prop} {vs : List Nat} (hfin : ∀ {H L S T D} {accV : List V} {acc : List Dat} {K Q}, SR H L S ((D, .lst accV) :: T) → Ls L accV acc → fin acc S K → EOk L T K Q → Q (.ref D) H)
    (hi : ImpI W wi ui) (hg : ImpG WF0 g ug ts) (ht : ImpT WF0 tt ut) (he : ImpE WF0 te ue) (hts : ∀ i ∈ ts, i ∈ vs) : ImpE W (tLc wi g tt te vs) (uLcW ui vs ug ut ue fin) := fun {sg dl L H S T K X' Q} hE hs h hq hx => by
  refine hi hE hs h (fun J ds P L1 H1 S1 l1 s1 hJ h1 D hD => ?_) hx
  obtain ⟨I, h0, hI, hd⟩ := h1
  refine ⟨fun i m H2 => m = ds.length - i ∧ i ≤ ds.length ∧ ∃ L2 S2 accV acc, Lle L1 L2 ∧ Ls L2 accV acc ∧ SR H2 L2 S2 ((D, .lst accV) :: T) ∧ I i acc S2, ⟨_, rfl, Nat.zero_le _, L1, S1, [], [], .refl _, True.intro, s1.pinNew hD, h0⟩, ?_⟩
  rintro i m H2 ⟨rfl, hi2, L2, S2, accV, acc, l2, p2, s2, h2⟩
  by_cases hlt : i < ds.length
  · obtain ⟨hP, hsz, hb2⟩ := hI i ds[i] acc S2 (List.getElem?_eq_getElem hlt) h2
    refine .inr ⟨hJ.go i H2 L2 S2 _ l2 s2 hP hlt, fun H' => ∃ m', m' < ds.length - i ∧ m' = ds.length - (i + 1) ∧ i + 1 ≤ ds.length ∧ ∃ L2 S2 accV acc, Lle L1 L2 ∧ Ls L2 accV acc ∧ SR H' L2 S2 ((D, .lst accV) :: T) ∧ I (i + 1) acc S2, fun H' h => h, fun x H' hy => ?_⟩
    obtain ⟨L3, l3, p3, s3⟩ := hJ.yld i H2 L2 S2 _ x H' ds[i] l2 s2 hP (List.getElem?_eq_getElem hlt) hy
    have hE3 : EnvIn (wipe sg vs) (wipeD dl vs) L3 := (hE.le ((l1.trans l2).trans l3)).wipe vs
    refine hg hE3 s3 p3 hb2 (fun sg4 dl4 L4 H4 S4 l4 hl4 hw4 he4 s4 h4 => ⟨?_, ?_⟩) fun e dd L' H' S' _ _ _ z => z.elim
    · rw [hw4 vs hts]
      exact wipe_wipe vs fun i h => h
    · refine ht he4 s4 h4 (fun b L5 H5 S5 l5 s5 h5 => ?_) fun e dd L' H' S' _ _ _ z => z.elim
      cases b with
      | true =>
        show te sg4 H5 _
        refine he (he4.le l5) s5 h5 (fun v d L6 H6 S6 l6 p6 s6 h6 => ?_) fun e dd L' H' S' _ _ _ z => z.elim
        obtain ⟨rho, x6⟩ := id s6
        have l36 := ((l3.trans l4).trans l5).trans l6
        refine ⟨accV, x6.pin (D, .lst accV) List.mem_cons_self, by rw [p2.length]; exact hsz, _, by omega, rfl, hlt, L6, S6, accV ++ [v], acc ++ [d], l2.trans l36, (p2.le l36).snoc p6, ⟨rho, x6.pinSet⟩, h6⟩
      | false =>
        have l35 := (l3.trans l4).trans l5
        exact ⟨_, by omega, rfl, hlt, L5, S5, accV, acc, l2.trans l35, p2.le l35, s5, h5⟩
  · have e : i = ds.length := by omega
    subst e
    obtain ⟨hP, hn⟩ := hd acc S2 h2
    exact .inl ⟨hJ.stop _ H2 L2 S2 _ l2 s2 hP rfl, hfin s2 p2 hn (hq.le (l1.trans l2))⟩
theorem de_lc (hc : X.calm = true) (hN : X.N.Nodup) (hi : DI X W tg iter wi ui) (ok : BlkOk X.N X.env.scope scope own)
    (hg : ∀ (s : Shared) (H : Hp) (C : Addr) (cl : List (Str × Addr)) (fp : List Addr), DG (X.blk s H scope (compEnvC scope cl C X.env) fp) WF0 tg g ug ts) (ht : ∀ (s : Shared) (H : Hp) (C : Addr) (cl : List (Str × Addr)) (fp : List Addr), DTs (X.blk s H scope (compEnvC scope cl C X.env) fp) WF0 ifs tt ut)
    (he : ∀ (s : Shared) (H : Hp) (C : Addr) (cl : List (Str × Addr)) (fp : List Addr), DE (X.blk s H scope (compEnvC scope cl C X.env) fp) WF0 elt te ue) (hts : ∀ i ∈ ts, i ∈ own.map (·.2)) (hs : ∀ x, foldedSetIterable iter X.env x = pure x := by intro _; rfl) :
    DE X W (.ListComp elt [⟨tg, iter, ifs, 0⟩] scope pos) (tLc wi g tt te (own.map (·.2))) (uLc ui (own.map (·.2)) ug ut ue) :=
  ⟨pe_lc hc hN hi.run ok (fun s H C cl fp => (hg s H C cl fp).run) (fun s H C cl fp => (ht s H C cl fp).run) (fun s H C cl fp => (he s H C cl fp).run) hs,
    imp_lc (fun {H L S T D accV acc K Q} s p h hq => hq _ _ _ _ S Ladd.le Ladd.here (s.pinTree p) h) hi.imp (hg {} (fun _ => none) 0 [] []).imp (ht {} (fun _ => none) 0 [] []).imp (he {} (fun _ => none) 0 [] []).imp hts⟩
theorem de_lcC (hc : X.calm = true) (hN : X.N.Nodup) (hi : DI X W tg iter wi ui) (ok : BlkOk X.N X.env.scope scope own)
    (hg : ∀ (s : Shared) (H : Hp) (C : Addr) (cl : List (Str × Addr)) (fp : List Addr), DG (X.blk s H scope (compEnvC scope cl C X.env) fp) WF0 tg g ug ts) (ht : ∀ (s : Shared) (H : Hp) (C : Addr) (cl : List (Str × Addr)) (fp : List Addr), DTs (X.blk s H scope (compEnvC scope cl C X.env) fp) WF0 ifs tt ut)
    (he : ∀ (s : Shared) (H : Hp) (C : Addr) (cl : List (Str × Addr)) (fp : List Addr), DE (X.blk s H scope (compEnvC scope cl C X.env) fp) WF0 elt te ue) (hts : ∀ i ∈ ts, i ∈ own.map (·.2)) (hs : ∀ x, foldedSetIterable iter X.env x = pure x := by intro _; rfl) :
    DE X W (.ListComp elt [⟨tg, iter, ifs, 0⟩] scope pos) (tLc wi g tt te (own.map (·.2))) (uLcC ui (own.map (·.2)) ug ut ue) :=
  ⟨pe_lc hc hN hi.run ok (fun s H C cl fp => (hg s H C cl fp).run) (fun s H C cl fp => (ht s H C cl fp).run) (fun s H C cl fp => (he s H C cl fp).run) hs,
    imp_lc (fun {H L S T D accV acc K Q} s p h hq => hq _ _ _ _ _ Ladd.le Ladd.here (s.pinCell p) h) hi.imp (hg {} (fun _ => none) 0 [] []).imp (ht {} (fun _ => none) 0 [] []).imp (he {} (fun _ => none) 0 [] []).imp hts⟩
/-- name = [..] on one line -/
theorem fin_tree {H : Hp} {L : LL} {S : Store} {T : List (Addr × HO)} {D : Addr} {accV : List V} {acc : List Dat} {K : KE} {Q : VK} (s : SR H L S ((D, .lst accV) :: T)) (p : Ls L accV acc) (h : K (.lst acc) S) (hq : EOk L T K Q) : Q (.ref D) H := hq _ _ _ _ S Ladd.le Ladd.here (s.pinTree p) h
theorem fin_cell {H : Hp} {L : LL} {S : Store} {T : List (Addr × HO)} {D : Addr} {accV : List V} {acc : List Dat} {K : KE} {Q : VK} (s : SR H L S ((D, .lst accV) :: T)) (p : Ls L accV acc) (h : K (.cell S.length) (S ++ [.lst acc])) (hq : EOk L T K Q) : Q (.ref D) H := hq _ _ _ _ _ Ladd.le Ladd.here (s.pinCell p) h
theorem imp_set {i : Nat} (h : ImpE W te ue) : ImpS W (tAsg te (gName i)) (uSet i ue) := fun {sg dl L H S T D D'} he hs h' hk =>
  h he hs h' (fun v d L1 H1 S1 l1 p1 s1 h1 => hk.nx (sg.set i (some v)) (dl.set i (some d)) L1 H1 S1 l1 (List.length_set ..) ((he.le l1).set h1.1 p1) s1 h1.2) (hk.ex.x rfl he)
theorem ds_setLc {i : Nat} {y : Str} {py spos : Pos} (hc : X.calm = true) (hN : X.N.Nodup) (hi : DI X W tg iter wi ui) (ok : BlkOk X.N X.env.scope scope own)
    (hg : ∀ (s : Shared) (H : Hp) (C : Addr) (cl : List (Str × Addr)) (fp : List Addr), DG (X.blk s H scope (compEnvC scope cl C X.env) fp) WF0 tg g ug ts) (ht : ∀ (s : Shared) (H : Hp) (C : Addr) (cl : List (Str × Addr)) (fp : List Addr), DTs (X.blk s H scope (compEnvC scope cl C X.env) fp) WF0 ifs tt ut)
    (he : ∀ (s : Shared) (H : Hp) (C : Addr) (cl : List (Str × Addr)) (fp : List Addr), DE (X.blk s H scope (compEnvC scope cl C X.env) fp) WF0 elt te ue) (hts : ∀ i ∈ ts, i ∈ own.map (·.2))
    (hy : X.N[i]? = some y := by rfl) (hyl : X.env.scope.names.lookup y = some .local := by rfl)
    (hsw : swapsWith (.ListComp elt [⟨tg, iter, ifs, 0⟩] scope pos) (some (.Name y py)) spos.line X.env = pure true := by exact sw_true rfl rfl rfl (by decide +kernel)) (hs : ∀ x, foldedSetIterable iter X.env x = pure x := by intro _; rfl) :
    DS X W (.Assign [.Name y py] (.ListComp elt [⟨tg, iter, ifs, 0⟩] scope pos) spos) (tAsg (tLc wi g tt te (own.map (·.2))) (gName i)) (uSet i (uLc ui (own.map (·.2)) ug ut ue)) :=
  ⟨ps_setLc hc hN hy hyl hsw hi.run ok (fun s H C cl fp => (hg s H C cl fp).run) (fun s H C cl fp => (ht s H C cl fp).run) (fun s H C cl fp => (he s H C cl fp).run) hs,
    imp_set (imp_lc fin_tree hi.imp (hg {} (fun _ => none) 0 [] []).imp (ht {} (fun _ => none) 0 [] []).imp (he {} (fun _ => none) 0 [] []).imp hts)⟩
theorem ds_setLcC {i : Nat} {y : Str} {py spos : Pos} (hc : X.calm = true) (hN : X.N.Nodup) (hi : DI X W tg iter wi ui) (ok : BlkOk X.N X.env.scope scope own)
    (hg : ∀ (s : Shared) (H : Hp) (C : Addr) (cl : List (Str × Addr)) (fp : List Addr), DG (X.blk s H scope (compEnvC scope cl C X.env) fp) WF0 tg g ug ts) (ht : ∀ (s : Shared) (H : Hp) (C : Addr) (cl : List (Str × Addr)) (fp : List Addr), DTs (X.blk s H scope (compEnvC scope cl C X.env) fp) WF0 ifs tt ut)
    (he : ∀ (s : Shared) (H : Hp) (C : Addr) (cl : List (Str × Addr)) (fp : List Addr), DE (X.blk s H scope (compEnvC scope cl C X.env) fp) WF0 elt te ue) (hts : ∀ i ∈ ts, i ∈ own.map (·.2))
    (hy : X.N[i]? = some y := by rfl) (hyl : X.env.scope.names.lookup y = some .local := by rfl)
    (hsw : swapsWith (.ListComp elt [⟨tg, iter, ifs, 0⟩] scope pos) (some (.Name y py)) spos.line X.env = pure true := by exact sw_true rfl rfl rfl (by decide +kernel)) (hs : ∀ x, foldedSetIterable iter X.env x = pure x := by intro _; rfl) :
    DS X W (.Assign [.Name y py] (.ListComp elt [⟨tg, iter, ifs, 0⟩] scope pos) spos) (tAsg (tLc wi g tt te (own.map (·.2))) (gName i)) (uSet i (uLcC ui (own.map (·.2)) ug ut ue)) :=
  ⟨ps_setLc hc hN hy hyl hsw hi.run ok (fun s H C cl fp => (hg s H C cl fp).run) (fun s H C cl fp => (ht s H C cl fp).run) (fun s H C cl fp => (he s H C cl fp).run) hs,
    imp_set (imp_lc fin_cell hi.imp (hg {} (fun _ => none) 0 [] []).imp (ht {} (fun _ => none) 0 [] []).imp (he {} (fun _ => none) 0 [] []).imp hts)⟩
end
end DL
/-! DL5: operators, subscripts, slices, built-ins, methods over data. -/
namespace DL
open PySem L2

section
variable {H : Hp} {L : LL} {S : Store} {T : List (Addr × HO)} {v : V}
theorem SR.vint (s : SR H L S T) {i : Int} (h : L v (.int i)) : v = .int i := by obtain ⟨_, x⟩ := s; have := x.rd _ _ h; simp only [RD] at this; exact this
theorem SR.vstr (s : SR H L S T) {i : Str} (h : L v (.str i)) : v = .str i := by obtain ⟨_, x⟩ := s; have := x.rd _ _ h; simp only [RD] at this; exact this
theorem SR.vbl (s : SR H L S T) {i : Bool} (h : L v (.bl i)) : v = .bl i := by obtain ⟨_, x⟩ := s; have := x.rd _ _ h; simp only [RD] at this; exact this
theorem SR.vnon (s : SR H L S T) (h : L v .non) : v = .non := by obtain ⟨_, x⟩ := s; have := x.rd _ _ h; simp only [RD] at this; exact this
theorem EOk.flat {K : KE} {Q : VK} (hq : EOk L T K Q) (s : SR H L S T) {d : Dat} (hf : Flat d v) (h : K d S) : Q v H := hq v d (Ladd L v d) H S Ladd.le Ladd.here (s.flat hf) h
/-- flat data as values -/
def flat? : Dat → Option V
  | .non => some .non | .bl b => some (.bl b) | .int i => some (.int i) | .str x => some (.str x)
  | _ => none
theorem SR.vflat (s : SR H L S T) {d : Dat} {w : V} (hf : flat? d = some w) (h : L v d) : v = w := by
  cases d with
  | non => simp [flat?] at hf; subst hf; exact s.vnon h
  | bl b => simp [flat?] at hf; subst hf; exact s.vbl h
  | int b => simp [flat?] at hf; subst hf; exact s.vint h
  | str b => simp [flat?] at hf; subst hf; exact s.vstr h
  | _ => simp [flat?] at hf
def flats? (ds : List Dat) : Option (List V) := ds.mapM flat?
theorem Ls.flats (s : SR H L S T) : ∀ {vs ws : List V} {ds : List Dat}, ds.mapM flat? = some ws → Ls L vs ds → vs = ws
  | [], ws, [], h, _ => by simp at h; exact h.symm
  | v :: vs, ws, d :: ds, h, p => by
    rw [List.mapM_cons] at h
    cases e1 : flat? d with
    | none => rw [e1] at h; cases h
    | some w =>
      cases e2 : ds.mapM flat? with
      | none => rw [e1, e2] at h; cases h
      | some us =>
        rw [e1, e2] at h
        injection h with h
        subst h
        rw [s.vflat e1 p.1, Ls.flats s e2 p.2]
  | [], _, _ :: _, _, p => p.elim
  | _ :: _, _, [], _, p => p.elim
theorem mapM_ints (ns : List Int) : (ns.map Dat.int).mapM flat? = some (ns.map V.int) := by
  induction ns with
  | nil => rfl
  | cons n ns ih => rw [List.map_cons, List.mapM_cons, ih]; rfl
theorem mapM_strs (ns : List Str) : (ns.map Dat.str).mapM flat? = some (ns.map V.str) := by
  induction ns with
  | nil => rfl
  | cons n ns ih => rw [List.map_cons, List.mapM_cons, ih]; rfl
theorem mapM_bls (ns : List Bool) : (ns.map Dat.bl).mapM flat? = some (ns.map V.bl) := by
  induction ns with
  | nil => rfl
  | cons n ns ih => rw [List.map_cons, List.mapM_cons, ih]; rfl
theorem Ls.ints (s : SR H L S T) {vs : List V} {ns : List Int} (h : Ls L vs (ns.map Dat.int)) : vs = ns.map V.int := h.flats s (mapM_ints ns)
theorem Ls.strs (s : SR H L S T) {vs : List V} {ns : List Str} (h : Ls L vs (ns.map Dat.str)) : vs = ns.map V.str := h.flats s (mapM_strs ns)
theorem Ls.bls (s : SR H L S T) {vs : List V} {ns : List Bool} (h : Ls L vs (ns.map Dat.bl)) : vs = ns.map V.bl := h.flats s (mapM_bls ns)
theorem Ls.one {L : LL} {vs : List V} {d : Dat} (h : Ls L vs [d]) : ∃ v, vs = [v] ∧ L v d := by
  match vs, h with
  | [v], h => exact ⟨v, rfl, h.1⟩
  | [], h => exact h.elim
  | _ :: _ :: _, h => exact h.2.elim
theorem Ls.two {L : LL} {vs : List V} {d e : Dat} (h : Ls L vs [d, e]) : ∃ v w, vs = [v, w] ∧ L v d ∧ L w e := by
  match vs, h with
  | [v, w], h => exact ⟨v, w, rfl, h.1, h.2.1⟩
  | [], h => exact h.elim
  | [_], h => exact h.2.elim
  | _ :: _ :: _ :: _, h => exact h.2.2.elim
theorem Ls.nil {L : LL} {vs : List V} (h : Ls L vs []) : vs = [] := by
  match vs, h with
  | [], _ => rfl
  | _ :: _, h => exact h.elim
end

/-! ### arithmetic -/
def rAddG (K : PySem.W.Frag) : R2 := fun x y H Q => rI0 (fun i j => .int (i + j)) x y H Q ∨ (∃ i j, x = .str i ∧ y = .str j ∧ i.length + j.length ≤ sizeLine ∧ Q (.str (i ++ j)) H) ∨ rCat x y H Q
def gAdd : G2 := fun x y S K => match x, y with
  | .int i, .int j => K (.int (i + j)) S
  | .str a, .str b => a.length + b.length ≤ sizeLine ∧ K (.str (a ++ b)) S
  | x, y => match view S x, view S y with
    | some (.lst xs), some (.lst ys) => xs.length + ys.length ≤ sizeLine ∧ K (.lst (xs ++ ys)) S
    | _, _ => False
theorem cat_imp {x y : V} {dx dy : Dat} {L : LL} {H : Hp} {S : Store} {T : List (Addr × HO)} {K : KE} {Q : VK} {xs ys : List Dat} (hs : SR H L S T) (px : L x dx) (py : L y dy) (e1 : view S dx = some (.lst xs)) (e2 : view S dy = some (.lst ys))
    (hl : xs.length + ys.length ≤ sizeLine) (h : K (.lst (xs ++ ys)) S) (hq : EOk L T K Q) : rCat x y H Q := by
  obtain ⟨a, vs, rfl, h1, s1, p1⟩ := hs.list px e1
  obtain ⟨b, ws, rfl, h2, s2, p2⟩ := s1.list (LaddL.le _ _ py) e2
  exact ⟨a, b, vs, ws, rfl, rfl, h1, h2, by rw [p1.length, p2.length]; exact hl, fun p hp => hq _ _ _ _ S ((LaddL.le.trans LaddL.le).trans Ladd.le) Ladd.here (s2.lst hp ((p1.le LaddL.le).append p2)) h⟩
theorem dop_add {X : Cx} : DOp X (binaryOp .Add) (rAddG X.K) gAdd := ⟨op_add.or (op_add_str.or op_cat), fun {x y dx dy L H S T K Q} hs px py h hq => by
  unfold gAdd at h
  split at h
  · exact .inl ⟨_, _, hs.vint px, hs.vint py, hq.flat hs (d := .int _) rfl h⟩
  · exact .inr (.inl ⟨_, _, hs.vstr px, hs.vstr py, h.1, hq.flat hs (d := .str _) rfl h.2⟩)
  · split at h
    · rename_i e1 e2
      exact .inr (.inr (cat_imp hs px py e1 e2 h.1 h.2 hq))
    · exact h.elim⟩
def gInt (C : Int → Int → Prop) (f : Int → Int → Int) : G2 := fun x y S K => match x, y with
  | .int i, .int j => C i j ∧ K (.int (f i j)) S
  | _, _ => False
theorem int_imp {C : Int → Int → Prop} {f : Int → Int → Int} : OpI (rI C fun i j => .int (f i j)) (gInt C f) := fun {x y dx dy L H S T K Q} hs px py h hq => by
  unfold gInt at h
  split at h
  · exact ⟨_, _, hs.vint px, hs.vint py, h.1, hq.flat hs (d := .int _) rfl h.2⟩
  · exact h.elim
def gInt0 (f : Int → Int → Int) : G2 := fun x y S K => match x, y with
  | .int i, .int j => K (.int (f i j)) S
  | _, _ => False
theorem int0_imp {f : Int → Int → Int} : OpI (rI0 fun i j => .int (f i j)) (gInt0 f) := fun {x y dx dy L H S T K Q} hs px py h hq => by
  unfold gInt0 at h
  split at h
  · exact ⟨_, _, hs.vint px, hs.vint py, hq.flat hs (d := .int _) rfl h⟩
  · exact h.elim
theorem dop_sub {X : Cx} : DOp X (binaryOp .Sub) (rI0 fun i j => .int (i - j)) (gInt0 fun i j => i - j) := ⟨op_sub, int0_imp⟩
theorem dop_mul {X : Cx} : DOp X (binaryOp .Mult) (rI CMul fun i j => .int (i * j)) (gInt CMul fun i j => i * j) := ⟨op_mul, int_imp⟩
theorem dop_mod {X : Cx} : DOp X (binaryOp .Mod) (rI (fun _ j => 0 < j) fun i j => .int (i % j)) (gInt (fun _ j => 0 < j) fun i j => i % j) := ⟨op_mod, int_imp⟩
theorem dop_fdiv {X : Cx} : DOp X (binaryOp .FloorDiv) (rI CDiv fun i j => .int (i / j)) (gInt CDiv fun i j => i / j) := ⟨op_fdiv, int_imp⟩
theorem dop_pow {X : Cx} : DOp X (binaryOp .Pow) (rI CPow fun i j => .int (i ^ j.toNat)) (gInt CPow fun i j => i ^ j.toNat) := ⟨op_pow, int_imp⟩
theorem de_neg {X : Cx} {W : WX} {a : Expr} {ta : TE} {ua : UE} {pos : Pos} (ha : DE X W a ta ua) : DE X W (.UnaryOp .USub a pos) (tUn (rU fun i => .int (-i)) ta) (uUn (fun d S K => match d with
    | .int i => K (.int (-i)) S
    | _ => False) ua) := ⟨pe_un un_neg ha.run, imp_un (fun {x dx L H S T K Q} hs px h hq => by
  cases dx with
  | int i => exact ⟨i, hs.vint px, hq.flat hs (d := .int _) rfl h⟩
  | _ => exact h.elim) ha.imp⟩
/-! ### order -/
def ltS (a b : Str) : Bool := decide (a.cps.toList < b.cps.toList)
def gLt : G2 := fun x y S K => match x, y with
  | .int i, .int j => K (.bl (decide (i < j))) S
  | .str a, .str b => K (.bl (ltS a b)) S
  | _, _ => False
def gLe : G2 := fun x y S K => match x, y with
  | .int i, .int j => K (.bl (decide (i ≤ j))) S
  | .str a, .str b => K (.bl (!ltS b a)) S
  | _, _ => False
def gGt : G2 := fun x y S K => match x, y with
  | .int i, .int j => K (.bl (decide (j < i))) S
  | .str a, .str b => K (.bl (ltS b a)) S
  | _, _ => False
def gGe : G2 := fun x y S K => match x, y with
  | .int i, .int j => K (.bl (decide (j ≤ i))) S
  | .str a, .str b => K (.bl (!ltS a b)) S
  | _, _ => False
def rOrdG (f : Int → Int → Bool) (g : Str → Str → Bool) : R2 := fun x y H Q => rI0 (fun i j => .bl (f i j)) x y H Q ∨ (∃ i j, x = .str i ∧ y = .str j ∧ Q (.bl (g i j)) H)
theorem dop_lt {X : Cx} : DOp X (compareOp .Lt) (rOrdG (fun i j => decide (i < j)) ltS) gLt := ⟨op_lt.or op_lt_str, fun {x y dx dy L H S T K Q} hs px py h hq => by
  unfold gLt at h
  split at h
  · exact .inl ⟨_, _, hs.vint px, hs.vint py, hq.flat hs (d := .bl _) rfl h⟩
  · exact .inr ⟨_, _, hs.vstr px, hs.vstr py, hq.flat hs (d := .bl _) rfl h⟩
  · exact h.elim⟩
theorem dop_le {X : Cx} : DOp X (compareOp .LtE) (rOrdG (fun i j => decide (i ≤ j)) fun a b => !ltS b a) gLe := ⟨op_le.or op_le_str, fun {x y dx dy L H S T K Q} hs px py h hq => by
  unfold gLe at h
  split at h
  · exact .inl ⟨_, _, hs.vint px, hs.vint py, hq.flat hs (d := .bl _) rfl h⟩
  · exact .inr ⟨_, _, hs.vstr px, hs.vstr py, hq.flat hs (d := .bl _) rfl h⟩
  · exact h.elim⟩
theorem dop_gt {X : Cx} : DOp X (compareOp .Gt) (rOrdG (fun i j => decide (j < i)) fun a b => ltS b a) gGt := ⟨op_gt.or op_gt_str, fun {x y dx dy L H S T K Q} hs px py h hq => by
  unfold gGt at h
  split at h
  · exact .inl ⟨_, _, hs.vint px, hs.vint py, hq.flat hs (d := .bl _) rfl h⟩
  · exact .inr ⟨_, _, hs.vstr px, hs.vstr py, hq.flat hs (d := .bl _) rfl h⟩
  · exact h.elim⟩
theorem dop_ge {X : Cx} : DOp X (compareOp .GtE) (rOrdG (fun i j => decide (j ≤ i)) fun a b => !ltS a b) gGe := ⟨op_ge.or op_ge_str, fun {x y dx dy L H S T K Q} hs px py h hq => by
  unfold gGe at h
  split at h
  · exact .inl ⟨_, _, hs.vint px, hs.vint py, hq.flat hs (d := .bl _) rfl h⟩
  · exact .inr ⟨_, _, hs.vstr px, hs.vstr py, hq.flat hs (d := .bl _) rfl h⟩
  · exact h.elim⟩
/-! ### equality -/
mutual
/-- data as the library's data -/
inductive Py (S : Store) : Dat → PyData → Prop where
  | non : Py S .non .none
  | bl {b : Bool} : Py S (.bl b) (.bool b)
  | int {i : Int} : Py S (.int i) (.int i)
  | str {x : Str} : Py S (.str x) (.str x)
  | lst {xs : List Dat} {ps : List PyData} : Pys S xs ps → Py S (.lst xs) (.list ps)
  | tup {xs : List Dat} {ps : List PyData} : Pys S xs ps → Py S (.tup xs) (.tuple ps)
  | cell {n : Nat} {xs : List Dat} {ps : List PyData} : S[n]? = some (.lst xs) → Pys S xs ps → Py S (.cell n) (.list ps)
inductive Pys (S : Store) : List Dat → List PyData → Prop where
  | nil : Pys S [] []
  | cons {d : Dat} {ds : List Dat} {p : PyData} {ps : List PyData} : Py S d p → Pys S ds ps → Pys S (d :: ds) (p :: ps)
end
section
variable {H : Hp} {R rho : List Addr} {S : Store} {KF : PySem.W.Frag}
mutual
theorem Py.dp (hn : ∀ (m : Nat) a d, rho[m]? = some a → S[m]? = some d → Node H R rho a d) : ∀ {d : Dat} {p : PyData} {v : V}, Py S d p → RD H R rho d v → Dp KF H v p
  | _, _, _, .non, h => by simp only [RD] at h; subst h; exact .non
  | _, _, _, .bl, h => by simp only [RD] at h; subst h; exact .bl _
  | _, _, _, .int, h => by simp only [RD] at h; subst h; exact .int _
  | _, _, _, .str, h => by simp only [RD] at h; subst h; exact .str _
  | _, _, _, .lst q, h => by
    simp only [RD] at h
    obtain ⟨a, vs, rfl, _, e, r⟩ := h
    exact .lst (.of e) (Pys.dp hn q r)
  | _, _, _, .tup q, h => by
    simp only [RD] at h
    obtain ⟨a, vs, rfl, _, e, r⟩ := h
    exact .tup (.of e) (Pys.dp hn q r)
  | _, _, _, .cell hc q, h => by
    simp only [RD] at h
    obtain ⟨a, ha, rfl⟩ := h
    obtain ⟨vs, e, r⟩ := hn _ a _ ha hc
    exact .lst (.of e) (Pys.dp hn q r)
theorem Pys.dp (hn : ∀ (m : Nat) a d, rho[m]? = some a → S[m]? = some d → Node H R rho a d) : ∀ {ds : List Dat} {ps : List PyData} {vs : List V}, Pys S ds ps → RDs H R rho ds vs → DpAll KF H vs ps
  | _, _, _, .nil, h => by simp only [RDs] at h; subst h; exact .nil
  | _, _, _, .cons q qs, h => by
    simp only [RDs] at h
    obtain ⟨w, ws, rfl, h1, h2⟩ := h
    exact .cons (Py.dp hn q h1) (Pys.dp hn qs h2)
end
end
/-- flat pairs that == tells apart at once -/
def scalD : Dat → Dat → Option Bool
  | .int i, .int j => some (decide (i = j))
  | .str i, .str j => some (decide (i = j))
  | .bl i, .bl j => some (decide (i = j))
  | .non, .non => some true
  | .non, .int _ => some false | .int _, .non => some false | .non, .bl _ => some false | .bl _, .non => some false | .non, .str _ => some false | .str _, .non => some false
  | .int _, .str _ => some false | .str _, .int _ => some false | .bl _, .str _ => some false | .str _, .bl _ => some false
  | _, _ => none
theorem scalD_ok {H : Hp} {L : LL} {S : Store} {T : List (Addr × HO)} {x y : V} {dx dy : Dat} {b : Bool} (hs : SR H L S T) (px : L x dx) (py : L y dy) (h : scalD dx dy = some b) : scal x y = true ∧ decide (x = y) = b := by
  cases dx <;> cases dy <;> simp only [scalD, Option.some.injEq] at h <;> try (cases h) <;> try (injection h)
  all_goals first
    | (rw [hs.vint px, hs.vint py]; exact ⟨rfl, by simp⟩)
    | (rw [hs.vstr px, hs.vstr py]; exact ⟨rfl, by simp⟩)
    | (rw [hs.vbl px, hs.vbl py]; exact ⟨rfl, by simp⟩)
    | (rw [hs.vnon px, hs.vnon py]; exact ⟨rfl, by simp⟩)
    | (rw [hs.vnon px, hs.vint py]; exact ⟨rfl, by simp⟩)
    | (rw [hs.vint px, hs.vnon py]; exact ⟨rfl, by simp⟩)
    | (rw [hs.vnon px, hs.vbl py]; exact ⟨rfl, by simp⟩)
    | (rw [hs.vbl px, hs.vnon py]; exact ⟨rfl, by simp⟩)
    | (rw [hs.vnon px, hs.vstr py]; exact ⟨rfl, by simp⟩)
    | (rw [hs.vstr px, hs.vnon py]; exact ⟨rfl, by simp⟩)
    | (rw [hs.vint px, hs.vstr py]; exact ⟨rfl, by simp⟩)
    | (rw [hs.vstr px, hs.vint py]; exact ⟨rfl, by simp⟩)
    | (rw [hs.vbl px, hs.vstr py]; exact ⟨rfl, by simp⟩)
    | (rw [hs.vstr px, hs.vbl py]; exact ⟨rfl, by simp⟩)
def gEqB (f : Bool → Bool) : G2 := fun x y S K => match scalD x y with
  | some b => K (.bl (f b)) S
  | none => ∃ p q, Py S x p ∧ Py S y q ∧ SeqAt.shaped p = true ∧ SeqAt.shaped q = true ∧ K (.bl (f (PyData.eqv p q))) S
def gEq : G2 := gEqB id
def gNe : G2 := gEqB (!·)
theorem dop_eq {X : Cx} (hu : X.A.units + 64 < cLine) : DOp X (compareOp .Eq) (fun x y H Q => rEq x y H Q ∨ rEqD X.K x y H Q) gEq := ⟨op_eq.or (op_eqD hu), fun {x y dx dy L H S T K Q} hs px py h hq => by
  unfold gEq gEqB at h
  split at h
  · rename_i b e
    obtain ⟨h1, h2⟩ := scalD_ok hs px py e
    exact .inl ⟨h1, by rw [h2]; exact hq.flat hs (d := .bl _) rfl h⟩
  · obtain ⟨p, q, h1, h2, h3, h4, h⟩ := h
    obtain ⟨rho, z⟩ := id hs
    exact .inr ⟨p, q, h1.dp z.node (z.rd _ _ px), h2.dp z.node (z.rd _ _ py), h3, h4, hq.flat hs (d := .bl _) rfl h⟩⟩
theorem dop_ne {X : Cx} (hu : X.A.units + 64 < cLine) : DOp X (compareOp .NotEq) (fun x y H Q => rNe x y H Q ∨ rNeD X.K x y H Q) gNe := ⟨op_ne.or (op_neD hu), fun {x y dx dy L H S T K Q} hs px py h hq => by
  unfold gNe gEqB at h
  split at h
  · rename_i b e
    obtain ⟨h1, h2⟩ := scalD_ok hs px py e
    exact .inl ⟨h1, by rw [h2]; exact hq.flat hs (d := .bl _) rfl h⟩
  · obtain ⟨p, q, h1, h2, h3, h4, h⟩ := h
    obtain ⟨rho, z⟩ := id hs
    exact .inr ⟨p, q, h1.dp z.node (z.rd _ _ px), h2.dp z.node (z.rd _ _ py), h3, h4, hq.flat hs (d := .bl _) rfl h⟩⟩
/-! ### is None -/
def isNonD : Dat → Bool
  | .non => true
  | _ => false
def noRaw : Dat → Bool
  | .raw _ => false
  | _ => true
theorem SR.isNon {H : Hp} {L : LL} {S : Store} {T : List (Addr × HO)} {v : V} {d : Dat} (hs : SR H L S T) (p : L v d) (hr : noRaw d = true) : decide (v = .non) = isNonD d := by
  obtain ⟨rho, x⟩ := hs
  have q := x.rd _ _ p
  cases d with
  | raw w => cases hr
  | non => simp only [RD] at q; subst q; rfl
  | bl b => simp only [RD] at q; subst q; rfl
  | int b => simp only [RD] at q; subst q; rfl
  | str b => simp only [RD] at q; subst q; rfl
  | lst xs => simp only [RD] at q; obtain ⟨a, vs, rfl, _⟩ := q; rfl
  | tup xs => simp only [RD] at q; obtain ⟨a, vs, rfl, _⟩ := q; rfl
  | dct ks xs => simp only [RD] at q; obtain ⟨a, vs, rfl, _⟩ := q; rfl
  | dtt ks xs => simp only [RD] at q; obtain ⟨a, vs, rfl, _⟩ := q; rfl
  | sq ks xs => simp only [RD] at q; obtain ⟨a, rfl, _⟩ := q; rfl
  | ins C ks xs => simp only [RD] at q; obtain ⟨a, dx, vs, rfl, _⟩ := q; rfl
  | xd ks xs => simp only [RD] at q; obtain ⟨a, vs, rfl, _⟩ := q; rfl
  | cell n => simp only [RD] at q; obtain ⟨a, _, rfl⟩ := q; rfl
def gIs (f : Bool → Bool) : G2 := fun x y S K => match y with
  | .non => noRaw x = true ∧ K (.bl (f (isNonD x))) S
  | _ => False
theorem dop_is {X : Cx} : DOp X (compareOp .Is) (fun x y H Q => y = .non ∧ Q (.bl (decide (x = .non))) H) (gIs id) := ⟨op_isN, fun {x y dx dy L H S T K Q} hs px py h hq => by
  unfold gIs at h
  split at h
  · refine ⟨hs.vnon py, ?_⟩
    rw [hs.isNon px h.1]
    exact hq.flat hs (d := .bl _) rfl h.2
  · exact h.elim⟩
theorem dop_isnot {X : Cx} : DOp X (compareOp .IsNot) (fun x y H Q => y = .non ∧ Q (.bl (!decide (x = .non))) H) (gIs (!·)) := ⟨op_notN, fun {x y dx dy L H S T K Q} hs px py h hq => by
  unfold gIs at h
  split at h
  · refine ⟨hs.vnon py, ?_⟩
    rw [hs.isNon px h.1]
    exact hq.flat hs (d := .bl _) rfl h.2
  · exact h.elim⟩
/-! ### in -/
/-- one sign -/
def sgn (c : Nat) : Str := ⟨#[c]⟩
def seqD (S : Store) : Dat → Option (List Dat)
  | .tup xs => some xs
  | .lst xs => some xs
  | .cell n => match S[n]? with
    | some (.lst xs) => some xs
    | _ => none
  | _ => none
theorem SR.seq {H : Hp} {L : LL} {S : Store} {T : List (Addr × HO)} {v : V} {d : Dat} {ds : List Dat} {KF : PySem.W.Frag} (hs : SR H L S T) (p : L v d) (e : seqD S d = some ds) :
    ∃ a vs, v = .ref a ∧ (SqL KF H a vs ∨ SqT KF H a vs) ∧ SR H (LaddL L vs ds) S T ∧ Ls (LaddL L vs ds) vs ds := by
  cases d with
  | tup xs => simp [seqD] at e; subst e; obtain ⟨a, vs, h1, h2, h3⟩ := hs.tuple p; exact ⟨a, vs, h1, .inr (.of h2), h3⟩
  | lst xs => simp [seqD] at e; subst e; obtain ⟨a, vs, h1, h2, h3⟩ := hs.list p rfl; exact ⟨a, vs, h1, .inl (.of h2), h3⟩
  | cell n =>
    have e : (match S[n]? with
      | some (.lst xs) => some xs
      | _ => none) = some ds := e
    cases q : S[n]? with
    | none => rw [q] at e; cases e
    | some c =>
      rw [q] at e
      cases c with
      | lst xs =>
        injection e with e
        subst e
        obtain ⟨a, vs, h1, h2, h3⟩ := hs.list p (ds := xs) q
        exact ⟨a, vs, h1, .inl (.of h2), h3⟩
      | _ => cases e
  | _ => simp [seqD] at e
/-- what «in» asks of the item and a list's flat items, by values -/
def inF (x : Dat) (xs : List Dat) : Option Bool := match flat? x, xs.mapM flat? with
  | some v, some vs => some (inV v vs)
  | _, _ => none
theorem flatV_of {d : Dat} {w : V} (h : flat? d = some w) : flatV w = true := by
  cases d <;> simp [flat?] at h <;> subst h <;> rfl
theorem flatsV_of : ∀ {ds : List Dat} {ws : List V}, ds.mapM flat? = some ws → ws.all flatV = true
  | [], ws, h => by simp at h; subst h; rfl
  | d :: ds, ws, h => by
    rw [List.mapM_cons] at h
    cases e1 : flat? d with
    | none => rw [e1] at h; cases h
    | some w =>
      cases e2 : ds.mapM flat? with
      | none => rw [e1, e2] at h; cases h
      | some us =>
        rw [e1, e2] at h
        injection h with h
        subst h
        rw [List.all_cons, flatV_of e1, flatsV_of e2]
        rfl
def gIn (f : Bool → Bool) : G2 := fun x y S K => match x, y with
  | .str a, .str z => ∃ c, a = sgn c ∧ K (.bl (f (decide (c ∈ z.cps.toList)))) S
  | x, y => ∃ xs b, seqD S y = some xs ∧ inF x xs = some b ∧ K (.bl (f b)) S
theorem in_imp {x y : V} {dx dy : Dat} {L : LL} {H : Hp} {S : Store} {T : List (Addr × HO)} {K : KE} {Q : VK} {xs : List Dat} {b neg : Bool} {KF : PySem.W.Frag} (hs : SR H L S T) (px : L x dx) (py : L y dy) (e1 : seqD S dy = some xs) (e2 : inF dx xs = some b)
    (h : K (.bl (if neg then !b else b)) S) (hq : EOk L T K Q) : rIn KF neg x y H Q := by
  obtain ⟨a, vs, rfl, h1, s1, p1⟩ := hs.seq (KF := KF) py e1
  unfold inF at e2
  cases f1 : flat? dx with
  | none => rw [f1] at e2; cases e2
  | some w =>
    cases f2 : xs.mapM flat? with
    | none => rw [f1, f2] at e2; cases e2
    | some ws =>
      rw [f1, f2] at e2
      injection e2 with e2
      have ev : vs = ws := p1.flats s1 f2
      subst ev
      rw [hs.vflat f1 px]
      refine ⟨a, vs, rfl, h1, flatV_of f1, flatsV_of f2, ?_⟩
      rw [e2]
      exact hq.flat hs (d := .bl _) rfl h
def rInG (K : PySem.W.Frag) (neg : Bool) : R2 := fun x y H Q => (∃ (c : Nat) (z : Str), x = .str ⟨#[c]⟩ ∧ y = .str z ∧ Q (.bl (if neg then !decide (c ∈ z.cps.toList) else decide (c ∈ z.cps.toList))) H) ∨ rIn K neg x y H Q
theorem dop_in {X : Cx} : DOp X (compareOp .In) (rInG X.K false) (gIn id) := ⟨(show OpR X (compareOp .In) (fun x y H Q => (∃ (c : Nat) (z : Str), x = .str ⟨#[c]⟩ ∧ y = .str z ∧ Q (.bl (decide (c ∈ z.cps.toList))) H) ∨ rIn X.K false x y H Q) from op_in_sign.or op_in_seq), fun {x y dx dy L H S T K Q} hs px py h hq => by
  unfold gIn at h
  split at h
  · obtain ⟨c, rfl, h⟩ := h
    exact .inl ⟨c, _, hs.vstr px, hs.vstr py, hq.flat hs (d := .bl _) rfl h⟩
  · obtain ⟨xs, b, e1, e2, h⟩ := h
    exact .inr (in_imp hs px py e1 e2 h hq)⟩
theorem dop_notin {X : Cx} : DOp X (compareOp .NotIn) (rInG X.K true) (gIn (!·)) := ⟨(show OpR X (compareOp .NotIn) (fun x y H Q => (∃ (c : Nat) (z : Str), x = .str ⟨#[c]⟩ ∧ y = .str z ∧ Q (.bl (!decide (c ∈ z.cps.toList))) H) ∨ rIn X.K true x y H Q) from op_notIn_sign.or op_notIn_seq), fun {x y dx dy L H S T K Q} hs px py h hq => by
  unfold gIn at h
  split at h
  · obtain ⟨c, rfl, h⟩ := h
    exact .inl ⟨c, _, hs.vstr px, hs.vstr py, hq.flat hs (d := .bl _) rfl h⟩
  · obtain ⟨xs, b, e1, e2, h⟩ := h
    exact .inr (in_imp hs px py e1 e2 h hq)⟩
/-! ### subscripts, slices -/
def gIx : G2 := fun x y S K => match x, y with
  | .str z, .int i => z.length ≤ sizeLine ∧ ∃ c, atI z.cps.toList i = some c ∧ K (.str (sgn c)) S
  | x, .int i => ∃ xs d, seqD S x = some xs ∧ atI xs i = some d ∧ K d S
  | _, _ => False
theorem atI_ls {L : LL} {vs : List V} {ds : List Dat} {i : Int} {d : Dat} (p : Ls L vs ds) (h : atI ds i = some d) : ∃ v, atI vs i = some v ∧ L v d := by
  unfold atI at h ⊢
  rw [p.length]
  cases e : ixN ds.length i with
  | none => rw [e] at h; cases h
  | some j =>
    rw [e] at h
    obtain ⟨v, h1, h2⟩ := p.get (i := j) (d := d) h
    exact ⟨v, h1, h2⟩
theorem ix_imp {KF : PySem.W.Frag} : OpI (rIx KF) gIx := fun {x y dx dy L H S T K Q} hs px py h hq => by
  unfold gIx at h
  split at h
  · obtain ⟨h1, c, h2, h⟩ := h
    exact .inr (.inr ⟨_, _, c, hs.vstr px, hs.vint py, h1, h2, hq.flat hs (d := .str _) rfl h⟩)
  · obtain ⟨xs, d, e1, e2, h⟩ := h
    obtain ⟨a, vs, rfl, h1, s1, p1⟩ := hs.seq (KF := KF) px e1
    obtain ⟨v, h2, h3⟩ := atI_ls p1 e2
    rcases h1 with h1 | h1
    · exact .inl ⟨a, vs, _, v, rfl, hs.vint py, h1, h2, hq _ _ _ _ S LaddL.le h3 s1 h⟩
    · exact .inr (.inl ⟨a, vs, _, v, rfl, hs.vint py, h1, h2, hq _ _ _ _ S LaddL.le h3 s1 h⟩)
  · exact h.elim
section
variable {X : Cx} {W : WX} {a b : Expr} {ta tb : TE} {ua ub : UE} {pos : Pos}
theorem de_ix (ha : DE X W a ta ua) (hb : DE X W b tb ub) (hs : PlainIx b := by exact fun _ _ => rfl) : DE X W (.Subscript a b pos) (tOp (rIx X.K) ta tb) (uOp gIx ua ub) := ⟨pe_ix ix_seq ha.run hb.run hs, imp_op ix_imp ha.imp hb.imp⟩
/-- a slice's part -/
abbrev UO := Env' → Store → (Option Int → Store → Prop) → KX → Prop
def ImpO (W : WX) (t : TO) (u : UO) : Prop := ∀ {sg dl L H S T K X Q}, EnvIn sg dl L → SR H L S T → u dl S K X → (∀ o L' H' S', Lle L L' → SR H' L' S' T → K o S' → Q o H') → XOk W sg L T X → t sg H Q
structure DO (X : Cx) (W : WX) (e : Option Expr) (t : TO) (u : UO) : Prop where
  run : PO X e t
  imp : ImpO W t u
def uNo : UO := fun _ S K _ => K none S
def uPart (ua : UE) : UO := fun dl S K X => ua dl S (fun d S1 => match d with
  | .int i => K (some i) S1
  | _ => False) X
theorem do_none : DO X W none tNoPart uNo := ⟨po_none, fun {sg dl L H S T K X Q} _ hs h hq _ => hq none L H S (.refl L) hs h⟩
theorem do_some (ha : DE X W a ta ua) : DO X W (some a) (tPart ta) (uPart ua) := ⟨po_some ha.run, fun {sg dl L H S T K X Q} he hs h hq hx => ha.imp he hs h (fun v d L1 H1 S1 l1 p1 s1 h1 => by
  cases d with
  | int i => exact ⟨i, s1.vint p1, hq _ L1 H1 S1 l1 s1 h1⟩
  | _ => exact h1.elim) hx⟩
def cutD (xs : List Dat) (lo hi : Option Int) : List Dat := (xs.drop (HT.sIx xs.length 0 lo)).take (HT.sIx xs.length xs.length hi - HT.sIx xs.length 0 lo)
theorem Ls.drop {L : LL} : ∀ {vs : List V} {ds : List Dat} (n : Nat), Ls L vs ds → Ls L (vs.drop n) (ds.drop n)
  | _, _, 0, h => h
  | [], [], n + 1, _ => True.intro
  | v :: vs, d :: ds, n + 1, h => Ls.drop n h.2
  | [], _ :: _, _ + 1, h => h.elim
  | _ :: _, [], _ + 1, h => h.elim
theorem Ls.take {L : LL} : ∀ {vs : List V} {ds : List Dat} (n : Nat), Ls L vs ds → Ls L (vs.take n) (ds.take n)
  | _, _, 0, h => by simp [Ls]
  | [], [], n + 1, _ => True.intro
  | v :: vs, d :: ds, n + 1, h => ⟨h.1, Ls.take n h.2⟩
  | [], _ :: _, _ + 1, h => h.elim
  | _ :: _, [], _ + 1, h => h.elim
theorem Ls.cut {L : LL} {vs : List V} {ds : List Dat} {lo hi : Option Int} (h : Ls L vs ds) : Ls L (cutV vs lo hi) (cutD ds lo hi) := by
  unfold cutV cutD
  rw [h.length]
  exact Ls.take _ (Ls.drop _ h)
def gSl (x : Dat) (lo hi : Option Int) (S : Store) (K : KE) : Prop := match x with
  | .str z => z.length ≤ sizeLine ∧ K (.str (cutS z lo hi)) S
  | x => match view S x with
    | some (.lst xs) => K (.lst (cutD xs lo hi)) S
    | _ => False
def uSl (ua : UE) (ul uh : UO) : UE := fun dl S K X => ua dl S (fun d S1 => ul dl S1 (fun l S2 => uh dl S2 (fun h S3 => gSl d l h S3 K) X) X) X
/-- of the script alone -/
def uSlQ (KF : PySem.W.Frag) (ua : UE) (ul uh : UO) : UE := fun dl S K X => ua dl S (fun d S1 => ul dl S1 (fun l S2 => uh dl S2 (fun h S3 => ∃ (ns ms : List Int), d = .sq KF ns ∧ cutV (ns.map V.int) l h = ms.map V.int ∧ K (.lst (ms.map .int)) S3) X) X) X
theorem sq_at {H : Hp} {L : LL} {S : Store} {T : List (Addr × HO)} {v : V} {K' : PySem.W.Frag} {ns : List Int} (hs : SR H L S T) (p : L v (.sq K' ns)) : ∃ a, v = .ref a ∧ SqL K' H a (ns.map V.int) := by
  obtain ⟨rho, x⟩ := hs
  have q := x.rd _ _ p
  simp only [RD] at q
  obtain ⟨a, rfl, q⟩ := q
  refine ⟨a, rfl, ?_⟩
  rcases q with ⟨_, q⟩ | q
  · exact .inl q
  · rcases q with q | q
    · rcases q with q | ⟨o, q⟩ <;> cases q
    · exact .inr q
theorem Ls.flatI {L : LL} {H : Hp} {S : Store} {T : List (Addr × HO)} (s : SR H L S T) : ∀ ns : List Int, ∃ L', Lle L L' ∧ Ls L' (ns.map V.int) (ns.map Dat.int) ∧ SR H L' S T := fun ns => s.flats (by
    induction ns with
    | nil => trivial
    | cons n ns ih => exact ⟨rfl, ih⟩)
def rSlG (K' : PySem.W.Frag) : V → Option Int → Option Int → Hp → VK → Prop := fun x lo hi H Q => rSlL K' x lo hi H Q ∨ rSlS x lo hi H Q
theorem cutV_ints (ns : List Int) (lo hi : Option Int) : ∃ ms : List Int, cutV (ns.map V.int) lo hi = ms.map V.int := by
  unfold cutV
  rw [← List.map_drop, ← List.map_take]
  exact ⟨_, rfl⟩
theorem sl_imp {L : LL} {H : Hp} {S : Store} {T : List (Addr × HO)} {x : V} {d : Dat} {lo hi : Option Int} {K : KE} {Q : VK} {KF : PySem.W.Frag} (hs : SR H L S T) (p : L x d) (h : gSl d lo hi S K) (hq : EOk L T K Q) : rSlG KF x lo hi H Q := by
  unfold gSl at h
  split at h
  · exact .inr ⟨_, hs.vstr p, h.1, hq.flat hs (d := .str _) rfl h.2⟩
  · split at h
    · rename_i xs e
      obtain ⟨a, vs, rfl, h1, s1, p1⟩ := hs.list p e
      exact .inl ⟨a, vs, rfl, .of h1, fun q hp => hq _ _ _ _ S (LaddL.le.trans Ladd.le) Ladd.here (s1.lst hp p1.cut) h⟩
    · exact h.elim
theorem de_sl {lo hi : Option Expr} {tl th : TO} {ul uh : UO} {p2 : Pos} (ha : DE X W a ta ua) (hl : DO X W lo tl ul) (hh : DO X W hi th uh) : DE X W (.Subscript a (.Slice lo hi none p2) pos) (tSl (rSlG X.K) ta tl th) (uSl ua ul uh) :=
  ⟨pe_slice (sl_list.or sl_str) ha.run hl.run hh.run, fun {sg dl L H S T K X' Q} he hs h hq hx =>
    ha.imp he hs h (fun v d L1 H1 S1 l1 p1 s1 h1 => hl.imp (he.le l1) s1 h1 (fun l L2 H2 S2 l2 s2 h2 => hh.imp ((he.le l1).le l2) s2 h2 (fun h L3 H3 S3 l3 s3 h3 => sl_imp s3 (l3 _ _ (l2 _ _ p1)) h3 (hq.le ((l1.trans l2).trans l3))) (hx.le (l1.trans l2))) (hx.le l1)) hx⟩
theorem de_slQ {lo hi : Option Expr} {tl th : TO} {ul uh : UO} {p2 : Pos} (ha : DE X W a ta ua) (hl : DO X W lo tl ul) (hh : DO X W hi th uh) : DE X W (.Subscript a (.Slice lo hi none p2) pos) (tSl (rSlL X.K) ta tl th) (uSlQ X.K ua ul uh) :=
  ⟨pe_slice sl_list ha.run hl.run hh.run, fun {sg dl L H S T K X' Q} he hs h hq hx =>
    ha.imp he hs h (fun v d L1 H1 S1 l1 p1 s1 h1 => hl.imp (he.le l1) s1 h1 (fun l L2 H2 S2 l2 s2 h2 => hh.imp ((he.le l1).le l2) s2 h2 (fun h L3 H3 S3 l3 s3 h3 => by
      obtain ⟨ns, ms, rfl, em, h3⟩ := h3
      obtain ⟨a, rfl, hq'⟩ := sq_at s3 (l3 _ _ (l2 _ _ p1))
      obtain ⟨L4, l4, p4, s4⟩ := Ls.flatI s3 ms
      exact ⟨a, _, rfl, hq', fun q hp => by rw [em]; exact hq _ _ _ _ S3 ((((l1.trans l2).trans l3).trans l4).trans Ladd.le) Ladd.here (s4.lst hp p4) h3⟩) (hx.le (l1.trans l2))) (hx.le l1)) hx⟩
end
end DL
/-! DL6: built-ins and methods over data. -/
namespace DL
open PySem L2

structure DCb (X : Cx) (f : Value) (r : List V → Hp → VK → Prop) (g : GL) : Prop where
  run : CallR X f r
  imp : CbI r g
section
variable {X : Cx} {W : WX} {e : Expr} {es : List Expr} {t : TA} {u : UA} {r : List V → Hp → VK → Prop} {g : GL} {x : Str} {id T : String} {p pos : Pos}
theorem imp_cb (hc : CbI r g) (ha : ImpA W t u) : ImpE W (tCB r t) (uCB g u) := fun {sg dl L H S T K X Q} he hs h hq hx => ha he hs h (fun vs ds L1 H1 S1 l1 p1 s1 h1 => hc s1 p1 h1 (hq.le l1)) hx
theorem de_callB (hc : DCb X (.builtin id) r g) (hm : X.mg x = none) (ha : DA X W (e :: es) t u) (hg : Gl X x := by rfl) (hv : bootBuiltins x = some (.builtin id) := by decide +kernel) (hn : x ≠ "__name__" := by decide) (hdb : (x == ("__debug__" : Str)) = false := by decide)
    (he : starEach (e :: es) X.env = (false, eval e X.env) :: starEach es X.env := by rfl) (hpl : (backTo pos (starEach es X.env)).any (·.1) = false := by rfl) :
    DE X W (.Call (.Name x p) (e :: es) [] pos) (tCB r t) (uCB g u) := ⟨pe_callB hc.run hg hm hv ha.run hn hdb he hpl, imp_cb hc.imp ha.imp⟩
theorem de_callT (hc : DCb X (.type T) r g) (hm : X.mg x = none) (ha : DA X W (e :: es) t u) (hg : Gl X x := by rfl) (hv : bootBuiltins x = some (.type T) := by decide +kernel) (hn : x ≠ "__name__" := by decide) (hdb : (x == ("__debug__" : Str)) = false := by decide)
    (he : starEach (e :: es) X.env = (false, eval e X.env) :: starEach es X.env := by rfl) (hpl : (backTo pos (starEach es X.env)).any (·.1) = false := by rfl) :
    DE X W (.Call (.Name x p) (e :: es) [] pos) (tCB r t) (uCB g u) := ⟨pe_callTy hc.run hg hm hv ha.run hn hdb he hpl, imp_cb hc.imp ha.imp⟩
/-- a built-in class as a value -/
theorem de_ty {T : String} (hm : X.mg x = none) (hg : Gl X x := by rfl) (hv : bootBuiltins x = some (.type T) := by decide +kernel) (hn : x ≠ "__name__" := by decide) (hd : (x == ("__debug__" : Str)) = false := by decide) : DE X W (.Name x pos) (tC (.ty T)) (uC (.raw (.ty T))) := ⟨pe_bltn hg hm hv rfl hn hd, imp_c (d := .raw (.ty T)) (v := .ty T) rfl⟩
/-- a class, a def of the text as a value -/
theorem de_own {a : Addr} (hm : X.mg x = some (.ref a)) (hg : Gl X x := by rfl) (hd : (x == ("__debug__" : Str)) = false := by decide) : DE X W (.Name x pos) (tC (.ref a)) (uC (.raw (.ref a))) := ⟨pe_glob hg hm rfl hd, imp_c (d := .raw (.ref a)) (v := .ref a) rfl⟩
end
/-! ### len, int, str, abs -/
def gLen : GL := fun ds S K => match ds with
  | [.str z] => z.length ≤ sizeLine ∧ K (.int z.length) S
  | [d] => ∃ xs, seqD S d = some xs ∧ K (.int xs.length) S
  | _ => False
theorem dcb_len {X : Cx} : DCb X (.builtin "len") (fun xs H Q => ∃ x n, xs = [x] ∧ LenV X.K x H n ∧ Q (.int n) H) gLen := ⟨call_len, fun {xs ds L H S T K Q} hs p h hq => by
  unfold gLen at h
  split at h
  · obtain ⟨v, rfl, pv⟩ := p.one
    rw [hs.vstr pv]
    exact ⟨_, _, rfl, ⟨h.1, rfl⟩, hq.flat hs (d := .int _) rfl h.2⟩
  · obtain ⟨v, rfl, pv⟩ := p.one
    obtain ⟨ys, e, h⟩ := h
    obtain ⟨a, vs, rfl, h1, s1, p1⟩ := hs.seq (KF := X.K) pv e
    refine ⟨_, ys.length, rfl, ?_, hq.flat hs (d := .int _) rfl h⟩
    rcases h1 with h1 | h1
    · exact .inl ⟨vs, h1, p1.length.symm⟩
    · exact .inr ⟨vs, h1, p1.length.symm⟩
  · exact h.elim⟩
def gInt1 : GL := fun ds S K => match ds with
  | [.int i] => K (.int i) S
  | [.bl b] => K (.int (if b then 1 else 0)) S
  | [.str a] => ∃ n, PySem.intText? a = some n ∧ a.length ≤ 640 ∧ K (.int n) S
  | _ => False
theorem CallR.or {X : Cx} {f : Value} {r r' : List V → Hp → VK → Prop} (h : CallR X f r) (h' : CallR X f r') : CallR X f (fun xs H Q => r xs H Q ∨ r' xs H Q) := by
  intro pins s sg H xs us Q I r q
  rcases q with q | q
  · exact h pins s sg H xs us Q I r q
  · exact h' pins s sg H xs us Q I r q
theorem dcb_int {X : Cx} : DCb X (.type "int") (fun xs H Q => ((∃ i, xs = [.int i] ∧ Q (.int i) H) ∨ ∃ k, xs = [.bl k] ∧ Q (.int (if k then 1 else 0)) H) ∨ ∃ a n, xs = [.str a] ∧ PySem.intText? a = some n ∧ a.length ≤ 640 ∧ Q (.int n) H) gInt1 := ⟨CallR.or call_int1 call_int_str, fun {xs ds L H S T K Q} hs p h hq => by
  unfold gInt1 at h
  split at h
  · obtain ⟨v, rfl, pv⟩ := p.one
    rw [hs.vint pv]
    exact .inl (.inl ⟨_, rfl, hq.flat hs (d := .int _) rfl h⟩)
  · obtain ⟨v, rfl, pv⟩ := p.one
    rw [hs.vbl pv]
    exact .inl (.inr ⟨_, rfl, hq.flat hs (d := .int _) rfl h⟩)
  · obtain ⟨v, rfl, pv⟩ := p.one
    obtain ⟨n, h1, h2, h⟩ := h
    rw [hs.vstr pv]
    exact .inr ⟨_, n, rfl, h1, h2, hq.flat hs (d := .int _) rfl h⟩
  · exact h.elim⟩
def gStr1 : GL := fun ds S K => match ds with
  | [.int i] => i.natAbs.log2 < 1920 ∧ K (.str (toString i)) S
  | _ => False
theorem dcb_str {X : Cx} : DCb X (.type "str") (fun xs H Q => ∃ i, xs = [.int i] ∧ i.natAbs.log2 < 1920 ∧ Q (.str (toString i)) H) gStr1 := ⟨call_str_int, fun {xs ds L H S T K Q} hs p h hq => by
  unfold gStr1 at h
  split at h
  · obtain ⟨v, rfl, pv⟩ := p.one
    rw [hs.vint pv]
    exact ⟨_, rfl, h.1, hq.flat hs (d := .str _) rfl h.2⟩
  · exact h.elim⟩
def gAbs : GL := fun ds S K => match ds with
  | [.int i] => K (.int (if i < 0 then -i else i)) S
  | _ => False
theorem dcb_abs {X : Cx} : DCb X (.builtin "abs") (fun xs H Q => ∃ i, xs = [.int i] ∧ Q (.int (if i < 0 then -i else i)) H) gAbs := ⟨call_abs, fun {xs ds L H S T K Q} hs p h hq => by
  unfold gAbs at h
  split at h
  · obtain ⟨v, rfl, pv⟩ := p.one
    rw [hs.vint pv]
    exact ⟨_, rfl, hq.flat hs (d := .int _) rfl h⟩
  · exact h.elim⟩
/-! ### isinstance -/
def tyS (S : Store) : Dat → Option String
  | .non => some "NoneType" | .bl _ => some "bool" | .int _ => some "int" | .str _ => some "str"
  | .lst _ => some "list" | .tup _ => some "tuple"
  | .cell n => match S[n]? with
    | some (.lst _) => some "list"
    | some (.dct _ _) => some "dict"
    | _ => none
  | _ => none
def isB (t u : String) : Bool := t == u || (t == "bool" && u == "int")
def tyNames : List String := ["NoneType", "bool", "int", "str", "list", "tuple", "dict"]
theorem isB_ok {t u : String} (h : t ∈ tyNames) (k : u ∈ tyNames) : kitB t u = some (isB t u) := by
  have : tyNames.all (fun t => tyNames.all fun u => decide (kitB t u = some (isB t u))) = true := by decide +kernel
  exact of_decide_eq_true (List.all_eq_true.mp (List.all_eq_true.mp this t h) u k)
/-- what isinstance asks of an own class -/
structure InsTy (K : PySem.W.Frag) (C : Addr) : Prop where
  cl : Cls K C
  ha : PySem.W.findIn K (.ref C) "__class__" = some (some (.builtin "object.__class__"))
  hn : PySem.W.specialIn K (.builtin "object.__class__") "__get__" = some (some (.builtin "getset_descriptor.__get__"))
  htk : PySem.W.takesIn K (.builtin "object.__class__") = some true
  hm : PySem.W.mroIn K C (.type "object") = some true
def insC (S : Store) : Dat → Option Addr
  | .ins C _ _ => some C
  | .cell n => match S[n]? with
    | some (.ins C _ _) => some C
    | _ => none
  | _ => none
def clsV : Dat → Option Value
  | .raw (.ty n) => some (.type n)
  | .raw (.ref C) => some (.ref C)
  | _ => none
def isOne (KF : PySem.W.Frag) (S : Store) (d c : Dat) (b : Bool) : Prop := match tyS S d, c with
  | some t, .raw (.ty u) => u ∈ tyNames ∧ b = isB t u
  | some t, .raw (.ref C) => PySem.W.kitOne KF (.type t) (.ref C) = some b
  | none, c => ∃ C u, insC S d = some C ∧ InsTy KF C ∧ clsV c = some u ∧ PySem.W.kitOne KF (.ref C) u = some b
  | _, _ => False
/-- the answer for several classes -/
def isAny (KF : PySem.W.Frag) (S : Store) (d : Dat) : List Dat → Bool → Prop
  | [], b => b = false
  | c :: cs, b => ∃ k, isOne KF S d c k ∧ (k = true → b = true) ∧ (k = false → isAny KF S d cs b)
def gIsi (KF : PySem.W.Frag) : GL := fun ds S K => match ds with
  | [d, .tup (c :: cs)] => (c :: cs).all (fun c => (clsV c).isSome) = true ∧ ∃ b, isAny KF S d (c :: cs) b ∧ K (.bl b) S
  | [d, c] => ∃ b, isOne KF S d c b ∧ K (.bl b) S
  | _ => False
section
variable {KF : PySem.W.Frag} {H : Hp} {L : LL} {S : Store} {T : List (Addr × HO)} {v : V} {d c : Dat}
theorem tyS_ok (hs : SR H L S T) (p : L v d) {t : String} (h : tyS S d = some t) : TyX KF H v (.type t) ∧ t ∈ tyNames := by
  cases d with
  | non => simp [tyS] at h; subst h; rw [hs.vnon p]; exact ⟨.base .non, by decide⟩
  | bl b => simp [tyS] at h; subst h; rw [hs.vbl p]; exact ⟨.base (.bl _), by decide⟩
  | int b => simp [tyS] at h; subst h; rw [hs.vint p]; exact ⟨.base (.int _), by decide⟩
  | str b => simp [tyS] at h; subst h; rw [hs.vstr p]; exact ⟨.base (.str _), by decide⟩
  | lst xs => simp [tyS] at h; subst h; obtain ⟨a, vs, rfl, e, _⟩ := hs.list p rfl; exact ⟨.base (.lst e), by decide⟩
  | tup xs => simp [tyS] at h; subst h; obtain ⟨a, vs, rfl, e, _⟩ := hs.tuple p; exact ⟨.base (.tup e), by decide⟩
  | cell n =>
    have h : (match S[n]? with
      | some (.lst _) => some "list"
      | some (.dct _ _) => some "dict"
      | _ => none) = some t := h
    cases q : S[n]? with
    | none => rw [q] at h; cases h
    | some c =>
      rw [q] at h
      cases c with
      | lst xs =>
        injection h with h
        subst h
        obtain ⟨a, vs, rfl, e, _⟩ := hs.list (d := .cell n) (ds := xs) p q
        exact ⟨.base (.lst e), by decide⟩
      | dct ks xs =>
        injection h with h
        subst h
        obtain ⟨rho, x⟩ := hs
        obtain ⟨a, ha, rfl⟩ := x.at_ p
        obtain ⟨vs, e, _⟩ := x.node n a _ ha q
        exact ⟨.base (.dK e), by decide⟩
      | _ => cases h
  | _ => simp [tyS] at h
theorem insC_ok (hs : SR H L S T) (p : L v d) {C : Addr} (h : insC S d = some C) (I : InsTy KF C) : TyX KF H v (.ref C) := by
  obtain ⟨rho, x⟩ := hs
  cases d with
  | ins D ns xs =>
    simp [insC] at h
    subst h
    have q := x.rd _ _ p
    simp only [RD] at q
    obtain ⟨a, dx, vs, rfl, _, e, _⟩ := q
    exact .base (.ins e I.cl I.ha I.hn I.htk I.hm)
  | cell n =>
    have h : (match S[n]? with
      | some (.ins C _ _) => some C
      | _ => none) = some C := h
    cases q : S[n]? with
    | none => rw [q] at h; cases h
    | some c =>
      rw [q] at h
      cases c with
      | ins D ns xs =>
        injection h with h
        subst h
        obtain ⟨a, ha, rfl⟩ := x.at_ p
        obtain ⟨dx, vs, e, _⟩ := x.node n a _ ha q
        exact .base (.ins e I.cl I.ha I.hn I.htk I.hm)
      | _ => cases h
  | _ => simp [insC] at h
theorem clsV_ok (hs : SR H L S T) (p : L v c) {u : Value} (h : clsV c = some u) : ClsV v u := by
  obtain ⟨rho, x⟩ := hs
  have q := x.rd _ _ p
  cases c with
  | raw w =>
    simp only [RD] at q
    subst q
    cases v with
    | ty n => simp [clsV] at h; subst h; exact .ty n
    | ref C => simp [clsV] at h; subst h; exact .own C
    | _ => simp [clsV] at h
  | _ => simp [clsV] at h
theorem isOne_ok (hs : SR H L S T) (p : L v d) {b : Bool} (h : isOne KF S d c b) : ∃ t u, TyX KF H v t ∧ clsV c = some u ∧ PySem.W.kitOne KF t u = some b := by
  unfold isOne at h
  split at h
  · rename_i t u e
    obtain ⟨h1, h2⟩ := tyS_ok (KF := KF) hs p e
    refine ⟨_, _, h1, rfl, ?_⟩
    rw [h.2]
    exact kit_ty (isB_ok h2 h.1)
  · rename_i t C e
    obtain ⟨h1, h2⟩ := tyS_ok (KF := KF) hs p e
    exact ⟨_, _, h1, rfl, h⟩
  · obtain ⟨C, u, h1, h2, h3, h4⟩ := h
    exact ⟨_, u, insC_ok hs p h1 h2, h3, h4⟩
  · exact h.elim
theorem isOne_ty (hs : SR H L S T) (p : L v d) : ∃ t, ∀ c b, isOne KF S d c b → TyX KF H v t ∧ ∃ u, clsV c = some u ∧ PySem.W.kitOne KF t u = some b := by
  cases e : tyS S d with
  | some t =>
    obtain ⟨h1, h2⟩ := tyS_ok (KF := KF) hs p e
    refine ⟨.type t, fun c b h => ⟨h1, ?_⟩⟩
    unfold isOne at h
    rw [e] at h
    split at h
    · rename_i t' u e'
      injection e' with e'
      subst e'
      refine ⟨_, rfl, ?_⟩
      rw [h.2]
      exact kit_ty (isB_ok h2 h.1)
    · rename_i t' C e'
      injection e' with e'
      subst e'
      exact ⟨_, rfl, h⟩
    · rename_i e'; cases e'
    · exact h.elim
  | none =>
    cases e2 : insC S d with
    | none =>
      refine ⟨.none, fun c b h => ?_⟩
      unfold isOne at h
      rw [e] at h
      obtain ⟨C, u, h1, _⟩ := h
      rw [e2] at h1
      cases h1
    | some C =>
      refine ⟨.ref C, fun c b h => ?_⟩
      unfold isOne at h
      rw [e] at h
      obtain ⟨C', u, h1, h2, h3, h4⟩ := h
      rw [e2] at h1
      injection h1 with h1
      subst h1
      exact ⟨insC_ok hs p e2 h2, u, h3, h4⟩
end
theorem clss_ok {KF : PySem.W.Frag} {H : Hp} {L : LL} {S : Store} {T : List (Addr × HO)} (hs : SR H L S T) : ∀ {cs : List Dat} {ws : List V}, Ls L ws cs → cs.all (fun c => (clsV c).isSome) = true → ∃ us, Paired ClsV ws us
  | [], [], _, _ => ⟨[], .nil⟩
  | c :: cs, w :: ws, q, ha => by
    rw [List.all_cons, Bool.and_eq_true] at ha
    obtain ⟨us, hus⟩ := clss_ok (KF := KF) hs q.2 ha.2
    obtain ⟨u, hu⟩ := Option.isSome_iff_exists.mp ha.1
    exact ⟨u :: us, .cons (clsV_ok hs q.1 hu) hus⟩
  | [], _ :: _, q, _ => q.elim
  | _ :: _, [], q, _ => q.elim
theorem isAny_ok {KF : PySem.W.Frag} {H : Hp} {L : LL} {S : Store} {T : List (Addr × HO)} {d : Dat} {t : Value} (hs : SR H L S T) (ht : ∀ c b, isOne KF S d c b → ∃ u, clsV c = some u ∧ PySem.W.kitOne KF t u = some b) :
    ∀ {cs : List Dat} {ws : List V} {b : Bool}, Ls L ws cs → cs.all (fun c => (clsV c).isSome) = true → isAny KF S d cs b → ∃ us, Paired ClsV ws us ∧ PySem.W.kitAny KF t us = some b
  | [], [], b, _, _, hb => ⟨[], .nil, by rw [show b = false from hb]; rfl⟩
  | c :: cs, w :: ws, b, q, ha, hb => by
    obtain ⟨k, hk, h1, h2⟩ := hb
    obtain ⟨u, hu, e⟩ := ht c k hk
    rw [List.all_cons, Bool.and_eq_true] at ha
    cases k with
    | true =>
      obtain ⟨us, hus⟩ := clss_ok (KF := KF) hs q.2 ha.2
      refine ⟨u :: us, .cons (clsV_ok hs q.1 hu) hus, ?_⟩
      rw [h1 rfl]
      exact kitAny_cons e (fun z => by cases z) (fun _ => rfl)
    | false =>
      obtain ⟨us, hus, eus⟩ := isAny_ok hs ht q.2 ha.2 (h2 rfl)
      exact ⟨u :: us, .cons (clsV_ok hs q.1 hu) hus, kitAny_cons e (fun _ => eus) (fun z => by cases z)⟩
  | [], _ :: _, _, q, _, _ => q.elim
  | _ :: _, [], _, q, _, _ => q.elim
def rIsiG (K : PySem.W.Frag) : List V → Hp → VK → Prop := fun xs H Q => rIsi K xs H Q ∨ rIsiT K xs H Q
theorem dcb_isi {X : Cx} : DCb X (.builtin "isinstance") (rIsiG X.K) (gIsi X.K) := ⟨CallR.or call_isi call_isiT, fun {xs ds L H S T K Q} hs p h hq => by
  unfold gIsi at h
  split at h
  · rename_i d c cs
    obtain ⟨v, w, rfl, pv, pw⟩ := p.two
    obtain ⟨hall, b, h1, h2⟩ := h
    obtain ⟨tp, ws, rfl, eT, s1, p1⟩ := hs.tuple pw
    obtain ⟨t, ht⟩ := isOne_ty (KF := X.K) hs pv
    obtain ⟨us, hus, eus⟩ := isAny_ok (KF := X.K) s1 (fun c b h => (ht c b h).2) p1 hall h1
    obtain ⟨k, hk, _⟩ := h1
    exact .inr ⟨v, tp, ws, t, us, b, rfl, eT, hus, (ht c k hk).1, eus, hq.flat hs (d := .bl _) rfl h2⟩
  · rename_i d c _
    obtain ⟨v, w, rfl, pv, pw⟩ := p.two
    obtain ⟨b, h1, h2⟩ := h
    obtain ⟨t, u, h3, h4, h5⟩ := isOne_ok hs pv h1
    exact .inl ⟨v, w, t, u, b, rfl, clsV_ok hs pw h4, h3, h5, hq.flat hs (d := .bl _) rfl h2⟩
  · exact h.elim⟩
/-! ### list, tuple, all, any, sorted -/
def gList (fin : List Dat → Store → KE → Prop) : GL := fun ds S K => match ds with
  | [d] => ∃ xs, seqD S d = some xs ∧ fin xs S K
  | _ => False
def gListT : GL := gList fun xs S K => K (.lst xs) S
def gListC : GL := gList fun xs S K => K (.cell S.length) (S ++ [.lst xs])
section
variable {X : Cx}
theorem dcb_list : DCb X (.type "list") (fun xs H Q => ∃ p ys, xs = [.ref p] ∧ (SqL X.K H p ys ∨ SqT X.K H p ys) ∧ ∀ l, H l = none → Q (.ref l) (upd H l (.lst ys))) gListT := ⟨call_list_of, fun {xs ds L H S T K Q} hs p h hq => by
  unfold gListT gList at h
  split at h
  · obtain ⟨v, rfl, pv⟩ := p.one
    obtain ⟨ys, e, h⟩ := h
    obtain ⟨a, vs, rfl, h1, s1, p1⟩ := hs.seq (KF := X.K) pv e
    exact ⟨a, vs, rfl, h1, fun l hl => hq _ _ _ _ S (LaddL.le.trans Ladd.le) Ladd.here (s1.lst hl p1) h⟩
  · exact h.elim⟩
theorem dcb_listC : DCb X (.type "list") (fun xs H Q => ∃ p ys, xs = [.ref p] ∧ (SqL X.K H p ys ∨ SqT X.K H p ys) ∧ ∀ l, H l = none → Q (.ref l) (upd H l (.lst ys))) gListC := ⟨call_list_of, fun {xs ds L H S T K Q} hs p h hq => by
  unfold gListC gList at h
  split at h
  · obtain ⟨v, rfl, pv⟩ := p.one
    obtain ⟨ys, e, h⟩ := h
    obtain ⟨a, vs, rfl, h1, s1, p1⟩ := hs.seq (KF := X.K) pv e
    exact ⟨a, vs, rfl, h1, fun l hl => hq _ _ _ _ _ (LaddL.le.trans Ladd.le) Ladd.here (s1.cell (d := .lst ys) hl rfl p1) h⟩
  · exact h.elim⟩
def gTupleC : GL := fun ds S K => match ds with
  | [d] => ∃ xs, seqD S d = some xs ∧ K (.tup xs) S
  | _ => False
theorem dcb_tuple : DCb X (.type "tuple") (fun xs H Q => ∃ p ys, xs = [.ref p] ∧ ((SqL X.K H p ys ∧ ∀ l, H l = none → Q (.ref l) (upd H l (.tup ys))) ∨ (SqT X.K H p ys ∧ Q (.ref p) H))) gTupleC := ⟨call_tuple_of, fun {xs ds L H S T K Q} hs p h hq => by
  unfold gTupleC at h
  split at h
  · rename_i d
    obtain ⟨v, rfl, pv⟩ := p.one
    obtain ⟨ys, e, h⟩ := h
    have lst : view S d = some (.lst ys) → _ := fun e' => (hs.list pv e')
    cases d with
    | tup zs =>
      simp [seqD] at e
      subst e
      obtain ⟨a, vs, rfl, e1, s1, p1⟩ := hs.tuple pv
      exact ⟨a, vs, rfl, .inr ⟨.of e1, hq _ _ _ _ S (.refl _) pv hs h⟩⟩
    | lst zs =>
      simp [seqD] at e
      subst e
      obtain ⟨a, vs, rfl, e1, s1, p1⟩ := hs.list pv rfl
      exact ⟨a, vs, rfl, .inl ⟨.of e1, fun l hl => hq _ _ _ _ S (LaddL.le.trans Ladd.le) Ladd.here (s1.tup hl p1) h⟩⟩
    | cell n =>
      have e' : (match S[n]? with
        | some (.lst xs) => some xs
        | _ => none) = some ys := e
      cases q : S[n]? with
      | none => rw [q] at e'; cases e'
      | some c =>
        rw [q] at e'
        cases c with
        | lst zs =>
          injection e' with e'
          subst e'
          obtain ⟨a, vs, rfl, e1, s1, p1⟩ := hs.list (d := .cell n) (ds := zs) pv q
          exact ⟨a, vs, rfl, .inl ⟨.of e1, fun l hl => hq _ _ _ _ S (LaddL.le.trans Ladd.le) Ladd.here (s1.tup hl p1) h⟩⟩
        | _ => cases e'
    | _ => simp [seqD] at e
  · exact h.elim⟩
/-- a list's items, as a list -/
def lstD (S : Store) (d : Dat) : Option (List Dat) := match view S d with
  | some (.lst xs) => some xs
  | _ => none
theorem lstD_view {S : Store} {d : Dat} {xs : List Dat} (h : lstD S d = some xs) : view S d = some (.lst xs) := by
  unfold lstD at h
  split at h
  · rename_i e
    injection h with h
    rw [e, h]
  · cases h
def gBools (f : List Bool → Bool) : GL := fun ds S K => match ds with
  | [d] => ∃ bs : List Bool, lstD S d = some (bs.map Dat.bl) ∧ K (.bl (f bs)) S
  | _ => False
theorem dcb_all (hc : X.calm = true) : DCb X (.builtin "all") (rAll X.K) (gBools fun bs => bs.all id) := ⟨cr_all hc, fun {xs ds L H S T K Q} hs p h hq => by
  unfold gBools at h
  split at h
  · obtain ⟨v, rfl, pv⟩ := p.one
    obtain ⟨bs, e, h⟩ := h
    obtain ⟨a, vs, rfl, h1, s1, p1⟩ := hs.list pv (lstD_view e)
    rw [p1.bls s1] at h1
    exact ⟨a, bs, rfl, .of h1, hq.flat hs (d := .bl _) rfl h⟩
  · exact h.elim⟩
theorem dcb_any (hc : X.calm = true) : DCb X (.builtin "any") (rAny X.K) (gBools fun bs => bs.any id) := ⟨cr_any hc, fun {xs ds L H S T K Q} hs p h hq => by
  unfold gBools at h
  split at h
  · obtain ⟨v, rfl, pv⟩ := p.one
    obtain ⟨bs, e, h⟩ := h
    obtain ⟨a, vs, rfl, h1, s1, p1⟩ := hs.list pv (lstD_view e)
    rw [p1.bls s1] at h1
    exact ⟨a, bs, rfl, .of h1, hq.flat hs (d := .bl _) rfl h⟩
  · exact h.elim⟩
/-- sorted(texts) -/
def gSortedS (fin : List Dat → Store → KE → Prop) : GL := fun ds S K => match ds with
  | [d] => ∃ xs : List Str, lstD S d = some (xs.map Dat.str) ∧ xs.length < 64 ∧ ∀ ys : List Str, ys.Perm xs → PyProof.Rows.sortedS ys = true → fin (ys.map Dat.str) S K
  | _ => False
theorem Ls.flatS {L : LL} {H : Hp} {S : Store} {T : List (Addr × HO)} (s : SR H L S T) : ∀ ns : List Str, ∃ L', Lle L L' ∧ Ls L' (ns.map V.str) (ns.map Dat.str) ∧ SR H L' S T := fun ns => s.flats (by
    induction ns with
    | nil => trivial
    | cons n ns ih => exact ⟨rfl, ih⟩)
theorem dcb_sortedS : DCb X (.builtin "sorted") (rSortedS X.K) (gSortedS fun xs S K => K (.lst xs) S) := ⟨cr_sortedS, fun {xs ds L H S T K Q} hs p h hq => by
  unfold gSortedS at h
  split at h
  · obtain ⟨v, rfl, pv⟩ := p.one
    obtain ⟨zs, e, hl, h⟩ := h
    obtain ⟨a, vs, rfl, h1, s1, p1⟩ := hs.list pv (lstD_view e)
    rw [p1.strs s1] at h1
    refine ⟨a, zs, rfl, .of h1, hl, fun ys p hp hsrt hnew => ?_⟩
    obtain ⟨L2, l2, p2, s2⟩ := Ls.flatS hs ys
    exact hq _ _ _ _ S (l2.trans Ladd.le) Ladd.here (s2.lst hnew p2) (h ys hp hsrt)
  · exact h.elim⟩
theorem dcb_sortedSC : DCb X (.builtin "sorted") (rSortedS X.K) (gSortedS fun xs S K => K (.cell S.length) (S ++ [.lst xs])) := ⟨cr_sortedS, fun {xs ds L H S T K Q} hs p h hq => by
  unfold gSortedS at h
  split at h
  · obtain ⟨v, rfl, pv⟩ := p.one
    obtain ⟨zs, e, hl, h⟩ := h
    obtain ⟨a, vs, rfl, h1, s1, p1⟩ := hs.list pv (lstD_view e)
    rw [p1.strs s1] at h1
    refine ⟨a, zs, rfl, .of h1, hl, fun ys p hp hsrt hnew => ?_⟩
    obtain ⟨L2, l2, p2, s2⟩ := Ls.flatS hs ys
    exact hq _ _ _ _ _ (l2.trans Ladd.le) Ladd.here (s2.cell (d := .lst (ys.map Dat.str)) hnew rfl p2) (h ys hp hsrt)
  · exact h.elim⟩
end
/-! ### methods of built-in types -/
structure DMt (X : Cx) (id : String) (r : V → List V → Hp → VK → Prop) (g : GM) : Prop where
  run : MtR X id r
  imp : MtI r g
/-- of the type T -/
def isT (T : String) (S : Store) (d : Dat) : Prop := match d with
  | .str _ => T = "str"
  | d => T = "list" ∧ (lstD S d).isSome = true
theorem isT_ok {T : String} {S : Store} {d : Dat} {H : Hp} {L : LL} {P : List (Addr × HO)} {v : V} {KF : PySem.W.Frag} (hs : SR H L S P) (p : L v d) (h : isT T S d) : tyV KF T v H := by
  unfold isT at h
  split at h
  · rw [hs.vstr p]; exact h
  · obtain ⟨h1, h2⟩ := h
    obtain ⟨xs, e⟩ := Option.isSome_iff_exists.mp h2
    obtain ⟨a, vs, rfl, e1, _⟩ := hs.list p (lstD_view e)
    exact .inl ⟨h1, vs, .of e1⟩
def uBM0 (T : String) (g : GM) (uo : UE) : UE := fun dl S K X => uo dl S (fun d S1 => isT T S1 d ∧ g d [] S1 K) X
def uBM (T : String) (g : GM) (uo : UE) (ua : UA) : UE := fun dl S K X => uo dl S (fun d S1 => isT T S1 d ∧ ua dl S1 (fun xs S2 => g d xs S2 K) X) X
section
variable {X : Cx} {W : WX} {o e : Expr} {es : List Expr} {to : TE} {uo : UE} {t : TA} {u : UA} {name : Str} {apos cpos : Pos} {T id : String} {r : V → List V → Hp → VK → Prop} {g : GM}
theorem de_bm0 (pa : PlainAttrs T) (slot : Slot T name id) (hty : typeOf (.builtin id) = pure (.type "method_descriptor")) (hm : DMt X id r g) (ho : DE X W o to uo)
    (hbase : attributeBase o name X.env (eval o X.env) = eval o X.env := by rfl) (hline : (apos.endLine == cpos.line) = true := by rfl) : DE X W (.Call (.Attribute o name apos) [] [] cpos) (tBM0 X.K T r to) (uBM0 T g uo) :=
  ⟨pe_bm0 pa slot hty hm.run ho.run hbase hline, fun {sg dl L H S P K X' Q} he hs h hq hx => ho.imp he hs h (fun v d L1 H1 S1 l1 p1 s1 h1 => ⟨isT_ok s1 p1 h1.1, hm.imp (xs := []) (ds := []) s1 p1 True.intro h1.2 (hq.le l1)⟩) hx⟩
theorem de_bm (pa : PlainAttrs T) (slot : Slot T name id) (hty : typeOf (.builtin id) = pure (.type "method_descriptor")) (hm : DMt X id r g) (ho : DE X W o to uo) (ha : DA X W (e :: es) t u)
    (hbase : attributeBase o name X.env (eval o X.env) = eval o X.env := by rfl)
    (hfew : ((backTo cpos (starEach (e :: es) X.env)).all (fun x => !x.1) && (backToKw cpos (keywordEach [] X.env)).all (fun x => x.1.isSome)
      && decide ((e :: es).length + ([] : List Keyword).length + (if ([] : List Keyword).isEmpty then 0 else 1) < 30)) = true := by rfl)
    (hline : (apos.endLine == cpos.line) = true := by rfl) (hs : starEach (e :: es) X.env = (false, eval e X.env) :: starEach es X.env := by rfl) (hplain : (backTo cpos (starEach es X.env)).any (·.1) = false := by rfl) :
    DE X W (.Call (.Attribute o name apos) (e :: es) [] cpos) (tBM X.K T r to t) (uBM T g uo u) :=
  ⟨pe_bm pa slot hty hm.run ho.run ha.run hbase hfew hline hs hplain, fun {sg dl L H S P K X' Q} he hs h hq hx => ho.imp he hs h (fun v d L1 H1 S1 l1 p1 s1 h1 => ⟨isT_ok s1 p1 h1.1, ha.imp (he.le l1) s1 h1.2 (fun vs ds L2 H2 S2 l2 p2 s2 h2 => hm.imp s2 (l2 _ _ p1) p2 h2 (hq.le (l1.trans l2))) (hx.le l1)⟩) hx⟩
end
def gAppend : GM := fun d ds S K => match d, ds with
  | .cell n, [y] => ∃ xs, S[n]? = some (.lst xs) ∧ xs.length < sizeLine ∧ K .non (S.set n (.lst (xs ++ [y])))
  | _, _ => False
theorem dmt_append {X : Cx} : DMt X "list.append" rAppend gAppend := ⟨mt_append, fun {x dx xs ds L H S T K Q} hs p ps h hq => by
  unfold gAppend at h
  split at h
  · rename_i n y
    obtain ⟨v, rfl, pv⟩ := ps.one
    obtain ⟨zs, e, hl, h⟩ := h
    obtain ⟨a, vs, rfl, e1, s1, p1⟩ := hs.list (d := .cell n) p e
    have s2 := s1.set (a := a) (n := n) (o := .lst (vs ++ [v])) (d := .lst (zs ++ [y])) (LaddL.le _ _ p) rfl (p1.append ⟨LaddL.le _ _ pv, True.intro⟩)
    exact ⟨a, vs, v, rfl, rfl, e1, by rw [p1.length]; exact hl, hq.le LaddL.le |>.flat s2 (d := .non) rfl h⟩
  · exact h.elim⟩
def gJoin : GM := fun d ds S K => match d, ds with
  | .str a, [y] => ∃ ys : List Str, seqD S y = some (ys.map Dat.str) ∧ (ys.map (·.length)).sum + ys.length * a.length ≤ 16777216 ∧ K (.str (Txt.join a ys)) S
  | _, _ => False
theorem dmt_join {X : Cx} : DMt X "str.join" (fun x xs H Q => ∃ a p, ∃ ys : List Str, x = .str a ∧ xs = [.ref p] ∧ (SqL X.K H p (ys.map V.str) ∨ SqT X.K H p (ys.map V.str)) ∧
    (ys.map (·.length)).sum + ys.length * a.length ≤ 16777216 ∧ Q (.str (Txt.join a ys)) H) gJoin := ⟨mt_join, fun {x dx xs ds L H S T K Q} hs p ps h hq => by
  unfold gJoin at h
  split at h
  · obtain ⟨v, rfl, pv⟩ := ps.one
    obtain ⟨ys, e, hl, h⟩ := h
    obtain ⟨a, vs, rfl, h1, s1, p1⟩ := hs.seq (KF := X.K) pv e
    rw [p1.strs s1] at h1
    exact ⟨_, a, ys, hs.vstr p, rfl, h1, hl, hq.flat hs (d := .str _) rfl h⟩
  · exact h.elim⟩
/-! ### o[i] = v -/
abbrev GS := Dat → Dat → Dat → Store → (Store → Prop) → Prop
def SetI (t : TSet) (g : GS) : Prop := ∀ {o i v do' di dv L H S T K} {Q : Hp → Prop}, SR H L S T → L o do' → L i di → L v dv → g do' di dv S K → (∀ L' H' S', Lle L L' → SR H' L' S' T → K S' → Q H') → t o i v H Q
def uGSub (uo ui : UE) (g : GS) : UG := fun d dl S K X => uo dl S (fun o S1 => ui dl S1 (fun i S2 => g o i d S2 fun S3 => K dl S3) X) X
theorem dg_sub {X : Cx} {W : WX} {o i : Expr} {to ti : TE} {uo ui : UE} {t : TSet} {g : GS} {pos : Pos} (ho : DE X W o to uo) (hi : DE X W i ti ui) (hs : PSet X t) (hg : SetI t g)
    (ha : ∀ v, assign (.Subscript o i pos) X.env v = (do
      let ov ← holding [v] (eval o X.env)
      let iv ← holding [v, ov] (eval i X.env)
      standAt pos
      holding [v, ov, iv] (setItem ov iv v)
      release [v, ov, iv] []) := by intro _; rfl) : DG X W (.Subscript o i pos) (gSub to ti t) (uGSub uo ui g) [] :=
  ⟨pg_sub ho.run hi.run hs ha, fun {sg dl L H S T v d K X' Q} he hs p h hk hx => ho.imp he hs h (fun ov od L1 H1 S1 l1 p1 s1 h1 => hi.imp (he.le l1) s1 h1 (fun iv id L2 H2 S2 l2 p2 s2 h2 => hg s2 (l2 _ _ p1) p2 (l2 _ _ (l1 _ _ p)) h2 fun L' H' S' l' s' k' =>
    hk sg dl L' H' S' ((l1.trans l2).trans l') rfl (fun _ _ => rfl) (he.le ((l1.trans l2).trans l')) s' k') (hx.le l1)) hx⟩
def gSetL : GS := fun o i v S K => match o, i with
  | .cell n, .int k => ∃ xs j, S[n]? = some (.lst xs) ∧ ixN xs.length k = some j ∧ K (S.set n (.lst (xs.set j v)))
  | _, _ => False
theorem Ls.set {L : LL} {v : V} {d : Dat} (p : L v d) : ∀ {vs : List V} {ds : List Dat} (j : Nat), Ls L vs ds → Ls L (vs.set j v) (ds.set j d)
  | [], [], _, _ => True.intro
  | _ :: _, _ :: _, 0, h => ⟨p, h.2⟩
  | _ :: _, _ :: _, j + 1, h => ⟨h.1, Ls.set p j h.2⟩
  | [], _ :: _, _, h => h.elim
  | _ :: _, [], _, h => h.elim
theorem set_imp : SetI rSetL gSetL := fun {o i v do' di dv L H S T K Q} hs po pi pv h hq => by
  unfold gSetL at h
  split at h
  · rename_i n k
    obtain ⟨xs, j, e, hj, h⟩ := h
    obtain ⟨a, vs, rfl, e1, s1, p1⟩ := hs.list (d := .cell n) po e
    have s2 := s1.set (a := a) (n := n) (o := .lst (vs.set j v)) (d := .lst (xs.set j dv)) (LaddL.le _ _ po) rfl (p1.set (LaddL.le _ _ pv) j)
    exact ⟨a, vs, k, j, rfl, hs.vint pi, e1, by rw [p1.length]; exact hj, hq _ _ _ LaddL.le s2 h⟩
  · exact h.elim
end DL
/-! DL7: what is walked: a list, a tuple, a text; a range; zip of two of these; enumerate. -/
namespace DL
open PySem PySem.Spec PyProof.Rows L2

/-- what may be drawn from -/
inductive Sk where
  | l (a : Addr) | t (a : Addr) | s (x : Str) (k : Tok)
def Sk.val : Sk → Value
  | .l a => .ref a | .t a => .ref a | .s x k => .str x k
def Sk.src : Sk → List Addr
  | .l a => [a] | .t a => [a] | .s _ _ => []
def signs (x : Str) : List V := x.cps.toList.map fun c => .str (⟨#[c]⟩ : Str)
def Sk.vals (K : PySem.W.Frag) (H : Hp) : Sk → List V → Prop
  | .l a, xs => SqL K H a xs
  | .t a, xs => SqT K H a xs
  | .s x _, xs => xs = signs x
def Sk.at_ (it : Addr) (i : Nat) (h : Heap) : Sk → Prop
  | .l a => h.IsListIter it a i
  | .t a => h.IsTupleIter it a i
  | .s x k => h.IsStrIter it (strIterType x) x k i
def Sk.ob : Sk → Obj
  | .l a => { cls := .type "list_iterator", data := .fields #[.ref a, .int 0 0] }
  | .t a => { cls := .type "tuple_iterator", data := .fields #[.ref a, .int 0 0] }
  | .s x k => { cls := .type (strIterType x), data := .fields #[.str x k, .int 0 0] }
section
variable {X : Cx} {pins : List (Addr × Obj)} {sg : L2.St} {H : Hp} {s : Shared}
theorem Sk.inj (I : Inv X pins sg H s) {k : Sk} {xs ys : List V} (h : k.vals X.K H xs) (h' : k.vals X.K H ys) : xs = ys := by
  cases k with
  | l a => exact I.list_inj h h'
  | t a => exact I.tuple_inj h h'
  | s x t => exact (show xs = signs x from h).trans (show ys = signs x from h').symm
theorem Sk.get? (it : Addr) (i : Nat) (h : Heap) {k : Sk} (st : k.at_ it i h) : ∃ o, h.get? it = some o ∧ ∀ v, o.data ≠ .cell v := by
  cases k with
  | l a => obtain ⟨o, e, _, d⟩ := st; exact ⟨o, e, fun v q => by rw [d] at q; cases q⟩
  | t a => obtain ⟨o, e, _, d⟩ := st; exact ⟨o, e, fun v q => by rw [d] at q; cases q⟩
  | s x t => obtain ⟨o, e, _, d⟩ := st; exact ⟨o, e, fun v q => by rw [d] at q; cases q⟩
theorem Sk.keep {it : Addr} {i : Nat} {h h' : Heap} {k : Sk} (st : k.at_ it i h) (hk : ∀ o, h.get? it = some o → h'.get? it = some o) : k.at_ it i h' := by
  cases k with
  | l a => exact Heap.IsListIter.at st hk
  | t a => exact Heap.IsTupleIter.at st hk
  | s x t => obtain ⟨o, e, r⟩ := st; exact ⟨o, hk o e, r⟩
/-- a source as the library draws from it -/
theorem Sk.draws {prog : Program} {w : World} {A : Around} (hh : A.handled = none) (I : Inv X pins sg H s) (k : Sk) {xs : List V} (hv : k.vals X.K H xs) (it : Addr) (hne : ∀ a ∈ k.src, a ≠ it) :
    ∃ (P : Nat → Value → Prop) (St : Nat → Heap → Prop), Draws prog w A it (it :: k.src) xs.length P St ∧ (∀ i, k.at_ it i s.heap → St i s.heap) ∧ (∀ i h, St i h → k.at_ it i h) ∧ ∀ i u, P i u → ∃ v, xs[i]? = some v ∧ RelV v u := by
  cases k with
  | l a =>
    obtain ⟨its, rv, p, _⟩ := I.list hv
    have D := Draws.list (prog := prog) (w := w) hh it a (hne a (List.mem_singleton.mpr rfl)) its.toArray
    rw [show its.toArray.size = xs.length by simp [rv.length]] at D
    refine ⟨_, _, D, fun i st => ⟨st, p.isList⟩, fun i h st => st.1, fun i u e => ?_⟩
    have e' : its[i]? = some u := by simpa using e
    cases q : xs[i]? with
    | none => rw [rv.none_of q] at e'; cases e'
    | some v =>
      obtain ⟨u', h1, h2⟩ := rv.get q
      rw [e'] at h1
      injection h1 with h1
      subst h1
      exact ⟨v, rfl, h2⟩
  | t a =>
    obtain ⟨its, rv, p, _⟩ := I.tuple hv
    have D := Draws.tuple (prog := prog) (w := w) hh it a (hne a (List.mem_singleton.mpr rfl)) its.toArray
    rw [show its.toArray.size = xs.length by simp [rv.length]] at D
    refine ⟨_, _, D, fun i st => ⟨st, p⟩, fun i h st => st.1, fun i u e => ?_⟩
    have e' : its[i]? = some u := by simpa using e
    cases q : xs[i]? with
    | none => rw [rv.none_of q] at e'; cases e'
    | some v =>
      obtain ⟨u', h1, h2⟩ := rv.get q
      rw [e'] at h1
      injection h1 with h1
      subst h1
      exact ⟨v, rfl, h2⟩
  | s x t =>
    have D := Draws.text (prog := prog) (w := w) hh it x t
    have hv' : xs = signs x := hv
    rw [show x.cps.size = xs.length by rw [hv']; simp [signs]] at D
    refine ⟨_, _, D, fun i st => st, fun i h st => st, fun i u e => ?_⟩
    obtain ⟨c, tk, h1, rfl⟩ := e
    refine ⟨.str ⟨#[c]⟩, ?_, ⟨tk, rfl⟩⟩
    rw [hv']
    simp only [signs, List.getElem?_map]
    rw [show x.cps.toList[i]? = some c by simpa using h1]
    rfl
theorem Sk.begins (I : Inv X pins sg H s) (k : Sk) {xs : List V} (hv : k.vals X.K H xs) : ∃ HB : Heap → Prop, Begins k.val k.ob HB ∧ HB s.heap ∧ ∀ a ∈ k.src, a < s.heap.objs.size := by
  cases k with
  | l a =>
    obtain ⟨its, rv, p, _⟩ := I.list hv
    obtain ⟨o, n, e, _⟩ := id p
    exact ⟨_, begins_list a its.toArray, p.isList, fun b hb => by rw [List.mem_singleton.mp hb]; exact Heap.lt_size e⟩
  | t a =>
    obtain ⟨its, rv, p, _⟩ := I.tuple hv
    obtain ⟨o, e, _⟩ := id p
    exact ⟨_, begins_tuple a its.toArray, p, fun b hb => by rw [List.mem_singleton.mp hb]; exact Heap.lt_size e⟩
  | s x t => exact ⟨_, begins_text x t, True.intro, fun b hb => nomatch hb⟩
theorem Sk.fresh {it : Addr} {h : Heap} (k : Sk) (e : h.get? it = some k.ob) : k.at_ it 0 h := by
  cases k with
  | l a => exact ⟨_, e, rfl, rfl⟩
  | t a => exact ⟨_, e, rfl, rfl⟩
  | s x t => exact ⟨_, e, rfl, rfl⟩
end
/-- pairs, drawn from two -/
def ItZ (K : PySem.W.Frag) (k1 k2 : Sk) : It :=
  ⟨fun i H => ∃ (xs ys : List V) (x y : V), k1.vals K H xs ∧ k2.vals K H ys ∧ xs[i]? = some x ∧ ys[i]? = some y,
    fun i H v H' => ∃ T x y, v = .ref T ∧ H T = none ∧ H' = upd H T (.tup [x, y]) ∧ (∀ xs, k1.vals K H xs → xs[i]? = some x) ∧ ∀ ys, k2.vals K H ys → ys[i]? = some y,
    fun i H => ∃ xs ys : List V, k1.vals K H xs ∧ k2.vals K H ys ∧ i = min xs.length ys.length⟩
theorem turn_z {P : Program} {w : World} {K : PySem.W.Frag} {elts : List Expr} {kk : Nat} {tpos : Pos} {k1 k2 : Sk} {z TI TO i1 i2 : Addr} (D : ZipSep2 z TI TO i1 i2 (i1 :: k1.src) (i2 :: k2.src)) (n1 : ∀ a ∈ k1.src, a ≠ i1) (n2 : ∀ a ∈ k2.src, a ≠ i2) :
    Turn P w K (.Tuple elts kk tpos) (ItZ K k1 k2) [z, TI, TO, i1, i2] z (fun i h => IsZip h z TI TO .none ∧ IsTupOf2 h TI (.ref i1) (.ref i2) ∧ (∃ x y, IsTupOf2 h TO x y) ∧ k1.at_ i1 i h ∧ k2.at_ i2 i h) where
  mem := by simp
  obj := fun i h st c hc => by
    obtain ⟨hz, hTI, ⟨x, y, hTO⟩, h1, h2⟩ := st
    have e' : c = z ∨ c = TI ∨ c = TO ∨ c = i1 ∨ c = i2 := by simpa using hc
    rcases e' with q | q | q | q | q
    · rw [q]; exact ⟨_, hz, fun v q => nomatch q⟩
    · rw [q]; exact ⟨_, hTI, fun v q => nomatch q⟩
    · rw [q]; exact ⟨_, hTO, fun v q => nomatch q⟩
    · rw [q]; exact Sk.get? i1 i h h1
    · rw [q]; exact Sk.get? i2 i h h2
  keep := fun i h h' st k => by
    obtain ⟨hz, hTI, ⟨x, y, hTO⟩, h1, h2⟩ := st
    exact ⟨k z (by simp) _ hz, k TI (by simp) _ hTI, ⟨x, y, k TO (by simp) _ hTO⟩, Sk.keep h1 fun o q => k i1 (by simp) o q, Sk.keep h2 fun o q => k i2 (by simp) o q⟩
  item := by
    intro X hP hw hK hc i pins s sg H E I hf st hg
    subst hP hw hK
    obtain ⟨hz, hTI, ⟨x0, y0, hTO⟩, h1, h2⟩ := st
    obtain ⟨xs, ys, x, y, hqx, hqy, hx, hy⟩ := hg
    have hin : (X.A.in1).handled = none := I.ok.hd hc
    obtain ⟨P1, S1, D1, a1, b1, c1⟩ := k1.draws (prog := X.prog) (w := X.w) (A := X.A.in1) hin I hqx i1 n1
    obtain ⟨P2, S2, D2, a2, b2, c2⟩ := k2.draws (prog := X.prog) (w := X.w) (A := X.A.in1) hin I hqy i2 n2
    have lx : i < xs.length := (List.getElem?_eq_some_iff.mp hx).1
    have ly : i < ys.length := (List.getElem?_eq_some_iff.mp hy).1
    refine (GoesN.zip2 (elts := elts) (x1 := kk) (pos := tpos) (prog := X.prog) (w := X.w) (A := X.A) D D1 D2).goes i s _ E (by omega) ⟨hz, hTI, ⟨x0, y0, hTO⟩, a1 i h1, a2 i h2⟩ fun v h' tk hY hSt hk _ => ?_
    obtain ⟨T, u, u2, rfl, hT, p1, p2, ht⟩ := hY
    obtain ⟨x', e1, r1⟩ := c1 i u p1
    obtain ⟨y', e2, r2⟩ := c2 i u2 p2
    rw [hx] at e1
    rw [hy] at e2
    injection e1 with e1
    injection e2 with e2
    subst e1
    subst e2
    obtain ⟨z', TI', TO', s1', s2'⟩ := hSt
    have new : ObjOk X.prog X.w (upd H T (.tup [x, y])) h' T (.tup [x, y]) := ⟨by show 2 ≤ sizeLine; decide, [u, u2], .cons r1 (.cons r2 .nil), ht⟩
    have I1 : Inv X pins sg (upd H T (.tup [x, y])) { s with heap := h', toks := tk } :=
      I.turnedNew (t' := tk) (ch := [z, TI, TO, i1, i2]) (fun c o hb q => hk c o (fun m => hb (by
        simp only [List.mem_cons, List.not_mem_nil, or_false] at m ⊢
        rcases m with m | m | m | m
        · exact .inl m
        · exact .inr (.inr (.inl m))
        · exact .inr (.inr (.inr (.inl m)))
        · exact .inr (.inr (.inr (.inr m))))) q) hf hT new
    refine ⟨.ref T, _, I1, rfl, ⟨T, x, y, rfl, I.hok.fresh hT, rfl, fun l hl => by rw [Sk.inj I hl hqx]; exact hx, fun l hl => by rw [Sk.inj I hl hqy]; exact hy⟩, ⟨z', TI', TO', b1 _ _ s1', b2 _ _ s2'⟩, fun c hcm => ?_⟩
    have hlt : c < s.heap.objs.size := by
      have e' : c = z ∨ c = TI ∨ c = TO ∨ c = i1 ∨ c = i2 := by simpa using hcm
      rcases e' with q | q | q | q | q
      · rw [q]; exact Heap.lt_size hz
      · rw [q]; exact Heap.lt_size hTI
      · rw [q]; exact Heap.lt_size hTO
      · rw [q]; obtain ⟨_, e, _⟩ := Sk.get? i1 i _ h1; exact Heap.lt_size e
      · rw [q]; obtain ⟨_, e, _⟩ := Sk.get? i2 i _ h2; exact Heap.lt_size e
    rw [upd_ne (Nat.ne_of_lt (Nat.lt_of_lt_of_le hlt hT))]
    exact (hf c hcm).1
  done := by
    intro X hP hw hK hc i pins s sg H E I hf st hg
    subst hP hw hK
    obtain ⟨hz, hTI, ⟨x0, y0, hTO⟩, h1, h2⟩ := st
    obtain ⟨xs, ys, hqx, hqy, he⟩ := hg
    have hin : (X.A.in1).handled = none := I.ok.hd hc
    obtain ⟨P1, S1, D1, a1, b1, c1⟩ := k1.draws (prog := X.prog) (w := X.w) (A := X.A.in1) hin I hqx i1 n1
    obtain ⟨P2, S2, D2, a2, b2, c2⟩ := k2.draws (prog := X.prog) (w := X.w) (A := X.A.in1) hin I hqy i2 n2
    subst he
    refine (GoesN.zip2 (elts := elts) (x1 := kk) (pos := tpos) (prog := X.prog) (w := X.w) (A := X.A) D D1 D2).stops s (fun s' => Inv X pins sg H s') E ⟨hz, hTI, ⟨x0, y0, hTO⟩, a1 _ h1, a2 _ h2⟩ fun h' tk hk _ => ?_
    exact I.turnedL (t' := tk) (ch := [z, TI, TO, i1, i2]) (fun c o hb q => hk c o (fun m => hb (by
        simp only [List.mem_cons, List.not_mem_nil, or_false] at m ⊢
        rcases m with m | m | m | m
        · exact .inl m
        · exact .inr (.inr (.inl m))
        · exact .inr (.inr (.inr (.inl m)))
        · exact .inr (.inr (.inr (.inr m))))) q) hf
  self := fun A i s Q E st h => wpAny_pyIter_zip st.1 h
def iZ (K : PySem.W.Frag) (ta : TA) : TI := fun sg H R => ta sg H fun vs H1 => ∃ v1 v2, vs = [v1, v2] ∧ ∀ u1 u2, RelV v1 u1 → RelV v2 u2 → ∃ k1 k2 xs ys, Sk.val k1 = u1 ∧ Sk.val k2 = u2 ∧ k1.vals K H1 xs ∧ k2.vals K H1 ys ∧ R (ItZ K k1 k2) H1
theorem pi_z {X : Cx} {e e2 : Expr} {ta : TA} {p pos tpos : Pos} {elts : List Expr} {kk : Nat} (hg : Gl X "zip") (hm : X.mg "zip" = none) (ha : PA X [e, e2] ta)
    (hs : starEach [e, e2] X.env = (false, eval e X.env) :: starEach [e2] X.env := by rfl) (hpl : (backTo pos (starEach [e2] X.env)).any (·.1) = false := by rfl) :
    PI X (.Tuple elts kk tpos) (.Call (.Name "zip" p) [e, e2] [] pos) (iZ X.K ta) := by
  refine ⟨fun pins s sg H R I h => ?_⟩
  refine Call_ (ld_blt I hg hm PyProof.Rows.boot_zip (PyProof.Rows.callWith_type1 (thn (ha.run pos pins s sg H _ I h) fun us s1 ⟨vs, H1, I1, r1, q1⟩ => ?_) hs hpl))
  obtain ⟨v1, v2, ex, q1⟩ := q1
  subst ex
  obtain ⟨u1, u2, rfl, ru1, ru2⟩ := vals2 r1
  obtain ⟨k1, k2, xs, ys, rfl, rfl, hx, hy, q⟩ := q1 u1 u2 ru1 ru2
  obtain ⟨B1, b1, hb1, l1⟩ := k1.begins I1 hx
  obtain ⟨B2, b2, hb2, l2⟩ := k2.begins I1 hy
  refine zip_begins2 b1 b2 hb1 hb2 fun h' hz hTI hTO h1 h2 hsz hk => wpAny_pyIter_zip hz ?_
  have I2 : Inv X pins sg H1 { s1 with heap := h' } := I1.kept (t' := s1.toks) hk
  refine ⟨s1.heap.objs.size + 4, [s1.heap.objs.size + 4, s1.heap.objs.size + 2, s1.heap.objs.size + 3, s1.heap.objs.size, s1.heap.objs.size + 1], _, _, H1, rfl, I2,
    turn_z (k1 := k1) (k2 := k2) (zip_sep2 l1 l2) (fun a ha => Nat.ne_of_lt (l1 a ha)) (fun a ha => Nat.ne_of_lt (Nat.lt_succ_of_lt (l2 a ha))), ⟨hz, hTI, ⟨_, _, hTO⟩, Sk.fresh k1 h1, Sk.fresh k2 h2⟩, fun c hcm => ?_, q⟩
  have e' : c = s1.heap.objs.size + 4 ∨ c = s1.heap.objs.size + 2 ∨ c = s1.heap.objs.size + 3 ∨ c = s1.heap.objs.size ∨ c = s1.heap.objs.size + 1 := by simpa using hcm
  have hle : s1.heap.objs.size ≤ c := by
    rcases e' with z | z | z | z | z
    · rw [z]; exact Nat.le_add_right _ _
    · rw [z]; exact Nat.le_add_right _ _
    · rw [z]; exact Nat.le_add_right _ _
    · rw [z]; exact Nat.le_refl _
    · rw [z]; exact Nat.le_add_right _ _
  exact I1.fpOk hle (I1.hok.fresh hle)
/-! ### over data -/
/-- what is drawn, from a list, a tuple, a text -/
def drawD (S : Store) : Dat → Option (List Dat)
  | .str z => some (z.cps.toList.map fun c => .str (sgn c))
  | d => seqD S d
section
variable {H : Hp} {L : LL} {S : Store} {T : List (Addr × HO)} {KF : PySem.W.Frag}
theorem Ls.signs (hs : SR H L S T) (z : Str) : ∃ L', Lle L L' ∧ Ls L' (DL.signs z) (z.cps.toList.map fun c => .str (sgn c)) ∧ SR H L' S T := hs.flats (by
  unfold DL.signs
  generalize z.cps.toList = cs
  induction cs with
  | nil => trivial
  | cons c cs ih => exact ⟨rfl, ih⟩)
def isTup : Dat → Bool
  | .tup _ => true
  | _ => false
theorem SR.seqK (hs : SR H L S T) {v : V} {d : Dat} {ds : List Dat} (p : L v d) (e : seqD S d = some ds) :
    ∃ a vs, v = .ref a ∧ ((isTup d = true ∧ H a = some (.tup vs)) ∨ (isTup d = false ∧ H a = some (.lst vs))) ∧ SR H (LaddL L vs ds) S T ∧ Ls (LaddL L vs ds) vs ds := by
  cases d with
  | tup xs => simp [seqD] at e; subst e; obtain ⟨a, vs, h1, h2, h3⟩ := hs.tuple p; exact ⟨a, vs, h1, .inl ⟨rfl, h2⟩, h3⟩
  | lst xs => simp [seqD] at e; subst e; obtain ⟨a, vs, h1, h2, h3⟩ := hs.list p rfl; exact ⟨a, vs, h1, .inr ⟨rfl, h2⟩, h3⟩
  | cell n =>
    have e : (match S[n]? with
      | some (.lst xs) => some xs
      | _ => none) = some ds := e
    cases q : S[n]? with
    | none => rw [q] at e; cases e
    | some c =>
      rw [q] at e
      cases c with
      | lst xs =>
        injection e with e
        subst e
        obtain ⟨a, vs, h1, h2, h3⟩ := hs.list p (ds := xs) q
        exact ⟨a, vs, h1, .inr ⟨rfl, h2⟩, h3⟩
      | _ => cases e
  | _ => simp [seqD] at e
theorem sk_of (hs : SR H L S T) {v : V} {d : Dat} {xs : List Dat} (p : L v d) (e : drawD S d = some xs) {u : Value} (r : RelV v u) : ∃ k : Sk, k.val = u ∧
    ∀ H2 L2 S2 T2, Lle L L2 → SR H2 L2 S2 T2 → drawD S2 d = some xs → ∃ vs L3, k.vals KF H2 vs ∧ Lle L2 L3 ∧ Ls L3 vs xs ∧ SR H2 L3 S2 T2 := by
  have sq : seqD S d = some xs → (∀ S2, drawD S2 d = seqD S2 d) → (∃ k : Sk, k.val = u ∧
      ∀ H2 L2 S2 T2, Lle L L2 → SR H2 L2 S2 T2 → drawD S2 d = some xs → ∃ vs L3, k.vals KF H2 vs ∧ Lle L2 L3 ∧ Ls L3 vs xs ∧ SR H2 L3 S2 T2) := fun e hd => by
    obtain ⟨a, vs, rfl, h1, _⟩ := hs.seqK p e
    obtain rfl : u = Value.ref a := r
    rcases h1 with ⟨h0, _⟩ | ⟨h0, _⟩
    · refine ⟨.t a, rfl, fun H2 L2 S2 T2 l2 s2 e2 => ?_⟩
      rw [hd] at e2
      obtain ⟨b, ws, eb, h2, s3, p3⟩ := s2.seqK (l2 _ _ p) e2
      injection eb with eb
      subst eb
      rcases h2 with ⟨_, h2⟩ | ⟨z, _⟩
      · exact ⟨ws, _, SqT.of h2, LaddL.le, p3, s3⟩
      · rw [h0] at z; cases z
    · refine ⟨.l a, rfl, fun H2 L2 S2 T2 l2 s2 e2 => ?_⟩
      rw [hd] at e2
      obtain ⟨b, ws, eb, h2, s3, p3⟩ := s2.seqK (l2 _ _ p) e2
      injection eb with eb
      subst eb
      rcases h2 with ⟨z, _⟩ | ⟨_, h2⟩
      · rw [h0] at z; cases z
      · exact ⟨ws, _, SqL.of h2, LaddL.le, p3, s3⟩
  cases d with
  | str z =>
    rw [hs.vstr p] at r
    obtain ⟨t, rfl⟩ := r
    simp only [drawD, Option.some.injEq] at e
    refine ⟨.s z t, rfl, fun H2 L2 S2 T2 l2 s2 e2 => ?_⟩
    obtain ⟨L3, l3, p3, s3⟩ := Ls.signs s2 z
    rw [e] at p3
    exact ⟨_, L3, rfl, l3, p3, s3⟩
  | lst zs => exact sq e fun _ => rfl
  | tup zs => exact sq e fun _ => rfl
  | cell n => exact sq e fun _ => rfl
  | _ => simp [drawD, seqD] at e
end
def pairs (xs ys : List Dat) : List Dat := List.zipWith (fun a b => Dat.tup [a, b]) xs ys
def uZ (ua : UA) : UI := fun dl S R X => ua dl S (fun ds S1 => match ds with
  | [a, b] => ∃ xs ys, drawD S1 a = some xs ∧ drawD S1 b = some ys ∧ R (pairs xs ys) (fun S => drawD S a = some xs ∧ drawD S b = some ys) S1
  | _ => False) X
section
variable {X : Cx} {W : WX} {e e2 a b : Expr} {ta : TA} {ua : UA} {te : TE} {ue : UE} {p pos tpos : Pos} {elts : List Expr} {kk : Nat} {tg : Expr}
theorem di_zip (hm : X.mg "zip" = none) (ha : DA X W [e, e2] ta ua) (hg : Gl X "zip" := by rfl)
    (hs : starEach [e, e2] X.env = (false, eval e X.env) :: starEach [e2] X.env := by rfl) (hpl : (backTo pos (starEach [e2] X.env)).any (·.1) = false := by rfl) :
    DI X W (.Tuple elts kk tpos) (.Call (.Name "zip" p) [e, e2] [] pos) (iZ X.K ta) (uZ ua) := ⟨pi_z hg hm ha.run hs hpl, fun {sg dl L H S T R X' Q} he hs h hq hx =>
  ha.imp he hs h (fun vs ds L1 H1 S1 l1 p1 s1 h1 => by
    match ds, p1, h1 with
    | [a, b], p1, h1 =>
      obtain ⟨xs, ys, ea, eb, h1⟩ := h1
      obtain ⟨v, w, rfl, pv, pw⟩ := p1.two
      refine ⟨v, w, rfl, fun u1 u2 r1 r2 => ?_⟩
      obtain ⟨k1, e1, f1⟩ := sk_of (KF := X.K) s1 pv ea r1
      obtain ⟨k2, e2, f2⟩ := sk_of (KF := X.K) s1 pw eb r2
      obtain ⟨xv, _, hxv, _⟩ := f1 H1 L1 S1 T (.refl _) s1 ea
      obtain ⟨yv, _, hyv, _⟩ := f2 H1 L1 S1 T (.refl _) s1 eb
      refine ⟨k1, k2, xv, yv, e1, e2, hxv, hyv, hq _ (pairs xs ys) (fun S => drawD S a = some xs ∧ drawD S b = some ys) L1 H1 S1 l1 s1 ⟨fun i H2 L2 S2 T2 l2 s2 hP hi => ?_, fun i H2 L2 S2 T2 x H3 d l2 s2 hP hd hy => ?_, fun i H2 L2 S2 T2 l2 s2 hP hi => ?_⟩ h1⟩
      · obtain ⟨vs, L3, h3, l3, p3, s3⟩ := f1 H2 L2 S2 T2 l2 s2 hP.1
        obtain ⟨ws, L4, h4, l4, p4, s4⟩ := f2 H2 L3 S2 T2 (l2.trans l3) s3 hP.2
        have hl : i < min xs.length ys.length := by simpa [pairs] using hi
        exact ⟨vs, ws, vs[i]'(by rw [p3.length]; omega), ws[i]'(by rw [p4.length]; omega), h3, h4, List.getElem?_eq_getElem _, List.getElem?_eq_getElem _⟩
      · obtain ⟨vs, L3, h3, l3, p3, s3⟩ := f1 H2 L2 S2 T2 l2 s2 hP.1
        obtain ⟨ws, L4, h4, l4, p4, s4⟩ := f2 H2 L3 S2 T2 (l2.trans l3) s3 hP.2
        obtain ⟨A, x1, y1, rfl, hA, rfl, hx1, hy1⟩ := hy
        have ex := hx1 vs h3
        have ey := hy1 ws h4
        obtain ⟨c, ec, pc⟩ := p3.getV ex
        obtain ⟨c2, ec2, pc2⟩ := p4.getV ey
        have ed : d = .tup [c, c2] := by
          unfold pairs at hd
          rw [List.getElem?_zipWith, ec, ec2] at hd
          injection hd with hd
          exact hd.symm
        subst ed
        exact ⟨Ladd L4 _ _, (l3.trans l4).trans Ladd.le, Ladd.here, s4.tup hA ⟨l4 _ _ pc, pc2, True.intro⟩⟩
      · obtain ⟨vs, L3, h3, l3, p3, s3⟩ := f1 H2 L2 S2 T2 l2 s2 hP.1
        obtain ⟨ws, L4, h4, l4, p4, s4⟩ := f2 H2 L3 S2 T2 (l2.trans l3) s3 hP.2
        refine ⟨vs, ws, h3, h4, ?_⟩
        rw [hi, p3.length, p4.length]
        simp [pairs]
    | [], _, h1 => exact h1.elim
    | [_], _, h1 => exact h1.elim
    | _ :: _ :: _ :: _, _, h1 => exact h1.elim) hx⟩
/-- a list, a tuple, a text -/
def iSeq (K : PySem.W.Frag) (te : TE) : TI := fun sg H R => te sg H fun v H1 => (∃ a, v = .ref a ∧ (∃ xs, SqL K H1 a xs) ∧ R (Itl K a) H1) ∨ (∃ a, v = .ref a ∧ (∃ xs, SqT K H1 a xs) ∧ R (Itt K a) H1) ∨ ∃ x, v = .str x ∧ R (Its x) H1
theorem pi_any (hl : PE X e te) : PI X tg e (iSeq X.K te) := by
  refine ⟨fun pins s sg H R I h => ?_⟩
  refine thn (hl.run pins s sg H _ I h) fun v s1 ⟨x, H1, I1, r1, q1⟩ => ?_
  rcases q1 with q | q | q
  · obtain ⟨a, e, ⟨xs, hq⟩, q⟩ := q
    subst e
    cases r1
    obtain ⟨its, rv, p, hz⟩ := I1.list hq
    refine wpAny_pyIter_list p.isList ?_
    refine ⟨s1.heap.objs.size, [s1.heap.objs.size], _, _, H1, rfl, I1.kept (t' := s1.toks) fun b o e => Heap.get?_push_of_some _ e, turn_list a _, ⟨_, Heap.get?_push_size _ rfl, rfl, rfl⟩, fun b hb => ?_, q⟩
    have e : b = s1.heap.objs.size := by simpa using hb
    subst e
    exact I1.fpOk (Nat.le_refl _) (I1.hok.fresh (Nat.le_refl _))
  · obtain ⟨a, e, ⟨xs, hq⟩, q⟩ := q
    subst e
    cases r1
    obtain ⟨its, rv, p, hz⟩ := I1.tuple hq
    refine wpAny_pyIter_tuple (show s1.heap.IsTuple a its.toArray from p) ?_
    refine ⟨s1.heap.objs.size, [s1.heap.objs.size], _, _, H1, rfl, I1.kept (t' := s1.toks) fun b o e => Heap.get?_push_of_some _ e, turn_tuple a _, ⟨_, Heap.get?_push_size _ rfl, rfl, rfl⟩, fun b hb => ?_, q⟩
    have e : b = s1.heap.objs.size := by simpa using hb
    subst e
    exact I1.fpOk (Nat.le_refl _) (I1.hok.fresh (Nat.le_refl _))
  · obtain ⟨x, e, q⟩ := q
    subst e
    obtain ⟨t, rfl⟩ := r1
    cases ha : x.cps.all (· < 128)
    · exact wpAny_pyIter_wide ha (pi_one (tk := s1.toks) I1 _ (turn_str _ x t "str_iterator" (.inr rfl)) ⟨_, Heap.get?_push_size _ rfl, rfl, rfl⟩ q)
    · exact wpAny_pyIter_ascii ha (pi_one (tk := s1.toks) I1 _ (turn_str _ x t "str_ascii_iterator" (.inl rfl)) ⟨_, Heap.get?_push_size _ rfl, rfl, rfl⟩ q)
def uSeqI (ue : UE) : UI := fun dl S R X => ue dl S (fun d S1 => ∃ xs, drawD S1 d = some xs ∧ R xs (fun S => drawD S d = some xs) S1) X
theorem di_seq (h : DE X W e te ue) : DI X W tg e (iSeq X.K te) (uSeqI ue) := ⟨pi_any h.run, fun {sg dl L H S T R X' Q} he hs h' hq hx =>
  h.imp he hs h' (fun v d L1 H1 S1 l1 p1 s1 h1 => by
    obtain ⟨xs, e1, h1⟩ := h1
    have sq : seqD S1 d = some xs → (∀ S2, drawD S2 d = seqD S2 d) → (∃ a, v = .ref a ∧ (∃ xs, SqL X.K H1 a xs) ∧ Q (Itl X.K a) H1) ∨ (∃ a, v = .ref a ∧ (∃ xs, SqT X.K H1 a xs) ∧ Q (Itt X.K a) H1) := fun e hd => by
      obtain ⟨a, vs, rfl, h2, _⟩ := s1.seqK p1 e
      rcases h2 with ⟨h0, h2⟩ | ⟨h0, h2⟩
      · refine .inr ⟨a, rfl, ⟨vs, .of h2⟩, hq _ xs (fun S => drawD S d = some xs) L1 H1 S1 l1 s1 ⟨fun i H2 L2 S2 T2 l2 s2 hP hi => ?_, fun i H2 L2 S2 T2 x H3 c l2 s2 hP hd' hy => ?_, fun i H2 L2 S2 T2 l2 s2 hP hi => ?_⟩ h1⟩
        · rw [hd] at hP
          obtain ⟨b, ws, eb, h3, s3, p3⟩ := s2.seqK (l2 _ _ p1) hP
          injection eb with eb
          subst eb
          rcases h3 with ⟨_, h3⟩ | ⟨z, _⟩
          · exact ⟨ws, ws[i]'(by rw [p3.length]; exact hi), .of h3, List.getElem?_eq_getElem _⟩
          · rw [h0] at z; cases z
        · rw [hd] at hP
          obtain ⟨b, ws, eb, h3, s3, p3⟩ := s2.seqK (l2 _ _ p1) hP
          injection eb with eb
          subst eb
          rcases h3 with ⟨_, h3⟩ | ⟨z, _⟩
          · obtain ⟨rfl, hy⟩ := hy
            obtain ⟨w, h4, h5⟩ := p3.get hd'
            have := hy ws (.of h3)
            rw [h4] at this
            injection this with this
            subst this
            exact ⟨_, LaddL.le, h5, s3⟩
          · rw [h0] at z; cases z
        · rw [hd] at hP
          obtain ⟨b, ws, eb, h3, s3, p3⟩ := s2.seqK (l2 _ _ p1) hP
          injection eb with eb
          subst eb
          rcases h3 with ⟨_, h3⟩ | ⟨z, _⟩
          · exact ⟨ws, .of h3, by rw [p3.length, hi]; exact Nat.le_refl _⟩
          · rw [h0] at z; cases z
      · refine .inl ⟨a, rfl, ⟨vs, .of h2⟩, hq _ xs (fun S => drawD S d = some xs) L1 H1 S1 l1 s1 ⟨fun i H2 L2 S2 T2 l2 s2 hP hi => ?_, fun i H2 L2 S2 T2 x H3 c l2 s2 hP hd' hy => ?_, fun i H2 L2 S2 T2 l2 s2 hP hi => ?_⟩ h1⟩
        · rw [hd] at hP
          obtain ⟨b, ws, eb, h3, s3, p3⟩ := s2.seqK (l2 _ _ p1) hP
          injection eb with eb
          subst eb
          rcases h3 with ⟨z, _⟩ | ⟨_, h3⟩
          · rw [h0] at z; cases z
          · exact ⟨ws, ws[i]'(by rw [p3.length]; exact hi), .of h3, List.getElem?_eq_getElem _⟩
        · rw [hd] at hP
          obtain ⟨b, ws, eb, h3, s3, p3⟩ := s2.seqK (l2 _ _ p1) hP
          injection eb with eb
          subst eb
          rcases h3 with ⟨z, _⟩ | ⟨_, h3⟩
          · rw [h0] at z; cases z
          · obtain ⟨rfl, hy⟩ := hy
            obtain ⟨w, h4, h5⟩ := p3.get hd'
            have := hy ws (.of h3)
            rw [h4] at this
            injection this with this
            subst this
            exact ⟨_, LaddL.le, h5, s3⟩
        · rw [hd] at hP
          obtain ⟨b, ws, eb, h3, s3, p3⟩ := s2.seqK (l2 _ _ p1) hP
          injection eb with eb
          subst eb
          rcases h3 with ⟨z, _⟩ | ⟨_, h3⟩
          · rw [h0] at z; cases z
          · exact ⟨ws, .of h3, by rw [p3.length, hi]; exact Nat.le_refl _⟩
    cases d with
    | str z =>
      refine .inr (.inr ⟨z, s1.vstr p1, hq _ xs (fun S => drawD S (.str z) = some xs) L1 H1 S1 l1 s1 ⟨fun i H2 L2 S2 T2 l2 s2 hP hi => ?_, fun i H2 L2 S2 T2 x H3 c l2 s2 hP hd' hy => ?_, fun i H2 L2 S2 T2 l2 s2 hP hi => ?_⟩ h1⟩)
      · simp only [drawD, Option.some.injEq] at hP
        rw [← hP] at hi
        show i < z.cps.size
        simpa using hi
      · simp only [drawD, Option.some.injEq] at hP
        obtain ⟨rfl, c', hc, rfl⟩ := hy
        rw [← hP, List.getElem?_map, show z.cps.toList[i]? = some c' by simpa using hc] at hd'
        injection hd' with hd'
        subst hd'
        exact ⟨Ladd L2 _ _, Ladd.le, Ladd.here, s2.flat rfl⟩
      · simp only [drawD, Option.some.injEq] at hP
        show z.cps.size ≤ i
        rw [hi, ← hP]
        simp
    | lst zs => exact (sq e1 fun _ => rfl).elim .inl fun z => .inr (.inl z)
    | tup zs => exact (sq e1 fun _ => rfl).elim .inl fun z => .inr (.inl z)
    | cell n => exact (sq e1 fun _ => rfl).elim .inl fun z => .inr (.inl z)
    | _ => simp [drawD, seqD] at e1) hx⟩
/-- ranges -/
def rangeD (lo : Int) (n : Nat) : List Dat := (List.range n).map fun (i : Nat) => Dat.int (lo + (i : Int))
theorem itr_ok {lo : Int} {n : Nat} {L : LL} : ItI (Itr lo n) (rangeD lo n) L (fun _ => True) :=
  ⟨fun i H2 L2 S2 T2 l2 s2 hP hi => by show i < n; simpa [rangeD] using hi, fun i H2 L2 S2 T2 x H3 c l2 s2 hP hd' hy => by
    obtain ⟨rfl, rfl⟩ := hy
    simp only [rangeD, List.getElem?_map, Option.map_eq_some_iff] at hd'
    obtain ⟨j, hj, rfl⟩ := hd'
    have := List.getElem?_eq_some_iff.mp hj
    obtain ⟨h1, h2⟩ := this
    simp at h2
    subst h2
    exact ⟨Ladd L2 _ _, Ladd.le, Ladd.here, s2.flat rfl⟩, fun i H2 L2 S2 T2 l2 s2 hP hi => by
    show n ≤ i
    rw [hi]; simp [rangeD]⟩
def uR1 (ua : UA) : UI := fun dl S R X => ua dl S (fun ds S1 => match ds with
  | [.int j] => (-(2 ^ 62) ≤ j ∧ j < 2 ^ 62) ∧ R (rangeD 0 j.toNat) (fun _ => True) S1
  | _ => False) X
def uR2 (ua : UA) : UI := fun dl S R X => ua dl S (fun ds S1 => match ds with
  | [.int i, .int j] => (-(2 ^ 62) ≤ i ∧ i < 2 ^ 62 ∧ -(2 ^ 62) ≤ j ∧ j < 2 ^ 62) ∧ R (rangeD i (j - i).toNat) (fun _ => True) S1
  | _ => False) X
theorem di_range1 (hm : X.mg "range" = none) (ha : DA X W [a] ta ua) (hg : Gl X "range" := by rfl) (hs : starEach [a] X.env = [(false, eval a X.env)] := by rfl) : DI X W tg (.Call (.Name "range" p) [a] [] pos) (iRng1 ta) (uR1 ua) :=
  ⟨pi_range1 hg hm ha.run hs, fun {sg dl L H S T R X' Q} he hs h hq hx => ha.imp he hs h (fun vs ds L1 H1 S1 l1 p1 s1 h1 => by
    match ds, p1, h1 with
    | [.int j], p1, h1 =>
      obtain ⟨v, rfl, pv⟩ := p1.one
      rw [s1.vint pv]
      exact ⟨j, rfl, h1.1.1, h1.1.2, hq _ _ _ L1 H1 S1 l1 s1 itr_ok h1.2⟩) hx⟩
theorem di_range2 (hm : X.mg "range" = none) (ha : DA X W [a, b] ta ua) (hg : Gl X "range" := by rfl) (hs : starEach [a, b] X.env = [(false, eval a X.env), (false, eval b X.env)] := by rfl) (hs2 : starEach [b] X.env = [(false, eval b X.env)] := by rfl) : DI X W tg (.Call (.Name "range" p) [a, b] [] pos) (iRng2 ta) (uR2 ua) :=
  ⟨pi_range2 hg hm ha.run hs hs2, fun {sg dl L H S T R X' Q} he hs h hq hx => ha.imp he hs h (fun vs ds L1 H1 S1 l1 p1 s1 h1 => by
    match ds, p1, h1 with
    | [.int i, .int j], p1, h1 =>
      obtain ⟨v, w, rfl, pv, pw⟩ := p1.two
      rw [s1.vint pv, s1.vint pw]
      exact ⟨i, j, rfl, h1.1, hq _ _ _ L1 H1 S1 l1 s1 itr_ok h1.2⟩) hx⟩
end
end DL
/-! DL8: short words for what the printer prints. -/
namespace DL
open PySem L2

abbrev gSub : G2 := gInt0 fun i j => i - j
abbrev gMul : G2 := gInt CMul fun i j => i * j
abbrev gMod : G2 := gInt (fun _ j => 0 < j) fun i j => i % j
abbrev gFdiv : G2 := gInt CDiv fun i j => i / j
abbrev gPow : G2 := gInt CPow fun i j => i ^ j.toNat
abbrev gNeg : G1 := fun d S K => match d with
    | .int i => K (.int (-i)) S
    | _ => False
/-- a def that may be called, at f: what it promises; dd: its defaults -/
def Callee (P : Program) (w : World) (K : PySem.W.Frag) (mg : Str → Option Value) (base : Heap) (k : Nat) (f : Addr) (ps : List Str) (F : Spec) (dd : List Dat) : Prop :=
  ∃ fd dl dvs, FnOk P w K mg base (L2.CX P w) k f fd ps (spOf F) ∧ PySem.W.keepIn K (.ref f) = true ∧ Binds K fd ps dl ∧ Vals dvs dl ∧ Flats dd dvs
section
variable {X : Cx} {W : WX} {k j : Nat} {f : Addr} {ps : List Str} {F : Spec} {x : Str} {p pos : Pos} {e : Expr} {es : List Expr} {t : TA} {u : UA} {dd : List Dat}
/-- the reading by values hangs on the defaults: it is told by what it is -/
theorem de_callF {dvs : List V} (c : ∃ fd dl, FnOk X.prog X.w X.K X.mg X.base (L2.CX X.prog X.w) k f fd ps (spOf F) ∧ PySem.W.keepIn X.K (.ref f) = true ∧ Binds X.K fd ps dl ∧ Vals dvs dl ∧ Flats dd dvs) (hr : Room j X.A) (hj : k ≤ j) (hm : X.mg x = some (.ref f)) (tk : Takes X W)
    (ha : DA X W (e :: es) t u) (hg : Gl X x := by rfl) (hdb : (x == ("__debug__" : Str)) = false := by decide) (he : starEach (e :: es) X.env = (false, eval e X.env) :: starEach es X.env := by rfl) (hpl : (backTo pos (starEach es X.env)).any (·.1) = false := by rfl) :
    DE X W (.Call (.Name x p) (e :: es) [] pos) (tCallSD (spOf F) dvs (WE W) t) (uCall F dd u) := by
  obtain ⟨fd, dl, h1, h2, h3, h4, h5⟩ := c
  exact de_call h1 (hr.mono hj) hm h2 h3 h4 h5 tk ha hg hdb he hpl
theorem de_gint {i : Int} (h : ∃ t, X.mg x = some (.int i t)) (hg : Gl X x := by rfl) (hd : (x == ("__debug__" : Str)) = false := by decide) : DE X W (.Name x pos) (tC (.int i)) (uC (.int i)) := by
  obtain ⟨t, h⟩ := h
  exact de_glob (d := .int i) (v := .int i) h ⟨t, rfl⟩ rfl hg hd
theorem de_gstr {i : Str} (h : ∃ t, X.mg x = some (.str i t)) (hg : Gl X x := by rfl) (hd : (x == ("__debug__" : Str)) = false := by decide) : DE X W (.Name x pos) (tC (.str i)) (uC (.str i)) := by
  obtain ⟨t, h⟩ := h
  exact de_glob (d := .str i) (v := .str i) h ⟨t, rfl⟩ rfl hg hd
end
/-- the same, the defaults' values told -/
def CalleeV (P : Program) (w : World) (K : PySem.W.Frag) (mg : Str → Option Value) (base : Heap) (k : Nat) (f : Addr) (ps : List Str) (F : Spec) (dd : List Dat) (dvs : List V) : Prop :=
  ∃ fd dl, FnOk P w K mg base (L2.CX P w) k f fd ps (spOf F) ∧ PySem.W.keepIn K (.ref f) = true ∧ Binds K fd ps dl ∧ Vals dvs dl ∧ Flats dd dvs
end DL
/-! DL8K: the rules that name the frozen part, with its name told (for what stands in a comprehension). -/
namespace DL
open PySem L2
section
variable {X : Cx} {W : WX} {a b c e o : Expr} {es rest : List Expr} {ta tb tc te to : TE} {ua ub uc ue uo : UE} {tA tB' : TT} {uA uB : UT} {t : TA} {u : UA} {pos p tpos : Pos} {r r' : R2} {g g' : G2} (KK : PySem.W.Frag) (hK : X.K = KK)
include hK
theorem dt_truK (ha : DE X W a ta ua) (hh : ∀ whole, isTrue a X.env whole = (do let v ← whole; standAt a.pos; holding [v] (truthy v)) := by intro _; rfl) : DT X W a (fun sg H Q => ta sg H fun x H' => ∃ k, TruV KK x H' k ∧ Q k H') (uTru ua) := by subst hK; exact dt_tru ha hh
theorem de_andK (ha : DE X W a ta ua) (hb : DE X W (.BoolOp .And (b :: rest) pos) tb ub) : DE X W (.BoolOp .And (a :: b :: rest) pos) (tAndT KK ta tb) (uAndV ua ub) := by subst hK; exact de_and ha hb
theorem de_orK (ha : DE X W a ta ua) (hb : DE X W (.BoolOp .Or (b :: rest) pos) tb ub) : DE X W (.BoolOp .Or (a :: b :: rest) pos) (tOrT KK ta tb) (uOrV ua ub) := by subst hK; exact de_or ha hb
theorem de_notK (ha : DE X W a ta ua) : DE X W (.UnaryOp .Not a pos) (tNotT KK ta) (uNotV ua) := by subst hK; exact de_not ha
theorem dg_tupK {tr : TGs} {ur : UGs} {ts : List Nat} {k n : Nat} (hc : X.calm = true) (h : DGs X W es tr ur ts) (hn : (assignEach es X.env).length = n := by rfl) (hst : (assignEach es X.env).findIdx? (·.1) = none := by rfl) : DG X W (.Tuple es k pos) (gTup KK n tr) (uGTup n ur) ts := by subst hK; exact dg_tup hc h hn hst
theorem dop_addK : DOp X (binaryOp .Add) (rAddG KK) gAdd := by subst hK; exact dop_add
theorem dop_eqK (hu : X.A.units + 64 < cLine) : DOp X (compareOp .Eq) (fun x y H Q => rEq x y H Q ∨ rEqD KK x y H Q) gEq := by subst hK; exact dop_eq hu
theorem dop_neK (hu : X.A.units + 64 < cLine) : DOp X (compareOp .NotEq) (fun x y H Q => rNe x y H Q ∨ rNeD KK x y H Q) gNe := by subst hK; exact dop_ne hu
theorem dop_inK : DOp X (compareOp .In) (rInG KK false) (gIn id) := by subst hK; exact dop_in
theorem dop_notinK : DOp X (compareOp .NotIn) (rInG KK true) (gIn (!·)) := by subst hK; exact dop_notin
theorem de_ixK (ha : DE X W a ta ua) (hb : DE X W b tb ub) (hs : PlainIx b := by exact fun _ _ => rfl) : DE X W (.Subscript a b pos) (tOp (rIx KK) ta tb) (uOp gIx ua ub) := by subst hK; exact de_ix ha hb hs
theorem de_slK {lo hi : Option Expr} {tl th : TO} {ul uh : UO} {p2 : Pos} (ha : DE X W a ta ua) (hl : DO X W lo tl ul) (hh : DO X W hi th uh) : DE X W (.Subscript a (.Slice lo hi none p2) pos) (tSl (rSlG KK) ta tl th) (uSl ua ul uh) := by subst hK; exact de_sl ha hl hh
theorem dcb_lenK : DCb X (.builtin "len") (fun xs H Q => ∃ x n, xs = [x] ∧ LenV KK x H n ∧ Q (.int n) H) gLen := by subst hK; exact dcb_len
theorem dcb_isiK : DCb X (.builtin "isinstance") (rIsiG KK) (gIsi KK) := by subst hK; exact dcb_isi
theorem dcb_listK : DCb X (.type "list") (fun xs H Q => ∃ p ys, xs = [.ref p] ∧ (SqL KK H p ys ∨ SqT KK H p ys) ∧ ∀ l, H l = none → Q (.ref l) (upd H l (.lst ys))) gListT := by subst hK; exact dcb_list
theorem dcb_tupleK : DCb X (.type "tuple") (fun xs H Q => ∃ p ys, xs = [.ref p] ∧ ((SqL KK H p ys ∧ ∀ l, H l = none → Q (.ref l) (upd H l (.tup ys))) ∨ (SqT KK H p ys ∧ Q (.ref p) H))) gTupleC := by subst hK; exact dcb_tuple
theorem dcb_allK (hc : X.calm = true) : DCb X (.builtin "all") (rAll KK) (gBools fun bs => bs.all id) := by subst hK; exact dcb_all hc
theorem dcb_anyK (hc : X.calm = true) : DCb X (.builtin "any") (rAny KK) (gBools fun bs => bs.any id) := by subst hK; exact dcb_any hc
theorem dcb_sortedSK : DCb X (.builtin "sorted") (rSortedS KK) (gSortedS fun xs S K => K (.lst xs) S) := by subst hK; exact dcb_sortedS
theorem de_bm0K {r : V → List V → Hp → VK → Prop} {g : GM} {T id : String} {name : Str} {apos cpos : Pos} (pa : PlainAttrs T) (slot : Slot T name id) (hty : typeOf (.builtin id) = pure (.type "method_descriptor")) (hm : DMt X id r g) (ho : DE X W o to uo)
    (hbase : attributeBase o name X.env (eval o X.env) = eval o X.env := by rfl) (hline : (apos.endLine == cpos.line) = true := by rfl) : DE X W (.Call (.Attribute o name apos) [] [] cpos) (tBM0 KK T r to) (uBM0 T g uo) := by subst hK; exact de_bm0 pa slot hty hm ho hbase hline
theorem de_bmK {r : V → List V → Hp → VK → Prop} {g : GM} {T id : String} {name : Str} {apos cpos : Pos} (pa : PlainAttrs T) (slot : Slot T name id) (hty : typeOf (.builtin id) = pure (.type "method_descriptor")) (hm : DMt X id r g) (ho : DE X W o to uo) (ha : DA X W (e :: es) t u)
    (hbase : attributeBase o name X.env (eval o X.env) = eval o X.env := by rfl)
    (hfew : ((backTo cpos (starEach (e :: es) X.env)).all (fun x => !x.1) && (backToKw cpos (keywordEach [] X.env)).all (fun x => x.1.isSome)
      && decide ((e :: es).length + ([] : List Keyword).length + (if ([] : List Keyword).isEmpty then 0 else 1) < 30)) = true := by rfl)
    (hline : (apos.endLine == cpos.line) = true := by rfl) (hs : starEach (e :: es) X.env = (false, eval e X.env) :: starEach es X.env := by rfl) (hplain : (backTo cpos (starEach es X.env)).any (·.1) = false := by rfl) :
    DE X W (.Call (.Attribute o name apos) (e :: es) [] cpos) (tBM KK T r to t) (uBM T g uo u) := by subst hK; exact de_bm pa slot hty hm ho ha hbase hfew hline hs hplain
theorem dmt_joinK : DMt X "str.join" (fun x xs H Q => ∃ a p, ∃ ys : List Str, x = .str a ∧ xs = [.ref p] ∧ (SqL KK H p (ys.map V.str) ∨ SqT KK H p (ys.map V.str)) ∧
    (ys.map (·.length)).sum + ys.length * a.length ≤ 16777216 ∧ Q (.str (Txt.join a ys)) H) gJoin := by subst hK; exact dmt_join
theorem di_seqK {tg : Expr} (h : DE X W e te ue) : DI X W tg e (iSeq KK te) (uSeqI ue) := by subst hK; exact di_seq h
theorem di_zipK {e2 : Expr} {kk : Nat} {elts : List Expr} (hm : X.mg "zip" = none) (ha : DA X W [e, e2] t u) (hg : Gl X "zip" := by rfl)
    (hs : starEach [e, e2] X.env = (false, eval e X.env) :: starEach [e2] X.env := by rfl) (hpl : (backTo pos (starEach [e2] X.env)).any (·.1) = false := by rfl) :
    DI X W (.Tuple elts kk tpos) (.Call (.Name "zip" p) [e, e2] [] pos) (iZ KK t) (uZ u) := by subst hK; exact di_zip hm ha hg hs hpl
end
end DL
/-! DL9: one step of a reading at a time. -/
namespace DL
open PySem L2
def tyD : Dat → String
  | .non => "NoneType" | .bl _ => "bool" | .int _ => "int" | .str _ => "str" | .lst _ => "list" | .tup _ => "tuple" | _ => "?"
section
variable {dl : Env'} {S : Store} {K : KE} {X : KX} {D : DEnds} {i j : Nat} {d d' x y z : Dat} {ua ub uc ue : UE} {tA tB : UT} {u : UA} {a b : US} {g g' : G2} {KT : Bool → Store → Prop} {KA : List Dat → Store → Prop} {xs ys ds : List Dat} {KF : PySem.W.Frag}
theorem x_seq (h : a { D with nx := b D } dl S) : uSeq a b D dl S := h
theorem x_next (h : D.nx dl S) : uNext D dl S := h
theorem x_break (h : D.bk dl S) : uBreak D dl S := h
theorem x_cont (h : D.ct dl S) : uCont D dl S := h
theorem x_drop (h : ue dl S (fun _ S1 => D.nx dl S1) (fun e S1 => D.ex e dl S1)) : uDrop ue D dl S := h
theorem x_ret (h : ue dl S (fun d S1 => D.rt d S1) (fun e S1 => D.ex e dl S1)) : uRet ue D dl S := h
theorem x_retN (h : D.rt .non S) : uRetN D dl S := h
theorem x_ifS (h : tA dl S (fun k S1 => if k = true then a D dl S1 else b D dl S1) (fun e S1 => D.ex e dl S1)) : uIfS tA a b D dl S := h
theorem x_set (h : ue dl S (fun d S1 => i < dl.length ∧ D.nx (dl.set i (some d)) S1) (fun e S1 => D.ex e dl S1)) : uSet i ue D dl S := h
theorem x_asg {ug : UG} (h : ue dl S (fun d S1 => ug d dl S1 D.nx (fun e S1 => D.ex e dl S1)) (fun e S1 => D.ex e dl S1)) : uAsg ue ug D dl S := h
theorem x_par (h : u dl S (fun ds S1 => match ds with
  | [a, b] => i < dl.length ∧ j < dl.length ∧ D.nx ((dl.set i (some a)).set j (some b)) S1
  | _ => False) (fun e S1 => D.ex e dl S1)) : uPar i j u D dl S := h
theorem x_name {KN : Env' → Store → Prop} (h : i < dl.length) (k : KN (dl.set i (some d)) S) : uName i d dl S KN X := ⟨h, k⟩
theorem x_gsub {KN : Env' → Store → Prop} {gs : GS} (h : ua dl S (fun o S1 => ub dl S1 (fun i S2 => gs o i d S2 fun S3 => KN dl S3) X) X) : uGSub ua ub gs d dl S KN X := h
theorem x_gtup {KN : Env' → Store → Prop} {n : Nat} {ug : UGs} (h : xs.length = n) (k : ug xs dl S KN (fun _ _ => False)) : uGTup n ug (.tup xs) dl S KN X := ⟨h, k⟩
theorem x_gnil {KN : Env' → Store → Prop} (k : KN dl S) : uGNil [] dl S KN X := k
theorem x_gcons {KN : Env' → Store → Prop} {ug : UG} {ur : UGs} (k : ug d dl S (fun dl2 S2 => ur xs dl2 S2 KN X) X) : uGCons ug ur (d :: xs) dl S KN X := k
theorem x_var (h : dl[i]? = some (some d)) (k : K d S) : uVar i dl S K X := by unfold uVar; rw [h]; exact k
theorem x_c (k : K d S) : uC d dl S K X := k
theorem x_op (h : ua dl S (fun x S1 => ub dl S1 (fun y S2 => g x y S2 K) X) X) : uOp g ua ub dl S K X := h
theorem x_un {g : G1} (h : ua dl S (fun x S1 => g x S1 K) X) : uUn g ua dl S K X := h
theorem x_nil (h : KA [] S) : uNil dl S KA X := h
theorem x_cons (h : ua dl S (fun x S1 => u dl S1 (fun xs S2 => KA (x :: xs) S2) X) X) : uCons ua u dl S KA X := h
theorem x_tup (h : u dl S (fun xs S1 => xs.length ≤ sizeLine ∧ K (.tup xs) S1) X) : uTup u dl S K X := h
theorem x_lst (h : u dl S (fun xs S1 => xs.length ≤ sizeLine ∧ K (.lst xs) S1) X) : uLst u dl S K X := h
theorem x_lstC (h : u dl S (fun xs S1 => xs.length ≤ sizeLine ∧ K (.cell S1.length) (S1 ++ [.lst xs])) X) : uLstC u dl S K X := h
theorem x_cb {g : GL} (h : u dl S (fun xs S1 => g xs S1 K) X) : uCB g u dl S K X := h
theorem x_call {F : Spec} {dd : List Dat} (h : u dl S (fun ds S1 => F (ds ++ dd) S1 K X) X) : uCall F dd u dl S K X := h
theorem x_if (h : tA dl S (fun c S1 => if c = true then ua dl S1 K X else ub dl S1 K X) X) : uIf tA ua ub dl S K X := h
theorem x_test (h : ua dl S (fun d S1 => match d with
  | .bl b => KT b S1
  | _ => False) X) : uTest ua dl S KT X := h
theorem x_testB {c : Bool} (h : KT c S) : (match (Dat.bl c) with
  | .bl b => KT b S
  | _ => False) := h
theorem x_and (h : tA dl S (fun c S1 => if c = true then tB dl S1 KT X else KT false S1) X) : uAnd tA tB dl S KT X := h
theorem x_or (h : tA dl S (fun c S1 => if c = true then KT true S1 else tB dl S1 KT X) X) : uOr tA tB dl S KT X := h
theorem x_not (h : tA dl S (fun c S1 => KT (!c) S1) X) : uNot tA dl S KT X := h
theorem x_tru (h : ua dl S (fun d S1 => gTru d S1 KT) X) : uTru ua dl S KT X := h
theorem x_andV (h : ua dl S (fun d S1 => gTru d S1 fun c S2 => if c = true then ub dl S2 K X else K d S2) X) : uAndV ua ub dl S K X := h
theorem x_orV (h : ua dl S (fun d S1 => gTru d S1 fun c S2 => if c = true then K d S2 else ub dl S2 K X) X) : uOrV ua ub dl S K X := h
theorem x_notV (h : ua dl S (fun d S1 => gTru d S1 fun c S2 => K (.bl (!c)) S2) X) : uNotV ua dl S K X := h
theorem x_yes (h : KT true S) : uYes dl S KT X := h
theorem x_chain (h : ua dl S (fun x S1 => ub dl S1 (fun y S2 => g x y S2 fun z S3 => match z with
  | .bl c => if c = true then uc dl S3 (fun w S4 => g' y w S4 K) X else K (.bl false) S3
  | _ => False) X) X) : uChain g g' ua ub uc dl S K X := h
theorem x_chainB {c : Bool} {A B : Prop} (h : if c = true then A else B) : (match (Dat.bl c) with
  | .bl c => if c = true then A else B
  | _ => False) := h
/-! tests -/
theorem x_iteT {A B : Prop} (h : A) : if true = true then A else B := h
theorem x_iteF {A B : Prop} (h : B) : if false = true then A else B := h
theorem x_ite {c : Bool} {A B : Prop} (h1 : c = true → A) (h2 : c = false → B) : if c = true then A else B := by
  cases c with
  | true => exact h1 rfl
  | false => exact h2 rfl
theorem x_tN (h : KT false S) : gTru .non S KT := h
theorem x_tB {c : Bool} (h : KT c S) : gTru (.bl c) S KT := h
theorem x_tI {i : Int} (h : KT (i != 0) S) : gTru (.int i) S KT := h
theorem x_tS {s : Str} (hl : s.length ≤ sizeLine) (h : KT ((s.length : Int) != 0) S) : gTru (.str s) S KT := ⟨hl, h⟩
theorem x_tT (h : KT (!xs.isEmpty) S) : gTru (.tup xs) S KT := h
theorem x_tL (h : KT (!xs.isEmpty) S) : gTru (.lst xs) S KT := h
theorem x_tC {n : Nat} (e : S[n]? = some (.lst xs)) (h : KT (!xs.isEmpty) S) : gTru (.cell n) S KT := by show (match S[n]? with | some (.lst xs) => KT (!xs.isEmpty) S | _ => False); rw [e]; exact h
/-! operators -/
variable {m n : Int} {s t : Str} {p q : Bool}
theorem x_addI (k : K (.int (m + n)) S) : gAdd (.int m) (.int n) S K := k
theorem x_addS (h : s.length + t.length ≤ sizeLine) (k : K (.str (s ++ t)) S) : gAdd (.str s) (.str t) S K := ⟨h, k⟩
theorem x_addL (h : xs.length + ys.length ≤ sizeLine) (k : K (.lst (xs ++ ys)) S) : gAdd (.lst xs) (.lst ys) S K := ⟨h, k⟩
theorem x_sub (k : K (.int (m - n)) S) : gSub (.int m) (.int n) S K := k
theorem x_mul (h : CMul m n) (k : K (.int (m * n)) S) : gMul (.int m) (.int n) S K := ⟨h, k⟩
theorem x_mod (h : 0 < n) (k : K (.int (m % n)) S) : gMod (.int m) (.int n) S K := ⟨h, k⟩
theorem x_fdiv (h : CDiv m n) (k : K (.int (m / n)) S) : gFdiv (.int m) (.int n) S K := ⟨h, k⟩
theorem x_pow (h : CPow m n) (k : K (.int (m ^ n.toNat)) S) : gPow (.int m) (.int n) S K := ⟨h, k⟩
theorem x_neg (k : K (.int (-m)) S) : gNeg (.int m) S K := k
theorem x_ltI (k : K (.bl (decide (m < n))) S) : gLt (.int m) (.int n) S K := k
theorem x_leI (k : K (.bl (decide (m ≤ n))) S) : gLe (.int m) (.int n) S K := k
theorem x_gtI (k : K (.bl (decide (n < m))) S) : gGt (.int m) (.int n) S K := k
theorem x_geI (k : K (.bl (decide (n ≤ m))) S) : gGe (.int m) (.int n) S K := k
theorem x_ltS (k : K (.bl (ltS s t)) S) : gLt (.str s) (.str t) S K := k
theorem x_leS (k : K (.bl (!ltS t s)) S) : gLe (.str s) (.str t) S K := k
theorem x_gtS (k : K (.bl (ltS t s)) S) : gGt (.str s) (.str t) S K := k
theorem x_geS (k : K (.bl (!ltS s t)) S) : gGe (.str s) (.str t) S K := k
theorem x_eqI (k : K (.bl (decide (m = n))) S) : gEq (.int m) (.int n) S K := k
theorem x_eqS (k : K (.bl (decide (s = t))) S) : gEq (.str s) (.str t) S K := k
theorem x_eqB (k : K (.bl (decide (p = q))) S) : gEq (.bl p) (.bl q) S K := k
theorem x_neI (k : K (.bl (!decide (m = n))) S) : gNe (.int m) (.int n) S K := k
theorem x_neS (k : K (.bl (!decide (s = t))) S) : gNe (.str s) (.str t) S K := k
theorem x_neB (k : K (.bl (!decide (p = q))) S) : gNe (.bl p) (.bl q) S K := k
theorem x_eqP {p q : PyData} (e : scalD x y = none) (h1 : Py S x p) (h2 : Py S y q) (h3 : SeqAt.shaped p = true) (h4 : SeqAt.shaped q = true) (k : K (.bl (PyData.eqv p q)) S) : gEq x y S K := by
  unfold gEq gEqB; rw [e]; exact ⟨p, q, h1, h2, h3, h4, k⟩
theorem x_neP {p q : PyData} (e : scalD x y = none) (h1 : Py S x p) (h2 : Py S y q) (h3 : SeqAt.shaped p = true) (h4 : SeqAt.shaped q = true) (k : K (.bl (!PyData.eqv p q)) S) : gNe x y S K := by
  unfold gNe gEqB; rw [e]; exact ⟨p, q, h1, h2, h3, h4, k⟩
theorem x_is (h : noRaw x = true) (k : K (.bl (isNonD x)) S) : gIs id x .non S K := ⟨h, k⟩
theorem x_isnot (h : noRaw x = true) (k : K (.bl (!isNonD x)) S) : gIs (!·) x .non S K := ⟨h, k⟩
theorem x_inS {c : Nat} (k : K (.bl (decide (c ∈ s.cps.toList))) S) : gIn id (.str (sgn c)) (.str s) S K := ⟨c, rfl, k⟩
theorem x_notinS {c : Nat} (k : K (.bl (!decide (c ∈ s.cps.toList))) S) : gIn (!·) (.str (sgn c)) (.str s) S K := ⟨c, rfl, k⟩
theorem x_ixL (e : seqD S x = some xs) (h : atI xs m = some d) (k : K d S) : gIx x (.int m) S K := by
  unfold gIx
  cases x with
  | str z => simp [seqD] at e
  | _ => exact ⟨xs, d, e, h, k⟩
theorem x_ixS {c : Nat} (hl : s.length ≤ sizeLine) (h : atI s.cps.toList m = some c) (k : K (.str (sgn c)) S) : gIx (.str s) (.int m) S K := ⟨hl, c, h, k⟩
/-! built-ins -/
theorem x_lenS (hl : s.length ≤ sizeLine) (k : K (.int s.length) S) : gLen [.str s] S K := ⟨hl, k⟩
theorem x_lenL (e : seqD S x = some xs) (k : K (.int xs.length) S) : gLen [x] S K := by
  unfold gLen
  cases x with
  | str z => simp [seqD] at e
  | _ => exact ⟨xs, e, k⟩
theorem x_intI (k : K (.int m) S) : gInt1 [.int m] S K := k
theorem x_intB (k : K (.int (if p then 1 else 0)) S) : gInt1 [.bl p] S K := k
theorem x_strI (h : m.natAbs.log2 < 1920) (k : K (.str (toString m)) S) : gStr1 [.int m] S K := ⟨h, k⟩
theorem x_abs (k : K (.int (if m < 0 then -m else m)) S) : gAbs [.int m] S K := k
theorem x_isi {t : String} {T : String} (e : tyS S d = some t) (hT : T ∈ tyNames) (k : K (.bl (isB t T)) S) : gIsi KF [d, .raw (.ty T)] S K := by
  refine ⟨isB t T, ?_, k⟩
  unfold isOne
  rw [e]
  exact ⟨hT, rfl⟩
theorem x_isi2 {t T1 T2 : String} (e : tyS S d = some t) (h1 : T1 ∈ tyNames) (h2 : T2 ∈ tyNames) (k : K (.bl (isB t T1 || isB t T2)) S) : gIsi KF [d, .tup [.raw (.ty T1), .raw (.ty T2)]] S K := by
  have o : ∀ T ∈ tyNames, isOne KF S d (.raw (.ty T)) (isB t T) := fun T hT => by unfold isOne; rw [e]; exact ⟨hT, rfl⟩
  refine ⟨rfl, _, ⟨isB t T1, o T1 h1, fun z => by rw [z]; rfl, fun z => ⟨isB t T2, o T2 h2, fun z2 => by rw [z, z2]; rfl, fun z2 => by rw [z, z2]; rfl⟩⟩, k⟩
theorem x_isiD {T : String} (e : tyS S d = some (tyD d)) (hT : T ∈ tyNames) (k : K (.bl (isB (tyD d) T)) S) : gIsi KF [d, .raw (.ty T)] S K := x_isi e hT k
theorem x_isiD2 {T1 T2 : String} (e : tyS S d = some (tyD d)) (h1 : T1 ∈ tyNames) (h2 : T2 ∈ tyNames) (k : K (.bl (isB (tyD d) T1 || isB (tyD d) T2)) S) : gIsi KF [d, .tup [.raw (.ty T1), .raw (.ty T2)]] S K := x_isi2 e h1 h2 k
theorem x_list (e : seqD S x = some xs) (k : K (.lst xs) S) : gListT [x] S K := ⟨xs, e, k⟩
theorem x_listC (e : seqD S x = some xs) (k : K (.cell S.length) (S ++ [.lst xs])) : gListC [x] S K := ⟨xs, e, k⟩
theorem x_tuple (e : seqD S x = some xs) (k : K (.tup xs) S) : gTupleC [x] S K := ⟨xs, e, k⟩
theorem x_bools {f : List Bool → Bool} {bs : List Bool} (e : lstD S x = some (bs.map Dat.bl)) (k : K (.bl (f bs)) S) : gBools f [x] S K := ⟨bs, e, k⟩
theorem x_bm {g : GM} {T : String} (h : ua dl S (fun d S1 => isT T S1 d ∧ u dl S1 (fun xs S2 => g d xs S2 K) X) X) : uBM T g ua u dl S K X := h
theorem x_bm0 {g : GM} {T : String} (h : ua dl S (fun d S1 => isT T S1 d ∧ g d [] S1 K) X) : uBM0 T g ua dl S K X := h
theorem x_append {n : Nat} (e : S[n]? = some (.lst xs)) (h : xs.length < sizeLine) (k : K .non (S.set n (.lst (xs ++ [y])))) : gAppend (.cell n) [y] S K := ⟨xs, e, h, k⟩
theorem x_join {ss : List Str} (e : seqD S y = some (ss.map Dat.str)) (h : (ss.map (·.length)).sum + ss.length * s.length ≤ 16777216) (k : K (.str (Txt.join s ss)) S) : gJoin (.str s) [y] S K := ⟨ss, e, h, k⟩
theorem x_setL {n j : Nat} {KS : Store → Prop} (e : S[n]? = some (.lst xs)) (h : ixN xs.length m = some j) (k : KS (S.set n (.lst (xs.set j d)))) : gSetL (.cell n) (.int m) d S KS := ⟨xs, j, e, h, k⟩
theorem x_part (h : ua dl S (fun d S1 => match d with
  | .int i => KO (some i) S1
  | _ => False) X) : uPart ua dl S KO X := h
theorem x_no {KO : Option Int → Store → Prop} (h : KO none S) : uNo dl S KO X := h
theorem x_partI {KO : Option Int → Store → Prop} (h : KO (some m) S) : (match (Dat.int m) with
  | .int i => KO (some i) S
  | _ => False) := h
theorem x_sl {ul uh : UO} (h : ua dl S (fun d S1 => ul dl S1 (fun l S2 => uh dl S2 (fun h S3 => gSl d l h S3 K) X) X) X) : uSl ua ul uh dl S K X := h
theorem x_slS {lo hi : Option Int} (hl : s.length ≤ sizeLine) (k : K (.str (cutS s lo hi)) S) : gSl (.str s) lo hi S K := ⟨hl, k⟩
theorem x_slL {lo hi : Option Int} (k : K (.lst (cutD xs lo hi)) S) : gSl (.lst xs) lo hi S K := k
theorem x_slC {lo hi : Option Int} {n : Nat} (e : S[n]? = some (.lst xs)) (k : K (.lst (cutD xs lo hi)) S) : gSl (.cell n) lo hi S K := by
  show (match view S (.cell n) with | some (.lst xs) => K (.lst (cutD xs lo hi)) S | _ => False)
  rw [show view S (.cell n) = some (.lst xs) from e]; exact k
/-! what is walked -/
variable {R : List Dat → (Store → Prop) → Store → Prop}
theorem x_seqI (h : ua dl S (fun d S1 => ∃ xs, drawD S1 d = some xs ∧ R xs (fun S => drawD S d = some xs) S1) X) : uSeqI ua dl S R X := h
theorem x_r1 (h : u dl S (fun ds S1 => match ds with
  | [.int j] => (-(2 ^ 62) ≤ j ∧ j < 2 ^ 62) ∧ R (rangeD 0 j.toNat) (fun _ => True) S1
  | _ => False) X) : uR1 u dl S R X := h
theorem x_r2 (h : u dl S (fun ds S1 => match ds with
  | [.int i, .int j] => (-(2 ^ 62) ≤ i ∧ i < 2 ^ 62 ∧ -(2 ^ 62) ≤ j ∧ j < 2 ^ 62) ∧ R (rangeD i (j - i).toNat) (fun _ => True) S1
  | _ => False) X) : uR2 u dl S R X := h
theorem x_z (h : u dl S (fun ds S1 => match ds with
  | [a, b] => ∃ xs ys, drawD S1 a = some xs ∧ drawD S1 b = some ys ∧ R (pairs xs ys) (fun S => drawD S a = some xs ∧ drawD S b = some ys) S1
  | _ => False) X) : uZ u dl S R X := h
/-- a comprehension that keeps the store: each item gives one, or none -/
theorem lc_pick {own : List Nat} {ug : UG} {tt : UT} {P : Store → Prop} {fin : List Dat → Store → KE → Prop} (f : Dat → Option Dat) (hP : P S) (hsz : xs.length ≤ sizeLine)
    (hs : ∀ (j : Nat) d (Kt : Dat → Store → Prop) (Kf : Store → Prop), xs[j]? = some d → (∀ y, f d = some y → Kt y S) → (f d = none → Kf S) →
      ug d (wipeD dl own) S (fun dl2 S3 => tt dl2 S3 (fun b S4 => if b = true then ue dl2 S4 Kt XF0 else Kf S4) XF0) XF0)
    (k : fin (xs.filterMap f) S K) : ∃ I : Nat → List Dat → Store → Prop, I 0 [] S ∧
  (∀ (j : Nat) d acc S2, xs[j]? = some d → I j acc S2 → P S2 ∧ acc.length < sizeLine ∧ ug d (wipeD dl own) S2 (fun dl2 S3 => tt dl2 S3 (fun b S4 => if b = true then ue dl2 S4 (fun y S5 => I (j + 1) (acc ++ [y]) S5) XF0 else I (j + 1) acc S4) XF0) XF0) ∧
  ∀ acc S2, I xs.length acc S2 → P S2 ∧ fin acc S2 K := by
  refine ⟨fun j acc S' => S' = S ∧ acc = (xs.take j).filterMap f, ⟨rfl, by simp⟩, ?_, ?_⟩
  · rintro j d acc S2 hj ⟨rfl, rfl⟩
    have hlt := (List.getElem?_eq_some_iff.mp hj).1
    have et : xs.take (j + 1) = xs.take j ++ [d] := by rw [List.take_add_one, hj]; rfl
    refine ⟨hP, ?_, hs j d _ _ hj (fun y e => ?_) (fun e => ?_)⟩
    · have h1 : ((xs.take j).filterMap f).length ≤ (xs.take j).length := List.length_filterMap_le ..
      rw [List.length_take] at h1
      omega
    · refine ⟨rfl, ?_⟩
      rw [et, List.filterMap_append]
      simp [e]
    · refine ⟨rfl, ?_⟩
      rw [et, List.filterMap_append]
      simp [e]
  · rintro acc S2 ⟨rfl, rfl⟩
    rw [List.take_length]
    exact ⟨hP, k⟩
theorem lc_map {own : List Nat} {ug : UG} {tt : UT} {P : Store → Prop} {fin : List Dat → Store → KE → Prop} (f : Dat → Dat) (hP : P S) (hsz : xs.length ≤ sizeLine)
    (hs : ∀ (j : Nat) d (Kt : Dat → Store → Prop) (Kf : Store → Prop), xs[j]? = some d → Kt (f d) S →
      ug d (wipeD dl own) S (fun dl2 S3 => tt dl2 S3 (fun b S4 => if b = true then ue dl2 S4 Kt XF0 else Kf S4) XF0) XF0)
    (k : fin (xs.map f) S K) : ∃ I : Nat → List Dat → Store → Prop, I 0 [] S ∧
  (∀ (j : Nat) d acc S2, xs[j]? = some d → I j acc S2 → P S2 ∧ acc.length < sizeLine ∧ ug d (wipeD dl own) S2 (fun dl2 S3 => tt dl2 S3 (fun b S4 => if b = true then ue dl2 S4 (fun y S5 => I (j + 1) (acc ++ [y]) S5) XF0 else I (j + 1) acc S4) XF0) XF0) ∧
  ∀ acc S2, I xs.length acc S2 → P S2 ∧ fin acc S2 K :=
  lc_pick (fun d => some (f d)) hP hsz (fun j d Kt Kf hj h1 _ => hs j d Kt Kf hj (h1 _ rfl)) (by rw [show (fun d => some (f d)) = some ∘ f from rfl, List.filterMap_eq_map]; exact k)
theorem lc_pickG {own : List Nat} {ug : UG} {tt : UT} {P : Store → Prop} {G : List Dat → Store → Prop} (f : Dat → Option Dat) (hP : P S) (hsz : xs.length ≤ sizeLine)
    (hs : ∀ (j : Nat) d (Kt : Dat → Store → Prop) (Kf : Store → Prop), xs[j]? = some d → (∀ y, f d = some y → Kt y S) → (f d = none → Kf S) →
      ug d (wipeD dl own) S (fun dl2 S3 => tt dl2 S3 (fun b S4 => if b = true then ue dl2 S4 Kt XF0 else Kf S4) XF0) XF0)
    (k : G (xs.filterMap f) S) : ∃ I : Nat → List Dat → Store → Prop, I 0 [] S ∧
  (∀ (j : Nat) d acc S2, xs[j]? = some d → I j acc S2 → P S2 ∧ acc.length < sizeLine ∧ ug d (wipeD dl own) S2 (fun dl2 S3 => tt dl2 S3 (fun b S4 => if b = true then ue dl2 S4 (fun y S5 => I (j + 1) (acc ++ [y]) S5) XF0 else I (j + 1) acc S4) XF0) XF0) ∧
  ∀ acc S2, I xs.length acc S2 → P S2 ∧ G acc S2 := by
  refine ⟨fun j acc S' => S' = S ∧ acc = (xs.take j).filterMap f, ⟨rfl, by simp⟩, ?_, ?_⟩
  · rintro j d acc S2 hj ⟨rfl, rfl⟩
    have hlt := (List.getElem?_eq_some_iff.mp hj).1
    have et : xs.take (j + 1) = xs.take j ++ [d] := by rw [List.take_add_one, hj]; rfl
    refine ⟨hP, ?_, hs j d _ _ hj (fun y e => ?_) (fun e => ?_)⟩
    · have h1 : ((xs.take j).filterMap f).length ≤ (xs.take j).length := List.length_filterMap_le ..
      rw [List.length_take] at h1
      omega
    · refine ⟨rfl, ?_⟩
      rw [et, List.filterMap_append]
      simp [e]
    · refine ⟨rfl, ?_⟩
      rw [et, List.filterMap_append]
      simp [e]
  · rintro acc S2 ⟨rfl, rfl⟩
    rw [List.take_length]
    exact ⟨hP, k⟩
theorem x_lcW {ui : UI} {own : List Nat} {ug : UG} {tt : UT} {fin : List Dat → Store → KE → Prop} (h : ui dl S (fun ds P S1 => ∃ I : Nat → List Dat → Store → Prop, I 0 [] S1 ∧
  (∀ (j : Nat) d acc S2, ds[j]? = some d → I j acc S2 → P S2 ∧ acc.length < sizeLine ∧ ug d (wipeD dl own) S2 (fun dl2 S3 => tt dl2 S3 (fun b S4 => if b = true then ue dl2 S4 (fun y S5 => I (j + 1) (acc ++ [y]) S5) XF0 else I (j + 1) acc S4) XF0) XF0) ∧
  ∀ acc S2, I ds.length acc S2 → P S2 ∧ fin acc S2 K) X) : uLcW ui own ug tt ue fin dl S K X := h
theorem x_lc {ui : UI} {own : List Nat} {ug : UG} {tt : UT} (h : uLcW ui own ug tt ue (fun acc S K => K (.lst acc) S) dl S K X) : uLc ui own ug tt ue dl S K X := h
theorem x_lcC {ui : UI} {own : List Nat} {ug : UG} {tt : UT} (h : uLcW ui own ug tt ue (fun acc S K => K (.cell S.length) (S ++ [.lst acc])) dl S K X) : uLcC ui own ug tt ue dl S K X := h
/-! ways out -/
theorem x_for {ui : UI} {ug : UG} {b : US} {D : DEnds} {dl : Env'} {S : Store} (h : ui dl S (fun ds P S1 => ∃ I : Nat → Env' → Store → Prop, I 0 dl S1 ∧
  (∀ (i : Nat) d dl1 S2, ds[i]? = some d → I i dl1 S2 → P S2 ∧ ug d dl1 S2 (fun dl2 S3 => b { D with nx := GcTo S1.length (I (i + 1)), ct := GcTo S1.length (I (i + 1)), bk := D.nx } dl2 S3) (fun e S3 => D.ex e dl1 S3)) ∧
  ∀ dl1 S2, I ds.length dl1 S2 → P S2 ∧ D.nx dl1 S2) (fun e S1 => D.ex e dl S1)) : uFor ui ug b D dl S := h
theorem x_slQ {KF : PySem.W.Frag} {dl : Env'} {S : Store} {K : KE} {X : KX} {ua : UE} {ul uh : UO} (h : ua dl S (fun d S1 => ul dl S1 (fun l S2 => uh dl S2 (fun h S3 => ∃ (ns ms : List Int), d = .sq KF ns ∧ cutV (ns.map V.int) l h = ms.map V.int ∧ K (.lst (ms.map .int)) S3) X) X) X) : uSlQ KF ua ul uh dl S K X := h
theorem x_putL {i : Nat} {dl : Env'} {P : Prop} (h : Nat.blt i dl.length = true) (k : P) : i < dl.length ∧ P := ⟨Nat.le_of_ble_eq_true h, k⟩
theorem x_szL {xs : List Dat} {P : Prop} (h : Nat.ble xs.length sizeLine = true) (k : P) : xs.length ≤ sizeLine ∧ P := ⟨Nat.le_of_ble_eq_true h, k⟩
theorem x_rtE {S : Store} {K : KE} {X : KX} {d : Dat} {S' : Store} (h : ExitTo S K d S') : (endsOf S K X).rt d S' := h
theorem x_iteT2 {c : Bool} {A B : Prop} (e : c = true) (h : A) : if c = true then A else B := by rw [if_pos e]; exact h
theorem x_iteF2 {c : Bool} {A B : Prop} (e : c = false) (h : B) : if c = true then A else B := by rw [if_neg (by rw [e]; decide)]; exact h

theorem below_ints {n : Nat} : ∀ ns : List Int, belows n (ns.map Dat.int)
  | [] => by simp only [List.map_nil, belows]
  | a :: r => by simp only [List.map_cons, belows, below, true_and]; exact below_ints r
theorem below_strs {n : Nat} : ∀ ns : List Str, belows n (ns.map Dat.str)
  | [] => by simp only [List.map_nil, belows]
  | a :: r => by simp only [List.map_cons, belows, below, true_and]; exact below_strs r
/-- nothing of the caller's changes; what comes back has no cell of the def's own -/
theorem exit_pure {S0 R : Store} (hb : below S0.length d) (k : K d S0) : ExitTo S0 K d (S0 ++ R) := ⟨S0, d, ⟨⟨R, rfl⟩, Nat.le_refl _, .inl rfl⟩, .same hb, k⟩
theorem exit_here {S0 : Store} (hb : below S0.length d) (k : K d S0) : ExitTo S0 K d S0 := ⟨S0, d, ⟨⟨[], by simp⟩, Nat.le_refl _, .inl rfl⟩, .same hb, k⟩
theorem belows_set {n j : Nat} {ds : List Dat} (h : belows n ds) (hd : below n d) : belows n (ds.set j d) := by
  induction ds generalizing j with
  | nil => simpa using h
  | cons c ds ih =>
    simp only [belows] at h
    cases j with
    | zero => simp only [List.set_cons_zero, belows]; exact ⟨hd, h.2⟩
    | succ j => simp only [List.set_cons_succ, belows]; exact ⟨h.1, ih h.2⟩
/-- the caller's cell at b has changed -/
theorem exit_set {S0 R : Store} {b : Nat} {c : Dat} (hS : belows S0.length S0) (hc : below S0.length c) (hb : below S0.length d) (k : K d (S0.set b c)) : ExitTo S0 K d (S0.set b c ++ R) :=
  ⟨S0.set b c, d, ⟨⟨R, rfl⟩, by rw [List.length_set]; exact Nat.le_refl _, .inr (by rw [List.length_set]; exact belows_set hS hc)⟩, .same (by rw [List.length_set]; exact hb), k⟩
theorem exit_set0 {S0 : Store} {b : Nat} {c : Dat} (hS : belows S0.length S0) (hc : below S0.length c) (hb : below S0.length d) (k : K d (S0.set b c)) : ExitTo S0 K d (S0.set b c) := by
  have := exit_set (R := []) hS hc hb k
  rwa [List.append_nil] at this
end
/-- a new cell is handed out -/
theorem exit_new {S : Store} {K : KE} {c : Dat} (hS : belows S.length S) (hc : below S.length c) (k : K (.cell S.length) (S ++ [c])) : ExitTo S K (.cell S.length) (S ++ [c]) := by
  refine ⟨S ++ [c], .cell S.length, ⟨⟨[], by simp⟩, by simp, .inr ?_⟩, .same (by simp [below]), k⟩
  have : ∀ {n : Nat} {xs ys : List Dat}, belows n xs → belows n ys → belows n (xs ++ ys) := fun {n xs ys} h1 h2 => by
    induction xs with
    | nil => exact h2
    | cons x xs ih => simp only [belows, List.cons_append] at h1 ⊢; exact ⟨h1.1, ih h1.2⟩
  exact this (belows.mono (by simp) hS) (by simp only [belows, and_true]; exact below.mono (by simp) hc)
end DL
/-! DL10: the ends of the chain: a def without promise, the law's start. -/
namespace DL
open PySem L2
theorem cx_none {P : Program} {w : World} {outer : List Env} {H : Hp} {s : Shared} {e : Value} {s' : Shared} (h : L2.CX P w outer H s (fun _ _ _ => False) e s') : False := by
  obtain ⟨_, _, _, _, _, _, _, _, _, _, _, _, h⟩ := h
  exact h
section
variable {P : Program} {w : World} {K : PySem.W.Frag} {mg : Str → Option Value} {base : Heap} {x qual : Str} {params : Arguments} {body : List Stmt} {scope : Scope} {dvs : List V} {kws : List (Str × V)} {f : Addr} {fd fd2 : FuncData} {N ps : List Str} {k : Nat}
theorem fn_none (F : FunD K x qual params body scope dvs kws f fd) (Sc : FnScope N ps scope) : FnOk P w K mg base (L2.CX P w) (k + 1) f fd ps (spOf fun _ _ _ _ => False) :=
  F.ok Sc (fun vs H Q E h => by obtain ⟨_, _, _, _, _, _, _, _, h, _⟩ := h; exact h.elim) (fun cdv A outer s H vs Q E hr h => by obtain ⟨_, _, _, _, _, _, _, _, h, _⟩ := h; exact h.elim)
theorem funD_one (F : FunD K x qual params body scope dvs kws f fd) {x2 qual2 : Str} {params2 : Arguments} {body2 : List Stmt} {scope2 : Scope} {dvs2 : List V} {kws2 : List (Str × V)} (F2 : FunD K x2 qual2 params2 body2 scope2 dvs2 kws2 f fd2) : fd = fd2 := by
  obtain ⟨_, _, _, _, _, _, _, _, _, _, _, l, _⟩ := F.ex
  obtain ⟨_, _, _, _, _, _, _, _, _, _, _, l2, _⟩ := F2.ex
  rw [l] at l2
  injection l2 with l2
  injection l2 with _ _ l2
  injection l2
end
/-- the law's promise over data -/
def sp_law (K : PySem.W.Frag) : Spec := fun ds S Kt _ => ∃ ns : List Int, ds = [.sq K ns] ∧ ns.length ≤ 63 ∧ (∀ z ∈ ns, Builtin.Int.intBits z ≤ 1048576) ∧ S = [] ∧ ∀ S', Kt (.bl true) S'
theorem len_law {K : PySem.W.Frag} {ds S Kt X} (h : sp_law K ds S Kt X) : ds.length = 1 := by
  obtain ⟨ns, rfl, _⟩ := h
  rfl
theorem start_law {K : PySem.W.Frag} {H : Hp} {a : Addr} {ns : List Int} (hl : ns.length ≤ 63) (hb : ∀ z ∈ ns, Builtin.Int.intBits z ≤ 1048576) (hS : SqL K H a (ns.map V.int)) : spOf (sp_law K) [.ref a] H (fun v _ => v = .bl true) fun _ _ _ => False := by
  refine ⟨[.sq K ns], fun v d => v = .ref a ∧ d = .sq K ns, [], [], fun d _ => d = .bl true, fun _ _ => False, ⟨⟨rfl, rfl⟩, True.intro⟩, ⟨[], rfl, List.nodup_nil, fun n a d e => by simp at e, fun p hp => (List.not_mem_nil hp).elim, fun v d h => ?_⟩, ⟨ns, rfl, hl, hb, rfl, fun _ => rfl⟩, ?_, fun _ _ _ _ _ _ _ _ h => h.elim⟩
  · obtain ⟨rfl, rfl⟩ := h
    simp only [RD]
    refine ⟨a, rfl, ?_⟩
    rcases hS with h | h
    · exact .inl ⟨List.not_mem_nil, h⟩
    · exact .inr (.inr h)
  · intro v d L' H' S' _ hp hs hk
    obtain ⟨rho, x⟩ := hs
    have q := x.rd _ _ hp
    rw [hk] at q
    simp only [RD] at q
    exact q
end DL
/-! SB: the promises of the laws' common defs: the bag, draws, same. -/
namespace DL
open PySem L2
/-- the bag of numbers that a law draws from -/
def IsBag (d : Dat) : Prop := ∃ (ns : List Int) (i r m c : Int), d = .lst [.lst (ns.map Dat.int), .int i, .int r, .int m, .int c] ∧ ns.length ≤ 63 ∧ 0 ≤ i ∧ 0 ≤ r ∧ 0 ≤ m ∧ m < 2147483629
def sp_law_bag (K : PySem.W.Frag) : Spec := fun ds S Kt _ => ∃ ns : List Int, ds = [.sq K ns] ∧ ns.length ≤ 63 ∧ ∀ bag, IsBag bag → Kt (.cell S.length) (S ++ [bag])
def sp_law_pull (K : PySem.W.Frag) : Spec := fun ds S Kt _ => ∃ (b : Nat) (n : Int) (bag : Dat), ds = [.cell b, .int n] ∧ 0 < n ∧ n < 1073741824 ∧ S[b]? = some bag ∧ IsBag bag ∧ ∀ (k : Nat) bag', (k : Int) < n → IsBag bag' → Kt (.int k) (S.set b bag')
/-- what one draws from -/
def drawn (S : Store) (d : Dat) (xs : List Dat) : Prop := (∃ z : Str, d = .str z ∧ z.length ≤ sizeLine ∧ xs = z.cps.toList.map fun c => .str (sgn c)) ∨ ((∀ z, d ≠ .str z) ∧ seqD S d = some xs)
def sp_law_of (K : PySem.W.Frag) : Spec := fun ds S Kt _ => ∃ (b : Nat) (d : Dat) (xs : List Dat) (bag : Dat), ds = [.cell b, d] ∧ drawn S d xs ∧ (∀ bag', IsBag bag' → drawn (S.set b bag') d xs) ∧ 0 < xs.length ∧ xs.length < 1073741824 ∧ S[b]? = some bag ∧ IsBag bag ∧
  ∀ (k : Nat) x bag', xs[k]? = some x → IsBag bag' → Kt x (S.set b bag')
/-- x and y are the same data, to the depth n -/
def SameD (S : Store) : Nat → Dat → Dat → Prop
  | 0, _, _ => False
  | n + 1, x, y => (y = .non ∧ x = .non) ∨ (∃ b, y = .bl b ∧ x = .bl b) ∨ (∃ b, y = .int b ∧ x = .int b) ∨ (∃ b, y = .str b ∧ x = .str b) ∨
    (∃ xs ys, x = .tup xs ∧ y = .tup ys ∧ xs.length = ys.length ∧ xs.length ≤ sizeLine ∧ ∀ (i : Nat) a b, xs[i]? = some a → ys[i]? = some b → SameD S n a b) ∨
    (∃ xs ys, lstD S x = some xs ∧ lstD S y = some ys ∧ xs.length = ys.length ∧ xs.length ≤ sizeLine ∧ ∀ (i : Nat) a b, xs[i]? = some a → ys[i]? = some b → SameD S n a b)
def sp_law_same (K : PySem.W.Frag) : Nat → Spec
  | 0 => fun _ _ _ _ => False
  | n + 1 => fun ds S Kt _ => ∃ x y, ds = [x, y] ∧ SameD S (n + 1) x y ∧ Kt (.bl true) S
theorem len_law_bag {K : PySem.W.Frag} {ds S Kt X} (h : sp_law_bag K ds S Kt X) : ds.length = 1 := by obtain ⟨_, rfl, _⟩ := h; rfl
theorem len_law_pull {K : PySem.W.Frag} {ds S Kt X} (h : sp_law_pull K ds S Kt X) : ds.length = 2 := by obtain ⟨_, _, _, rfl, _⟩ := h; rfl
theorem len_law_of {K : PySem.W.Frag} {ds S Kt X} (h : sp_law_of K ds S Kt X) : ds.length = 2 := by obtain ⟨_, _, _, _, rfl, _⟩ := h; rfl
theorem len_law_same {K : PySem.W.Frag} {n : Nat} {ds S Kt X} (h : sp_law_same K (n + 1) ds S Kt X) : ds.length = 2 := by obtain ⟨_, _, rfl, _⟩ := h; rfl
end DL
namespace DL
open PySem L2
def u_law_bag (K : PySem.W.Frag) : US :=
  (uSeq (uSet 1 (uC (.int 5632)))
    (uSeq (uFor (uSeqI (uSlQ K (uVar 0) uNo (uPart (uC (.int 63))))) (uName 2) (uSet 1 (uOp gMod (uCB gInt1 (uCons (uOp gAdd (uOp gAdd (uOp gMul (uVar 1) (uC (.int 48271))) (uOp gMul (uOp gMod (uCB gInt1 (uCons (uVar 2) uNil)) (uC (.int 1000003))) (uC (.int 911)))) (uC (.int 7))) uNil)) (uC (.int 2147483629)))))
    (uRet (uLstC (uCons (uCB gListT (uCons (uSlQ K (uVar 0) uNo (uPart (uC (.int 63)))) uNil)) (uCons (uC (.int 0)) (uCons (uC (.int 0)) (uCons (uVar 1) (uCons (uC (.int 0)) uNil)))))))))
def u_law_pull (K : PySem.W.Frag) : US :=
  (uSeq (uAsg (uOp gAdd (uOp gIx (uVar 0) (uC (.int 4))) (uC (.int 1))) (uGSub (uVar 0) (uC (.int 4)) gSetL))
    (uSeq (uIfS (uAnd (uTest (uOp gEq (uOp gIx (uVar 0) (uC (.int 2))) (uC (.int 0)))) (uTest (uOp gLt (uOp gIx (uVar 0) (uC (.int 1))) (uCB gLen (uCons (uOp gIx (uVar 0) (uC (.int 0))) uNil))))) (uSeq (uSet 2 (uOp gIx (uOp gIx (uVar 0) (uC (.int 0))) (uOp gIx (uVar 0) (uC (.int 1)))))
    (uSeq (uAsg (uOp gAdd (uOp gIx (uVar 0) (uC (.int 1))) (uC (.int 1))) (uGSub (uVar 0) (uC (.int 1)) gSetL))
    (uIfS (uTest (uOp gGe (uCB gAbs (uCons (uVar 2) uNil)) (uOp gPow (uC (.int 10)) (uC (.int 18))))) (uAsg (uCB gAbs (uCons (uVar 2) uNil)) (uGSub (uVar 0) (uC (.int 2)) gSetL)) (uAsg (uOp gMod (uCB gInt1 (uCons (uOp gAdd (uOp gAdd (uOp gMul (uOp gIx (uVar 0) (uC (.int 3))) (uC (.int 40692))) (uOp gMul (uOp gMod (uCB gInt1 (uCons (uVar 2) uNil)) (uC (.int 1000003))) (uC (.int 613)))) (uC (.int 11))) uNil)) (uC (.int 2147483629))) (uGSub (uVar 0) (uC (.int 3)) gSetL))))) uNext)
    (uSeq (uIfS (uTest (uOp gGt (uOp gIx (uVar 0) (uC (.int 2))) (uC (.int 0)))) (uSeq (uSet 3 (uOp gMod (uCB gInt1 (uCons (uOp gIx (uVar 0) (uC (.int 2))) uNil)) (uVar 1)))
    (uSeq (uAsg (uOp gFdiv (uOp gIx (uVar 0) (uC (.int 2))) (uVar 1)) (uGSub (uVar 0) (uC (.int 2)) gSetL))
    (uRet (uVar 3)))) uNext)
    (uSeq (uSet 4 (uOp gMod (uCB gInt1 (uCons (uOp gAdd (uOp gMul (uOp gIx (uVar 0) (uC (.int 3))) (uOp gIx (uVar 0) (uC (.int 3)))) (uOp gMul (uOp gIx (uVar 0) (uC (.int 4))) (uC (.int 7919)))) uNil)) (uC (.int 2147483587))))
    (uSeq (uAsg (uOp gMod (uCB gInt1 (uCons (uOp gAdd (uOp gAdd (uOp gMul (uVar 4) (uC (.int 16807))) (uOp gMul (uOp gIx (uVar 0) (uC (.int 3))) (uC (.int 69621)))) (uC (.int 12345))) uNil)) (uC (.int 2147483629))) (uGSub (uVar 0) (uC (.int 3)) gSetL))
    (uRet (uOp gMod (uCB gInt1 (uCons (uOp gFdiv (uOp gIx (uVar 0) (uC (.int 3))) (uC (.int 64))) uNil)) (uVar 1))))))))
def u_law_of (K : PySem.W.Frag) : US :=
  (uRet (uOp gIx (uVar 1) (uCall (sp_law_pull K) [] (uCons (uVar 0) (uCons (uCB gLen (uCons (uVar 1) uNil)) uNil)))))
def u_law_same (K : PySem.W.Frag) (F : Spec) : US :=
  (uSeq (uIfS (uTru (uCB (gIsi K) (uCons (uVar 1) (uCons (uTup (uCons (uC (.raw (.ty "list"))) (uCons (uC (.raw (.ty "tuple"))) uNil))) uNil)))) (uSeq (uIfS (uOr (uTest (uOp gNe (uCB (gIsi K) (uCons (uVar 0) (uCons (uC (.raw (.ty "list"))) uNil))) (uCB (gIsi K) (uCons (uVar 1) (uCons (uC (.raw (.ty "list"))) uNil))))) (uTest (uOp gNe (uCB (gIsi K) (uCons (uVar 0) (uCons (uC (.raw (.ty "tuple"))) uNil))) (uCB (gIsi K) (uCons (uVar 1) (uCons (uC (.raw (.ty "tuple"))) uNil)))))) (uRet (uC (.bl false))) uNext)
    (uRet (uAndV (uOp gEq (uCB gLen (uCons (uVar 0) uNil)) (uCB gLen (uCons (uVar 1) uNil))) (uCB (gBools fun bs => bs.all id) (uCons (uLc (uZ (uCons (uVar 0) (uCons (uVar 1) uNil))) [2, 3] (uGTup 2 (uGCons (uName 2) (uGCons (uName 3) uGNil))) uYes (uCall F [] (uCons (uVar 2) (uCons (uVar 3) uNil)))) uNil))))) uNext)
    (uSeq (uIfS (uOr (uTest (uOp (gIs id) (uVar 1) (uC .non))) (uTest (uOp (gIs id) (uVar 0) (uC .non)))) (uRet (uAndV (uOp (gIs id) (uVar 1) (uC .non)) (uOp (gIs id) (uVar 0) (uC .non)))) uNext)
    (uSeq (uIfS (uOr (uTest (uOp gNe (uCB (gIsi K) (uCons (uVar 1) (uCons (uC (.raw (.ty "bool"))) uNil))) (uCB (gIsi K) (uCons (uVar 0) (uCons (uC (.raw (.ty "bool"))) uNil))))) (uTest (uOp gNe (uCB (gIsi K) (uCons (uVar 1) (uCons (uC (.raw (.ty "int"))) uNil))) (uCB (gIsi K) (uCons (uVar 0) (uCons (uC (.raw (.ty "int"))) uNil)))))) (uRet (uC (.bl false))) uNext)
    (uRet (uAndV (uOp gEq (uCB (gIsi K) (uCons (uVar 1) (uCons (uC (.raw (.ty "str"))) uNil))) (uCB (gIsi K) (uCons (uVar 0) (uCons (uC (.raw (.ty "str"))) uNil)))) (uOp gEq (uVar 0) (uVar 1)))))))
end DL
namespace DL
open PySem L2
local macro_rules | `(tactic| walk_at "e1") => `(tactic| with_reducible first
  | refine x_var rfl ?_ | refine x_c ?_ | refine x_op ?_ | refine x_un ?_ | refine x_nil ?_ | refine x_cons ?_ | refine x_tup ?_ | refine x_lst ?_ | refine x_lstC ?_ | refine x_cb ?_ | refine x_call ?_ | refine x_if ?_
  | refine x_test ?_ | refine x_and ?_ | refine x_or ?_ | refine x_not ?_ | refine x_tru ?_ | refine x_andV ?_ | refine x_orV ?_ | refine x_notV ?_ | refine x_yes ?_ | refine x_chain ?_
  | refine x_bm ?_ | refine x_bm0 ?_ | refine x_part ?_ | refine x_no ?_ | refine x_sl ?_ | refine x_seqI ?_ | refine x_r1 ?_ | refine x_r2 ?_ | refine x_z ?_ | refine x_lc ?_ | refine x_lcC ?_ | refine x_lcW ?_)
local macro_rules | `(tactic| walk_at "s1") => `(tactic| with_reducible first
  | refine x_seq ?_ | refine x_next ?_ | refine x_break ?_ | refine x_cont ?_ | refine x_drop ?_ | refine x_ret ?_ | refine x_retN ?_ | refine x_ifS ?_ | refine x_set ?_ | refine x_asg ?_ | refine x_par ?_ | refine x_gsub ?_ | refine x_gnil ?_ | refine x_gcons ?_)
local macro_rules | `(tactic| walk_at "g1") => `(tactic| first
  | with_reducible refine x_iteT ?_ | with_reducible refine x_iteF ?_ | with_reducible refine x_tN ?_ | with_reducible refine x_tB ?_ | with_reducible refine x_tI ?_ | with_reducible refine x_tT ?_ | with_reducible refine x_tL ?_
  | with_reducible refine x_addI ?_ | with_reducible refine x_sub ?_ | with_reducible refine x_ltI ?_ | with_reducible refine x_leI ?_ | with_reducible refine x_gtI ?_ | with_reducible refine x_geI ?_ | with_reducible refine x_ltS ?_ | with_reducible refine x_leS ?_ | with_reducible refine x_gtS ?_ | with_reducible refine x_geS ?_
  | with_reducible refine x_eqI ?_ | with_reducible refine x_eqS ?_ | with_reducible refine x_eqB ?_ | with_reducible refine x_neI ?_ | with_reducible refine x_neS ?_ | with_reducible refine x_neB ?_ | with_reducible refine x_neg ?_
  | with_reducible refine x_inS ?_ | with_reducible refine x_notinS ?_ | with_reducible refine x_intI ?_ | with_reducible refine x_intB ?_ | with_reducible refine x_abs ?_ | with_reducible refine x_slL ?_
  | ((with_reducible refine x_is ?_ ?_); · rfl) | ((with_reducible refine x_isnot ?_ ?_); · rfl) | ((with_reducible refine x_isiD ?_ ?_ ?_); (next => rfl); (next => decide)) | ((with_reducible refine x_isiD2 ?_ ?_ ?_ ?_); (next => rfl); (next => decide); (next => decide)) | ((with_reducible refine x_name ?_ ?_); · exact of_decide_eq_true rfl) | ((with_reducible refine x_gtup ?_ ?_); · rfl))
local macro_rules | `(tactic| walk_at "d") => `(tactic| repeat (first | walk_at "e1" | walk_at "s1" | walk_at "g1" | ((with_reducible refine x_putL ?_ ?_); · rfl) | ((with_reducible refine x_szL ?_ ?_); · rfl) | dsimp only [List.set_cons_succ, List.set_cons_zero]))
local macro_rules | `(tactic| walk_at "i") => `(tactic| repeat (first | walk_at "e1" | walk_at "s1" | walk_at "g1" | ((with_reducible refine x_putL ?_ ?_); · rfl) | ((with_reducible refine x_szL ?_ ?_); · rfl) | ((with_reducible refine x_iteT2 ?_ ?_); · rfl) | ((with_reducible refine x_iteF2 ?_ ?_); · rfl) | dsimp only [List.set_cons_succ, List.set_cons_zero]))
theorem bag_below {n : Nat} {d : Dat} (h : IsBag d) : below n d := by
  obtain ⟨ns, i, r, m, c, rfl, _⟩ := h
  simp only [below, belows, true_and, and_true]
  exact below_ints ns
theorem drawn_below {S : Store} {d x : Dat} {xs : List Dat} {j : Nat} (h : drawn S d xs) (hS : belows S.length S) (hd : below S.length d) (hx : xs[j]? = some x) : below S.length x := by
  rcases h with ⟨z, rfl, hl, rfl⟩ | ⟨hn, h⟩
  · rw [List.getElem?_map] at hx
    obtain ⟨c, _, rfl⟩ := Option.map_eq_some_iff.mp hx
    simp only [below]
  · have hm := List.mem_of_getElem? hx
    cases d with
    | lst ys => simp only [seqD, Option.some.injEq] at h; subst h; simp only [below] at hd; exact belows_mem hd hm
    | tup ys => simp only [seqD, Option.some.injEq] at h; subst h; simp only [below] at hd; exact belows_mem hd hm
    | cell m =>
      simp only [seqD] at h
      split at h
      · rename_i zs e
        injection h with h
        subst h
        have := belows_mem hS (List.mem_of_getElem? e)
        simp only [below] at this
        exact belows_mem this hm
      · cases h
    | _ => simp [seqD] at h
theorem drawn_len {S : Store} {d : Dat} {xs : List Dat} (h : drawn S d xs) {K : KE} (k : K (.int xs.length) S) : gLen [d] S K := by
  rcases h with ⟨z, rfl, hl, rfl⟩ | ⟨hn, h⟩
  · refine x_lenS hl ?_
    rw [List.length_map] at k
    exact k
  · refine x_lenL h k
theorem drawn_ix {S : Store} {d x : Dat} {xs : List Dat} (h : drawn S d xs) {k : Nat} (e : xs[k]? = some x) {K : KE} (q : K x S) : gIx d (.int k) S K := by
  have hk := (List.getElem?_eq_some_iff.mp e).1
  rcases h with ⟨z, rfl, hl, rfl⟩ | ⟨hn, h⟩
  · rw [List.getElem?_map] at e
    obtain ⟨c, e2, rfl⟩ := Option.map_eq_some_iff.mp e
    refine x_ixS hl (c := c) ?_ q
    unfold atI ixN
    rw [if_pos (Int.natCast_nonneg k), if_pos (by have := (List.getElem?_eq_some_iff.mp e2).1; omega)]
    exact e2
  · refine x_ixL h ?_ q
    unfold atI ixN
    rw [if_pos (Int.natCast_nonneg k), if_pos (by omega)]
    simpa using e
theorem r_law_of {KF : PySem.W.Frag} {ds S K X} (h : sp_law_of KF ds S K X) (hb : belows S.length ds) (hS : belows S.length S) : u_law_of KF (endsOf S K X) (startD ["_law_bag_here", "_law_some"] ds) S := by
  obtain ⟨b, d, xs, bag, rfl, hd, hd2, h0, hn, hbag, hB, k⟩ := h
  have hbl : b < S.length := (List.getElem?_eq_some_iff.mp hbag).1
  show u_law_of KF (endsOf S K X) [some (.cell b), some d] S
  unfold u_law_of
  walk_at "d"
  refine drawn_len hd ?_
  walk_at "d"
  refine ⟨b, _, bag, rfl, by omega, by omega, hbag, hB, fun j bag' hj hB' => ?_⟩
  obtain ⟨x, hx⟩ : ∃ x, xs[j]? = some x := ⟨xs[j]'(by omega), List.getElem?_eq_getElem (by omega)⟩
  refine drawn_ix (hd2 bag' hB') hx ?_
  refine x_rtE ?_
  refine exit_set0 hS ?_ ?_ (k j x bag' hx hB')
  · exact bag_below hB'
  · exact drawn_below hd hS (by simp only [belows] at hb; exact hb.2.1) hx
theorem cutV_int (ns : List Int) (l h : Option Int) : ∃ ms : List Int, cutV (ns.map V.int) l h = ms.map V.int ∧ ms.length ≤ ns.length := by
  unfold cutV
  refine ⟨(ns.drop (HT.sIx (ns.map V.int).length 0 l)).take (HT.sIx (ns.map V.int).length (ns.map V.int).length h - HT.sIx (ns.map V.int).length 0 l), ?_, ?_⟩
  · rw [List.map_take, List.map_drop]
  · rw [List.length_take, List.length_drop]; omega
theorem r_law_bag {KF : PySem.W.Frag} {ds S K X} (h : sp_law_bag KF ds S K X) (hb : belows S.length ds) (hS : belows S.length S) : u_law_bag KF (endsOf S K X) (startD ["_law_script", "_law_mixed", "_law_cell"] ds) S := by
  obtain ⟨ns, rfl, hl, k⟩ := h
  show u_law_bag KF (endsOf S K X) [some (.sq KF ns), none, none] S
  obtain ⟨ms, hms, hml⟩ := cutV_int ns none (some 63)
  unfold u_law_bag
  walk_at "d"
  refine x_for ?_
  walk_at "d"
  refine x_slQ ?_
  walk_at "d"
  refine ⟨ns, ms, rfl, hms, ms.map Dat.int, rfl, fun j dl1 S1 => S1 = S ∧ ∃ m x2, dl1 = [some (.sq KF ns), some (.int m), x2] ∧ 0 ≤ m ∧ m < 2147483629, ⟨rfl, 5632, none, rfl, by decide, by decide⟩, ?_, ?_⟩
  · rintro j d dl1 S2 hj ⟨rfl, m, x2, rfl, hm, hm2⟩
    rw [List.getElem?_map] at hj
    obtain ⟨c, _, rfl⟩ := Option.map_eq_some_iff.mp hj
    refine ⟨rfl, ?_⟩
    walk_at "d"
    refine x_mul (.inr ⟨by decide, by decide⟩) ?_
    walk_at "d"
    refine x_mod (by decide) ?_
    walk_at "d"
    refine x_mul (.inr ⟨by decide, by decide⟩) ?_
    walk_at "d"
    refine x_mod (by decide) ?_
    walk_at "d"
    exact .inl ⟨rfl, _, _, rfl, Int.emod_nonneg _ (by decide), Int.emod_lt_of_pos _ (by decide)⟩
  · rintro dl1 S2 ⟨rfl, m, x2, rfl, hm, hm2⟩
    refine ⟨rfl, ?_⟩
    walk_at "d"
    refine x_slQ ?_
    walk_at "d"
    refine ⟨ns, ms, rfl, hms, ?_⟩
    walk_at "d"
    refine x_list rfl ?_
    walk_at "d"
    refine x_rtE ?_
    have hB : IsBag (.lst [.lst (ms.map Dat.int), .int 0, .int 0, .int m, .int 0]) := ⟨ms, 0, 0, m, 0, rfl, by omega, by decide, by decide, hm, hm2⟩
    exact exit_new hS (bag_below hB) (k _ hB)
section
variable {S : Store} {K : KE} {b : Nat} {d p q r s t : Dat}
theorem x_ixB {xs : List Dat} {m : Int} (hb : b < S.length) (h : atI xs m = some d) (k : K d (S.set b (.lst xs))) : gIx (.cell b) (.int m) (S.set b (.lst xs)) K :=
  x_ixL (xs := xs) (by simp [seqD, hb]) h k
theorem x_set4 {KS : Store → Prop} (hb : b < S.length) (k : KS (S.set b (.lst [p, q, r, s, d]))) : gSetL (.cell b) (.int 4) d (S.set b (.lst [p, q, r, s, t])) KS :=
  x_setL (xs := [p, q, r, s, t]) (j := 4) (by simp [hb]) rfl (by rw [List.set_set]; exact k)
theorem x_set3 {KS : Store → Prop} (hb : b < S.length) (k : KS (S.set b (.lst [p, q, r, d, t]))) : gSetL (.cell b) (.int 3) d (S.set b (.lst [p, q, r, s, t])) KS :=
  x_setL (xs := [p, q, r, s, t]) (j := 3) (by simp [hb]) rfl (by rw [List.set_set]; exact k)
theorem x_set2 {KS : Store → Prop} (hb : b < S.length) (k : KS (S.set b (.lst [p, q, d, s, t]))) : gSetL (.cell b) (.int 2) d (S.set b (.lst [p, q, r, s, t])) KS :=
  x_setL (xs := [p, q, r, s, t]) (j := 2) (by simp [hb]) rfl (by rw [List.set_set]; exact k)
theorem x_set1 {KS : Store → Prop} (hb : b < S.length) (k : KS (S.set b (.lst [p, d, r, s, t]))) : gSetL (.cell b) (.int 1) d (S.set b (.lst [p, q, r, s, t])) KS :=
  x_setL (xs := [p, q, r, s, t]) (j := 1) (by simp [hb]) rfl (by rw [List.set_set]; exact k)
theorem set_self {S : Store} {b : Nat} {d : Dat} (h : S[b]? = some d) : S = S.set b d := by
  obtain ⟨hb, e⟩ := List.getElem?_eq_some_iff.mp h
  apply List.ext_getElem?
  intro i
  by_cases hi : b = i
  · subst hi; rw [h, List.getElem?_set_self hb]
  · rw [List.getElem?_set_ne hi]
end
theorem cmul_l {i j : Int} (h : 0 ≤ i) (h2 : i < 2147483629) : CMul i j := .inl ⟨Int.lt_of_lt_of_le (by decide) h, Int.lt_trans h2 (by decide)⟩
theorem exit_bag {S : Store} {K : KE} {b : Nat} {n j i' r' m' c' : Int} {ns : List Int} (hS : belows S.length S) (k : ∀ (k : Nat) (bag' : Dat), (k : Int) < n → IsBag bag' → K (Dat.int k) (List.set S b bag')) (hl : ns.length ≤ 63) (h0 : 0 < n) (hj : 0 ≤ j) (hjn : j < n) (hi' : 0 ≤ i') (hr' : 0 ≤ r') (hm' : 0 ≤ m') (hm2' : m' < 2147483629) :
    ExitTo S K (.int j) (S.set b (.lst [.lst (ns.map Dat.int), .int i', .int r', .int m', .int c'])) := by
  refine exit_set0 hS ?_ (by simp only [below]) ?_
  · simp only [below, belows, true_and, and_true]; exact below_ints ns
  · have := k j.toNat _ (by omega) ⟨ns, i', r', m', c', rfl, hl, hi', hr', hm', hm2'⟩
    rwa [Int.toNat_of_nonneg hj] at this
local macro_rules | `(tactic| walk_at "b") => `(tactic| repeat (first | walk_at "e1" | walk_at "s1" | walk_at "g1" | ((with_reducible refine x_mul ?_ ?_); · first | exact Or.inr ⟨by decide, by decide⟩ | exact cmul_l (by assumption) (by assumption)) | ((with_reducible refine x_mod ?_ ?_); · first | assumption | decide) | ((with_reducible refine x_fdiv ?_ ?_); · first | exact ⟨by decide, by decide⟩ | exact ⟨by assumption, by assumption⟩) | with_reducible refine x_ixB (by assumption) rfl ?_ | with_reducible refine x_set4 (by assumption) ?_ | with_reducible refine x_set3 (by assumption) ?_ | with_reducible refine x_set2 (by assumption) ?_ | with_reducible refine x_set1 (by assumption) ?_ | ((with_reducible refine x_putL ?_ ?_); · rfl) | ((with_reducible refine x_szL ?_ ?_); · rfl) | dsimp only [List.set_cons_succ, List.set_cons_zero]))
local macro_rules | `(tactic| walk_at "tail") => `(tactic| (
  refine x_ite (fun e9 => ?_) (fun e9 => ?_)
  · walk_at "b"
    refine x_rtE ?_
    refine exit_bag (by assumption) (by assumption) (by assumption) (by assumption) (Int.emod_nonneg _ (by omega)) (Int.emod_lt_of_pos _ (by assumption)) (by assumption) (Int.ediv_nonneg (by assumption) (by omega)) (by assumption) (by assumption)
  · walk_at "b"
    refine x_rtE ?_
    refine exit_bag (by assumption) (by assumption) (by assumption) (by assumption) (Int.emod_nonneg _ (by omega)) (Int.emod_lt_of_pos _ (by assumption)) (by assumption) (by assumption) (Int.emod_nonneg _ (by decide)) (Int.emod_lt_of_pos _ (by decide))))
theorem r_law_pull {KF : PySem.W.Frag} {ds S K X} (h : sp_law_pull KF ds S K X) (hb : belows S.length ds) (hS : belows S.length S) : u_law_pull KF (endsOf S K X) (startD ["_law_bag_here", "_law_sides", "_law_cell", "_law_digit", "_law_twice"] ds) S := by
  obtain ⟨b, n, bag, rfl, h0, hn, hbag, ⟨ns, i, r, m, c, rfl, hl, hi, hr, hm, hm2⟩, k⟩ := h
  have hbl : b < S.length := (List.getElem?_eq_some_iff.mp hbag).1
  have key : ∀ S1 : Store, S1 = S.set b (.lst [.lst (ns.map Dat.int), .int i, .int r, .int m, .int c]) → u_law_pull KF (endsOf S K X) [some (.cell b), some (.int n), none, none, none] S1 := by
    rintro S1 rfl
    unfold u_law_pull
    walk_at "b"
    refine x_ite (fun e => ?_) (fun e => ?_)
    · walk_at "b"
      refine x_lenL rfl ?_
      walk_at "b"
      refine x_ite (fun e2 => ?_) (fun e2 => ?_)
      · walk_at "b"
        have hin : i < ns.length := by simpa using of_decide_eq_true e2
        obtain ⟨q, hq⟩ : ∃ q, ns[i.toNat]? = some q := ⟨ns[i.toNat]'(by omega), List.getElem?_eq_getElem (by omega)⟩
        have hat : atI (ns.map Dat.int) i = some (.int q) := by
          unfold atI ixN
          rw [if_pos hi, if_pos (by simpa using hin)]
          rw [Option.bind_some, List.getElem?_map, hq]; rfl
        refine x_ixL (xs := ns.map Dat.int) (d := .int q) rfl hat ?_
        walk_at "b"
        refine x_pow (m := 10) (n := 18) ⟨by decide, by decide, by decide⟩ ?_
        walk_at "b"
        refine x_ite (fun e3 => ?_) (fun e3 => ?_)
        · walk_at "b"
          have hr2 : (0 : Int) ≤ (if q < 0 then -q else q) := by split <;> omega
          generalize (if q < 0 then -q else q) = r2 at hr2
          have hi2 : 0 ≤ i + 1 := by omega
          generalize i + 1 = i2 at hi2
          walk_at "tail"
        · walk_at "b"
          have hi2 : 0 ≤ i + 1 := by omega
          generalize i + 1 = i2 at hi2
          have hm3 := Int.emod_nonneg (m * 40692 + q % 1000003 * 613 + 11) (b := 2147483629) (by decide)
          have hm4 := Int.emod_lt_of_pos (m * 40692 + q % 1000003 * 613 + 11) (b := 2147483629) (by decide)
          generalize (m * 40692 + q % 1000003 * 613 + 11) % 2147483629 = m2 at hm3 hm4
          walk_at "b"
          walk_at "tail"
      · walk_at "b"
        walk_at "tail"
    · walk_at "b"
      walk_at "tail"
  exact key S (set_self hbag)
theorem lstD_cases {S : Store} {x : Dat} {xs : List Dat} (h : lstD S x = some xs) : x = .lst xs ∨ ∃ n, x = .cell n ∧ S[n]? = some (.lst xs) := by
  have e := lstD_view h
  cases x with
  | lst ys => left; simp only [view, Option.some.injEq, Dat.lst.injEq] at e; rw [e]
  | cell n => right; exact ⟨n, rfl, e⟩
  | tup ys => simp [view] at e
  | _ => simp [view] at e
theorem lstD_ty {S : Store} {x : Dat} {xs : List Dat} (h : lstD S x = some xs) : tyS S x = some "list" := by
  rcases lstD_cases h with rfl | ⟨n, rfl, e⟩
  · rfl
  · simp [tyS, e]
theorem lstD_seq {S : Store} {x : Dat} {xs : List Dat} (h : lstD S x = some xs) : seqD S x = some xs := by
  rcases lstD_cases h with rfl | ⟨n, rfl, e⟩
  · rfl
  · simp [seqD, e]
theorem lstD_draw {S : Store} {x : Dat} {xs : List Dat} (h : lstD S x = some xs) : drawD S x = some xs := by
  rcases lstD_cases h with rfl | ⟨n, rfl, e⟩
  · rfl
  · simp [drawD, seqD, e]
theorem lstD_raw {S : Store} {x : Dat} {xs : List Dat} (h : lstD S x = some xs) : noRaw x = true := by
  rcases lstD_cases h with rfl | ⟨n, rfl, e⟩ <;> rfl
theorem sp_same_of {KF : PySem.W.Frag} {n : Nat} {a b : Dat} {S : Store} {Kt : KE} {X : KX} (h : SameD S n a b) (k : Kt (.bl true) S) : sp_law_same KF n [a, b] S Kt X := by
  cases n with
  | zero => exact h.elim
  | succ n => exact ⟨a, b, rfl, h, k⟩
theorem same_lists {KF : PySem.W.Frag} {n : Nat} {S : Store} {K : KE} {X : KX} {x y : Dat} {xs ys : List Dat} (ex : seqD S x = some xs) (ey : seqD S y = some ys) (dx : drawD S x = some xs) (dy : drawD S y = some ys) (hl : xs.length = ys.length) (hs : xs.length ≤ sizeLine) (h : ∀ (i : Nat) a b, xs[i]? = some a → ys[i]? = some b → SameD S n a b)
    (hbt : ∀ b : Bool, below S.length (.bl b)) (k : K (.bl true) S) : (uRet (uAndV (uOp gEq (uCB gLen (uCons (uVar 0) uNil)) (uCB gLen (uCons (uVar 1) uNil))) (uCB (gBools fun bs => bs.all id) (uCons (uLc (uZ (uCons (uVar 0) (uCons (uVar 1) uNil))) [2, 3] (uGTup 2 (uGCons (uName 2) (uGCons (uName 3) uGNil))) uYes (uCall (sp_law_same KF n) [] (uCons (uVar 2) (uCons (uVar 3) uNil)))) uNil)))) (endsOf S K X) [some x, some y, none, none] S := by
  walk_at "i"
  refine x_lenL ex ?_
  walk_at "i"
  refine x_lenL ey ?_
  walk_at "i"
  refine x_iteT2 (by simp [hl]) ?_
  walk_at "i"
  refine ⟨xs, ys, dx, dy, ?_⟩
  refine lc_map (fun _ => .bl true) ⟨dx, dy⟩ (by unfold pairs; rw [List.length_zipWith]; omega) (fun j d Kt Kf hj hk => ?_) ?_
  · unfold pairs at hj
    rw [List.getElem?_zipWith] at hj
    obtain ⟨a, b, ea, eb, rfl⟩ : ∃ a b, xs[j]? = some a ∧ ys[j]? = some b ∧ d = .tup [a, b] := by
      cases ea : xs[j]? with
      | none => simp [ea] at hj
      | some a =>
        cases eb : ys[j]? with
        | none => simp [ea, eb] at hj
        | some b => simp [ea, eb] at hj; exact ⟨a, b, rfl, rfl, hj.symm⟩
    dsimp only [wipeD, List.set_cons_succ, List.set_cons_zero]
    walk_at "i"
    exact sp_same_of (h j a b ea eb) hk
  · walk_at "i"
    refine x_bools (bs := (pairs xs ys).map fun _ => true) (by simp [lstD, view, List.map_map, Function.comp_def]) ?_
    refine x_rtE ?_
    have e : ((pairs xs ys).map fun _ => true).all id = true := by simp
    show ExitTo S K (.bl (((pairs xs ys).map fun _ => true).all id)) S
    rw [e]
    exact exit_here (by simp only [below]) k
theorem r_law_same {KF : PySem.W.Frag} {n : Nat} {ds S K X} (h : sp_law_same KF (n + 1) ds S K X) (hb : belows S.length ds) (hS : belows S.length S) : u_law_same KF (sp_law_same KF n) (endsOf S K X) (startD ["_law_found", "_law_due", "_law_a", "_law_b"] ds) S := by
  obtain ⟨x, y, rfl, h, k⟩ := h
  show u_law_same KF (sp_law_same KF n) (endsOf S K X) [some x, some y, none, none] S
  have fin : (endsOf S K X).rt (.bl true) S := exit_here (by simp only [below]) k
  unfold u_law_same
  rcases h with ⟨rfl, rfl⟩ | ⟨b, rfl, rfl⟩ | ⟨b, rfl, rfl⟩ | ⟨b, rfl, rfl⟩ | ⟨xs, ys, rfl, rfl, hl, hs, h⟩ | ⟨xs, ys, ex, ey, hl, hs, h⟩
  · walk_at "i"
    exact fin
  · walk_at "i"
    refine x_rtE ?_
    rw [show decide (b = b) = true from decide_eq_true rfl]
    exact fin
  · walk_at "i"
    refine x_rtE ?_
    rw [show decide (b = b) = true from decide_eq_true rfl]
    exact fin
  · walk_at "i"
    refine x_rtE ?_
    rw [show decide (b = b) = true from decide_eq_true rfl]
    exact fin
  · walk_at "i"
    exact same_lists (x := .tup xs) (y := .tup ys) rfl rfl rfl rfl hl hs h (fun b => by simp only [below]) k
  · walk_at "i"
    refine x_isi2 (lstD_ty ey) (by decide) (by decide) ?_
    walk_at "i"
    refine x_isi (lstD_ty ex) (by decide) ?_
    walk_at "i"
    refine x_isi (lstD_ty ey) (by decide) ?_
    walk_at "i"
    refine x_isi (lstD_ty ex) (by decide) ?_
    walk_at "i"
    refine x_isi (lstD_ty ey) (by decide) ?_
    walk_at "i"
    exact same_lists (lstD_seq ex) (lstD_seq ey) (lstD_draw ex) (lstD_draw ey) hl hs h (fun b => by simp only [below]) k

/-- ascending, each once -/
def ascL : List Nat → Bool
  | a :: b :: r => decide (a < b) && ascL (b :: r)
  | _ => true
abbrev abc : Str := "abcdefghijklmnopqrstuvwxyz"
def sp_ascends (K : PySem.W.Frag) : Spec := fun ds S Kt _ => ∃ z : Str, ds = [.str z] ∧ z.length ≤ 1000000 ∧ Kt (.bl (ascL z.cps.toList)) S
def isAlpha (z : Str) : Bool := decide (1 ≤ z.cps.toList.length) && decide (z.cps.toList.length ≤ 4) && (z.cps.toList.all (fun c => decide (c ∈ abc.cps.toList)) && ascL z.cps.toList)
def notStr (S : Store) (d : Dat) : Prop := ∃ t, tyS S d = some t ∧ t ≠ "str" ∧ t ∈ tyNames
def sp_is_alphabet (K : PySem.W.Frag) : Spec := fun ds S Kt _ => (∃ z : Str, ds = [.str z] ∧ z.length ≤ 1000000 ∧ Kt (.bl (isAlpha z)) S) ∨ ∃ d, ds = [d] ∧ notStr S d ∧ Kt (.bl false) S
def sp_is_word (K : PySem.W.Frag) : Spec := fun ds S Kt _ => ∃ a : Str, (∃ z : Str, ds = [.str a, .str z] ∧ z.length ≤ 1000000 ∧ Kt (.bl (z.cps.toList.all fun c => decide (c ∈ a.cps.toList))) S) ∨ ∃ d, ds = [.str a, d] ∧ notStr S d ∧ Kt (.bl false) S
/-- an alphabet that is drawn -/
def isSigns (z : Str) : Prop := isAlpha z = true
def sp_law_signs (K : PySem.W.Frag) : Spec := fun ds S Kt _ => ∃ (b : Nat) (bag : Dat), ds = [.cell b] ∧ S[b]? = some bag ∧ IsBag bag ∧ ∀ z bag', isSigns z → IsBag bag' → Kt (.str z) (S.set b bag')
def sp_law_text (K : PySem.W.Frag) : Spec := fun ds S Kt _ => ∃ (b : Nat) (bag : Dat) (z : Str) (n : Nat), ds = [.cell b, .str z, .int n] ∧ n ≤ 1000 ∧ 0 < z.cps.toList.length ∧ z.length ≤ 1000 ∧ S[b]? = some bag ∧ IsBag bag ∧ ∀ t : Str, ∀ bag', t.cps.toList.length = n → (∀ c ∈ t.cps.toList, c ∈ z.cps.toList) → IsBag bag' → Kt (.str t) (S.set b bag')
theorem len_ascends {K : PySem.W.Frag} {ds S Kt X} (h : sp_ascends K ds S Kt X) : ds.length = 1 := by obtain ⟨_, rfl, _⟩ := h; rfl
theorem len_is_alphabet {K : PySem.W.Frag} {ds S Kt X} (h : sp_is_alphabet K ds S Kt X) : ds.length = 1 := by rcases h with ⟨_, rfl, _⟩ | ⟨_, rfl, _⟩ <;> rfl
theorem len_is_word {K : PySem.W.Frag} {ds S Kt X} (h : sp_is_word K ds S Kt X) : ds.length = 2 := by obtain ⟨_, ⟨_, rfl, _⟩ | ⟨_, rfl, _⟩⟩ := h <;> rfl
theorem len_law_signs {K : PySem.W.Frag} {ds S Kt X} (h : sp_law_signs K ds S Kt X) : ds.length = 1 := by obtain ⟨_, _, rfl, _⟩ := h; rfl
theorem len_law_text {K : PySem.W.Frag} {ds S Kt X} (h : sp_law_text K ds S Kt X) : ds.length = 3 := by obtain ⟨_, _, _, _, rfl, _⟩ := h; rfl
def u_ascends (K : PySem.W.Frag) : US :=
  (uRet (uCB (gBools fun bs => bs.all id) (uCons (uLc (uZ (uCons (uVar 0) (uCons (uSl (uVar 0) (uPart (uC (.int 1))) uNo) uNil))) [1, 2] (uGTup 2 (uGCons (uName 1) (uGCons (uName 2) uGNil))) uYes (uOp gLt (uVar 1) (uVar 2))) uNil)))
def u_is_alphabet (K : PySem.W.Frag) : US :=
  (uSeq (uIfS (uOr (uNot (uTru (uCB (gIsi K) (uCons (uVar 0) (uCons (uC (.raw (.ty "str"))) uNil))))) (uNot (uTest (uChain gLe gLe (uC (.int 1)) (uCB gLen (uCons (uVar 0) uNil)) (uC (.int 4)))))) (uRet (uC (.bl false))) uNext)
    (uRet (uAndV (uCB (gBools fun bs => bs.all id) (uCons (uLc (uSeqI (uVar 0)) [1] (uName 1) uYes (uOp (gIn id) (uVar 1) (uC (.str "abcdefghijklmnopqrstuvwxyz")))) uNil)) (uCall (sp_ascends K) [] (uCons (uVar 0) uNil)))))
def u_is_word (K : PySem.W.Frag) : US :=
  (uRet (uAndV (uCB (gIsi K) (uCons (uVar 1) (uCons (uC (.raw (.ty "str"))) uNil))) (uCB (gBools fun bs => bs.all id) (uCons (uLc (uSeqI (uVar 1)) [2] (uName 2) uYes (uOp (gIn id) (uVar 2) (uVar 0))) uNil))))
def u_law_signs (K : PySem.W.Frag) : US :=
  (uSeq (uSet 1 (uOp gAdd (uC (.int 1)) (uCall (sp_law_of K) [] (uCons (uVar 0) (uCons (uLst (uCons (uC (.int 0)) (uCons (uC (.int 1)) (uCons (uC (.int 1)) (uCons (uC (.int 1)) (uCons (uC (.int 2)) (uCons (uC (.int 3)) uNil))))))) uNil)))))
    (uSeq (uSet 2 (uLstC uNil))
    (uSeq (uFor (uR1 (uCons (uVar 1) uNil)) (uName 3) (uSeq (uSet 4 (uLc (uSeqI (uC (.str "abcdefghijklmnopqrstuvwxyz"))) [5] (uName 5) (uTest (uOp (gIn (!·)) (uVar 5) (uVar 2))) (uVar 5)))
    (uDrop (uBM "list" gAppend (uVar 2) (uCons (uOp gIx (uVar 4) (uCall (sp_law_of K) [] (uCons (uVar 0) (uCons (uLst (uCons (uC (.int 0)) (uCons (uC (.int 0)) (uCons (uC (.int 0)) (uCons (uCall (sp_law_pull K) [] (uCons (uVar 0) (uCons (uCB gLen (uCons (uVar 4) uNil)) uNil))) uNil))))) uNil)))) uNil)))))
    (uRet (uBM "str" gJoin (uC (.str "")) (uCons (uCB (gSortedS fun xs S K => K (.lst xs) S) (uCons (uVar 2) uNil)) uNil))))))
def u_law_text (K : PySem.W.Frag) : US :=
  (uRet (uBM "str" gJoin (uC (.str "")) (uCons (uLc (uR1 (uCons (uVar 2) uNil)) [3] (uName 3) uYes (uCall (sp_law_of K) [] (uCons (uVar 0) (uCons (uVar 1) uNil)))) uNil)))
def u_law (K : PySem.W.Frag) : US :=
  (uSeq (uSet 1 (uCall (sp_law_bag K) [] (uCons (uVar 0) uNil)))
    (uSeq (uFor (uR1 (uCons (uC (.int 8)) uNil)) (uName 2) (uSeq (uSet 3 (uCall (sp_law_signs K) [] (uCons (uVar 1) uNil)))
    (uSeq (uSet 4 (uLcC (uR1 (uCons (uCall (sp_law_pull K) [] (uCons (uVar 1) (uCons (uC (.int 7)) uNil))) uNil)) [10] (uName 10) uYes (uCall (sp_law_of K) [] (uCons (uVar 1) (uCons (uC (.str "abcdefghijklmnopqrstuvwxyz")) uNil)))))
    (uSeq (uIfS (uTest (uOp gGt (uCall (sp_law_pull K) [] (uCons (uVar 1) (uCons (uC (.int 3)) uNil))) (uC (.int 0)))) (uSet 4 (uCB (gSortedS fun xs S K => K (.cell S.length) (S ++ [.lst xs])) (uCons (uVar 4) uNil))) uNext)
    (uSeq (uIfS (uAnd (uTest (uOp gNe (uVar 4) (uLst uNil))) (uTest (uOp gEq (uCall (sp_law_pull K) [] (uCons (uVar 1) (uCons (uC (.int 4)) uNil))) (uC (.int 0))))) (uAsg (uCall (sp_law_of K) [] (uCons (uVar 1) (uCons (uLst (uCons (uC (.str "A")) (uCons (uC (.str "1")) (uCons (uC (.str " ")) (uCons (uC (.str "_")) (uCons (uC (.str "\n")) (uCons (uOp gIx (uVar 4) (uC (.int 0))) uNil))))))) uNil))) (uGSub (uVar 4) (uCall (sp_law_pull K) [] (uCons (uVar 1) (uCons (uCB gLen (uCons (uVar 4) uNil)) uNil))) gSetL)) uNext)
    (uSeq (uSet 5 (uBM "str" gJoin (uC (.str "")) (uCons (uVar 4) uNil)))
    (uSeq (uSet 6 (uAndV (uChain gLe gLe (uC (.int 1)) (uCB gLen (uCons (uVar 5) uNil)) (uC (.int 4))) (uNotV (uLc (uR2 (uCons (uC (.int 1)) (uCons (uCB gLen (uCons (uVar 5) uNil)) uNil))) [10] (uName 10) (uTest (uOp gLe (uOp gIx (uVar 5) (uVar 10)) (uOp gIx (uVar 5) (uOp gSub (uVar 10) (uC (.int 1)))))) (uVar 10)))))
    (uSeq (uSet 6 (uAndV (uVar 6) (uNotV (uLc (uSeqI (uVar 5)) [11] (uName 11) (uNot (uTest (uChain gLe gLe (uC (.str "a")) (uVar 11) (uC (.str "z"))))) (uVar 11)))))
    (uSeq (uIfS (uNot (uTru (uCall (sp_law_same K 4) [] (uCons (uLst (uCons (uCall (sp_is_alphabet K) [] (uCons (uVar 5) uNil)) (uCons (uCall (sp_is_alphabet K) [] (uCons (uVar 3) uNil)) uNil))) (uCons (uLst (uCons (uVar 6) (uCons (uC (.bl true)) uNil))) uNil))))) (uRet (uC (.bl false))) uNext)
    (uSeq (uSet 7 (uOp gAdd (uCall (sp_law_text K) [] (uCons (uVar 1) (uCons (uVar 3) (uCons (uCall (sp_law_pull K) [] (uCons (uVar 1) (uCons (uC (.int 9)) uNil))) uNil)))) (uCall (sp_law_of K) [] (uCons (uVar 1) (uCons (uLst (uCons (uC (.str "")) (uCons (uC (.str "")) (uCons (uC (.str "?")) (uCons (uVar 5) (uCons (uC (.str "A")) (uCons (uOp gIx (uVar 3) (uC (.int 0))) uNil))))))) uNil)))))
    (uSeq (uSet 8 (uNotV (uLc (uSeqI (uVar 7)) [11] (uName 11) (uTest (uOp (gIn (!·)) (uVar 11) (uVar 3))) (uVar 11))))
    (uSeq (uIfS (uNot (uTru (uCall (sp_law_same K 4) [] (uCons (uLst (uCons (uCall (sp_is_word K) [] (uCons (uVar 3) (uCons (uVar 7) uNil))) (uCons (uCall (sp_is_word K) [] (uCons (uVar 3) (uCons (uC (.str "")) uNil))) (uCons (uCall (sp_is_word K) [] (uCons (uVar 3) (uCons (uVar 3) uNil))) uNil)))) (uCons (uLst (uCons (uVar 8) (uCons (uC (.bl true)) (uCons (uC (.bl true)) uNil)))) uNil))))) (uRet (uC (.bl false))) uNext)
    (uSeq (uSet 9 (uCall (sp_law_of K) [] (uCons (uVar 1) (uCons (uLst (uCons (uC .non) (uCons (uC (.bl true)) (uCons (uC (.int 3)) (uCons (uUn gNeg (uC (.int 1))) (uCons (uLst (uCons (uOp gIx (uVar 3) (uC (.int 0))) uNil)) (uCons (uTup (uCons (uOp gIx (uVar 3) (uC (.int 0))) uNil)) (uCons (uLst (uCons (uC (.str "ab")) uNil)) (uCons (uLst uNil) (uCons (uTup uNil) uNil)))))))))) uNil))))
    (uIfS (uNot (uTru (uCall (sp_law_same K 4) [] (uCons (uLst (uCons (uCall (sp_is_alphabet K) [] (uCons (uVar 9) uNil)) (uCons (uCall (sp_is_word K) [] (uCons (uVar 3) (uCons (uVar 9) uNil))) (uCons (uCall (sp_is_alphabet K) [] (uCons (uC (.str "")) uNil)) uNil)))) (uCons (uLst (uCons (uC (.bl false)) (uCons (uC (.bl false)) (uCons (uC (.bl false)) uNil)))) uNil))))) (uRet (uC (.bl false))) uNext))))))))))))))
    (uRet (uC (.bl true)))))


theorem ascL_zip : ∀ l : List Nat, (List.zipWith (fun a b => decide (a < b)) l (l.drop 1)).all id = ascL l
  | [] => rfl
  | [a] => rfl
  | a :: b :: r => by
    have := ascL_zip (b :: r)
    simp only [List.drop_succ_cons, List.drop_zero, List.zipWith_cons_cons, List.all_cons, id_eq, ascL] at this ⊢
    rw [this]
theorem ltS_sgn (a b : Nat) : ltS (sgn a) (sgn b) = decide (a < b) := by
  unfold ltS sgn
  simp [List.cons_lt_cons_iff]
theorem r_ascends {KF : PySem.W.Frag} {ds S K X} (h : sp_ascends KF ds S K X) (hb : belows S.length ds) (hS : belows S.length S) : u_ascends KF (endsOf S K X) (startD ["letters", "one", "other"] ds) S := by
  obtain ⟨z, rfl, hz, k⟩ := h
  show u_ascends KF (endsOf S K X) [some (.str z), none, none] S
  unfold u_ascends
  walk_at "i"
  refine x_slS (Nat.le_trans hz (by decide)) ?_
  walk_at "i"
  have hc : (cutS z (some 1) none).cps.toList = z.cps.toList.drop 1 := by
    show ((z.cps.toList.drop (HT.sIx z.length 0 (some ((1 : Nat) : Int)))).take (HT.sIx z.length z.length none - HT.sIx z.length 0 (some ((1 : Nat) : Int)))).toArray.toList = _
    rw [HT.sIx_none, HT.sIx_nat]
    have hz2 : z.cps.toList.length = z.length := (by first | rfl | simp [Str.length])
    simp only [List.toList_toArray]
    by_cases h1 : 1 ≤ z.length
    · rw [Nat.min_eq_left h1, List.take_of_length_le (by rw [List.length_drop]; omega)]
    · have : z.cps.toList = [] := List.eq_nil_of_length_eq_zero (by omega)
      rw [this]; simp
  refine ⟨_, _, rfl, rfl, ?_⟩
  refine lc_map (fun d => match d with | .tup [.str a, .str b] => .bl (ltS a b) | _ => .non) ⟨rfl, rfl⟩ (by unfold pairs; rw [List.length_zipWith, List.length_map]; have : z.cps.toList.length = z.length := (by first | rfl | simp [Str.length]); have : sizeLine = 16777216 := rfl; omega) (fun j d Kt Kf hj hk => ?_) ?_
  · rw [hc] at hj
    unfold pairs at hj
    rw [List.getElem?_zipWith] at hj
    obtain ⟨a, b, rfl⟩ : ∃ a b, d = .tup [.str (sgn a), .str (sgn b)] := by
      simp only [List.getElem?_map] at hj
      cases ea : z.cps.toList[j]? with
      | none => rw [ea] at hj; cases hj
      | some a =>
        cases eb : (z.cps.toList.drop 1)[j]? with
        | none => rw [ea, eb] at hj; cases hj
        | some b => rw [ea, eb] at hj; injection hj with hj; exact ⟨a, b, hj.symm⟩
    dsimp only [wipeD, List.set_cons_succ, List.set_cons_zero]
    walk_at "i"
    exact hk
  · walk_at "i"
    rw [hc]
    refine x_bools (bs := List.zipWith (fun a b => decide (a < b)) z.cps.toList (z.cps.toList.drop 1)) ?_ ?_
    · show some _ = some _
      congr 1
      unfold pairs
      generalize z.cps.toList.drop 1 = l2
      generalize z.cps.toList = l1
      induction l1 generalizing l2 with
      | nil => simp
      | cons a r ih =>
        cases l2 with
        | nil => simp
        | cons b q => simp only [List.map_cons, List.zipWith_cons_cons, ih q, ltS_sgn]
    · refine x_rtE ?_
      rw [ascL_zip]
      exact exit_here (by simp only [below]) k
/-- all signs of z lie in a -/
theorem all_signs {z a : Str} {dl : Env'} {S : Store} {K : KE} {X : KX} {i j : Nat} {ua : UE} (hz : z.length ≤ 1000000) (hi : dl[i]? = some (some (.str z))) (hj : j < dl.length) (ha : ∀ (c : Dat) (Kt : KE), Kt (.str a) S → ua ((dl.set j none).set j (some c)) S Kt XF0)
    (k : K (.bl (z.cps.toList.all fun c => decide (c ∈ a.cps.toList))) S) :
    uCB (gBools fun bs => bs.all id) (uCons (uLc (uSeqI (uVar i)) [j] (uName j) uYes (uOp (gIn id) (uVar j) ua)) uNil) dl S K X := by
  refine x_cb ?_
  refine x_cons ?_
  refine x_lc ?_
  refine x_lcW ?_
  refine x_seqI ?_
  refine x_var hi ?_
  have hz2 : z.cps.toList.length = z.length := (by first | rfl | simp [Str.length])
  refine ⟨_, rfl, ?_⟩
  refine lc_map (fun d => match d with | .str b => .bl (b.cps.toList.all fun c => decide (c ∈ a.cps.toList)) | _ => .non) rfl (by rw [List.length_map]; have : sizeLine = 16777216 := rfl; omega) (fun n d Kt Kf hn hk => ?_) ?_
  · rw [List.getElem?_map] at hn
    obtain ⟨c, _, rfl⟩ := Option.map_eq_some_iff.mp hn
    refine x_name (by simpa [wipeD] using hj) ?_
    refine x_yes ?_
    refine x_iteT ?_
    refine x_op ?_
    refine x_var (d := .str (sgn c)) (by rw [List.getElem?_set_self (by simpa [wipeD] using hj)]) ?_
    refine ha _ _ ?_
    refine x_inS ?_
    have e : decide (c ∈ a.cps.toList) = ((sgn c).cps.toList.all fun c => decide (c ∈ a.cps.toList)) := by simp [sgn]
    rw [e]
    exact hk
  · refine x_bools (bs := z.cps.toList.map fun c => decide (c ∈ a.cps.toList)) ?_ ?_
    · show some _ = some _
      congr 1
      rw [List.map_map, List.map_map]
      refine List.map_congr_left fun c _ => ?_
      simp [sgn]
    · rw [List.all_map]; exact k
theorem notStr_isB {t : String} (h : t ≠ "str") : isB t "str" = false := by simp [isB, h]
theorem r_is_word {KF : PySem.W.Frag} {ds S K X} (h : sp_is_word KF ds S K X) (hb : belows S.length ds) (hS : belows S.length S) : u_is_word KF (endsOf S K X) (startD ["alphabet", "value", "sign"] ds) S := by
  obtain ⟨a, ⟨z, rfl, hz, k⟩ | ⟨d, rfl, ⟨t, ht, htn, hm⟩, k⟩⟩ := h
  · show u_is_word KF (endsOf S K X) [some (.str a), some (.str z), none] S
    unfold u_is_word
    refine x_ret ?_
    refine x_andV ?_
    refine x_cb ?_
    refine x_cons ?_
    refine x_var rfl ?_
    refine x_cons ?_
    refine x_c ?_
    refine x_nil ?_
    refine x_isi (t := "str") rfl (by decide) ?_
    refine x_tB ?_
    refine x_iteT2 rfl ?_
    refine all_signs (a := a) hz rfl (of_decide_eq_true rfl) (fun c Kt h => x_var rfl h) ?_
    exact exit_here (by simp only [below]) k
  · show u_is_word KF (endsOf S K X) [some (.str a), some d, none] S
    unfold u_is_word
    walk_at "i"
    refine x_isi ht (by decide) ?_
    rw [notStr_isB htn]
    walk_at "i"
    exact exit_here (by simp only [below]) k
theorem r_is_alphabet {KF : PySem.W.Frag} {ds S K X} (h : sp_is_alphabet KF ds S K X) (hb : belows S.length ds) (hS : belows S.length S) : u_is_alphabet KF (endsOf S K X) (startD ["value", "sign"] ds) S := by
  rcases h with ⟨z, rfl, hz, k⟩ | ⟨d, rfl, ⟨t, ht, htn, hm⟩, k⟩
  · show u_is_alphabet KF (endsOf S K X) [some (.str z), none] S
    have hz2 : z.cps.toList.length = z.length := (by first | rfl | simp [Str.length])
    have hsz : z.length ≤ sizeLine := Nat.le_trans hz (by decide)
    have fin : ∀ b : Bool, b = isAlpha z → (endsOf S K X).rt (.bl b) S := fun b e => by subst e; exact exit_here (by simp only [below]) k
    unfold u_is_alphabet
    walk_at "i"
    refine x_lenS hsz ?_
    walk_at "i"
    refine x_ite (fun e1 => ?_) (fun e1 => ?_)
    · have h1 := of_decide_eq_true e1
      refine x_ite (fun e2 => ?_) (fun e2 => ?_)
      · have h2 : ¬ ((z.length : Int) ≤ 4) := by simpa using e2
        walk_at "i"
        refine fin false ?_
        have : ¬ (z.cps.toList.length ≤ 4) := by omega
        simp only [isAlpha, this, decide_false, Bool.and_false, Bool.false_and]
      · have h2 : ((z.length : Int) ≤ 4) := by simpa using e2
        refine x_next ?_
        dsimp only
        refine x_ret ?_
        refine x_andV ?_
        refine all_signs (a := abc) hz rfl (of_decide_eq_true rfl) (fun c Kt h => x_c h) ?_
        refine x_tB ?_
        have hA : isAlpha z = ((z.cps.toList.all fun c => decide (c ∈ abc.cps.toList)) && ascL z.cps.toList) := by
          have h3 : 1 ≤ z.cps.toList.length := by omega
          have h4 : z.cps.toList.length ≤ 4 := by omega
          simp only [isAlpha, h3, h4, decide_true, Bool.true_and]
        refine x_ite (fun e3 => ?_) (fun e3 => ?_)
        · walk_at "i"
          refine ⟨z, rfl, hz, fin _ ?_⟩
          rw [hA, e3, Bool.true_and]
        · refine fin _ ?_
          rw [hA, e3, Bool.false_and]
    · walk_at "i"
      refine fin false ?_
      have h1 : ¬ ((1 : Int) ≤ (z.length : Int)) := of_decide_eq_false e1
      have : ¬ (1 ≤ z.cps.toList.length) := by omega
      simp only [isAlpha, this, decide_false, Bool.and_false, Bool.false_and]
  · show u_is_alphabet KF (endsOf S K X) [some d, none] S
    unfold u_is_alphabet
    walk_at "i"
    refine x_isi ht (by decide) ?_
    rw [notStr_isB htn]
    walk_at "i"
    exact exit_here (by simp only [below]) k
theorem cps_len (z : Str) : z.cps.toList.length = z.length := by first | rfl | simp [Str.length]
/-- a drawn item of a list that stands in the term -/
theorem of_lst {KF : PySem.W.Frag} {b : Nat} {xs : List Dat} {bag : Dat} {S : Store} {Kt : KE} {X : KX} (h0 : 0 < xs.length) (hn : xs.length < 1073741824) (hbag : S[b]? = some bag) (hB : IsBag bag)
    (k : ∀ (i : Nat) x bag', xs[i]? = some x → IsBag bag' → Kt x (S.set b bag')) : sp_law_of KF ([.cell b, .lst xs] ++ []) S Kt X :=
  ⟨b, _, xs, bag, rfl, .inr ⟨(by intro z h; cases h), rfl⟩, fun _ _ => .inr ⟨(by intro z h; cases h), rfl⟩, h0, hn, hbag, hB, k⟩
theorem of_str {KF : PySem.W.Frag} {b : Nat} {z : Str} {bag : Dat} {S : Store} {Kt : KE} {X : KX} (h0 : 0 < z.cps.toList.length) (hn : z.length ≤ sizeLine) (hbag : S[b]? = some bag) (hB : IsBag bag)
    (k : ∀ c bag', c ∈ z.cps.toList → IsBag bag' → Kt (.str (sgn c)) (S.set b bag')) : sp_law_of KF ([.cell b, .str z] ++ []) S Kt X :=
  ⟨b, _, _, bag, rfl, .inl ⟨z, rfl, hn, rfl⟩, fun _ _ => .inl ⟨z, rfl, hn, rfl⟩, by rw [List.length_map]; exact h0, by rw [List.length_map, cps_len]; have : sizeLine = 16777216 := rfl; omega, hbag, hB, fun i x bag' hx hB' => by
    rw [List.getElem?_map] at hx
    obtain ⟨c, hc, rfl⟩ := Option.map_eq_some_iff.mp hx
    exact k c bag' (List.mem_of_getElem? hc) hB'⟩
theorem pull_of {KF : PySem.W.Frag} {b : Nat} {n : Int} {bag : Dat} {S : Store} {Kt : KE} {X : KX} (h0 : 0 < n) (hn : n < 1073741824) (hbag : S[b]? = some bag) (hB : IsBag bag)
    (k : ∀ (k : Nat) bag', (k : Int) < n → IsBag bag' → Kt (.int k) (S.set b bag')) : sp_law_pull KF ([.cell b, .int n] ++ []) S Kt X := ⟨b, n, bag, rfl, h0, hn, hbag, hB, k⟩
theorem join_cps (cs : List Nat) : (Txt.join "" (cs.map sgn)).cps.toList = cs := by
  have h1 := TL.tl_join (Str.ofString "") (cs.map sgn)
  rw [← TL.join_eq] at h1
  have h2 : ∀ z : Str, TL.tl z = z.cps.toList := fun _ => rfl
  rw [h2] at h1
  refine h1.trans ?_
  rw [List.map_map]
  have h3 : TL.tl (Str.ofString "") = [] := rfl
  rw [h3]
  clear h1 h2 h3
  induction cs with
  | nil => rfl
  | cons c r ih =>
    cases r with
    | nil => rfl
    | cons d q =>
      show [c] ++ ([] ++ TL.joinL [] ((d :: q).map (TL.tl ∘ sgn))) = _
      rw [ih]
      rfl
theorem r_law_text {KF : PySem.W.Frag} {ds S K X} (h : sp_law_text KF ds S K X) (hb : belows S.length ds) (hS : belows S.length S) : u_law_text KF (endsOf S K X) (startD ["_law_bag_here", "_law_signs_here", "_law_size", "_law_k"] ds) S := by
  obtain ⟨b, bag, z, n, rfl, hn, hz0, hz, hbag, hB, k⟩ := h
  have hbl : b < S.length := (List.getElem?_eq_some_iff.mp hbag).1
  show u_law_text KF (endsOf S K X) [some (.cell b), some (.str z), some (.int n), none] S
  unfold u_law_text
  walk_at "i"
  refine ⟨rfl, ?_⟩
  walk_at "i"
  refine ⟨⟨by omega, by omega⟩, ?_⟩
  refine ⟨fun j acc S1 => ∃ cs : List Nat, ∃ bag', acc = cs.map (fun c => Dat.str (sgn c)) ∧ cs.length = j ∧ (∀ c ∈ cs, c ∈ z.cps.toList) ∧ IsBag bag' ∧ S1 = S.set b bag', ⟨[], bag, rfl, rfl, fun c h => (List.not_mem_nil h).elim, hB, (set_self hbag)⟩, ?_, ?_⟩
  · rintro j d acc S2 hj ⟨cs, bag', rfl, hcl, hcs, hB', rfl⟩
    have hj2 : j < n := by
      have := (List.getElem?_eq_some_iff.mp hj).1
      simpa [rangeD] using this
    have : sizeLine = 16777216 := rfl
    refine ⟨trivial, by rw [List.length_map]; omega, ?_⟩
    dsimp only [wipeD, List.set_cons_succ, List.set_cons_zero]
    walk_at "i"
    refine of_str hz0 (by omega) (List.getElem?_set_self hbl) hB' (fun c bag2 hc hB2 => ?_)
    rw [List.set_set]
    refine ⟨cs ++ [c], bag2, by rw [List.map_append]; rfl, by rw [List.length_append, hcl]; rfl, fun q hq => ?_, hB2, rfl⟩
    rcases List.mem_append.mp hq with h | h
    · exact hcs q h
    · rw [List.mem_singleton.mp h]; exact hc
  · rintro acc S2 ⟨cs, bag', rfl, hcl, hcs, hB', rfl⟩
    refine ⟨trivial, ?_⟩
    have hcn : cs.length = n := by rw [hcl]; simp [rangeD]
    walk_at "i"
    refine x_join (ss := cs.map sgn) (by rw [List.map_map]; rfl) ?_ ?_
    · have hs : ((cs.map sgn).map (·.length)).sum = cs.length := by
        clear hcl hcs hcn
        induction cs with
        | nil => rfl
        | cons c r ih => simp only [List.map_cons, List.sum_cons, ih, List.length_cons]; show 1 + r.length = _; omega
      rw [hs, show (Str.ofString "").length = 0 from rfl]
      omega
    · refine x_rtE ?_
      have hc := join_cps cs
      exact exit_set0 hS (bag_below hB') (by simp only [below]) (k _ bag' (by rw [hc, hcn]) (by rw [hc]; exact hcs) hB')
theorem inF_sgn (c : Nat) (cs : List Nat) : inF (.str (sgn c)) (cs.map fun c => .str (sgn c)) = some (decide (c ∈ cs)) := by
  have h : (cs.map fun c => Dat.str (sgn c)).mapM flat? = some (cs.map fun c => V.str (sgn c)) := by
    induction cs with
    | nil => rfl
    | cons a r ih => rw [List.map_cons, List.mapM_cons, ih]; rfl
  unfold inF
  rw [h]
  show some (inV _ _) = _
  congr 1
  unfold inV
  rw [List.any_map]
  have key : ∀ a : Nat, eqV (.str (sgn a)) (.str (sgn c)) = decide (a = c) := fun a => by
    show decide (sgn a = sgn c) = decide (a = c)
    by_cases e : a = c
    · subst e; simp
    · have : sgn a ≠ sgn c := fun h => e (by injection h with h; simpa using h)
      rw [decide_eq_false e, decide_eq_false this]
  induction cs with
  | nil => rfl
  | cons a r ih =>
    rw [List.any_cons, ih (by
      have := h
      rw [List.map_cons, List.mapM_cons] at this
      cases hh : (r.map fun c => Dat.str (sgn c)).mapM flat? with
      | none => rw [hh] at this; cases this
      | some q => rw [hh] at this; have t2 : some (V.str (sgn a) :: q) = some (V.str (sgn a) :: r.map fun c => V.str (sgn c)) := this; injection t2 with t2; injection t2 with _ t2; rw [t2])]
    show (eqV (.str (sgn a)) (.str (sgn c)) || decide (c ∈ r)) = _
    rw [key]
    by_cases e : a = c
    · subst e; simp
    · have e2 : c ≠ a := fun h => e h.symm
      simp [e, e2]
theorem filter_le : ∀ (l cs : List Nat), l.Nodup → (l.filter fun c => decide (c ∈ cs)).length ≤ cs.length
  | [], cs, _ => by simp
  | x :: l, cs, h => by
    have hn := List.nodup_cons.mp h
    by_cases hx : x ∈ cs
    · rw [List.filter_cons_of_pos (by simpa using hx), List.length_cons]
      have e : (l.filter fun c => decide (c ∈ cs)) = l.filter fun c => decide (c ∈ cs.erase x) := List.filter_congr fun y hy => by
        have : y ≠ x := fun z => hn.1 (z ▸ hy)
        exact decide_eq_decide.mpr (List.mem_erase_of_ne this).symm
      have := filter_le l (cs.erase x) hn.2
      rw [e]
      have h2 := List.length_erase_of_mem hx
      have h3 : 0 < cs.length := List.length_pos_of_mem hx
      omega
    · rw [List.filter_cons_of_neg (by simpa using hx)]
      exact filter_le l cs hn.2
def restOf (cs : List Nat) : List Nat := abc.cps.toList.filter fun c => !decide (c ∈ cs)
theorem abc_nodup : abc.cps.toList.Nodup := by decide +kernel
theorem abc_len : abc.cps.toList.length = 26 := by decide +kernel
theorem rest_len {cs : List Nat} (h : cs.length < 20) : 0 < (restOf cs).length ∧ (restOf cs).length ≤ 26 := by
  have h1 := filter_le abc.cps.toList cs abc_nodup
  have h2 : ∀ l : List Nat, (l.filter fun c => decide (c ∈ cs)).length + (l.filter fun c => !decide (c ∈ cs)).length = l.length := fun l => by
    induction l with
    | nil => rfl
    | cons a r ih =>
      by_cases ha : a ∈ cs
      · rw [List.filter_cons_of_pos (by simpa using ha), List.filter_cons_of_neg (by simpa using ha), List.length_cons, List.length_cons]; omega
      · rw [List.filter_cons_of_neg (by simpa using ha), List.filter_cons_of_pos (by simpa using ha), List.length_cons, List.length_cons]; omega
  have h3 := h2 abc.cps.toList
  rw [abc_len] at h3
  unfold restOf
  omega
theorem asc_of_sorted : ∀ (ds : List Nat), PyProof.Rows.sortedS (ds.map sgn) = true → ds.Nodup → ascL ds = true
  | [], _, _ => rfl
  | [a], _, _ => rfl
  | a :: b :: r, h, hn => by
    have h1 : (!PySem.Spec.ltCps [b] [a] && PyProof.Rows.risingS (sgn b) (r.map sgn)) = true := h
    rw [Bool.and_eq_true] at h1
    have hn2 := List.nodup_cons.mp hn
    have ih := asc_of_sorted (b :: r) h1.2 hn2.2
    have hlt : a < b := by
      have h2 : ¬ b < a := by
        intro z
        have : PySem.Spec.ltCps [b] [a] = true := by simp [PySem.Spec.ltCps, z]
        rw [this] at h1
        exact absurd h1.1 (by decide)
      have h3 : a ≠ b := fun z => hn2.1 (by rw [z]; exact List.mem_cons_self)
      omega
    simp only [ascL, ih, Bool.and_true]
    exact decide_eq_true hlt
theorem signs_of {cs : List Nat} {ys : List Str} (hp : ys.Perm (cs.map sgn)) (hs : PyProof.Rows.sortedS ys = true) (hn : cs.Nodup) : ∃ ds : List Nat, ys = ds.map sgn ∧ ds.Perm cs ∧ ascL ds = true := by
  have hf : ∀ l : List Nat, (l.map sgn).map (fun y => y.cps.toList.headD 0) = l := fun l => by
    rw [List.map_map]
    induction l with
    | nil => rfl
    | cons a r ih => rw [List.map_cons, ih]; rfl
  have h1 : (ys.map fun y => y.cps.toList.headD 0).Perm cs := by
    have := hp.map (fun y => y.cps.toList.headD 0)
    rwa [hf] at this
  have h2 : ys = (ys.map fun y => y.cps.toList.headD 0).map sgn := by
    have hm : ∀ y ∈ ys, sgn (y.cps.toList.headD 0) = y := fun y hy => by
      obtain ⟨c, _, rfl⟩ := List.mem_map.mp (hp.mem_iff.mp hy)
      rfl
    rw [List.map_map]
    clear hp hs h1
    induction ys with
    | nil => rfl
    | cons y r ih =>
      rw [List.map_cons, ← ih fun z hz => hm z (List.mem_cons_of_mem _ hz)]
      congr 1
      exact (hm y List.mem_cons_self).symm
  refine ⟨_, h2, h1, asc_of_sorted _ (by rw [← h2]; exact hs) (h1.nodup_iff.mpr hn)⟩
theorem alpha_of {ds : List Nat} (h1 : 1 ≤ ds.length) (h4 : ds.length ≤ 4) (ha : ∀ c ∈ ds, c ∈ abc.cps.toList) (hs : ascL ds = true) : isSigns (Txt.join "" (ds.map sgn)) := by
  unfold isSigns isAlpha
  rw [join_cps]
  have : (ds.all fun c => decide (c ∈ abc.cps.toList)) = true := List.all_eq_true.mpr fun c hc => decide_eq_true (ha c hc)
  rw [this, hs, decide_eq_true h1, decide_eq_true h4]
  rfl
section
variable {S : Store} {b : Nat} {x y : Dat}
theorem st_old (hb : b < S.length) : (S.set b x ++ [y])[b]? = some x := by
  rw [List.getElem?_append_left (by rw [List.length_set]; exact hb), List.getElem?_set_self hb]
theorem st_new : (S.set b x ++ [y])[S.length]? = some y := by
  rw [List.getElem?_append_right (by simp)]
  simp
theorem st_setOld {z : Dat} (hb : b < S.length) : (S.set b x ++ [y]).set b z = S.set b z ++ [y] := by
  rw [List.set_append_left _ _ (by rw [List.length_set]; exact hb), List.set_set]
theorem st_setNew {z : Dat} : (S.set b x ++ [y]).set S.length z = S.set b x ++ [z] := by
  rw [List.set_append_right _ _ (by simp)]
  simp
end
theorem r_law_signs {KF : PySem.W.Frag} {ds S K X} (h : sp_law_signs KF ds S K X) (hb : belows S.length ds) (hS : belows S.length S) : u_law_signs KF (endsOf S K X) (startD ["_law_bag_here", "_law_many", "_law_found", "_law_k", "_law_rest", "_law_sign"] ds) S := by
  obtain ⟨b, bag, rfl, hbag, hB, k⟩ := h
  have hbl : b < S.length := (List.getElem?_eq_some_iff.mp hbag).1
  show u_law_signs KF (endsOf S K X) [some (.cell b), none, none, none, none, none] S
  have hsz : sizeLine = 16777216 := rfl
  unfold u_law_signs
  walk_at "i"
  refine of_lst (by decide) (by decide) hbag hB (fun i x bag1 hx hB1 => ?_)
  obtain ⟨m, rfl, hm⟩ : ∃ m : Nat, x = .int m ∧ m ≤ 3 := by
    match i, hx with
    | 0, hx => exact ⟨0, (Option.some.inj hx).symm, by decide⟩
    | 1, hx => exact ⟨1, (Option.some.inj hx).symm, by decide⟩
    | 2, hx => exact ⟨1, (Option.some.inj hx).symm, by decide⟩
    | 3, hx => exact ⟨1, (Option.some.inj hx).symm, by decide⟩
    | 4, hx => exact ⟨2, (Option.some.inj hx).symm, by decide⟩
    | 5, hx => exact ⟨3, (Option.some.inj hx).symm, by decide⟩
    | n + 6, hx => cases hx
  walk_at "i"
  refine x_for ?_
  walk_at "i"
  refine ⟨⟨by omega, by omega⟩, ?_⟩
  rw [List.length_set]
  refine ⟨fun j dl S2 => ∃ (cs : List Nat) (bag' : Dat) (x3 x4 x5 : Option Dat), dl = [some (.cell b), some (.int (1 + (m : Int))), some (.cell S.length), x3, x4, x5] ∧ S2 = S.set b bag' ++ [.lst (cs.map fun c => .str (sgn c))] ∧ cs.length = j ∧ cs.Nodup ∧ (∀ c ∈ cs, c ∈ abc.cps.toList) ∧ IsBag bag',
    ⟨[], bag1, _, _, _, rfl, rfl, rfl, List.nodup_nil, fun c h => (List.not_mem_nil h).elim, hB1⟩, ?_, ?_⟩
  · rintro j d dl S2 hj ⟨cs, bag', x3, x4, x5, rfl, rfl, hcl, hnd, habc, hB'⟩
    have hj2 : j < (1 + (m : Int)).toNat := by
      have := (List.getElem?_eq_some_iff.mp hj).1
      simpa [rangeD] using this
    refine ⟨trivial, ?_⟩
    have hrl := rest_len (cs := cs) (by omega)
    walk_at "i"
    refine ⟨abc.cps.toList.map fun c => .str (sgn c), rfl, ?_⟩
    refine lc_pickG (xs := abc.cps.toList.map fun c => Dat.str (sgn c)) (fun d => match d with | .str z => if z.cps.toList.headD 0 ∈ cs then none else some d | _ => none) (by exact rfl) (by rw [List.length_map, abc_len]; decide) (fun n d Kt Kf hn h1 h2 => ?_) ?_
    · rw [List.getElem?_map] at hn
      obtain ⟨c, _, rfl⟩ := Option.map_eq_some_iff.mp hn
      dsimp only [wipeD, List.set_cons_succ, List.set_cons_zero]
      walk_at "i"
      refine ⟨_, _, by simp only [seqD, st_new], inF_sgn c cs, ?_⟩
      dsimp only
      refine x_ite (fun e => ?_) (fun e => ?_)
      · have hc : ¬ c ∈ cs := by simpa using e
        walk_at "i"
        exact h1 _ (if_neg hc)
      · have hc : c ∈ cs := by simpa using e
        exact h2 (if_pos hc)
    · have hrest : ((abc.cps.toList.map fun c => Dat.str (sgn c)).filterMap fun d => match d with | .str z => if z.cps.toList.headD 0 ∈ cs then none else some d | _ => none) = (restOf cs).map fun c => .str (sgn c) := by
        unfold restOf
        generalize abc.cps.toList = l
        induction l with
        | nil => rfl
        | cons a r ih =>
          by_cases ha : a ∈ cs
          · rw [List.filter_cons_of_neg (by simpa using ha), ← ih, List.map_cons, List.filterMap_cons_none]
            exact if_pos ha
          · rw [List.filter_cons_of_pos (by simpa using ha), List.map_cons, List.map_cons, List.filterMap_cons_some (b := .str (sgn a)), ih]
            exact if_neg ha
      rw [hrest]
      walk_at "i"
      refine ⟨⟨rfl, by simp only [lstD, view, st_new]; rfl⟩, ?_⟩
      walk_at "i"
      refine x_lenL rfl ?_
      walk_at "i"
      rw [List.length_map]
      refine pull_of (by omega) (by omega) (st_old hbl) hB' (fun p bag2 hp hB2 => ?_)
      rw [st_setOld hbl]
      walk_at "i"
      refine of_lst (Nat.le_of_ble_eq_true rfl) (Nat.le_of_ble_eq_true rfl) (st_old hbl) hB2 (fun i x bag3 hx hB3 => ?_)
      rw [st_setOld hbl]
      obtain ⟨q, rfl, hq⟩ : ∃ q : Nat, x = .int q ∧ q < (restOf cs).length := by
        match i, hx with
        | 0, hx => exact ⟨0, (Option.some.inj hx).symm, by omega⟩
        | 1, hx => exact ⟨0, (Option.some.inj hx).symm, by omega⟩
        | 2, hx => exact ⟨0, (Option.some.inj hx).symm, by omega⟩
        | 3, hx => exact ⟨p, (Option.some.inj hx).symm, by omega⟩
        | n + 4, hx => cases hx
      obtain ⟨c, hc⟩ : ∃ c, (restOf cs)[q]? = some c := ⟨(restOf cs)[q], List.getElem?_eq_getElem hq⟩
      have hc2 := List.mem_filter.mp (List.mem_of_getElem? hc)
      refine x_ixL (d := .str (sgn c)) rfl ?_ ?_
      · unfold atI ixN
        rw [if_pos (by omega), if_pos (by rw [List.length_map]; omega)]
        simp [hc]
      walk_at "i"
      refine x_append st_new (by rw [List.length_map]; omega) ?_
      rw [st_setNew]
      refine .inl ⟨cs ++ [c], bag3, _, _, _, rfl, by rw [List.map_append]; rfl, by rw [List.length_append, hcl]; rfl, ?_, fun z hz => ?_, hB3⟩
      · refine List.nodup_append.mpr ⟨hnd, by simp, fun a ha a' ha' z => ?_⟩
        have e : a' = c := List.mem_singleton.mp ha'
        rw [z, e] at ha
        simp [ha] at hc2
      · rcases List.mem_append.mp hz with h | h
        · exact habc z h
        · rw [List.mem_singleton.mp h]; exact hc2.1
  · rintro dl S2 ⟨cs, bag', x3, x4, x5, rfl, rfl, hcl, hnd, habc, hB'⟩
    have hcn : cs.length = 1 + m := by rw [hcl]; simp [rangeD]; omega
    refine ⟨trivial, ?_⟩
    walk_at "i"
    refine ⟨rfl, ?_⟩
    walk_at "i"
    refine ⟨cs.map sgn, by simp only [lstD, view, st_new, List.map_map]; rfl, by rw [List.length_map]; omega, fun ys hp hs => ?_⟩
    obtain ⟨ds, rfl, hp2, hasc⟩ := signs_of hp hs hnd
    walk_at "i"
    refine x_join (ss := ds.map sgn) rfl ?_ ?_
    · have hs : ∀ ds : List Nat, ((ds.map sgn).map (·.length)).sum = ds.length := fun ds => by
        induction ds with
        | nil => rfl
        | cons c r ih => simp only [List.map_cons, List.sum_cons, ih, List.length_cons]; show 1 + r.length = _; omega
      rw [hs, show (Str.ofString "").length = 0 from rfl, hp2.length_eq]
      omega
    · refine x_rtE ?_
      refine exit_set hS (bag_below hB') (by simp only [below]) (k _ bag' (alpha_of (by rw [hp2.length_eq]; omega) (by rw [hp2.length_eq]; omega) (fun c hc => habc c (hp2.mem_iff.mp hc)) hasc) hB')


def tl_12 (K : PySem.W.Frag) : US :=
  ((uIfS (uNot (uTru (uCall (sp_law_same K 4) [] (uCons (uLst (uCons (uCall (sp_is_alphabet K) [] (uCons (uVar 9) uNil)) (uCons (uCall (sp_is_word K) [] (uCons (uVar 3) (uCons (uVar 9) uNil))) (uCons (uCall (sp_is_alphabet K) [] (uCons (uC (.str "")) uNil)) uNil)))) (uCons (uLst (uCons (uC (.bl false)) (uCons (uC (.bl false)) (uCons (uC (.bl false)) uNil)))) uNil))))) (uRet (uC (.bl false))) uNext))
def tl_11 (K : PySem.W.Frag) : US :=
  (uSeq (uSet 9 (uCall (sp_law_of K) [] (uCons (uVar 1) (uCons (uLst (uCons (uC .non) (uCons (uC (.bl true)) (uCons (uC (.int 3)) (uCons (uUn gNeg (uC (.int 1))) (uCons (uLst (uCons (uOp gIx (uVar 3) (uC (.int 0))) uNil)) (uCons (uTup (uCons (uOp gIx (uVar 3) (uC (.int 0))) uNil)) (uCons (uLst (uCons (uC (.str "ab")) uNil)) (uCons (uLst uNil) (uCons (uTup uNil) uNil)))))))))) uNil))))
    (tl_12 K))
def tl_10 (K : PySem.W.Frag) : US :=
  (uSeq (uIfS (uNot (uTru (uCall (sp_law_same K 4) [] (uCons (uLst (uCons (uCall (sp_is_word K) [] (uCons (uVar 3) (uCons (uVar 7) uNil))) (uCons (uCall (sp_is_word K) [] (uCons (uVar 3) (uCons (uC (.str "")) uNil))) (uCons (uCall (sp_is_word K) [] (uCons (uVar 3) (uCons (uVar 3) uNil))) uNil)))) (uCons (uLst (uCons (uVar 8) (uCons (uC (.bl true)) (uCons (uC (.bl true)) uNil)))) uNil))))) (uRet (uC (.bl false))) uNext)
    (tl_11 K))
def tl_9 (K : PySem.W.Frag) : US :=
  (uSeq (uSet 8 (uNotV (uLc (uSeqI (uVar 7)) [11] (uName 11) (uTest (uOp (gIn (!·)) (uVar 11) (uVar 3))) (uVar 11))))
    (tl_10 K))
def tl_8 (K : PySem.W.Frag) : US :=
  (uSeq (uSet 7 (uOp gAdd (uCall (sp_law_text K) [] (uCons (uVar 1) (uCons (uVar 3) (uCons (uCall (sp_law_pull K) [] (uCons (uVar 1) (uCons (uC (.int 9)) uNil))) uNil)))) (uCall (sp_law_of K) [] (uCons (uVar 1) (uCons (uLst (uCons (uC (.str "")) (uCons (uC (.str "")) (uCons (uC (.str "?")) (uCons (uVar 5) (uCons (uC (.str "A")) (uCons (uOp gIx (uVar 3) (uC (.int 0))) uNil))))))) uNil)))))
    (tl_9 K))
def tl_7 (K : PySem.W.Frag) : US :=
  (uSeq (uIfS (uNot (uTru (uCall (sp_law_same K 4) [] (uCons (uLst (uCons (uCall (sp_is_alphabet K) [] (uCons (uVar 5) uNil)) (uCons (uCall (sp_is_alphabet K) [] (uCons (uVar 3) uNil)) uNil))) (uCons (uLst (uCons (uVar 6) (uCons (uC (.bl true)) uNil))) uNil))))) (uRet (uC (.bl false))) uNext)
    (tl_8 K))
def tl_6 (K : PySem.W.Frag) : US :=
  (uSeq (uSet 6 (uAndV (uVar 6) (uNotV (uLc (uSeqI (uVar 5)) [11] (uName 11) (uNot (uTest (uChain gLe gLe (uC (.str "a")) (uVar 11) (uC (.str "z"))))) (uVar 11)))))
    (tl_7 K))
def tl_5 (K : PySem.W.Frag) : US :=
  (uSeq (uSet 6 (uAndV (uChain gLe gLe (uC (.int 1)) (uCB gLen (uCons (uVar 5) uNil)) (uC (.int 4))) (uNotV (uLc (uR2 (uCons (uC (.int 1)) (uCons (uCB gLen (uCons (uVar 5) uNil)) uNil))) [10] (uName 10) (uTest (uOp gLe (uOp gIx (uVar 5) (uVar 10)) (uOp gIx (uVar 5) (uOp gSub (uVar 10) (uC (.int 1)))))) (uVar 10)))))
    (tl_6 K))
def tl_4 (K : PySem.W.Frag) : US :=
  (uSeq (uSet 5 (uBM "str" gJoin (uC (.str "")) (uCons (uVar 4) uNil)))
    (tl_5 K))
def tl_3 (K : PySem.W.Frag) : US :=
  (uSeq (uIfS (uAnd (uTest (uOp gNe (uVar 4) (uLst uNil))) (uTest (uOp gEq (uCall (sp_law_pull K) [] (uCons (uVar 1) (uCons (uC (.int 4)) uNil))) (uC (.int 0))))) (uAsg (uCall (sp_law_of K) [] (uCons (uVar 1) (uCons (uLst (uCons (uC (.str "A")) (uCons (uC (.str "1")) (uCons (uC (.str " ")) (uCons (uC (.str "_")) (uCons (uC (.str "\n")) (uCons (uOp gIx (uVar 4) (uC (.int 0))) uNil))))))) uNil))) (uGSub (uVar 4) (uCall (sp_law_pull K) [] (uCons (uVar 1) (uCons (uCB gLen (uCons (uVar 4) uNil)) uNil))) gSetL)) uNext)
    (tl_4 K))
def tl_2 (K : PySem.W.Frag) : US :=
  (uSeq (uIfS (uTest (uOp gGt (uCall (sp_law_pull K) [] (uCons (uVar 1) (uCons (uC (.int 3)) uNil))) (uC (.int 0)))) (uSet 4 (uCB (gSortedS fun xs S K => K (.cell S.length) (S ++ [.lst xs])) (uCons (uVar 4) uNil))) uNext)
    (tl_3 K))
def tl_1 (K : PySem.W.Frag) : US :=
  (uSeq (uSet 4 (uLcC (uR1 (uCons (uCall (sp_law_pull K) [] (uCons (uVar 1) (uCons (uC (.int 7)) uNil))) uNil)) [10] (uName 10) uYes (uCall (sp_law_of K) [] (uCons (uVar 1) (uCons (uC (.str "abcdefghijklmnopqrstuvwxyz")) uNil)))))
    (tl_2 K))
def tl_0 (K : PySem.W.Frag) : US :=
  (uSeq (uSet 3 (uCall (sp_law_signs K) [] (uCons (uVar 1) uNil)))
    (tl_1 K))
theorem law_is (K : PySem.W.Frag) : u_law K = (uSeq (uSet 1 (uCall (sp_law_bag K) [] (uCons (uVar 0) uNil)))
    (uSeq (uFor (uR1 (uCons (uC (.int 8)) uNil)) (uName 2) (tl_0 K)) (uRet (uC (.bl true))))) := rfl
/-- the state between the law's turns -/
structure Good (KF : PySem.W.Frag) (ns : List Int) (dl : Env') (S : Store) : Prop where
  ex : ∃ x2 x3 x4 x5 x6 x7 x8 x9 x10 x11, dl = [some (.sq KF ns), some (.cell 0), x2, x3, x4, x5, x6, x7, x8, x9, x10, x11]
  st : ∃ bag R, S = bag :: R ∧ IsBag bag
def scalB : Dat → Bool
  | .non => true | .bl _ => true | .int _ => true | .str _ => true | _ => false
theorem same_scal {S : Store} {n : Nat} {d : Dat} (h : scalB d = true) : SameD S (n + 1) d d := by
  cases d with
  | non => exact .inl ⟨rfl, rfl⟩
  | bl b => exact .inr (.inl ⟨b, rfl, rfl⟩)
  | int b => exact .inr (.inr (.inl ⟨b, rfl, rfl⟩))
  | str b => exact .inr (.inr (.inr (.inl ⟨b, rfl, rfl⟩)))
  | _ => cases h
theorem same_lst {S : Store} {n : Nat} {xs : List Dat} (h : xs.all scalB = true) (hl : Nat.ble xs.length sizeLine = true) : SameD S (n + 2) (.lst xs) (.lst xs) := by
  refine .inr (.inr (.inr (.inr (.inr ⟨xs, xs, rfl, rfl, rfl, Nat.le_of_ble_eq_true hl, fun i a b e1 e2 => ?_⟩))))
  rw [e1] at e2
  injection e2 with e2
  subst e2
  exact same_scal (List.all_eq_true.mp h a (List.mem_of_getElem? e1))
theorem same_of {KF : PySem.W.Frag} {S : Store} {Kt : KE} {X : KX} {xs ys : List Dat} (e : xs = ys) (h : ys.all scalB = true) (hl : Nat.ble ys.length sizeLine = true) (k : Kt (.bl true) S) : sp_law_same KF 4 ([.lst xs, .lst ys] ++ []) S Kt X := by
  subst e
  exact ⟨_, _, rfl, same_lst h hl, k⟩
theorem signs_ne {z : Str} (hz : isSigns z) : 1 ≤ z.cps.toList.length ∧ z.cps.toList.length ≤ 4 := by
  unfold isSigns isAlpha at hz
  rw [Bool.and_eq_true, Bool.and_eq_true] at hz
  exact ⟨of_decide_eq_true hz.1.1, of_decide_eq_true hz.1.2⟩
theorem signs_0 {z : Str} (hz : isSigns z) : ∃ c, atI z.cps.toList 0 = some c := by
  have h := (signs_ne hz).1
  cases e : z.cps.toList with
  | nil => rw [e] at h; simp at h
  | cons a r => exact ⟨a, by unfold atI ixN; rw [if_pos (by decide), if_pos (by rw [List.length_cons]; omega)]; rfl⟩
theorem signs_sz {z : Str} (hz : isSigns z) : z.length ≤ sizeLine := by
  have := (signs_ne hz).2
  rw [cps_len] at this
  exact Nat.le_trans this (by decide)
theorem all_self (z : Str) : (z.cps.toList.all fun c => decide (c ∈ z.cps.toList)) = true := List.all_eq_true.mpr fun c hc => decide_eq_true hc
section
variable {KF : PySem.W.Frag} {ns : List Int} {D : DEnds} {R : Store} {bag : Dat} {x2 x3 x4 x5 x6 x7 x8 x9 x10 x11 : Option Dat}
/-- odd values -/
theorem st_12 {z : Str} {d : Dat} (hz : isSigns z) (hB : IsBag bag) (hd : notStr (bag :: R) d) (hk : ∀ dl S, Good KF ns dl S → D.nx dl S) : tl_12 KF D [some (.sq KF ns), some (.cell 0), x2, some (.str z), x4, x5, x6, x7, x8, some d, x10, x11] (bag :: R) := by
  unfold tl_12
  walk_at "i"
  refine .inr ⟨d, rfl, hd, ?_⟩
  walk_at "i"
  refine ⟨z, .inr ⟨d, rfl, hd, ?_⟩⟩
  walk_at "i"
  refine .inl ⟨_, rfl, by decide, ?_⟩
  walk_at "i"
  refine same_of rfl rfl rfl ?_
  walk_at "i"
  exact hk _ _ ⟨⟨_, _, _, _, _, _, _, _, _, _, rfl⟩, ⟨_, _, rfl, hB⟩⟩
theorem st_11 {z : Str} (hz : isSigns z) (hB : IsBag bag) (hk : ∀ dl S, Good KF ns dl S → D.nx dl S) : tl_11 KF D [some (.sq KF ns), some (.cell 0), x2, some (.str z), x4, x5, x6, x7, x8, x9, x10, x11] (bag :: R) := by
  obtain ⟨c, hc⟩ := signs_0 hz
  unfold tl_11
  walk_at "i"
  refine x_ixS (signs_sz hz) hc ?_
  walk_at "i"
  refine x_ixS (signs_sz hz) hc ?_
  walk_at "i"
  refine of_lst (Nat.le_of_ble_eq_true rfl) (Nat.le_of_ble_eq_true rfl) rfl hB (fun i x bag' hx hB' => ?_)
  have hx2 : ∀ S, notStr S x := fun S => by
    match i, hx with
    | 0, hx => rw [← Option.some.inj hx]; exact ⟨_, rfl, by decide, by decide⟩
    | 1, hx => rw [← Option.some.inj hx]; exact ⟨_, rfl, by decide, by decide⟩
    | 2, hx => rw [← Option.some.inj hx]; exact ⟨_, rfl, by decide, by decide⟩
    | 3, hx => rw [← Option.some.inj hx]; exact ⟨_, rfl, by decide, by decide⟩
    | 4, hx => rw [← Option.some.inj hx]; exact ⟨_, rfl, by decide, by decide⟩
    | 5, hx => rw [← Option.some.inj hx]; exact ⟨_, rfl, by decide, by decide⟩
    | 6, hx => rw [← Option.some.inj hx]; exact ⟨_, rfl, by decide, by decide⟩
    | 7, hx => rw [← Option.some.inj hx]; exact ⟨_, rfl, by decide, by decide⟩
    | 8, hx => rw [← Option.some.inj hx]; exact ⟨_, rfl, by decide, by decide⟩
    | n + 9, hx => cases hx
  walk_at "i"
  exact st_12 hz hB' (hx2 _) hk
theorem st_10 {z y : Str} (hz : isSigns z) (hB : IsBag bag) (hy : y.length ≤ 1000) (hk : ∀ dl S, Good KF ns dl S → D.nx dl S) : tl_10 KF D [some (.sq KF ns), some (.cell 0), x2, some (.str z), x4, x5, x6, some (.str y), some (.bl (y.cps.toList.all fun c => decide (c ∈ z.cps.toList))), x9, x10, x11] (bag :: R) := by
  unfold tl_10
  walk_at "i"
  refine ⟨z, .inl ⟨y, rfl, by omega, ?_⟩⟩
  walk_at "i"
  refine ⟨z, .inl ⟨_, rfl, by decide, ?_⟩⟩
  walk_at "i"
  refine ⟨z, .inl ⟨z, rfl, by have := signs_ne hz; rw [cps_len] at this; omega, ?_⟩⟩
  rw [all_self]
  walk_at "i"
  refine same_of rfl rfl rfl ?_
  walk_at "i"
  exact st_11 hz hB hk
theorem x_lcSigns {i j : Nat} {tt : UT} {z : Str} {dl : Env'} {S : Store} {K : KE} {X : KX} (p : Nat → Bool) (hi : dl[i]? = some (some (.str z))) (hz : z.length ≤ sizeLine) (hj : j < dl.length) (ht : ∀ c (Kt : Bool → Store → Prop), Kt (p c) S → tt ((dl.set j none).set j (some (.str (sgn c)))) S Kt XF0)
    (k : K (.lst ((z.cps.toList.filter p).map fun c => .str (sgn c))) S) : uLc (uSeqI (uVar i)) [j] (uName j) tt (uVar j) dl S K X := by
  refine x_lc ?_
  refine x_lcW ?_
  refine x_seqI ?_
  refine x_var hi ?_
  refine ⟨z.cps.toList.map fun c => .str (sgn c), rfl, ?_⟩
  refine lc_pickG (xs := z.cps.toList.map fun c => Dat.str (sgn c)) (fun d => match d with | .str y => if p (y.cps.toList.headD 0) = true then some d else none | _ => none) (by exact rfl) (by rw [List.length_map, cps_len]; exact hz) (fun n d Kt Kf hn h1 h2 => ?_) ?_
  · rw [List.getElem?_map] at hn
    obtain ⟨c, _, rfl⟩ := Option.map_eq_some_iff.mp hn
    refine x_name (by simpa [wipeD] using hj) ?_
    refine ht c _ ?_
    refine x_ite (fun e => ?_) (fun e => ?_)
    · refine x_var (d := .str (sgn c)) (by rw [List.getElem?_set_self (by simpa [wipeD] using hj)]) ?_
      exact h1 _ (if_pos e)
    · exact h2 (if_neg (by rw [show (sgn c).cps.toList.headD 0 = c from rfl, e]; decide))
  · have hr : ((z.cps.toList.map fun c => Dat.str (sgn c)).filterMap fun d => match d with | .str y => if p (y.cps.toList.headD 0) = true then some d else none | _ => none) = (z.cps.toList.filter p).map fun c => .str (sgn c) := by
      generalize z.cps.toList = l
      induction l with
      | nil => rfl
      | cons a r ih =>
        by_cases ha : p a = true
        · rw [List.filter_cons_of_pos ha, List.map_cons, List.map_cons, List.filterMap_cons_some (b := .str (sgn a)), ih]
          exact if_pos ha
        · rw [List.filter_cons_of_neg ha, ← ih, List.map_cons, List.filterMap_cons_none]
          exact if_neg ha
    rw [hr]
    exact k
theorem empty_all {l : List Nat} {p : Nat → Bool} {f : Nat → Dat} : ((l.filter p).map f).isEmpty = l.all fun c => !p c := by
  induction l with
  | nil => rfl
  | cons a r ih =>
    by_cases ha : p a = true
    · rw [List.filter_cons_of_pos ha]; simp [ha]
    · rw [List.filter_cons_of_neg ha, ih]; simp [ha]
theorem st_9 {z y : Str} (hz : isSigns z) (hB : IsBag bag) (hy : y.length ≤ 1000) (hk : ∀ dl S, Good KF ns dl S → D.nx dl S) : tl_9 KF D [some (.sq KF ns), some (.cell 0), x2, some (.str z), x4, x5, x6, some (.str y), x8, x9, x10, x11] (bag :: R) := by
  unfold tl_9
  refine x_seq ?_
  refine x_set ?_
  refine x_notV ?_
  refine x_lcSigns (fun c => !decide (c ∈ z.cps.toList)) rfl (Nat.le_trans hy (by decide)) (Nat.le_of_ble_eq_true rfl) (fun c Kt h => ?_) ?_
  · walk_at "i"
    exact h
  · refine x_tL ?_
    rw [empty_all]
    simp only [Bool.not_not]
    walk_at "i"
    exact st_10 hz hB hy hk
end


theorem app_len (s t : Str) : (s ++ t).length = s.length + t.length := by
  rw [← cps_len, ← cps_len, ← cps_len]
  show (s.cps ++ t.cps).toList.length = _
  rw [Array.toList_append, List.length_append]
theorem abc_mem (c : Nat) : decide (c ∈ abc.cps.toList) = (!decide (c < 97) && !decide (122 < c)) := by
  have h : abc.cps.toList = List.range' 97 26 := by decide +kernel
  rw [h]
  by_cases h1 : c < 97
  · have : ¬ c ∈ List.range' 97 26 := by rw [List.mem_range'_1]; omega
    simp [h1, this]
  · by_cases h2 : 122 < c
    · have : ¬ c ∈ List.range' 97 26 := by rw [List.mem_range'_1]; omega
      simp [h2, this]
    · have : c ∈ List.range' 97 26 := by rw [List.mem_range'_1]; omega
      simp [h1, h2, this]
section
variable {KF : PySem.W.Frag} {ns : List Int} {D : DEnds} {R : Store} {bag : Dat} {x2 x3 x4 x5 x6 x7 x8 x9 x10 x11 : Option Dat}
theorem st_8 {z y : Str} (hz : isSigns z) (hB : IsBag bag) (hy : y.length ≤ 6) (hk : ∀ dl S, Good KF ns dl S → D.nx dl S) : tl_8 KF D [some (.sq KF ns), some (.cell 0), x2, some (.str z), x4, some (.str y), x6, x7, x8, x9, x10, x11] (bag :: R) := by
  obtain ⟨c, hc⟩ := signs_0 hz
  have hz4 := (signs_ne hz).2
  rw [cps_len] at hz4
  unfold tl_8
  walk_at "i"
  refine pull_of (by decide) (by decide) rfl hB (fun n bag1 hn hB1 => ?_)
  walk_at "i"
  refine ⟨0, bag1, z, n, rfl, by omega, (signs_ne hz).1, by omega, rfl, hB1, fun t bag2 ht _ hB2 => ?_⟩
  rw [cps_len] at ht
  walk_at "i"
  refine x_ixS (signs_sz hz) hc ?_
  walk_at "i"
  refine of_lst (Nat.le_of_ble_eq_true rfl) (Nat.le_of_ble_eq_true rfl) rfl hB2 (fun i x bag' hx hB' => ?_)
  obtain ⟨s, rfl, hs⟩ : ∃ s : Str, x = .str s ∧ s.length ≤ 6 := by
    match i, hx with
    | 0, hx => exact ⟨_, (Option.some.inj hx).symm, by decide⟩
    | 1, hx => exact ⟨_, (Option.some.inj hx).symm, by decide⟩
    | 2, hx => exact ⟨_, (Option.some.inj hx).symm, by decide⟩
    | 3, hx => exact ⟨_, (Option.some.inj hx).symm, hy⟩
    | 4, hx => exact ⟨_, (Option.some.inj hx).symm, by decide⟩
    | 5, hx => exact ⟨_, (Option.some.inj hx).symm, Nat.le_of_ble_eq_true rfl⟩
    | n + 6, hx => cases hx
  have hsz : sizeLine = 16777216 := rfl
  refine x_addS (by omega) ?_
  walk_at "i"
  exact st_9 hz hB' (by rw [app_len]; omega) hk
theorem st_7 {z y : Str} (hz : isSigns z) (hB : IsBag bag) (hy : y.length ≤ 6) (hk : ∀ dl S, Good KF ns dl S → D.nx dl S) : tl_7 KF D [some (.sq KF ns), some (.cell 0), x2, some (.str z), x4, some (.str y), some (.bl (isAlpha y)), x7, x8, x9, x10, x11] (bag :: R) := by
  have hz4 := (signs_ne hz).2
  rw [cps_len] at hz4
  unfold tl_7
  walk_at "i"
  refine .inl ⟨y, rfl, by omega, ?_⟩
  walk_at "i"
  refine .inl ⟨z, rfl, by omega, ?_⟩
  rw [show isAlpha z = true from hz]
  walk_at "i"
  refine same_of rfl rfl rfl ?_
  walk_at "i"
  exact st_8 hz hB hy hk
theorem st_6 {z y : Str} {d1 : Bool} (hz : isSigns z) (hB : IsBag bag) (hy : y.length ≤ 6) (hd : (d1 && y.cps.toList.all fun c => decide (c ∈ abc.cps.toList)) = isAlpha y) (hk : ∀ dl S, Good KF ns dl S → D.nx dl S) : tl_6 KF D [some (.sq KF ns), some (.cell 0), x2, some (.str z), x4, some (.str y), some (.bl d1), x7, x8, x9, x10, x11] (bag :: R) := by
  unfold tl_6
  walk_at "i"
  refine x_ite (fun e => ?_) (fun e => ?_)
  · refine x_notV ?_
    refine x_lcSigns (fun c => !(!decide (c < 97) && !decide (122 < c))) rfl (Nat.le_trans hy (by decide)) (Nat.le_of_ble_eq_true rfl) (fun c Kt h => ?_) ?_
    · have ha : ltS (sgn c) (Str.ofString "a") = decide (c < 97) := ltS_sgn c 97
      have hb : ltS (Str.ofString "z") (sgn c) = decide (122 < c) := ltS_sgn 122 c
      walk_at "i"
      rw [ha]
      refine x_ite (fun e => ?_) (fun e => ?_)
      · walk_at "i"
        rw [hb]
        rw [e, Bool.true_and] at h
        exact h
      · rw [e, Bool.false_and] at h
        exact h
    · refine x_tL ?_
      rw [empty_all]
      simp only [Bool.not_not]
      walk_at "i"
      have e2 : (y.cps.toList.all fun c => !decide (c < 97) && !decide (122 < c)) = isAlpha y := by
        rw [← hd, e, Bool.true_and]
        congr 1
        funext c
        rw [abc_mem]
      rw [e2]
      exact st_7 hz hB hy hk
  · walk_at "i"
    have e2 : d1 = isAlpha y := by rw [← hd, e, Bool.false_and]
    rw [e2]
    exact st_7 hz hB hy hk
end


theorem asc_idx : ∀ l : List Nat, ascL l = true ↔ ∀ i a b, l[i]? = some a → l[i + 1]? = some b → a < b
  | [] => by simp [ascL]
  | [a] => by simp [ascL]
  | a :: b :: r => by
    have ih := asc_idx (b :: r)
    simp only [ascL, Bool.and_eq_true, decide_eq_true_eq, ih]
    constructor
    · rintro ⟨h1, h2⟩ i x y e1 e2
      cases i with
      | zero =>
        simp only [List.getElem?_cons_zero, List.getElem?_cons_succ, Option.some.injEq] at e1 e2
        omega
      | succ i => exact h2 i x y (by simpa using e1) (by simpa using e2)
    · intro h
      exact ⟨h 0 a b rfl rfl, fun i x y e1 e2 => h (i + 1) x y (by simpa using e1) (by simpa using e2)⟩
section
variable {KF : PySem.W.Frag} {ns : List Int} {D : DEnds} {R : Store} {bag : Dat} {x2 x3 x4 x5 x6 x7 x8 x9 x10 x11 : Option Dat}
theorem st_5 {z y : Str} (hz : isSigns z) (hB : IsBag bag) (hy : y.length ≤ 6) (hk : ∀ dl S, Good KF ns dl S → D.nx dl S) : tl_5 KF D [some (.sq KF ns), some (.cell 0), x2, some (.str z), x4, some (.str y), x6, x7, x8, x9, x10, x11] (bag :: R) := by
  have hyl : y.cps.toList.length = y.length := cps_len y
  have hsz : sizeLine = 16777216 := rfl
  have hA : ∀ d1 : Bool, d1 = (decide (1 ≤ y.cps.toList.length) && decide (y.cps.toList.length ≤ 4) && ascL y.cps.toList) → (d1 && y.cps.toList.all fun c => decide (c ∈ abc.cps.toList)) = isAlpha y := fun d1 e => by
    rw [e]
    unfold isAlpha
    rw [Bool.and_assoc, Bool.and_comm (ascL _)]
  unfold tl_5
  walk_at "i"
  refine x_lenS (by omega) ?_
  walk_at "i"
  refine x_ite (fun e1 => ?_) (fun e1 => ?_)
  · have h1 := of_decide_eq_true e1
    walk_at "i"
    refine x_ite (fun e2 => ?_) (fun e2 => ?_)
    · have h2 := of_decide_eq_true e2
      walk_at "i"
      refine x_lenS (by omega) ?_
      walk_at "i"
      refine ⟨⟨by decide, by decide, by omega, by omega⟩, ?_⟩
      refine lc_pickG (f := fun d => match d with | .int k => if y.cps.toList.getD k.toNat 0 ≤ y.cps.toList.getD (k.toNat - 1) 0 then some d else none | _ => none) trivial (by unfold rangeD; rw [List.length_map, List.length_range]; omega) (fun n d Kt Kf hn h3 h4 => ?_) ?_
      · unfold rangeD at hn
        rw [List.getElem?_map] at hn
        obtain ⟨i, hi, rfl⟩ := Option.map_eq_some_iff.mp hn
        have hi2 : i < y.length - 1 := by
          have h5 := List.getElem?_eq_some_iff.mp hi
          obtain ⟨h5, h6⟩ := h5
          rw [List.getElem_range] at h6
          rw [List.length_range] at h5
          omega
        obtain ⟨a, ha⟩ : ∃ a, y.cps.toList[i + 1]? = some a := ⟨y.cps.toList[i + 1], List.getElem?_eq_getElem (by omega)⟩
        obtain ⟨b, hb⟩ : ∃ b, y.cps.toList[i]? = some b := ⟨y.cps.toList[i], List.getElem?_eq_getElem (by omega)⟩
        dsimp only [wipeD, List.set_cons_succ, List.set_cons_zero]
        walk_at "i"
        refine x_ixS (c := a) (by omega) ?_ ?_
        · unfold atI ixN
          rw [if_pos (by omega), if_pos (by omega)]
          rw [show (1 + (i : Int)).toNat = i + 1 by omega]; exact ha
        walk_at "i"
        refine x_ixS (c := b) (by omega) ?_ ?_
        · unfold atI ixN
          rw [if_pos (by omega), if_pos (by omega)]
          rw [show (1 + (i : Int) - 1).toNat = i by omega]; exact hb
        walk_at "i"
        rw [ltS_sgn]
        have e5 : (1 + (i : Int)).toNat = i + 1 := by omega
        have e6 : y.cps.toList.getD (i + 1) 0 = a := by rw [List.getD_eq_getElem?_getD, ha]; rfl
        have e7 : y.cps.toList.getD (i + 1 - 1) 0 = b := by rw [List.getD_eq_getElem?_getD, Nat.add_sub_cancel, hb]; rfl
        refine x_ite (fun e => ?_) (fun e => ?_)
        · have : ¬ b < a := by simpa using e
          walk_at "i"
          exact h3 _ (by
            show (if y.cps.toList.getD (1 + (i : Int)).toNat 0 ≤ y.cps.toList.getD ((1 + (i : Int)).toNat - 1) 0 then some (Dat.int (1 + (i : Int))) else none) = _
            rw [e5, e6, e7, if_pos (by omega)])
        · have : b < a := by simpa using e
          exact h4 (by
            show (if y.cps.toList.getD (1 + (i : Int)).toNat 0 ≤ y.cps.toList.getD ((1 + (i : Int)).toNat - 1) 0 then some (Dat.int (1 + (i : Int))) else none) = _
            rw [e5, e6, e7, if_neg (by omega)])
      · refine x_tL ?_
        walk_at "i"
        refine st_6 hz hB hy (hA _ ?_) hk
        rw [show decide (1 ≤ y.cps.toList.length) = true from decide_eq_true (by omega), show decide (y.cps.toList.length ≤ 4) = true from decide_eq_true (by omega), Bool.true_and, Bool.true_and, Bool.not_not]
        rw [Bool.eq_iff_iff, asc_idx, List.isEmpty_iff, List.filterMap_eq_nil_iff]
        constructor
        · intro h i a b ha hb
          have hl := (List.getElem?_eq_some_iff.mp hb).1
          have h5 := h (.int (1 + (i : Int))) (by
            unfold rangeD
            refine List.mem_map.mpr ⟨i, List.mem_range.mpr (by omega), rfl⟩)
          have e5 : (1 + (i : Int)).toNat = i + 1 := by omega
          have h6 : (if y.cps.toList.getD (1 + (i : Int)).toNat 0 ≤ y.cps.toList.getD ((1 + (i : Int)).toNat - 1) 0 then some (Dat.int (1 + (i : Int))) else none) = none := h5
          rw [e5, Nat.add_sub_cancel, List.getD_eq_getElem?_getD, List.getD_eq_getElem?_getD, ha, hb] at h6
          simp only [Option.getD_some] at h6
          by_cases h7 : b ≤ a
          · rw [if_pos h7] at h6; cases h6
          · omega
        · intro h d hd
          unfold rangeD at hd
          obtain ⟨i, hi, rfl⟩ := List.mem_map.mp hd
          have hi2 := List.mem_range.mp hi
          have e5 : (1 + (i : Int)).toNat = i + 1 := by omega
          obtain ⟨b, hb⟩ : ∃ a, y.cps.toList[i + 1]? = some a := ⟨y.cps.toList[i + 1]'(by omega), List.getElem?_eq_getElem (by omega)⟩
          obtain ⟨a, ha⟩ : ∃ b, y.cps.toList[i]? = some b := ⟨y.cps.toList[i]'(by omega), List.getElem?_eq_getElem (by omega)⟩
          have := h i a b ha hb
          show (if y.cps.toList.getD (1 + (i : Int)).toNat 0 ≤ y.cps.toList.getD ((1 + (i : Int)).toNat - 1) 0 then some (Dat.int (1 + (i : Int))) else none) = none
          rw [e5, Nat.add_sub_cancel, List.getD_eq_getElem?_getD, List.getD_eq_getElem?_getD, ha, hb]
          exact if_neg (by show ¬ b ≤ a; omega)
    · have h2 := of_decide_eq_false e2
      walk_at "i"
      refine st_6 hz hB hy (hA _ ?_) hk
      rw [show decide (y.cps.toList.length ≤ 4) = false from decide_eq_false (by omega), Bool.and_false, Bool.false_and]
      exact e2
  · have h1 := of_decide_eq_false e1
    walk_at "i"
    refine st_6 hz hB hy (hA _ ?_) hk
    rw [show decide (1 ≤ y.cps.toList.length) = false from decide_eq_false (by omega), Bool.false_and, Bool.false_and]
/-- the drawn letters, joined -/
theorem st_4 {z : Str} {m : Nat} {cs : List Nat} (hz : isSigns z) (hB : IsBag bag) (hm : R[m]? = some (.lst (cs.map fun c => .str (sgn c)))) (hc : cs.length ≤ 6) (hk : ∀ dl S, Good KF ns dl S → D.nx dl S) : tl_4 KF D [some (.sq KF ns), some (.cell 0), x2, some (.str z), some (.cell (m + 1)), x5, x6, x7, x8, x9, x10, x11] (bag :: R) := by
  unfold tl_4
  walk_at "i"
  refine ⟨rfl, ?_⟩
  walk_at "i"
  have hs : ∀ ds : List Nat, ((ds.map sgn).map (·.length)).sum = ds.length := fun ds => by
    induction ds with
    | nil => rfl
    | cons c r ih => simp only [List.map_cons, List.sum_cons, ih, List.length_cons]; show 1 + r.length = _; omega
  refine x_join (ss := cs.map sgn) (by simp only [seqD, List.getElem?_cons_succ, hm, List.map_map]; rfl) ?_ ?_
  · rw [hs, show (Str.ofString "").length = 0 from rfl]; omega
  · walk_at "i"
    refine st_5 hz hB ?_ hk
    rw [← cps_len]
    exact Nat.le_trans (Nat.le_of_eq (congrArg List.length (join_cps cs))) hc
end


theorem shaped_strs {cs : List Nat} (h : ∀ c ∈ cs, c ∈ abc.cps.toList) : SeqAt.shaped (.list (cs.map fun c => PyData.str (sgn c))) = true := by
  have hok : abc.cps.toList.all (fun c => PyData.canLay0 (.str (sgn c))) = true := by decide +kernel
  have h1 : ∀ cs : List Nat, (∀ c ∈ cs, c ∈ abc.cps.toList) → PyData.canLayAll0 (cs.map fun c => PyData.str (sgn c)) = true := fun cs => by
    induction cs with
    | nil => intro _; simp [PyData.canLayAll0]
    | cons a r ih =>
      intro h
      have h2 := List.all_eq_true.mp hok a (h a List.mem_cons_self)
      simp only [List.map_cons, PyData.canLayAll0, Bool.and_eq_true]
      exact ⟨h2, ih fun c hc => h c (List.mem_cons_of_mem _ hc)⟩
  have h2 : ∀ cs : List Nat, PyData.depthAll (cs.map fun c => PyData.str (sgn c)) ≤ 1 := fun cs => by
    induction cs with
    | nil => simp [PyData.depthAll]
    | cons a r ih => simp only [List.map_cons, PyData.depthAll, PyData.depth]; omega
  unfold SeqAt.shaped
  rw [Bool.and_eq_true]
  refine ⟨by simp only [PyData.canLay0]; exact h1 cs h, decide_eq_true ?_⟩
  simp only [PyData.depth]
  have := h2 cs
  omega
theorem pys_strs {S : Store} : ∀ cs : List Nat, Pys S (cs.map fun c => .str (sgn c)) (cs.map fun c => PyData.str (sgn c))
  | [] => .nil
  | c :: r => .cons .str (pys_strs r)
section
variable {KF : PySem.W.Frag} {ns : List Int} {D : DEnds} {R : Store} {bag : Dat} {x2 x3 x4 x5 x6 x7 x8 x9 x10 x11 : Option Dat}
theorem st_3 {z : Str} {m : Nat} {cs : List Nat} (hz : isSigns z) (hB : IsBag bag) (hm : R[m]? = some (.lst (cs.map fun c => .str (sgn c)))) (hc : cs.length ≤ 6) (habc : ∀ c ∈ cs, c ∈ abc.cps.toList) (hk : ∀ dl S, Good KF ns dl S → D.nx dl S) : tl_3 KF D [some (.sq KF ns), some (.cell 0), x2, some (.str z), some (.cell (m + 1)), x5, x6, x7, x8, x9, x10, x11] (bag :: R) := by
  have hml : m < R.length := (List.getElem?_eq_some_iff.mp hm).1
  unfold tl_3
  walk_at "i"
  refine x_neP (p := .list (cs.map fun c => PyData.str (sgn c))) (q := .list []) rfl (.cell (xs := cs.map fun c => .str (sgn c)) (by simpa using hm) (pys_strs cs)) (.lst .nil) (shaped_strs habc) (shaped_strs (cs := []) (fun c h => (List.not_mem_nil h).elim)) ?_
  have he : ((PyData.list (cs.map fun c => PyData.str (sgn c))).eqv (.list [])) = cs.isEmpty := by
    cases cs with
    | nil => rfl
    | cons a r => rfl
  rw [he]
  walk_at "i"
  cases hcs : cs with
  | nil =>
    rw [hcs] at hm hc habc
    walk_at "i"
    exact st_4 hz hB hm hc hk
  | cons c0 cr =>
    rw [hcs] at hm hc habc
    walk_at "i"
    refine pull_of (by decide) (by decide) rfl hB (fun n bag1 hn hB1 => ?_)
    walk_at "i"
    refine x_ite (fun e => ?_) (fun e => ?_)
    · walk_at "i"
      refine x_ixL (xs := (c0 :: cr).map fun c => .str (sgn c)) (d := .str (sgn c0)) (by simp only [seqD, List.getElem?_cons_succ, hm]) (by unfold atI ixN; rw [if_pos (by decide), if_pos (by rw [List.length_map, List.length_cons]; omega)]; rfl) ?_
      walk_at "i"
      refine of_lst (Nat.le_of_ble_eq_true rfl) (Nat.le_of_ble_eq_true rfl) rfl hB1 (fun i x bag2 hx hB2 => ?_)
      obtain ⟨c, rfl⟩ : ∃ c, x = .str (sgn c) := by
        match i, hx with
        | 0, hx => exact ⟨65, (Option.some.inj hx).symm⟩
        | 1, hx => exact ⟨49, (Option.some.inj hx).symm⟩
        | 2, hx => exact ⟨32, (Option.some.inj hx).symm⟩
        | 3, hx => exact ⟨95, (Option.some.inj hx).symm⟩
        | 4, hx => exact ⟨10, (Option.some.inj hx).symm⟩
        | 5, hx => exact ⟨c0, (Option.some.inj hx).symm⟩
        | n + 6, hx => cases hx
      walk_at "i"
      refine x_lenL (xs := (c0 :: cr).map fun c => .str (sgn c)) (by simp only [seqD, List.getElem?_cons_succ, hm]) ?_
      walk_at "i"
      rw [List.length_map]
      refine pull_of (by rw [List.length_cons]; omega) (by omega) rfl hB2 (fun q bag3 hq hB3 => ?_)
      walk_at "i"
      refine x_setL (xs := (c0 :: cr).map fun c => .str (sgn c)) (j := q) (by simp only [List.getElem?_cons_succ, hm]) (by unfold ixN; rw [if_pos (by omega), if_pos (by rw [List.length_map]; exact hq)]; rfl) ?_
      have e1 : (((c0 :: cr).map fun c => Dat.str (sgn c)).set q (.str (sgn c))) = ((c0 :: cr).set q c).map fun c => .str (sgn c) := by rw [List.map_set]
      rw [e1]
      walk_at "i"
      exact st_4 (cs := (c0 :: cr).set q c) hz hB3 (by rw [List.getElem?_set_self hml]) (by rw [List.length_set]; exact hc) hk
    · walk_at "i"
      exact st_4 hz hB1 hm hc hk
end


theorem perm_sgn {cs : List Nat} {ys : List Str} (hp : ys.Perm (cs.map sgn)) : ∃ ds : List Nat, ys = ds.map sgn ∧ ds.Perm cs := by
  have hf : ∀ l : List Nat, (l.map sgn).map (fun y => y.cps.toList.headD 0) = l := fun l => by
    rw [List.map_map]
    induction l with
    | nil => rfl
    | cons a r ih => rw [List.map_cons, ih]; rfl
  have h1 : (ys.map fun y => y.cps.toList.headD 0).Perm cs := by
    have := hp.map (fun y => y.cps.toList.headD 0)
    rwa [hf] at this
  refine ⟨_, ?_, h1⟩
  have hm : ∀ y ∈ ys, sgn (y.cps.toList.headD 0) = y := fun y hy => by
    obtain ⟨c, _, rfl⟩ := List.mem_map.mp (hp.mem_iff.mp hy)
    rfl
  rw [List.map_map]
  clear hp h1
  induction ys with
  | nil => rfl
  | cons y r ih =>
    rw [List.map_cons, ← ih fun z hz => hm z (List.mem_cons_of_mem _ hz)]
    congr 1
    exact (hm y List.mem_cons_self).symm
section
variable {KF : PySem.W.Frag} {ns : List Int} {D : DEnds} {R : Store} {bag : Dat} {x2 x3 x4 x5 x6 x7 x8 x9 x10 x11 : Option Dat}
theorem st_2 {z : Str} {m : Nat} {cs : List Nat} (hz : isSigns z) (hB : IsBag bag) (hm : R[m]? = some (.lst (cs.map fun c => .str (sgn c)))) (hc : cs.length ≤ 6) (habc : ∀ c ∈ cs, c ∈ abc.cps.toList) (hk : ∀ dl S, Good KF ns dl S → D.nx dl S) : tl_2 KF D [some (.sq KF ns), some (.cell 0), x2, some (.str z), some (.cell (m + 1)), x5, x6, x7, x8, x9, x10, x11] (bag :: R) := by
  unfold tl_2
  walk_at "i"
  refine pull_of (by decide) (by decide) rfl hB (fun n bag1 hn hB1 => ?_)
  walk_at "i"
  refine x_ite (fun e => ?_) (fun e => ?_)
  · walk_at "i"
    refine ⟨cs.map sgn, by simp only [lstD, view, List.getElem?_cons_succ, hm, List.map_map]; rfl, by rw [List.length_map]; omega, fun ys hp _ => ?_⟩
    obtain ⟨ds, rfl, hp2⟩ := perm_sgn hp
    walk_at "i"
    have e1 : ((ds.map sgn).map Dat.str) = ds.map fun c => .str (sgn c) := by rw [List.map_map]; rfl
    rw [e1]
    exact st_3 (m := R.length) (R := R ++ [.lst (ds.map fun c => .str (sgn c))]) (cs := ds) hz hB1 (by rw [List.getElem?_concat_length]) (by rw [hp2.length_eq]; exact hc) (fun c h => habc c (hp2.mem_iff.mp h)) hk
  · walk_at "i"
    exact st_3 hz hB1 hm hc habc hk
theorem st_1 {z : Str} (hz : isSigns z) (hB : IsBag bag) (hk : ∀ dl S, Good KF ns dl S → D.nx dl S) : tl_1 KF D [some (.sq KF ns), some (.cell 0), x2, some (.str z), x4, x5, x6, x7, x8, x9, x10, x11] (bag :: R) := by
  have hsz : sizeLine = 16777216 := rfl
  unfold tl_1
  walk_at "i"
  refine pull_of (by decide) (by decide) rfl hB (fun n bag1 hn hB1 => ?_)
  walk_at "i"
  refine ⟨⟨by omega, by omega⟩, ?_⟩
  refine ⟨fun j acc S2 => ∃ (bag' : Dat) (cs : List Nat), IsBag bag' ∧ S2 = bag' :: R ∧ acc = cs.map (fun c => Dat.str (sgn c)) ∧ cs.length = j ∧ ∀ c ∈ cs, c ∈ abc.cps.toList, ⟨bag1, [], hB1, rfl, rfl, rfl, fun c h => (List.not_mem_nil h).elim⟩, ?_, ?_⟩
  · rintro j d acc S2 hj ⟨bag', cs, hB', rfl, rfl, hcl, habc⟩
    have hj2 : j < n := by
      have := (List.getElem?_eq_some_iff.mp hj).1
      simpa [rangeD] using this
    refine ⟨trivial, by rw [List.length_map]; omega, ?_⟩
    dsimp only [wipeD, List.set_cons_succ, List.set_cons_zero]
    walk_at "i"
    refine of_str (by decide +kernel) (by decide) rfl hB' (fun c bag2 hc hB2 => ?_)
    refine ⟨bag2, cs ++ [c], hB2, rfl, by rw [List.map_append]; rfl, by rw [List.length_append, hcl]; rfl, fun q hq => ?_⟩
    rcases List.mem_append.mp hq with h | h
    · exact habc q h
    · rw [List.mem_singleton.mp h]; exact hc
  · rintro acc S2 ⟨bag', cs, hB', rfl, rfl, hcl, habc⟩
    refine ⟨trivial, ?_⟩
    have hcn : cs.length = n := by rw [hcl]; simp [rangeD]
    walk_at "i"
    exact st_2 (m := R.length) (R := R ++ [.lst (cs.map fun c => .str (sgn c))]) (cs := cs) hz hB' (by rw [List.getElem?_concat_length]) (by omega) habc hk
theorem st_0 (hB : IsBag bag) (hk : ∀ dl S, Good KF ns dl S → D.nx dl S) : tl_0 KF D [some (.sq KF ns), some (.cell 0), x2, x3, x4, x5, x6, x7, x8, x9, x10, x11] (bag :: R) := by
  unfold tl_0
  walk_at "i"
  refine ⟨0, bag, rfl, rfl, hB, fun z bag1 hz hB1 => ?_⟩
  walk_at "i"
  exact st_1 hz hB1 hk
end
theorem r_law {KF : PySem.W.Frag} {ds S K X} (h : sp_law KF ds S K X) (hb : belows S.length ds) (hS : belows S.length S) : u_law KF (endsOf S K X) (startD ["_law_script", "_law_bag_here", "_law_turn_z", "_law_signs_here", "_law_found", "_law_text_here", "_law_due", "_law_late", "_law_inside", "_law_odd", "_law_k", "_law_sign"] ds) S := by
  obtain ⟨ns, rfl, hl, hbits, rfl, k⟩ := h
  show u_law KF (endsOf [] K X) [some (.sq KF ns), none, none, none, none, none, none, none, none, none, none, none] []
  rw [law_is]
  walk_at "i"
  refine ⟨ns, rfl, hl, fun bag hB => ?_⟩
  walk_at "i"
  refine x_for ?_
  walk_at "i"
  refine ⟨⟨by decide, by decide⟩, ?_⟩
  refine ⟨fun _ dl S => Good KF ns dl S, ⟨⟨_, _, _, _, _, _, _, _, _, _, rfl⟩, ⟨bag, [], rfl, hB⟩⟩, ?_, ?_⟩
  · rintro j d dl S2 hj ⟨⟨x2, x3, x4, x5, x6, x7, x8, x9, x10, x11, rfl⟩, ⟨bag', R, rfl, hB'⟩⟩
    refine ⟨trivial, ?_⟩
    walk_at "i"
    exact st_0 hB' (fun dl S g => .inl g)
  · rintro dl S2 ⟨⟨x2, x3, x4, x5, x6, x7, x8, x9, x10, x11, rfl⟩, ⟨bag', R, rfl, hB'⟩⟩
    refine ⟨trivial, ?_⟩
    walk_at "i"
    refine x_rtE ?_
    exact exit_pure (S0 := []) (by simp only [below]) (k [])
end DL
namespace DL.KL
open PySem L2 DL
abbrev R : PySem.W.OpenRow := PySem.W.OpenLaw.row PySem.Challenge.rw_onlyahead_k01_alphabets_and_words_judged
def top (i : Nat) : Stmt := PySem.Challenge.pw_onlyahead_k01_alphabets_and_words_judged.main.body.getD i (.Pass ⟨0, 0, 0, 0⟩)
abbrev s_ascends : Stmt := top 3
abbrev N_ascends : List Str := ["letters", "one", "other"]
theorem sc_ascends : FnScope N_ascends ["letters"] (defScope s_ascends) := ⟨rfl, rfl, rfl, by decide +kernel, rfl, by decide +kernel, by decide +kernel⟩
abbrev s_is_alphabet : Stmt := top 4
abbrev N_is_alphabet : List Str := ["value", "sign"]
theorem sc_is_alphabet : FnScope N_is_alphabet ["value"] (defScope s_is_alphabet) := ⟨rfl, rfl, rfl, by decide +kernel, rfl, by decide +kernel, by decide +kernel⟩
abbrev s_is_word : Stmt := top 5
abbrev N_is_word : List Str := ["alphabet", "value", "sign"]
theorem sc_is_word : FnScope N_is_word ["alphabet", "value"] (defScope s_is_word) := ⟨rfl, rfl, rfl, by decide +kernel, rfl, by decide +kernel, by decide +kernel⟩
abbrev s_law_bag : Stmt := top 7
abbrev N_law_bag : List Str := ["_law_script", "_law_mixed", "_law_cell"]
theorem sc_law_bag : FnScope N_law_bag ["_law_script"] (defScope s_law_bag) := ⟨rfl, rfl, rfl, by decide +kernel, rfl, by decide +kernel, by decide +kernel⟩
abbrev s_law_pull : Stmt := top 8
abbrev N_law_pull : List Str := ["_law_bag_here", "_law_sides", "_law_cell", "_law_digit", "_law_twice"]
theorem sc_law_pull : FnScope N_law_pull ["_law_bag_here", "_law_sides"] (defScope s_law_pull) := ⟨rfl, rfl, rfl, by decide +kernel, rfl, by decide +kernel, by decide +kernel⟩
abbrev s_law_of : Stmt := top 9
abbrev N_law_of : List Str := ["_law_bag_here", "_law_some"]
theorem sc_law_of : FnScope N_law_of ["_law_bag_here", "_law_some"] (defScope s_law_of) := ⟨rfl, rfl, rfl, by decide +kernel, rfl, by decide +kernel, by decide +kernel⟩
abbrev s_law_same : Stmt := top 10
abbrev N_law_same : List Str := ["_law_found", "_law_due", "_law_a", "_law_b"]
theorem sc_law_same : FnScope N_law_same ["_law_found", "_law_due"] (defScope s_law_same) := ⟨rfl, rfl, rfl, by decide +kernel, rfl, by decide +kernel, by decide +kernel⟩
abbrev s_law_signs : Stmt := top 11
abbrev N_law_signs : List Str := ["_law_bag_here", "_law_many", "_law_found", "_law_k", "_law_rest", "_law_sign"]
theorem sc_law_signs : FnScope N_law_signs ["_law_bag_here"] (defScope s_law_signs) := ⟨rfl, rfl, rfl, by decide +kernel, rfl, by decide +kernel, by decide +kernel⟩
abbrev s_law_text : Stmt := top 12
abbrev N_law_text : List Str := ["_law_bag_here", "_law_signs_here", "_law_size", "_law_k"]
theorem sc_law_text : FnScope N_law_text ["_law_bag_here", "_law_signs_here", "_law_size"] (defScope s_law_text) := ⟨rfl, rfl, rfl, by decide +kernel, rfl, by decide +kernel, by decide +kernel⟩
abbrev s_law : Stmt := top 13
abbrev N_law : List Str := ["_law_script", "_law_bag_here", "_law_turn_z", "_law_signs_here", "_law_found", "_law_text_here", "_law_due", "_law_late", "_law_inside", "_law_odd", "_law_k", "_law_sign"]
theorem sc_law : FnScope N_law ["_law_script"] (defScope s_law) := ⟨rfl, rfl, rfl, by decide +kernel, rfl, by decide +kernel, by decide +kernel⟩
structure Tx (K : PySem.W.Frag) (mg : Str → Option Value) : Prop where
  n_zip : mg "zip" = none
  n_all : mg "all" = none
  n_str : mg "str" = none
  n_isinstance : mg "isinstance" = none
  n_len : mg "len" = none
  i_MOST_LETTERS : ∃ t, mg "MOST_LETTERS" = some (.int 4 t)
  s_SMALL : ∃ t, mg "SMALL" = some (.str "abcdefghijklmnopqrstuvwxyz" t)
  g_ascends : mg "ascends" = some (.ref (He.ga K "ascends"))
  n_int : mg "int" = none
  n_list : mg "list" = none
  n_abs : mg "abs" = none
  g_law_pull : mg "_law_pull" = some (.ref (He.ga K "_law_pull"))
  n_tuple : mg "tuple" = none
  g_law_same : mg "_law_same" = some (.ref (He.ga K "_law_same"))
  n_bool : mg "bool" = none
  g_law_of : mg "_law_of" = some (.ref (He.ga K "_law_of"))
  n_range : mg "range" = none
  n_sorted : mg "sorted" = none
  g_law_bag : mg "_law_bag" = some (.ref (He.ga K "_law_bag"))
  g_law_signs : mg "_law_signs" = some (.ref (He.ga K "_law_signs"))
  g_is_alphabet : mg "is_alphabet" = some (.ref (He.ga K "is_alphabet"))
  g_law_text : mg "_law_text" = some (.ref (He.ga K "_law_text"))
  g_is_word : mg "is_word" = some (.ref (He.ga K "is_word"))
  d_ascends : ∃ fd, FunD K "ascends" "ascends" (defArgs s_ascends) (defBody s_ascends) (defScope s_ascends) [] [] (He.ga K "ascends") fd
  d_is_alphabet : ∃ fd, FunD K "is_alphabet" "is_alphabet" (defArgs s_is_alphabet) (defBody s_is_alphabet) (defScope s_is_alphabet) [] [] (He.ga K "is_alphabet") fd
  d_is_word : ∃ fd, FunD K "is_word" "is_word" (defArgs s_is_word) (defBody s_is_word) (defScope s_is_word) [] [] (He.ga K "is_word") fd
  d_law_bag : ∃ fd, FunD K "_law_bag" "_law_bag" (defArgs s_law_bag) (defBody s_law_bag) (defScope s_law_bag) [] [] (He.ga K "_law_bag") fd
  d_law_pull : ∃ fd, FunD K "_law_pull" "_law_pull" (defArgs s_law_pull) (defBody s_law_pull) (defScope s_law_pull) [] [] (He.ga K "_law_pull") fd
  d_law_of : ∃ fd, FunD K "_law_of" "_law_of" (defArgs s_law_of) (defBody s_law_of) (defScope s_law_of) [] [] (He.ga K "_law_of") fd
  d_law_same : ∃ fd, FunD K "_law_same" "_law_same" (defArgs s_law_same) (defBody s_law_same) (defScope s_law_same) [] [] (He.ga K "_law_same") fd
  d_law_signs : ∃ fd, FunD K "_law_signs" "_law_signs" (defArgs s_law_signs) (defBody s_law_signs) (defScope s_law_signs) [] [] (He.ga K "_law_signs") fd
  d_law_text : ∃ fd, FunD K "_law_text" "_law_text" (defArgs s_law_text) (defBody s_law_text) (defScope s_law_text) [] [] (He.ga K "_law_text") fd
  d_law : ∃ fd, FunD K "law" "law" (defArgs s_law) (defBody s_law) (defScope s_law) [] [] (He.ga K "law") fd
section
variable {P : Program} {w : World} {K : PySem.W.Frag} {mg : Str → Option Value}
theorem ok_ascends (T : Tx K mg) (base : Heap) : ∃ fd, FunD K "ascends" "ascends" (defArgs s_ascends) (defBody s_ascends) (defScope s_ascends) [] [] (He.ga K "ascends") fd ∧ FnOk P w K mg base (L2.CX P w) 1 (He.ga K "ascends") fd ["letters"] (spOf (sp_ascends K)) := by
  obtain ⟨fd, F⟩ := T.d_ascends
  refine ⟨fd, F, fnD (k := 0) F sc_ascends (fun ds S K X h => len_ascends h) ?hb (u := u_ascends K) (fun ds S K X h hb hS => r_ascends h hb hS)⟩
  intro cdv A outer s H E hr tk
  exact ⟨_, (dss_one (ds_ret (de_callB (dcb_all rfl) T.n_all (da_cons (de_lc (own := [("one", 1), ("other", 2)]) rfl sc_ascends.nd (di_zip T.n_zip (da_cons (de_var 0) (da_cons (de_sl (de_var 0) (do_some de_int) do_none) da_nil))) (blkOk_by (N := N_ascends) (sc := defScope s_ascends) (by decide +kernel)) (fun _ _ _ _ _ => (dg_tupK K rfl rfl (dgs_cons (dg_name (i := 1) sc_ascends.nd) (dgs_cons (dg_name (i := 2) sc_ascends.nd) dgs_nil)))) (fun _ _ _ _ _ => dts_nil) (fun _ _ _ _ _ => (de_cmp dop_lt (de_var 1) (de_var 2))) (by decide)) da_nil))))⟩
theorem cascends_1 (T : Tx K mg) (base : Heap) : CalleeV P w K mg base 1 (He.ga K "ascends") ["letters"] (sp_ascends K) [] [] := by
  obtain ⟨fd, F, G⟩ := ok_ascends (P := P) (w := w) T base
  exact ⟨fd, [], G, F.kp, F.bindsN (fun _ _ _ _ _ _ us hl => match us, hl with | [_], _ => rfl), .nil, True.intro⟩
theorem ok_is_alphabet (T : Tx K mg) (base : Heap) : ∃ fd, FunD K "is_alphabet" "is_alphabet" (defArgs s_is_alphabet) (defBody s_is_alphabet) (defScope s_is_alphabet) [] [] (He.ga K "is_alphabet") fd ∧ FnOk P w K mg base (L2.CX P w) 2 (He.ga K "is_alphabet") fd ["value"] (spOf (sp_is_alphabet K)) := by
  have c_ascends_1 := cascends_1 (P := P) (w := w) T base
  obtain ⟨fd, F⟩ := T.d_is_alphabet
  refine ⟨fd, F, fnD (k := 1) F sc_is_alphabet (fun ds S K X h => len_is_alphabet h) ?hb (u := u_is_alphabet K) (fun ds S K X h hb hS => r_is_alphabet h hb hS)⟩
  intro cdv A outer s H E hr tk
  exact ⟨_, (dss_cons (ds_if (DW.dt (dw_or (dt_not (dt_tru (de_callB dcb_isi T.n_isinstance (da_cons (de_var 0) (da_cons (de_ty T.n_str) da_nil))))) (dw_or1 (dt_not (dt_chain dop_le dop_le de_int (de_callB dcb_len T.n_len (da_cons (de_var 0) da_nil)) (de_gint T.i_MOST_LETTERS)))))) (dss_one (ds_ret de_bl)) dss_nil)
    (dss_one (ds_ret (de_and (de_callB (dcb_all rfl) T.n_all (da_cons (de_lc (own := [("sign", 1)]) rfl sc_is_alphabet.nd (di_seq (de_var 0)) (blkOk_by (N := N_is_alphabet) (sc := defScope s_is_alphabet) (by decide +kernel)) (fun _ _ _ _ _ => (dg_name (i := 1) sc_is_alphabet.nd)) (fun _ _ _ _ _ => dts_nil) (fun _ _ _ _ _ => (de_cmp (dop_inK K rfl) (de_var 1) (de_gstr T.s_SMALL))) (by decide)) da_nil)) (de_one (de_callF c_ascends_1 hr (by first | decide | omega) T.g_ascends tk (da_cons (de_var 0) da_nil)))))))⟩
theorem cis_alphabet_1 (T : Tx K mg) (base : Heap) : CalleeV P w K mg base 2 (He.ga K "is_alphabet") ["value"] (sp_is_alphabet K) [] [] := by
  obtain ⟨fd, F, G⟩ := ok_is_alphabet (P := P) (w := w) T base
  exact ⟨fd, [], G, F.kp, F.bindsN (fun _ _ _ _ _ _ us hl => match us, hl with | [_], _ => rfl), .nil, True.intro⟩
theorem ok_is_word (T : Tx K mg) (base : Heap) : ∃ fd, FunD K "is_word" "is_word" (defArgs s_is_word) (defBody s_is_word) (defScope s_is_word) [] [] (He.ga K "is_word") fd ∧ FnOk P w K mg base (L2.CX P w) 1 (He.ga K "is_word") fd ["alphabet", "value"] (spOf (sp_is_word K)) := by
  obtain ⟨fd, F⟩ := T.d_is_word
  refine ⟨fd, F, fnD (k := 0) F sc_is_word (fun ds S K X h => len_is_word h) ?hb (u := u_is_word K) (fun ds S K X h hb hS => r_is_word h hb hS)⟩
  intro cdv A outer s H E hr tk
  exact ⟨_, (dss_one (ds_ret (de_and (de_callB dcb_isi T.n_isinstance (da_cons (de_var 1) (da_cons (de_ty T.n_str) da_nil))) (de_one (de_callB (dcb_all rfl) T.n_all (da_cons (de_lc (own := [("sign", 2)]) rfl sc_is_word.nd (di_seq (de_var 1)) (blkOk_by (N := N_is_word) (sc := defScope s_is_word) (by decide +kernel)) (fun _ _ _ _ _ => (dg_name (i := 2) sc_is_word.nd)) (fun _ _ _ _ _ => dts_nil) (fun _ _ _ _ _ => (de_cmp (dop_inK K rfl) (de_var 2) (de_var 0))) (by decide)) da_nil))))))⟩
theorem cis_word_2 (T : Tx K mg) (base : Heap) : CalleeV P w K mg base 1 (He.ga K "is_word") ["alphabet", "value"] (sp_is_word K) [] [] := by
  obtain ⟨fd, F, G⟩ := ok_is_word (P := P) (w := w) T base
  exact ⟨fd, [], G, F.kp, F.bindsN (fun _ _ _ _ _ _ us hl => match us, hl with | [_, _], _ => rfl), .nil, True.intro⟩
theorem ok_law_bag (T : Tx K mg) (base : Heap) : ∃ fd, FunD K "_law_bag" "_law_bag" (defArgs s_law_bag) (defBody s_law_bag) (defScope s_law_bag) [] [] (He.ga K "_law_bag") fd ∧ FnOk P w K mg base (L2.CX P w) 1 (He.ga K "_law_bag") fd ["_law_script"] (spOf (sp_law_bag K)) := by
  obtain ⟨fd, F⟩ := T.d_law_bag
  refine ⟨fd, F, fnD (k := 0) F sc_law_bag (fun ds S K X h => len_law_bag h) ?hb (u := u_law_bag K) (fun ds S K X h hb hS => r_law_bag h hb hS)⟩
  intro cdv A outer s H E hr tk
  exact ⟨_, (dss_cons (ds_set (i := 1) sc_law_bag.nd de_int)
    (dss_cons (ds_for (passes_of rfl) rfl (di_seq (de_slQ (de_var 0) do_none (do_some de_int))) (dg_name (i := 2) sc_law_bag.nd) (dss_one (ds_set (i := 1) sc_law_bag.nd (de_bin dop_mod (de_callT dcb_int T.n_int (da_cons (de_bin dop_add (de_bin dop_add (de_bin dop_mul (de_var 1) de_int) (de_bin dop_mul (de_bin dop_mod (de_callT dcb_int T.n_int (da_cons (de_var 2) da_nil)) de_int) de_int)) de_int) da_nil)) de_int))))
    (dss_one (ds_ret (de_lstC (da_cons (de_callT dcb_list T.n_list (da_cons (de_slQ (de_var 0) do_none (do_some de_int)) da_nil)) (da_cons de_int (da_cons de_int (da_cons (de_var 1) (da_cons de_int da_nil))))))))))⟩
theorem claw_bag_1 (T : Tx K mg) (base : Heap) : CalleeV P w K mg base 1 (He.ga K "_law_bag") ["_law_script"] (sp_law_bag K) [] [] := by
  obtain ⟨fd, F, G⟩ := ok_law_bag (P := P) (w := w) T base
  exact ⟨fd, [], G, F.kp, F.bindsN (fun _ _ _ _ _ _ us hl => match us, hl with | [_], _ => rfl), .nil, True.intro⟩
theorem ok_law_pull (T : Tx K mg) (base : Heap) : ∃ fd, FunD K "_law_pull" "_law_pull" (defArgs s_law_pull) (defBody s_law_pull) (defScope s_law_pull) [] [] (He.ga K "_law_pull") fd ∧ FnOk P w K mg base (L2.CX P w) 1 (He.ga K "_law_pull") fd ["_law_bag_here", "_law_sides"] (spOf (sp_law_pull K)) := by
  obtain ⟨fd, F⟩ := T.d_law_pull
  refine ⟨fd, F, fnD (k := 0) F sc_law_pull (fun ds S K X h => len_law_pull h) ?hb (u := u_law_pull K) (fun ds S K X h hb hS => r_law_pull h hb hS)⟩
  intro cdv A outer s H E hr tk
  exact ⟨_, (dss_cons (ds_asg (de_bin dop_add (de_ix (de_var 0) de_int) de_int) (dg_sub (de_var 0) de_int set_list set_imp))
    (dss_cons (ds_if (DW.dt (dw_and (dt_cmp (dop_eq hr.units) (de_ix (de_var 0) de_int) de_int) (dw_and1 (dt_cmp dop_lt (de_ix (de_var 0) de_int) (de_callB dcb_len T.n_len (da_cons (de_ix (de_var 0) de_int) da_nil)))))) (dss_cons (ds_set (i := 2) sc_law_pull.nd (de_ix (de_ix (de_var 0) de_int) (de_ix (de_var 0) de_int)))
    (dss_cons (ds_asg (de_bin dop_add (de_ix (de_var 0) de_int) de_int) (dg_sub (de_var 0) de_int set_list set_imp))
    (dss_one (ds_if (dt_cmp dop_ge (de_callB dcb_abs T.n_abs (da_cons (de_var 2) da_nil)) (de_bin dop_pow de_int de_int)) (dss_one (ds_asg (de_callB dcb_abs T.n_abs (da_cons (de_var 2) da_nil)) (dg_sub (de_var 0) de_int set_list set_imp))) (dss_one (ds_asg (de_bin dop_mod (de_callT dcb_int T.n_int (da_cons (de_bin dop_add (de_bin dop_add (de_bin dop_mul (de_ix (de_var 0) de_int) de_int) (de_bin dop_mul (de_bin dop_mod (de_callT dcb_int T.n_int (da_cons (de_var 2) da_nil)) de_int) de_int)) de_int) da_nil)) de_int) (dg_sub (de_var 0) de_int set_list set_imp))))))) dss_nil)
    (dss_cons (ds_if (dt_cmp dop_gt (de_ix (de_var 0) de_int) de_int) (dss_cons (ds_set (i := 3) sc_law_pull.nd (de_bin dop_mod (de_callT dcb_int T.n_int (da_cons (de_ix (de_var 0) de_int) da_nil)) (de_var 1)))
    (dss_cons (ds_asg (de_bin dop_fdiv (de_ix (de_var 0) de_int) (de_var 1)) (dg_sub (de_var 0) de_int set_list set_imp))
    (dss_one (ds_ret (de_var 3))))) dss_nil)
    (dss_cons (ds_set (i := 4) sc_law_pull.nd (de_bin dop_mod (de_callT dcb_int T.n_int (da_cons (de_bin dop_add (de_bin dop_mul (de_ix (de_var 0) de_int) (de_ix (de_var 0) de_int)) (de_bin dop_mul (de_ix (de_var 0) de_int) de_int)) da_nil)) de_int))
    (dss_cons (ds_asg (de_bin dop_mod (de_callT dcb_int T.n_int (da_cons (de_bin dop_add (de_bin dop_add (de_bin dop_mul (de_var 4) de_int) (de_bin dop_mul (de_ix (de_var 0) de_int) de_int)) de_int) da_nil)) de_int) (dg_sub (de_var 0) de_int set_list set_imp))
    (dss_one (ds_ret (de_bin dop_mod (de_callT dcb_int T.n_int (da_cons (de_bin dop_fdiv (de_ix (de_var 0) de_int) de_int) da_nil)) (de_var 1)))))))))⟩
theorem claw_pull_2 (T : Tx K mg) (base : Heap) : CalleeV P w K mg base 1 (He.ga K "_law_pull") ["_law_bag_here", "_law_sides"] (sp_law_pull K) [] [] := by
  obtain ⟨fd, F, G⟩ := ok_law_pull (P := P) (w := w) T base
  exact ⟨fd, [], G, F.kp, F.bindsN (fun _ _ _ _ _ _ us hl => match us, hl with | [_, _], _ => rfl), .nil, True.intro⟩
theorem ok_law_of (T : Tx K mg) (base : Heap) : ∃ fd, FunD K "_law_of" "_law_of" (defArgs s_law_of) (defBody s_law_of) (defScope s_law_of) [] [] (He.ga K "_law_of") fd ∧ FnOk P w K mg base (L2.CX P w) 2 (He.ga K "_law_of") fd ["_law_bag_here", "_law_some"] (spOf (sp_law_of K)) := by
  have c_law_pull_2 := claw_pull_2 (P := P) (w := w) T base
  obtain ⟨fd, F⟩ := T.d_law_of
  refine ⟨fd, F, fnD (k := 1) F sc_law_of (fun ds S K X h => len_law_of h) ?hb (u := u_law_of K) (fun ds S K X h hb hS => r_law_of h hb hS)⟩
  intro cdv A outer s H E hr tk
  exact ⟨_, (dss_one (ds_ret (de_ix (de_var 1) (de_callF c_law_pull_2 hr (by first | decide | omega) T.g_law_pull tk (da_cons (de_var 0) (da_cons (de_callB dcb_len T.n_len (da_cons (de_var 1) da_nil)) da_nil))))))⟩
theorem claw_of_2 (T : Tx K mg) (base : Heap) : CalleeV P w K mg base 2 (He.ga K "_law_of") ["_law_bag_here", "_law_some"] (sp_law_of K) [] [] := by
  obtain ⟨fd, F, G⟩ := ok_law_of (P := P) (w := w) T base
  exact ⟨fd, [], G, F.kp, F.bindsN (fun _ _ _ _ _ _ us hl => match us, hl with | [_, _], _ => rfl), .nil, True.intro⟩
theorem ok_law_same (T : Tx K mg) (base : Heap) : ∀ n : Nat, ∃ fd, FunD K "_law_same" "_law_same" (defArgs s_law_same) (defBody s_law_same) (defScope s_law_same) [] [] (He.ga K "_law_same") fd ∧ FnOk P w K mg base (L2.CX P w) (n + 1) (He.ga K "_law_same") fd ["_law_found", "_law_due"] (spOf (sp_law_same K n))
  | 0 => by
    obtain ⟨fd, F⟩ := T.d_law_same
    exact ⟨fd, F, fn_none F sc_law_same⟩
  | n + 1 => by
    have c_law_same_2 : CalleeV P w K mg base (n + 1) (He.ga K "_law_same") ["_law_found", "_law_due"] (sp_law_same K n) [] [] := by
      obtain ⟨fd, F, G⟩ := ok_law_same T base n
      exact ⟨fd, [], G, F.kp, F.bindsN (fun _ _ _ _ _ _ us hl => match us, hl with | [_, _], _ => rfl), .nil, True.intro⟩
    obtain ⟨fd, F⟩ := T.d_law_same
    refine ⟨fd, F, fnD (k := n + 1) F sc_law_same (fun ds S K X h => len_law_same h) ?hb (u := u_law_same K (sp_law_same K n)) (fun ds S K X h hb hS => r_law_same h hb hS)⟩
    intro cdv A outer s H E hr tk
    exact ⟨_, (dss_cons (ds_if (dt_tru (de_callB dcb_isi T.n_isinstance (da_cons (de_var 1) (da_cons (de_tup (da_cons (de_ty T.n_list) (da_cons (de_ty T.n_tuple) da_nil))) da_nil)))) (dss_cons (ds_if (DW.dt (dw_or (dt_cmp (dop_ne hr.units) (de_callB dcb_isi T.n_isinstance (da_cons (de_var 0) (da_cons (de_ty T.n_list) da_nil))) (de_callB dcb_isi T.n_isinstance (da_cons (de_var 1) (da_cons (de_ty T.n_list) da_nil)))) (dw_or1 (dt_cmp (dop_ne hr.units) (de_callB dcb_isi T.n_isinstance (da_cons (de_var 0) (da_cons (de_ty T.n_tuple) da_nil))) (de_callB dcb_isi T.n_isinstance (da_cons (de_var 1) (da_cons (de_ty T.n_tuple) da_nil))))))) (dss_one (ds_ret de_bl)) dss_nil)
    (dss_one (ds_ret (de_and (de_cmp (dop_eq hr.units) (de_callB dcb_len T.n_len (da_cons (de_var 0) da_nil)) (de_callB dcb_len T.n_len (da_cons (de_var 1) da_nil))) (de_one (de_callB (dcb_all rfl) T.n_all (da_cons (de_lc (own := [("_law_a", 2), ("_law_b", 3)]) rfl sc_law_same.nd (di_zip T.n_zip (da_cons (de_var 0) (da_cons (de_var 1) da_nil))) (blkOk_by (N := N_law_same) (sc := defScope s_law_same) (by decide +kernel)) (fun _ _ _ _ _ => (dg_tupK K rfl rfl (dgs_cons (dg_name (i := 2) sc_law_same.nd) (dgs_cons (dg_name (i := 3) sc_law_same.nd) dgs_nil)))) (fun _ _ _ _ _ => dts_nil) (fun _ _ _ _ _ => (de_callF c_law_same_2 hr (by first | decide | omega) T.g_law_same takes_none5 (da_cons (de_var 2) (da_cons (de_var 3) da_nil)))) (by decide)) da_nil))))))) dss_nil)
    (dss_cons (ds_if (DW.dt (dw_or (dt_cmp dop_is (de_var 1) de_non) (dw_or1 (dt_cmp dop_is (de_var 0) de_non)))) (dss_one (ds_ret (de_and (de_cmp dop_is (de_var 1) de_non) (de_one (de_cmp dop_is (de_var 0) de_non))))) dss_nil)
    (dss_cons (ds_if (DW.dt (dw_or (dt_cmp (dop_ne hr.units) (de_callB dcb_isi T.n_isinstance (da_cons (de_var 1) (da_cons (de_ty T.n_bool) da_nil))) (de_callB dcb_isi T.n_isinstance (da_cons (de_var 0) (da_cons (de_ty T.n_bool) da_nil)))) (dw_or1 (dt_cmp (dop_ne hr.units) (de_callB dcb_isi T.n_isinstance (da_cons (de_var 1) (da_cons (de_ty T.n_int) da_nil))) (de_callB dcb_isi T.n_isinstance (da_cons (de_var 0) (da_cons (de_ty T.n_int) da_nil))))))) (dss_one (ds_ret de_bl)) dss_nil)
    (dss_one (ds_ret (de_and (de_cmp (dop_eq hr.units) (de_callB dcb_isi T.n_isinstance (da_cons (de_var 1) (da_cons (de_ty T.n_str) da_nil))) (de_callB dcb_isi T.n_isinstance (da_cons (de_var 0) (da_cons (de_ty T.n_str) da_nil)))) (de_one (de_cmp (dop_eq hr.units) (de_var 0) (de_var 1)))))))))⟩
theorem claw_same_2 (T : Tx K mg) (base : Heap) : CalleeV P w K mg base 5 (He.ga K "_law_same") ["_law_found", "_law_due"] (sp_law_same K 4) [] [] := by
  obtain ⟨fd, F, G⟩ := ok_law_same T base 4
  exact ⟨fd, [], G, F.kp, F.bindsN (fun _ _ _ _ _ _ us hl => match us, hl with | [_, _], _ => rfl), .nil, True.intro⟩
theorem ok_law_signs (T : Tx K mg) (base : Heap) : ∃ fd, FunD K "_law_signs" "_law_signs" (defArgs s_law_signs) (defBody s_law_signs) (defScope s_law_signs) [] [] (He.ga K "_law_signs") fd ∧ FnOk P w K mg base (L2.CX P w) 3 (He.ga K "_law_signs") fd ["_law_bag_here"] (spOf (sp_law_signs K)) := by
  have c_law_of_2 := claw_of_2 (P := P) (w := w) T base
  have c_law_pull_2 := claw_pull_2 (P := P) (w := w) T base
  obtain ⟨fd, F⟩ := T.d_law_signs
  refine ⟨fd, F, fnD (k := 2) F sc_law_signs (fun ds S K X h => len_law_signs h) ?hb (u := u_law_signs K) (fun ds S K X h hb hS => r_law_signs h hb hS)⟩
  intro cdv A outer s H E hr tk
  exact ⟨_, (dss_cons (ds_set (i := 1) sc_law_signs.nd (de_bin dop_add de_int (de_callF c_law_of_2 hr (by first | decide | omega) T.g_law_of tk (da_cons (de_var 0) (da_cons (de_lst (da_cons de_int (da_cons de_int (da_cons de_int (da_cons de_int (da_cons de_int (da_cons de_int da_nil))))))) da_nil)))))
    (dss_cons (ds_set (i := 2) sc_law_signs.nd (de_lstC da_nil))
    (dss_cons (ds_for (passes_of rfl) rfl (di_range1 T.n_range (da_cons (de_var 1) da_nil)) (dg_name (i := 3) sc_law_signs.nd) (dss_cons (ds_setLc (own := [("_law_sign", 5)]) (i := 4) rfl sc_law_signs.nd (di_seq de_str) (blkOk_by (N := N_law_signs) (sc := defScope s_law_signs) (by decide +kernel)) (fun _ _ _ _ _ => (dg_name (i := 5) sc_law_signs.nd)) (fun _ _ _ _ _ => (dts_one (dt_cmp (dop_notinK K rfl) (de_var 5) (de_var 2)))) (fun _ _ _ _ _ => (de_var 5)) (by decide))
    (dss_one (ds_expr (de_bm PySem.F.plainAttrs_list PySem.F.slot_list_append PySem.F.type_list_append dmt_append (de_var 2) (da_cons (de_ix (de_var 4) (de_callF c_law_of_2 hr (by first | decide | omega) T.g_law_of tk (da_cons (de_var 0) (da_cons (de_lst (da_cons de_int (da_cons de_int (da_cons de_int (da_cons (de_callF c_law_pull_2 hr (by first | decide | omega) T.g_law_pull tk (da_cons (de_var 0) (da_cons (de_callB dcb_len T.n_len (da_cons (de_var 4) da_nil)) da_nil))) da_nil))))) da_nil)))) da_nil))))))
    (dss_one (ds_ret (de_bm PySem.F.plainAttrs_str PySem.F.slot_str_join PySem.F.type_str_join dmt_join de_str (da_cons (de_callB dcb_sortedS T.n_sorted (da_cons (de_var 2) da_nil)) da_nil)))))))⟩
theorem claw_signs_1 (T : Tx K mg) (base : Heap) : CalleeV P w K mg base 3 (He.ga K "_law_signs") ["_law_bag_here"] (sp_law_signs K) [] [] := by
  obtain ⟨fd, F, G⟩ := ok_law_signs (P := P) (w := w) T base
  exact ⟨fd, [], G, F.kp, F.bindsN (fun _ _ _ _ _ _ us hl => match us, hl with | [_], _ => rfl), .nil, True.intro⟩
theorem ok_law_text (T : Tx K mg) (base : Heap) : ∃ fd, FunD K "_law_text" "_law_text" (defArgs s_law_text) (defBody s_law_text) (defScope s_law_text) [] [] (He.ga K "_law_text") fd ∧ FnOk P w K mg base (L2.CX P w) 3 (He.ga K "_law_text") fd ["_law_bag_here", "_law_signs_here", "_law_size"] (spOf (sp_law_text K)) := by
  have c_law_of_2 := claw_of_2 (P := P) (w := w) T base
  obtain ⟨fd, F⟩ := T.d_law_text
  refine ⟨fd, F, fnD (k := 2) F sc_law_text (fun ds S K X h => len_law_text h) ?hb (u := u_law_text K) (fun ds S K X h hb hS => r_law_text h hb hS)⟩
  intro cdv A outer s H E hr tk
  exact ⟨_, (dss_one (ds_ret (de_bm PySem.F.plainAttrs_str PySem.F.slot_str_join PySem.F.type_str_join dmt_join de_str (da_cons (de_lc (own := [("_law_k", 3)]) rfl sc_law_text.nd (di_range1 T.n_range (da_cons (de_var 2) da_nil)) (blkOk_by (N := N_law_text) (sc := defScope s_law_text) (by decide +kernel)) (fun _ _ _ _ _ => (dg_name (i := 3) sc_law_text.nd)) (fun _ _ _ _ _ => dts_nil) (fun _ _ _ _ _ => (de_callF c_law_of_2 hr (by first | decide | omega) T.g_law_of takes_none5 (da_cons (de_var 0) (da_cons (de_var 1) da_nil)))) (by decide)) da_nil))))⟩
theorem claw_text_3 (T : Tx K mg) (base : Heap) : CalleeV P w K mg base 3 (He.ga K "_law_text") ["_law_bag_here", "_law_signs_here", "_law_size"] (sp_law_text K) [] [] := by
  obtain ⟨fd, F, G⟩ := ok_law_text (P := P) (w := w) T base
  exact ⟨fd, [], G, F.kp, F.bindsN (fun _ _ _ _ _ _ us hl => match us, hl with | [_, _, _], _ => rfl), .nil, True.intro⟩
theorem ok_law (T : Tx K mg) (base : Heap) : ∃ fd, FunD K "law" "law" (defArgs s_law) (defBody s_law) (defScope s_law) [] [] (He.ga K "law") fd ∧ FnOk P w K mg base (L2.CX P w) 6 (He.ga K "law") fd ["_law_script"] (spOf (sp_law K)) := by
  have c_law_bag_1 := claw_bag_1 (P := P) (w := w) T base
  have c_law_signs_1 := claw_signs_1 (P := P) (w := w) T base
  have c_law_pull_2 := claw_pull_2 (P := P) (w := w) T base
  have c_law_of_2 := claw_of_2 (P := P) (w := w) T base
  have c_is_alphabet_1 := cis_alphabet_1 (P := P) (w := w) T base
  have c_law_same_2 := claw_same_2 (P := P) (w := w) T base
  have c_law_text_3 := claw_text_3 (P := P) (w := w) T base
  have c_is_word_2 := cis_word_2 (P := P) (w := w) T base
  obtain ⟨fd, F⟩ := T.d_law
  refine ⟨fd, F, fnD (k := 5) F sc_law (fun ds S K X h => len_law h) ?hb (u := u_law K) (fun ds S K X h hb hS => r_law h hb hS)⟩
  intro cdv A outer s H E hr tk
  exact ⟨_, (dss_cons (ds_set (i := 1) sc_law.nd (de_callF c_law_bag_1 hr (by first | decide | omega) T.g_law_bag tk (da_cons (de_var 0) da_nil)))
    (dss_cons (ds_for (passes_of rfl) rfl (di_range1 T.n_range (da_cons de_int da_nil)) (dg_name (i := 2) sc_law.nd) (dss_cons (ds_set (i := 3) sc_law.nd (de_callF c_law_signs_1 hr (by first | decide | omega) T.g_law_signs tk (da_cons (de_var 1) da_nil)))
    (dss_cons (ds_setLcC (own := [("_law_k", 10)]) (i := 4) rfl sc_law.nd (di_range1 T.n_range (da_cons (de_callF c_law_pull_2 hr (by first | decide | omega) T.g_law_pull tk (da_cons (de_var 1) (da_cons de_int da_nil))) da_nil)) (blkOk_by (N := N_law) (sc := defScope s_law) (by decide +kernel)) (fun _ _ _ _ _ => (dg_name (i := 10) sc_law.nd)) (fun _ _ _ _ _ => dts_nil) (fun _ _ _ _ _ => (de_callF c_law_of_2 hr (by first | decide | omega) T.g_law_of takes_none5 (da_cons (de_var 1) (da_cons de_str da_nil)))) (by decide))
    (dss_cons (ds_if (dt_cmp dop_gt (de_callF c_law_pull_2 hr (by first | decide | omega) T.g_law_pull tk (da_cons (de_var 1) (da_cons de_int da_nil))) de_int) (dss_one (ds_set (i := 4) sc_law.nd (de_callB dcb_sortedSC T.n_sorted (da_cons (de_var 4) da_nil)))) dss_nil)
    (dss_cons (ds_if (DW.dt (dw_and (dt_cmp (dop_ne hr.units) (de_var 4) (de_lst da_nil)) (dw_and1 (dt_cmp (dop_eq hr.units) (de_callF c_law_pull_2 hr (by first | decide | omega) T.g_law_pull tk (da_cons (de_var 1) (da_cons de_int da_nil))) de_int)))) (dss_one (ds_asg (de_callF c_law_of_2 hr (by first | decide | omega) T.g_law_of tk (da_cons (de_var 1) (da_cons (de_lst (da_cons de_str (da_cons de_str (da_cons de_str (da_cons de_str (da_cons de_str (da_cons (de_ix (de_var 4) de_int) da_nil))))))) da_nil))) (dg_sub (de_var 4) (de_callF c_law_pull_2 hr (by first | decide | omega) T.g_law_pull tk (da_cons (de_var 1) (da_cons (de_callB dcb_len T.n_len (da_cons (de_var 4) da_nil)) da_nil))) set_list set_imp))) dss_nil)
    (dss_cons (ds_set (i := 5) sc_law.nd (de_bm PySem.F.plainAttrs_str PySem.F.slot_str_join PySem.F.type_str_join dmt_join de_str (da_cons (de_var 4) da_nil)))
    (dss_cons (ds_set (i := 6) sc_law.nd (de_and (de_chain dop_le dop_le de_int (de_callB dcb_len T.n_len (da_cons (de_var 5) da_nil)) de_int) (de_one (de_not (de_lc (own := [("_law_k", 10)]) rfl sc_law.nd (di_range2 T.n_range (da_cons de_int (da_cons (de_callB dcb_len T.n_len (da_cons (de_var 5) da_nil)) da_nil))) (blkOk_by (N := N_law) (sc := defScope s_law) (by decide +kernel)) (fun _ _ _ _ _ => (dg_name (i := 10) sc_law.nd)) (fun _ _ _ _ _ => (dts_one (dt_cmp dop_le (de_ixK K rfl (de_var 5) (de_var 10)) (de_ixK K rfl (de_var 5) (de_bin dop_sub (de_var 10) de_int))))) (fun _ _ _ _ _ => (de_var 10)) (by decide))))))
    (dss_cons (ds_set (i := 6) sc_law.nd (de_and (de_var 6) (de_one (de_not (de_lc (own := [("_law_sign", 11)]) rfl sc_law.nd (di_seq (de_var 5)) (blkOk_by (N := N_law) (sc := defScope s_law) (by decide +kernel)) (fun _ _ _ _ _ => (dg_name (i := 11) sc_law.nd)) (fun _ _ _ _ _ => (dts_one (dt_not (dt_chain dop_le dop_le de_str (de_var 11) de_str)))) (fun _ _ _ _ _ => (de_var 11)) (by decide))))))
    (dss_cons (ds_if (dt_not (dt_tru (de_callF c_law_same_2 hr (by first | decide | omega) T.g_law_same tk (da_cons (de_lst (da_cons (de_callF c_is_alphabet_1 hr (by first | decide | omega) T.g_is_alphabet tk (da_cons (de_var 5) da_nil)) (da_cons (de_callF c_is_alphabet_1 hr (by first | decide | omega) T.g_is_alphabet tk (da_cons (de_var 3) da_nil)) da_nil))) (da_cons (de_lst (da_cons (de_var 6) (da_cons de_bl da_nil))) da_nil))))) (dss_one (ds_ret de_bl)) dss_nil)
    (dss_cons (ds_set (i := 7) sc_law.nd (de_bin dop_add (de_callF c_law_text_3 hr (by first | decide | omega) T.g_law_text tk (da_cons (de_var 1) (da_cons (de_var 3) (da_cons (de_callF c_law_pull_2 hr (by first | decide | omega) T.g_law_pull tk (da_cons (de_var 1) (da_cons de_int da_nil))) da_nil)))) (de_callF c_law_of_2 hr (by first | decide | omega) T.g_law_of tk (da_cons (de_var 1) (da_cons (de_lst (da_cons de_str (da_cons de_str (da_cons de_str (da_cons (de_var 5) (da_cons de_str (da_cons (de_ix (de_var 3) de_int) da_nil))))))) da_nil)))))
    (dss_cons (ds_set (i := 8) sc_law.nd (de_not (de_lc (own := [("_law_sign", 11)]) rfl sc_law.nd (di_seq (de_var 7)) (blkOk_by (N := N_law) (sc := defScope s_law) (by decide +kernel)) (fun _ _ _ _ _ => (dg_name (i := 11) sc_law.nd)) (fun _ _ _ _ _ => (dts_one (dt_cmp (dop_notinK K rfl) (de_var 11) (de_var 3)))) (fun _ _ _ _ _ => (de_var 11)) (by decide))))
    (dss_cons (ds_if (dt_not (dt_tru (de_callF c_law_same_2 hr (by first | decide | omega) T.g_law_same tk (da_cons (de_lst (da_cons (de_callF c_is_word_2 hr (by first | decide | omega) T.g_is_word tk (da_cons (de_var 3) (da_cons (de_var 7) da_nil))) (da_cons (de_callF c_is_word_2 hr (by first | decide | omega) T.g_is_word tk (da_cons (de_var 3) (da_cons de_str da_nil))) (da_cons (de_callF c_is_word_2 hr (by first | decide | omega) T.g_is_word tk (da_cons (de_var 3) (da_cons (de_var 3) da_nil))) da_nil)))) (da_cons (de_lst (da_cons (de_var 8) (da_cons de_bl (da_cons de_bl da_nil)))) da_nil))))) (dss_one (ds_ret de_bl)) dss_nil)
    (dss_cons (ds_set (i := 9) sc_law.nd (de_callF c_law_of_2 hr (by first | decide | omega) T.g_law_of tk (da_cons (de_var 1) (da_cons (de_lst (da_cons de_non (da_cons de_bl (da_cons de_int (da_cons (de_neg de_int) (da_cons (de_lst (da_cons (de_ix (de_var 3) de_int) da_nil)) (da_cons (de_tup (da_cons (de_ix (de_var 3) de_int) da_nil)) (da_cons (de_lst (da_cons de_str da_nil)) (da_cons (de_lst da_nil) (da_cons (de_tup da_nil) da_nil)))))))))) da_nil))))
    (dss_one (ds_if (dt_not (dt_tru (de_callF c_law_same_2 hr (by first | decide | omega) T.g_law_same tk (da_cons (de_lst (da_cons (de_callF c_is_alphabet_1 hr (by first | decide | omega) T.g_is_alphabet tk (da_cons (de_var 9) da_nil)) (da_cons (de_callF c_is_word_2 hr (by first | decide | omega) T.g_is_word tk (da_cons (de_var 3) (da_cons (de_var 9) da_nil))) (da_cons (de_callF c_is_alphabet_1 hr (by first | decide | omega) T.g_is_alphabet tk (da_cons de_str da_nil)) da_nil)))) (da_cons (de_lst (da_cons de_bl (da_cons de_bl (da_cons de_bl da_nil)))) da_nil))))) (dss_one (ds_ret de_bl)) dss_nil)))))))))))))))
    (dss_one (ds_ret de_bl))))⟩
end
def dd_ascends : He.DefD := ⟨("ascends", none), "ascends", "ascends", defArgs s_ascends, defBody s_ascends, defScope s_ascends, [], []⟩
def dd_is_alphabet : He.DefD := ⟨("is_alphabet", none), "is_alphabet", "is_alphabet", defArgs s_is_alphabet, defBody s_is_alphabet, defScope s_is_alphabet, [], []⟩
def dd_is_word : He.DefD := ⟨("is_word", none), "is_word", "is_word", defArgs s_is_word, defBody s_is_word, defScope s_is_word, [], []⟩
def dd_law_bag : He.DefD := ⟨("_law_bag", none), "_law_bag", "_law_bag", defArgs s_law_bag, defBody s_law_bag, defScope s_law_bag, [], []⟩
def dd_law_pull : He.DefD := ⟨("_law_pull", none), "_law_pull", "_law_pull", defArgs s_law_pull, defBody s_law_pull, defScope s_law_pull, [], []⟩
def dd_law_of : He.DefD := ⟨("_law_of", none), "_law_of", "_law_of", defArgs s_law_of, defBody s_law_of, defScope s_law_of, [], []⟩
def dd_law_same : He.DefD := ⟨("_law_same", none), "_law_same", "_law_same", defArgs s_law_same, defBody s_law_same, defScope s_law_same, [], []⟩
def dd_law_signs : He.DefD := ⟨("_law_signs", none), "_law_signs", "_law_signs", defArgs s_law_signs, defBody s_law_signs, defScope s_law_signs, [], []⟩
def dd_law_text : He.DefD := ⟨("_law_text", none), "_law_text", "_law_text", defArgs s_law_text, defBody s_law_text, defScope s_law_text, [], []⟩
def dd_law : He.DefD := ⟨("law", none), "law", "law", defArgs s_law, defBody s_law, defScope s_law, [], []⟩
def fa : List He.Fa := ([.free "zip", .free "all", .free "str", .free "isinstance", .free "len", .int "MOST_LETTERS" 4, .str "SMALL" "abcdefghijklmnopqrstuvwxyz", .glo "ascends", .free "int", .free "list"] : List He.Fa) ++ ([.free "abs", .glo "_law_pull", .free "tuple", .glo "_law_same", .free "bool", .glo "_law_of", .free "range", .free "sorted", .glo "_law_bag", .glo "_law_signs"] : List He.Fa) ++ ([.glo "is_alphabet", .glo "_law_text", .glo "is_word", .glo "law"] : List He.Fa)
def fn : List He.DefD := ([dd_ascends, dd_is_alphabet, dd_is_word, dd_law_bag, dd_law_pull, dd_law_of, dd_law_same, dd_law_signs, dd_law_text, dd_law] : List He.DefD)
abbrev hk : PySem.W.Hook := He.hookD 4 fa fn
def ob (s : PySem.W.SharedT) : He.AlD := He.obsDG 4 fa fn (HandSHeadRun.getT s)
theorem ob_eq (s : PySem.W.SharedT) : ob s = hk.obs s.abs := He.obsDG_eq (HandSHeadRun.getT_eq s)
def names : List PySem.Str := (["SMALL", "MOST_LETTERS", "ascends", "is_alphabet", "is_word", "_law_bag", "_law_pull", "_law_of", "_law_same", "_law_signs", "_law_text"] : List PySem.Str)
theorem run (w : World) : HandSHeadRun.RunEq R (PySem.W.view R.prog [13]) hk ob 3000 names w := by
  intro os
  kernel_rfl
theorem tx_of {K : PySem.W.Frag} {h : Heap} {mg : Str → Option Value} (X : K.In h) (G : h.Ns mainGlobals mg) (c : He.SaysD fa fn K) : Tx K mg where
  n_zip := He.free_ok X G (c.fact 0 (f := .free "zip") rfl)
  n_all := He.free_ok X G (c.fact 1 (f := .free "all") rfl)
  n_str := He.free_ok X G (c.fact 2 (f := .free "str") rfl)
  n_isinstance := He.free_ok X G (c.fact 3 (f := .free "isinstance") rfl)
  n_len := He.free_ok X G (c.fact 4 (f := .free "len") rfl)
  i_MOST_LETTERS := He.int_ok X G (c.fact 5 (f := .int "MOST_LETTERS" 4) rfl)
  s_SMALL := He.str_ok X G (c.fact 6 (f := .str "SMALL" "abcdefghijklmnopqrstuvwxyz") rfl)
  g_ascends := He.glo_ok X G (c.fact 7 (f := .glo "ascends") rfl)
  n_int := He.free_ok X G (c.fact 8 (f := .free "int") rfl)
  n_list := He.free_ok X G (c.fact 9 (f := .free "list") rfl)
  n_abs := He.free_ok X G (c.fact 10 (f := .free "abs") rfl)
  g_law_pull := He.glo_ok X G (c.fact 11 (f := .glo "_law_pull") rfl)
  n_tuple := He.free_ok X G (c.fact 12 (f := .free "tuple") rfl)
  g_law_same := He.glo_ok X G (c.fact 13 (f := .glo "_law_same") rfl)
  n_bool := He.free_ok X G (c.fact 14 (f := .free "bool") rfl)
  g_law_of := He.glo_ok X G (c.fact 15 (f := .glo "_law_of") rfl)
  n_range := He.free_ok X G (c.fact 16 (f := .free "range") rfl)
  n_sorted := He.free_ok X G (c.fact 17 (f := .free "sorted") rfl)
  g_law_bag := He.glo_ok X G (c.fact 18 (f := .glo "_law_bag") rfl)
  g_law_signs := He.glo_ok X G (c.fact 19 (f := .glo "_law_signs") rfl)
  g_is_alphabet := He.glo_ok X G (c.fact 20 (f := .glo "is_alphabet") rfl)
  g_law_text := He.glo_ok X G (c.fact 21 (f := .glo "_law_text") rfl)
  g_is_word := He.glo_ok X G (c.fact 22 (f := .glo "is_word") rfl)
  d_ascends := c.def_ 0 (d := dd_ascends) rfl
  d_is_alphabet := c.def_ 1 (d := dd_is_alphabet) rfl
  d_is_word := c.def_ 2 (d := dd_is_word) rfl
  d_law_bag := c.def_ 3 (d := dd_law_bag) rfl
  d_law_pull := c.def_ 4 (d := dd_law_pull) rfl
  d_law_of := c.def_ 5 (d := dd_law_of) rfl
  d_law_same := c.def_ 6 (d := dd_law_same) rfl
  d_law_signs := c.def_ 7 (d := dd_law_signs) rfl
  d_law_text := c.def_ 8 (d := dd_law_text) rfl
  d_law := c.def_ 9 (d := dd_law) rfl
theorem law_glo {K : PySem.W.Frag} {h : Heap} {mg : Str → Option Value} (X : K.In h) (G : h.Ns mainGlobals mg) (c : He.SaysD fa fn K) : mg "law" = some (.ref (He.ga K "law")) := He.glo_ok X G (c.fact 23 (f := .glo "law") rfl)
end DL.KL
open PySem PySem.W PySem.Calls PyProof.Rows
theorem PySem.Challenge.cw_onlyahead_k01_alphabets_and_words_judged_holds : PySem.Challenge.rw_onlyahead_k01_alphabets_and_words_judged.Holds := by
  w_on; o_law
  refine HandSHeadRun.head_any (r := OpenLaw.row PySem.Challenge.rw_onlyahead_k01_alphabets_and_words_judged) (q := view (OpenLaw.row PySem.Challenge.rw_onlyahead_k01_alphabets_and_words_judged).prog [13]) (H := DL.KL.hk) (ob := DL.KL.ob) (M := 3000) (loose := DL.KL.names) (d := HandSHeadRun.topDef (OpenLaw.row PySem.Challenge.rw_onlyahead_k01_alphabets_and_words_judged).prog 13) (kwd := []) DL.KL.ob_eq
    (by kernel_rfl) (fun s => by kernel_rfl) DL.KL.run (by kernel_rfl) (by kernel_rfl) (by kernel_rfl) (by rfl) (by first | assumption | decide +kernel) (by decide +kernel) ⟨rfl, rfl, rfl, rfl, rfl, by decide +kernel⟩ ?hw ?hc
  case hw => w_witness2
  case hc =>
    refine LamX.walk_ofTsE (l := PySem.Challenge.rw_onlyahead_k01_alphabets_and_words_judged) (n := 63) (k := 6) (x := "_law_script") (CX := fun w => L2.CX (PySem.Challenge.rw_onlyahead_k01_alphabets_and_words_judged).prog w) rfl (by decide) (by kernel_rfl) ⟨rfl, by decide, by decide⟩ ?F ?cx
    case cx => exact fun w H s e s' h => DL.cx_none h
    case F =>
    intro w mg fa h Y G hmg0
    obtain ⟨K, KX, c⟩ := Y
    refine ⟨K, KX, ?_⟩
    have hmg : mg ("law" : PySem.Str) = some (.ref fa) := by
      have e : (HandSHeadRun.topDef (OpenLaw.row PySem.Challenge.rw_onlyahead_k01_alphabets_and_words_judged).prog 13).name = ("law" : PySem.Str) := by kernel_rfl
      rw [← e]
      exact hmg0
    have e := hmg.symm.trans (DL.KL.law_glo KX G c)
    cases e
    have T := DL.KL.tx_of KX G c
    obtain ⟨fd, F⟩ := T.d_law
    refine ⟨fd, [], DL.spOf (DL.sp_law K), fun _ h => (List.not_mem_nil h).elim, fun _ h => (List.not_mem_nil h).elim, fun _ h => (List.not_mem_nil h).elim, ?_, ?_, ?_⟩
    · have b := L2.FunD.bindsA (ps := ["_law_script"]) F fun _ _ _ _ _ _ us hl => match us, hl with | [_], _ => rfl
      exact fun s v => b s [v] rfl
    · exact fun H a ns hl hbits _ hS => DL.start_law hl hbits hS
    · intro base _ _ _
      obtain ⟨fd2, F2, G2⟩ := DL.KL.ok_law (P := (PySem.Challenge.rw_onlyahead_k01_alphabets_and_words_judged).prog) (w := w) T base
      cases DL.funD_one F F2
      exact G2
