import PyProof.Rows.All
import Wide.All
import OpenK.AllK
import Wide.FinOn
import HandS.ForMost
import HandS.ForExc
import HandS.Deep
import KE.DataEq
import HandS.Defaults
import HandS.Lambda
import HandS.TupAny
import HandS.Sort
import HandS.Conv
import HandS.DictComp
import KE.DataIsa
import HandS.Zip
import HandS.Dict
import HandS.SetFor
import HandS.SortInts
import HandS.Strs
import KE.KSetDisp
import HandS.HeadEnd
import HandS.ExcIs
import HandS.ExcOwn
import HandS.EndTab
import HandS.HeadWalk
import HandS.HeadHook4
import HandS.NestedK
import KE.GoesMore
import HandS.TupMul
import HandS.NamedTupSort
import HandS.Style
import KE.KRevSl
import HandS.Head0
import HandS.Head1
import HandS.Head2
import HandS.HeadHook1
import HandS.HeadHook2
import HandS.HeadHook3
import PySem.Challenge.RW_rulesadded_k67_orders_and_their_parts
set_option Elab.async false
set_option linter.all false
set_option maxRecDepth 100000
set_option maxHeartbeats 1000000
/-! DL1: data (PyData) laid over the abstract heap; ghosts, steps, results. -/
namespace DL
open PySem PySem.Spec PyProof.Rows L2
abbrev PD := PyData
/-- which table of code objects the law's own walk has, if any -/
class TbC where
  tb : Option (Addr × Str)
instance (priority := low) tbc0 : TbC := ⟨none⟩
abbrev Fg := PySem.W.Frag

/-! ### how a datum lies in the abstract heap -/
def kD : Key → PD
  | .inl i => .int i
  | .inr x => .str x
mutual
def Rp (K : Fg) (H : Hp) : PD → V → Prop
  | .none, v => v = .non
  | .bool b, v => v = .bl b
  | .int i, v => v = .int i
  | .str s, v => v = .str s
  | .list ds, v => ∃ a xs, v = .ref a ∧ H a = some (.lst xs) ∧ RpA K H ds xs
  | .tuple ds, v => ∃ a xs, v = .ref a ∧ SqT K H a xs ∧ RpA K H ds xs
  | .dict kvs, v => ∃ a es, v = .ref a ∧ Rd H a (.dK es) ∧ RpK K H kvs es
def RpA (K : Fg) (H : Hp) : List PD → List V → Prop
  | [], xs => xs = []
  | d :: ds, xs => ∃ x r, xs = x :: r ∧ Rp K H d x ∧ RpA K H ds r
def RpK (K : Fg) (H : Hp) : List (PD × PD) → List (Key × V) → Prop
  | [], es => es = []
  | (k, d) :: r, es => ∃ q x t, es = (q, x) :: t ∧ k = kD q ∧ Rp K H d x ∧ RpK K H r t
end
theorem Rd.mono {H H' : Hp} {a : Addr} {u : HO} (s : Same H H') (r : Rd H a u) : Rd H' a u := by
  rcases r with r | ⟨o, r⟩
  · exact .inl (s _ _ r)
  · exact .inr ⟨o, s _ _ r⟩
theorem sqT_mono {K : Fg} {H H' : Hp} {a : Addr} {xs : List V} (s : Same H H') (r : SqT K H a xs) : SqT K H' a xs := by
  rcases r with r | r
  · exact .inl (Rd.mono s r)
  · exact .inr r
section
variable {K : Fg} {H H' : Hp}
mutual
theorem Rp.mono (s : Same H H') : ∀ (d : PD) (v : V), Rp K H d v → Rp K H' d v
  | .none, v, h => by simp only [Rp] at h ⊢; exact h
  | .bool b, v, h => by simp only [Rp] at h ⊢; exact h
  | .int i, v, h => by simp only [Rp] at h ⊢; exact h
  | .str x, v, h => by simp only [Rp] at h ⊢; exact h
  | .list ds, v, h => by
    simp only [Rp] at h ⊢
    obtain ⟨a, xs, e, q, r⟩ := h
    exact ⟨a, xs, e, s _ _ q, RpA.mono s ds xs r⟩
  | .tuple ds, v, h => by
    simp only [Rp] at h ⊢
    obtain ⟨a, xs, e, q, r⟩ := h
    exact ⟨a, xs, e, sqT_mono s q, RpA.mono s ds xs r⟩
  | .dict kvs, v, h => by
    simp only [Rp] at h ⊢
    obtain ⟨a, xs, e, q, r⟩ := h
    exact ⟨a, xs, e, Rd.mono s q, RpK.mono s kvs xs r⟩
theorem RpA.mono (s : Same H H') : ∀ (ds : List PD) (xs : List V), RpA K H ds xs → RpA K H' ds xs
  | [], xs, h => by simp only [RpA] at h ⊢; exact h
  | d :: ds, xs, h => by
    simp only [RpA] at h ⊢
    obtain ⟨x, r, e, h1, h2⟩ := h
    exact ⟨x, r, e, Rp.mono s d x h1, RpA.mono s ds r h2⟩
theorem RpK.mono (s : Same H H') : ∀ (ds : List (PD × PD)) (xs : List (Key × V)), RpK K H ds xs → RpK K H' ds xs
  | [], xs, h => by simp only [RpK] at h ⊢; exact h
  | (k, d) :: ds, xs, h => by
    simp only [RpK] at h ⊢
    obtain ⟨q, x, r, e, h0, h1, h2⟩ := h
    exact ⟨q, x, r, e, h0, Rp.mono s d x h1, RpK.mono s ds r h2⟩
end
mutual
theorem Rp.dp : ∀ (d : PD) (v : V), d.plain = true → Rp K H d v → Dp K H v d
  | .none, v, _, h => by simp only [Rp] at h; subst h; exact .non
  | .bool b, v, _, h => by simp only [Rp] at h; subst h; exact .bl b
  | .int i, v, _, h => by simp only [Rp] at h; subst h; exact .int i
  | .str x, v, _, h => by simp only [Rp] at h; subst h; exact .str x
  | .list ds, v, p, h => by
    simp only [Rp] at h
    obtain ⟨a, xs, rfl, q, r⟩ := h
    exact .lst (.of q) (RpA.dp ds xs (by simpa [PyData.plain] using p) r)
  | .tuple ds, v, p, h => by
    simp only [Rp] at h
    obtain ⟨a, xs, rfl, q, r⟩ := h
    exact .tup q (RpA.dp ds xs (by simpa [PyData.plain] using p) r)
  | .dict kvs, v, p, h => by simp [PyData.plain] at p
theorem RpA.dp : ∀ (ds : List PD) (xs : List V), PyData.plainAll ds = true → RpA K H ds xs → DpAll K H xs ds
  | [], xs, _, h => by simp only [RpA] at h; subst h; exact .nil
  | d :: ds, xs, p, h => by
    simp only [RpA] at h
    obtain ⟨x, r, rfl, h1, h2⟩ := h
    simp only [PyData.plainAll, Bool.and_eq_true] at p
    exact .cons (Rp.dp d x p.1 h1) (RpA.dp ds r p.2 h2)
end
theorem RpA.len : ∀ {ds : List PD} {xs : List V}, RpA K H ds xs → xs.length = ds.length
  | [], xs, h => by simp only [RpA] at h; subst h; rfl
  | d :: ds, xs, h => by
    simp only [RpA] at h
    obtain ⟨x, r, rfl, h1, h2⟩ := h
    simp only [List.length_cons, RpA.len h2]
theorem RpA.get : ∀ {ds : List PD} {xs : List V} {i : Nat} {d : PD}, RpA K H ds xs → ds[i]? = some d → ∃ x, xs[i]? = some x ∧ Rp K H d x
  | [], xs, i, d, h, e => by simp at e
  | c :: ds, xs, 0, d, h, e => by
    simp only [RpA] at h
    obtain ⟨x, r, rfl, h1, h2⟩ := h
    simp only [List.getElem?_cons_zero, Option.some.injEq] at e
    subst e
    exact ⟨x, rfl, h1⟩
  | c :: ds, xs, i + 1, d, h, e => by
    simp only [RpA] at h
    obtain ⟨x, r, rfl, h1, h2⟩ := h
    simp only [List.getElem?_cons_succ] at e ⊢
    exact RpA.get h2 e
theorem RpA.getV : ∀ {ds : List PD} {xs : List V} {i : Nat} {x : V}, RpA K H ds xs → xs[i]? = some x → ∃ d, ds[i]? = some d ∧ Rp K H d x
  | [], xs, i, d, h, e => by simp only [RpA] at h; subst h; simp at e
  | c :: ds, xs, 0, d, h, e => by
    simp only [RpA] at h
    obtain ⟨x, r, rfl, h1, h2⟩ := h
    simp only [List.getElem?_cons_zero, Option.some.injEq] at e
    subst e
    exact ⟨c, rfl, h1⟩
  | c :: ds, xs, i + 1, d, h, e => by
    simp only [RpA] at h
    obtain ⟨x, r, rfl, h1, h2⟩ := h
    simp only [List.getElem?_cons_succ] at e ⊢
    exact RpA.getV h2 e
theorem RpA.nil : RpA K H [] [] := by simp only [RpA]
theorem RpA.cons {d : PD} {x : V} {ds : List PD} {xs : List V} (h : Rp K H d x) (t : RpA K H ds xs) : RpA K H (d :: ds) (x :: xs) := by
  simp only [RpA]
  exact ⟨x, xs, rfl, h, t⟩
theorem RpA.append : ∀ {ds es : List PD} {xs ys : List V}, RpA K H ds xs → RpA K H es ys → RpA K H (ds ++ es) (xs ++ ys)
  | [], es, xs, ys, h, h' => by simp only [RpA] at h; subst h; exact h'
  | d :: ds, es, xs, ys, h, h' => by
    simp only [RpA] at h
    obtain ⟨x, r, rfl, h1, h2⟩ := h
    exact RpA.cons h1 (RpA.append h2 h')
theorem RpA.take : ∀ {ds : List PD} {xs : List V} (n : Nat), RpA K H ds xs → RpA K H (ds.take n) (xs.take n)
  | [], xs, n, h => by simp only [RpA] at h; subst h; simp [RpA]
  | d :: ds, xs, 0, h => by simp [RpA]
  | d :: ds, xs, n + 1, h => by
    simp only [RpA] at h
    obtain ⟨x, r, rfl, h1, h2⟩ := h
    exact RpA.cons h1 (RpA.take n h2)
theorem RpA.drop : ∀ {ds : List PD} {xs : List V} (n : Nat), RpA K H ds xs → RpA K H (ds.drop n) (xs.drop n)
  | [], xs, n, h => by simp only [RpA] at h; subst h; simp [RpA]
  | d :: ds, xs, 0, h => h
  | d :: ds, xs, n + 1, h => by
    simp only [RpA] at h
    obtain ⟨x, r, rfl, h1, h2⟩ := h
    exact RpA.drop n h2
theorem RpA.ints : ∀ (ns : List Int), RpA K H (ns.map PyData.int) (ns.map V.int)
  | [] => by simp [RpA]
  | n :: ns => RpA.cons (by simp [Rp]) (RpA.ints ns)
theorem RpA.of_ints : ∀ {ns : List Int} {xs : List V}, RpA K H (ns.map PyData.int) xs → xs = ns.map V.int
  | [], xs, h => by simpa [RpA] using h
  | n :: ns, xs, h => by
    simp only [List.map_cons, RpA, Rp] at h
    obtain ⟨x, r, rfl, h1, h2⟩ := h
    rw [h1, RpA.of_ints h2, List.map_cons]
theorem RpA.of_bls : ∀ {bs : List Bool} {xs : List V}, RpA K H (bs.map PyData.bool) xs → xs = bs.map V.bl
  | [], xs, h => by simpa [RpA] using h
  | n :: ns, xs, h => by
    simp only [List.map_cons, RpA, Rp] at h
    obtain ⟨x, r, rfl, h1, h2⟩ := h
    rw [h1, RpA.of_bls h2, List.map_cons]
end

/-! ### the states of a body -/
/-- where the law's draws come from -/
structure Src where
  great : List Int
  cells : List Int
  rest : Int
  turn : Int
/-- a name's slot: nothing known; a datum that nobody changes; a list or dict of one's own; the draws' dict; the script -/
inductive Slot where
  | un | v (d : PD) | o (d : PD) | st | sc (ns : List Int)
structure Wt where
  sl : List Slot
  src : Src
/-- what an expression gives: a datum; a fresh list or dict of one's own; the very thing of a slot; an exception -/
inductive R where
  | fz (d : PD) | ow (d : PD) | pk (i : Nat) | ex (c : Str) (x : Option (Str × PD))
/-- ghosts: the heap of what is never changed; where the slots' own things lie; where the draws' dict and its list lie -/
structure Gh where
  G : Hp
  ow : Nat → Option Addr
  sa : Option (Addr × Addr)
  tb : Option (Addr × Str)
def Gh.M (gh : Gh) (a : Addr) : Prop := (∃ i, gh.ow i = some a) ∨ (∃ p, gh.sa = some p ∧ (a = p.1 ∨ a = p.2)) ∨ ∃ p, gh.tb = some p ∧ a = p.1
def Gh.pure (G : Hp) : Gh := ⟨G, fun _ => none, none, none⟩
theorem Gh.pure_M {G : Hp} {a : Addr} : ¬ (Gh.pure G).M a := by
  rintro (⟨i, h⟩ | ⟨p, h, _⟩ | ⟨p, h, _⟩)
  · exact nomatch h
  · exact nomatch h
  · exact nomatch h
/-- a list or a dict of one's own, its parts never changed -/
def Own (K : Fg) (G H : Hp) (a : Addr) : PD → Prop
  | .list ds => ∃ xs, H a = some (.lst xs) ∧ RpA K G ds xs
  | .dict kvs => ∃ es, H a = some (.dK es) ∧ RpK K G kvs es
  | _ => False
/-- the draws' dict -/
def srcKeys (g c : Addr) (S : Src) : List (Key × V) := [(Sum.inr (Str.ofString "great"), V.ref g), (Sum.inr (Str.ofString "cells"), V.ref c), (Sum.inr (Str.ofString "rest"), V.int S.rest), (Sum.inr (Str.ofString "turn"), V.int S.turn)]
def SrcOk (G H : Hp) (p : Addr × Addr) (S : Src) : Prop := ∃ c, H p.1 = some (.dK (srcKeys p.2 c S)) ∧ H p.2 = some (.lst (S.great.map V.int)) ∧ G c = some (.lst (S.cells.map V.int)) ∧ p.1 ≠ p.2

/-- the law's table of code objects: each one it tells is known and never changed -/
def TabG (G H : Hp) (p : Addr × Str) : Prop := ∃ ps : Array Value, H p.1 = some (.tbl ps) ∧ TriplesOk ps.toList ∧ ∀ (pos : Pos) (cv : Value), codeAmong pos ps.toList = some cv → ∃ c, cv = .ref c ∧ G c = some (LamX.CodeO c p.2)
theorem TabG.mono {G G' H H' : Hp} {p : Addr × Str} (s : Same G G') (e : H' p.1 = H p.1) (h : TabG G H p) : TabG G' H' p := by
  obtain ⟨ps, h1, h2, h3⟩ := h
  refine ⟨ps, e.trans h1, h2, fun pos cv q => ?_⟩
  obtain ⟨c, e1, e2⟩ := h3 pos cv q
  exact ⟨c, e1, s _ _ e2⟩
structure Ok [TbC] (K : Fg) (gh : Gh) (H : Hp) (σ : L2.St) (w : Wt) : Prop where
  len : σ.length = w.sl.length
  sub : Same gh.G H
  val : ∀ (i : Nat) (d : PD), w.sl[i]? = some (.v d) → ∃ v, σ[i]? = some (some v) ∧ Rp K gh.G d v
  scr : ∀ (i : Nat) (ns : List Int), w.sl[i]? = some (.sc ns) → ∃ a, σ[i]? = some (some (.ref a)) ∧ SqL K gh.G a (ns.map V.int)
  own : ∀ (i : Nat) (d : PD), w.sl[i]? = some (.o d) → ∃ a, gh.ow i = some a ∧ σ[i]? = some (some (.ref a)) ∧ Own K gh.G H a d
  onl : ∀ (i : Nat) (a : Addr), gh.ow i = some a → ∃ d, w.sl[i]? = some (.o d)
  inj : ∀ (i j : Nat) (a : Addr), gh.ow i = some a → gh.ow j = some a → i = j
  st : ∀ (i : Nat), w.sl[i]? = some .st → ∃ p, gh.sa = some p ∧ σ[i]? = some (some (.ref p.1))
  src : ∀ (p : Addr × Addr), gh.sa = some p → SrcOk gh.G H p w.src
  sap : ∀ (p : Addr × Addr) (i : Nat) (a : Addr), gh.sa = some p → gh.ow i = some a → a ≠ p.1 ∧ a ≠ p.2
  dis : ∀ (a : Addr), gh.M a → gh.G a = none
  tab : ∀ (p : Addr × Str), gh.tb = some p → TabG gh.G H p
  tbw : gh.tb = TbC.tb

variable [TbC]
/-- from one state to a later one -/
structure Stp (gh : Gh) (H : Hp) (gh' : Gh) (H' : Hp) : Prop where
  sub : Same gh.G gh'.G
  keep : ∀ a o, H a = some o → ¬ gh.M a → H' a = some o
  dom : ∀ a, H' a = none → H a = none
  gnew : ∀ a o, gh'.G a = some o → gh.G a = some o ∨ H a = none ∨ gh.M a ∨ ∃ φ, H a = some (.ext φ)
  mnew : ∀ a, gh'.M a → gh.M a ∨ H a = none
  dr : gh'.sa = gh.sa
  tbk : gh'.tb = gh.tb
theorem Stp.refl (gh : Gh) (H : Hp) : Stp gh H gh H := ⟨fun _ _ h => h, fun _ _ h _ => h, fun _ h => h, fun _ _ h => .inl h, fun _ h => .inl h, rfl, rfl⟩
theorem Stp.trans {g0 g1 g2 : Gh} {H0 H1 H2 : Hp} (a : Stp g0 H0 g1 H1) (b : Stp g1 H1 g2 H2) : Stp g0 H0 g2 H2 where
  sub := fun c o h => b.sub c o (a.sub c o h)
  keep := fun c o h n => b.keep c o (a.keep c o h n) fun m => by
    rcases a.mnew c m with q | q
    · exact n q
    · rw [q] at h; cases h
  dom := fun c h => a.dom c (b.dom c h)
  gnew := fun c o h => by
    rcases b.gnew c o h with q | q | q | ⟨φ, q⟩
    · exact a.gnew c o q
    · exact .inr (.inl (a.dom c q))
    · rcases a.mnew c q with q | q
      · exact .inr (.inr (.inl q))
      · exact .inr (.inl q)
    · cases e : H0 c with
      | none => exact .inr (.inl rfl)
      | some u =>
        by_cases m : g0.M c
        · exact .inr (.inr (.inl m))
        · have e1 := a.keep c u e m
          rw [q] at e1
          cases e1
          exact .inr (.inr (.inr ⟨φ, rfl⟩))
  mnew := fun c h => by
    rcases b.mnew c h with q | q
    · exact a.mnew c q
    · exact .inr (a.dom c q)
  dr := b.dr.trans a.dr
  tbk := b.tbk.trans a.tbk
theorem Own.there {K : Fg} {G H : Hp} {a : Addr} {d : PD} (h : Own K G H a d) : ∃ o, H a = some o := by
  cases d with
  | list ds => obtain ⟨xs, q, _⟩ := h; exact ⟨_, q⟩
  | dict kvs => obtain ⟨es, q, _⟩ := h; exact ⟨_, q⟩
  | _ => exact h.elim
theorem Own.tbl {K : Fg} {G H : Hp} {a : Addr} {d : PD} {ps : Array Value} (h : Own K G H a d) (e : H a = some (.tbl ps)) : False := by
  cases d with
  | list ds => obtain ⟨xs, q, _⟩ := h; rw [e] at q; cases q
  | dict kvs => obtain ⟨es, q, _⟩ := h; rw [e] at q; cases q
  | _ => exact h.elim
theorem Own.nx {K : Fg} {G H : Hp} {a : Addr} {d : PD} (h : Own K G H a d) (φ : Heap → Prop) : H a ≠ some (.ext φ) := fun e => by
  cases d with
  | list ds => obtain ⟨xs, q, _⟩ := h; rw [e] at q; cases q
  | dict kvs => obtain ⟨es, q, _⟩ := h; rw [e] at q; cases q
  | _ => exact h.elim
theorem Own.mono {K : Fg} {G G' H H' : Hp} {a : Addr} {d : PD} (s : Same G G') (e : H' a = H a) (h : Own K G H a d) : Own K G' H' a d := by
  cases d with
  | list ds => obtain ⟨xs, q, r⟩ := h; exact ⟨xs, e.trans q, RpA.mono s _ _ r⟩
  | dict kvs => obtain ⟨es, q, r⟩ := h; exact ⟨es, e.trans q, RpK.mono s _ _ r⟩
  | _ => exact h.elim
/-- an own thing, seen as a datum -/
theorem Own.rp {K : Fg} {G H : Hp} {a : Addr} {d : PD} (s : Same G H) (h : Own K G H a d) : Rp K H d (.ref a) := by
  cases d with
  | list ds =>
    obtain ⟨xs, q, r⟩ := h
    simp only [Rp]
    exact ⟨a, xs, rfl, q, RpA.mono s _ _ r⟩
  | dict kvs =>
    obtain ⟨es, q, r⟩ := h
    simp only [Rp]
    exact ⟨a, es, rfl, .inl q, RpK.mono s _ _ r⟩
  | _ => exact h.elim

/-- a value in hand -/
def RV (K : Fg) (gh : Gh) (H0 H : Hp) (σ : L2.St) (w : Wt) (v : V) : R → Prop
  | .fz d => Rp K gh.G d v
  | .ow d => ∃ a, v = .ref a ∧ H0 a = none ∧ gh.G a = none ∧ ¬ gh.M a ∧ Own K gh.G H a d
  | .pk i => σ[i]? = some (some v) ∧ ((∃ d, w.sl[i]? = some (.v d)) ∨ ∃ d, w.sl[i]? = some (.o d))
  | .ex _ _ => False
def Wt.cont (w : Wt) : R → Option PD
  | .fz d => some d
  | .ow d => some d
  | .pk i => match w.sl[i]? with
    | some (.v d) => some d
    | some (.o d) => some d
    | _ => none
  | .ex _ _ => none
/-- a datum as it is seen: never changed, or one's own -/
def Cv (K : Fg) (gh : Gh) (H : Hp) (d : PD) (v : V) : Prop := Rp K gh.G d v ∨ ∃ a, v = .ref a ∧ Own K gh.G H a d
theorem Cv.rp {K : Fg} {gh : Gh} {H : Hp} {d : PD} {v : V} (s : Same gh.G H) (h : Cv K gh H d v) : Rp K H d v := by
  rcases h with h | ⟨a, rfl, h⟩
  · exact Rp.mono s d v h
  · exact h.rp s
/-- a list in hand: it stands in the heap, its items are never changed -/
theorem Cv.list {K : Fg} {gh : Gh} {H : Hp} {ds : List PD} {v : V} (s : Same gh.G H) (h : Cv K gh H (.list ds) v) : ∃ a xs, v = .ref a ∧ H a = some (.lst xs) ∧ RpA K gh.G ds xs := by
  rcases h with h | ⟨a, rfl, xs, q, r⟩
  · simp only [Rp] at h
    obtain ⟨a, xs, rfl, q, r⟩ := h
    exact ⟨a, xs, rfl, s _ _ q, r⟩
  · exact ⟨a, xs, rfl, q, r⟩
theorem Cv.tuple {K : Fg} {gh : Gh} {H : Hp} {ds : List PD} {v : V} (s : Same gh.G H) (h : Cv K gh H (.tuple ds) v) : ∃ a xs, v = .ref a ∧ SqT K H a xs ∧ RpA K gh.G ds xs := by
  rcases h with h | ⟨a, rfl, h⟩
  · simp only [Rp] at h
    obtain ⟨a, xs, rfl, q, r⟩ := h
    exact ⟨a, xs, rfl, sqT_mono s q, r⟩
  · exact h.elim
theorem Cv.dict {K : Fg} {gh : Gh} {H : Hp} {ds : List (PD × PD)} {v : V} (s : Same gh.G H) (h : Cv K gh H (.dict ds) v) : ∃ a es, v = .ref a ∧ Rd H a (.dK es) ∧ RpK K gh.G ds es := by
  rcases h with h | ⟨a, rfl, xs, q, r⟩
  · simp only [Rp] at h
    obtain ⟨a, xs, rfl, q, r⟩ := h
    exact ⟨a, xs, rfl, Rd.mono s q, r⟩
  · exact ⟨a, xs, rfl, .inl q, r⟩
theorem Cv.int {K : Fg} {gh : Gh} {H : Hp} {i : Int} {v : V} (h : Cv K gh H (.int i) v) : v = .int i := by
  rcases h with h | ⟨a, rfl, h⟩
  · simpa only [Rp] using h
  · exact h.elim
theorem Cv.str {K : Fg} {gh : Gh} {H : Hp} {i : Str} {v : V} (h : Cv K gh H (.str i) v) : v = .str i := by
  rcases h with h | ⟨a, rfl, h⟩
  · simpa only [Rp] using h
  · exact h.elim
theorem Cv.bool {K : Fg} {gh : Gh} {H : Hp} {i : Bool} {v : V} (h : Cv K gh H (.bool i) v) : v = .bl i := by
  rcases h with h | ⟨a, rfl, h⟩
  · simpa only [Rp] using h
  · exact h.elim
theorem Cv.none {K : Fg} {gh : Gh} {H : Hp} {v : V} (h : Cv K gh H .none v) : v = .non := by
  rcases h with h | ⟨a, rfl, h⟩
  · simpa only [Rp] using h
  · exact h.elim
/-- a value in hand, behind further steps -/
theorem RV.later {K : Fg} {g1 g2 : Gh} {H0 H1 H2 : Hp} {σ : L2.St} {w1 w2 : Wt} {v : V} {r : R} {d : PD} (h : RV K g1 H0 H1 σ w1 v r) (s : Stp g1 H1 g2 H2) (k : Ok K g2 H2 σ w2) (e : w2.cont r = some d) : Cv K g2 H2 d v := by
  cases r with
  | fz d' =>
    have : d' = d := Option.some.inj e
    subst this
    exact .inl (Rp.mono s.sub _ _ h)
  | ow d' =>
    have : d' = d := Option.some.inj e
    subst this
    obtain ⟨a, rfl, _, h2, h3, h4⟩ := h
    obtain ⟨o, ho⟩ := h4.there
    exact .inr ⟨a, rfl, h4.mono s.sub ((s.keep a o ho h3).trans ho.symm)⟩
  | pk i =>
    obtain ⟨h1, _⟩ := h
    unfold Wt.cont at e
    simp only at e
    split at e
    · rename_i d' q
      have : d' = d := Option.some.inj e
      subst this
      obtain ⟨v', e1, r⟩ := k.val i _ q
      rw [h1] at e1
      have : v = v' := Option.some.inj (Option.some.inj e1)
      subst this
      exact .inl r
    · rename_i d' q
      have : d' = d := Option.some.inj e
      subst this
      obtain ⟨a, _, e1, r⟩ := k.own i _ q
      rw [h1] at e1
      have : v = .ref a := Option.some.inj (Option.some.inj e1)
      subst this
      exact .inr ⟨a, rfl, r⟩
    · cases e
  | ex c x => exact h.elim
theorem RV.now {K : Fg} {g1 : Gh} {H0 H1 : Hp} {σ : L2.St} {w1 : Wt} {v : V} {r : R} {d : PD} (h : RV K g1 H0 H1 σ w1 v r) (k : Ok K g1 H1 σ w1) (e : w1.cont r = some d) : Cv K g1 H1 d v := h.later (Stp.refl _ _) k e
end DL
set_option maxHeartbeats 1000000
/-! DL2: results, expressions as functions, freezing, new objects. -/
namespace DL
open PySem PySem.Spec PyProof.Rows L2
variable [TbC]
structure Tx where
  K : Fg
  mg : Str → Option Value
  E : XK
/-- what is wanted of an exception: its class's name, its one field -/
def Exn (T : Tx) (gh : Gh) (H : Hp) (c : Str) : Option (Str × PD) → Prop
  | none => ∀ C : Addr, T.mg c = some (.ref C) → T.E (.ref C) none H
  | some (f, d) => ∀ (C a : Addr) (v : V), T.mg c = some (.ref C) → H a = some (.xd [(f, v)]) → Rp T.K gh.G d v → T.E (.ref C) (some a) H
section
variable {T : Tx} {gh0 gh gh1 : Gh} {H0 H H1 : Hp} {σ : L2.St} {w w' w1 : Wt}
theorem Ok.mh {K : Fg} (k : Ok K gh H σ w) {a : Addr} (m : gh.M a) : ∃ o, H a = some o := by
  rcases m with ⟨i, e⟩ | ⟨p, e, q⟩ | ⟨p, e, q⟩
  · obtain ⟨d, hd⟩ := k.onl i a e
    obtain ⟨b, e1, _, ow⟩ := k.own i d hd
    rw [e] at e1
    cases e1
    exact ow.there
  · obtain ⟨c, h1, h2, _⟩ := k.src p e
    rcases q with rfl | rfl
    · exact ⟨_, h1⟩
    · exact ⟨_, h2⟩
  · obtain ⟨ps, h1, _⟩ := k.tab p e
    subst q
    exact ⟨_, h1⟩
/-- what may change is no object told by a predicate -/
theorem Ok.mx {K : Fg} (k : Ok K gh H σ w) {a : Addr} (m : gh.M a) (φ : Heap → Prop) : H a ≠ some (.ext φ) := fun z => by
  rcases m with ⟨i, e⟩ | ⟨p, e, q⟩ | ⟨p, e, q⟩
  · obtain ⟨d, hd⟩ := k.onl i a e
    obtain ⟨b, e1, _, ow⟩ := k.own i d hd
    rw [e] at e1
    cases e1
    cases d with
    | list ds => obtain ⟨xs, y, _⟩ := ow; rw [z] at y; cases y
    | dict kvs => obtain ⟨es, y, _⟩ := ow; rw [z] at y; cases y
    | _ => exact ow.elim
  · obtain ⟨c, h1, h2, _⟩ := k.src p e
    rcases q with rfl | rfl
    · rw [z] at h1; cases h1
    · rw [z] at h2; cases h2
  · obtain ⟨ps, h1, _⟩ := k.tab p e
    subst q
    rw [z] at h1; cases h1
theorem Ok.nog {K : Fg} (k : Ok K gh H σ w) {p : Addr} (hp : H p = none) : gh.G p = none := k.sub.free hp
theorem Ok.nom {K : Fg} (k : Ok K gh H σ w) {p : Addr} (hp : H p = none) : ¬ gh.M p := fun m => by
  obtain ⟨o, e⟩ := k.mh m
  rw [hp] at e
  cases e
theorem same_lay {G : Hp} {p : Addr} {o : HO} (h : G p = none) : Same G (upd G p o) := fun b x e => by
  rw [upd_ne (ne_of_none e h)]
  exact e
theorem SrcOk.mono {G G' H H' : Hp} {p : Addr × Addr} {S : Src} (s : Same G G') (e1 : H' p.1 = H p.1) (e2 : H' p.2 = H p.2) (h : SrcOk G H p S) : SrcOk G' H' p S := by
  obtain ⟨c, h1, h2, h3, h4⟩ := h
  exact ⟨c, e1.trans h1, e2.trans h2, s _ _ h3, h4⟩
/-- a new thing is laid that nobody changes -/
theorem Ok.lay {K : Fg} (k : Ok K gh H σ w) {p : Addr} (hp : H p = none) (o : HO) : Ok K { gh with G := upd gh.G p o } (upd H p o) σ w := by
  have hg := k.nog hp
  have sg : Same gh.G (upd gh.G p o) := same_lay hg
  refine ⟨k.len, fun a x e => ?_, fun i d e => ?_, fun i ns e => (let ⟨a, q, r⟩ := k.scr i ns e; ⟨a, q, sg.seq r⟩), fun i d e => ?_, k.onl, k.inj, k.st, fun q e => ?_, k.sap, fun a m => ?_, fun q e => ?_, k.tbw⟩
  · have e : upd gh.G p o a = some x := e
    by_cases h : a = p
    · subst h; rw [upd_same] at e ⊢; exact e
    · rw [upd_ne h] at e ⊢; exact k.sub a x e
  · obtain ⟨v, e1, r⟩ := k.val i d e
    exact ⟨v, e1, Rp.mono sg _ _ r⟩
  · obtain ⟨a, e0, e1, r⟩ := k.own i d e
    obtain ⟨x, hx⟩ := r.there
    exact ⟨a, e0, e1, r.mono sg (upd_ne (ne_of_none hx hp))⟩
  · have h := k.src q e
    obtain ⟨c, h1, h2, _, _⟩ := id h
    exact h.mono sg (upd_ne (ne_of_none h1 hp)) (upd_ne (ne_of_none h2 hp))
  · have m' : gh.M a := m
    obtain ⟨x, hx⟩ := k.mh m'
    show upd gh.G p o a = none
    rw [upd_ne (ne_of_none hx hp)]
    exact k.dis a m'
  · have h := k.tab q e
    obtain ⟨ps, h1, _⟩ := id h
    exact h.mono sg (upd_ne (ne_of_none h1 hp))
theorem Stp.lay {K : Fg} (k : Ok K gh H σ w) {p : Addr} (hp : H p = none) (o : HO) : Stp gh H { gh with G := upd gh.G p o } (upd H p o) where
  sub := same_lay (k.nog hp)
  keep := fun a x e _ => by rw [upd_ne (ne_of_none e hp)]; exact e
  dom := fun a e => by
    by_cases h : a = p
    · subst h; exact hp
    · rw [upd_ne h] at e; exact e
  gnew := fun a x e => by
    by_cases h : a = p
    · subst h; exact .inr (.inl hp)
    · have e' : upd gh.G p o a = some x := e
      rw [upd_ne h] at e'; exact .inl e'
  mnew := fun a m => .inl m
  dr := rfl
  tbk := rfl
/-- a new thing is laid, not yet said to be never changed -/
theorem Ok.grow {K : Fg} (k : Ok K gh H σ w) {p : Addr} (hp : H p = none) (o : HO) : Ok K gh (upd H p o) σ w := by
  refine ⟨k.len, fun a x e => ?_, k.val, k.scr, fun i d e => ?_, k.onl, k.inj, k.st, fun q e => ?_, k.sap, k.dis, fun q e => (let h := k.tab q e; h.mono (fun _ _ h => h) (let ⟨ps, h1, _⟩ := h; upd_ne (ne_of_none h1 hp))), k.tbw⟩
  · have := k.sub a x e
    rw [upd_ne (ne_of_none this hp)]
    exact this
  · obtain ⟨a, e0, e1, r⟩ := k.own i d e
    obtain ⟨x, hx⟩ := r.there
    exact ⟨a, e0, e1, r.mono (fun _ _ h => h) (upd_ne (ne_of_none hx hp))⟩
  · have h := k.src q e
    obtain ⟨c, h1, h2, _, _⟩ := id h
    exact h.mono (fun _ _ h => h) (upd_ne (ne_of_none h1 hp)) (upd_ne (ne_of_none h2 hp))
theorem Stp.grow {K : Fg} {p : Addr} (hp : H p = none) (o : HO) : Stp gh H gh (upd H p o) where
  sub := fun _ _ h => h
  keep := fun a x e _ => by rw [upd_ne (ne_of_none e hp)]; exact e
  dom := fun a e => by
    by_cases h : a = p
    · subst h; exact hp
    · rw [upd_ne h] at e; exact e
  gnew := fun a x e => .inl e
  mnew := fun a m => .inl m
  dr := rfl
  tbk := rfl

/-! ### results -/
def Res (T : Tx) (gh : Gh) (H : Hp) (σ : L2.St) (o : Option (R × Wt)) (Q : VK) : Prop := ∃ (r : R) (w : Wt), o = some (r, w) ∧
  (∀ c x, r = .ex c x → ∀ gh' H', Stp gh H gh' H' → Ok T.K gh' H' σ w → Exn T gh' H' c x) ∧
  (∀ v gh' H', Stp gh H gh' H' → Ok T.K gh' H' σ w → RV T.K gh' H H' σ w v r → Q v H')
abbrev EF := Wt → Option (R × Wt)
def tD (T : Tx) (f : EF) : TE := fun σ H Q => ∃ (gh : Gh) (w : Wt), Ok T.K gh H σ w ∧ Res T gh H σ (f w) Q
/-- one behind another; an exception goes through -/
def eK (o : Option (R × Wt)) (k : R → Wt → Option (R × Wt)) : Option (R × Wt) := match o with
  | some (.ex c x, w) => some (.ex c x, w)
  | some (.fz d, w) => k (.fz d) w
  | some (.ow d, w) => k (.ow d) w
  | some (.pk i, w) => k (.pk i) w
  | none => none
theorem RV.base {K : Fg} {H2 : Hp} {v : V} {r : R} (h : RV K gh H H2 σ w v r) (d : ∀ a, H a = none → H0 a = none) : RV K gh H0 H2 σ w v r := by
  cases r with
  | fz _ => exact h
  | ow _ => obtain ⟨a, e, h1, h2⟩ := h; exact ⟨a, e, d a h1, h2⟩
  | pk _ => exact h
  | ex _ _ => exact h
theorem Res.bind {o : Option (R × Wt)} {k : R → Wt → Option (R × Wt)} {Q : VK} (s : Stp gh0 H0 gh H) (h : Res T gh0 H0 σ (eK o k) Q) :
    Res T gh H σ o (fun v H1 => ∃ (gh1 : Gh) (w1 : Wt) (r : R), Stp gh H gh1 H1 ∧ Ok T.K gh1 H1 σ w1 ∧ RV T.K gh1 H0 H1 σ w1 v r ∧ Res T gh0 H0 σ (k r w1) Q) := by
  obtain ⟨r', w', e, h1, h2⟩ := h
  cases o with
  | none => exact nomatch e
  | some p =>
    obtain ⟨r, w⟩ := p
    cases r with
    | ex c x =>
      have e' : (R.ex c x, w) = (r', w') := Option.some.inj e
      cases e'
      exact ⟨.ex c x, _, rfl, fun c' x' z gh' H' s' k => h1 c' x' z gh' H' (s.trans s') k, fun v gh' H' _ _ rv => rv.elim⟩
    | fz d => exact ⟨.fz d, w, rfl, fun _ _ z => (nomatch z), fun v gh' H' s' k rv => ⟨gh', w, _, s', k, rv.base s.dom, r', w', e, h1, h2⟩⟩
    | ow d => exact ⟨.ow d, w, rfl, fun _ _ z => (nomatch z), fun v gh' H' s' k rv => ⟨gh', w, _, s', k, rv.base s.dom, r', w', e, h1, h2⟩⟩
    | pk d => exact ⟨.pk d, w, rfl, fun _ _ z => (nomatch z), fun v gh' H' s' k rv => ⟨gh', w, _, s', k, rv.base s.dom, r', w', e, h1, h2⟩⟩
theorem Res.fz {d : PD} {v : V} {Q : VK} (h : Res T gh0 H0 σ (some (.fz d, w)) Q) (s : Stp gh0 H0 gh H) (k : Ok T.K gh H σ w) (r : Rp T.K gh.G d v) : Q v H := by
  obtain ⟨r', w', e, _, h2⟩ := h
  cases e
  exact h2 v gh H s k r
theorem Res.tup {ds : List PD} {xs : List V} {p : Addr} {Q : VK} (h : Res T gh0 H0 σ (some (.fz (.tuple ds), w)) Q) (s : Stp gh0 H0 gh H) (k : Ok T.K gh H σ w) (r : RpA T.K gh.G ds xs) (hp : H p = none) : Q (.ref p) (upd H p (.tup xs)) := by
  refine h.fz (s.trans (Stp.lay k hp _)) (k.lay hp _) ?_
  simp only [Rp]
  exact ⟨p, xs, rfl, .of upd_same, RpA.mono (same_lay (k.nog hp)) _ _ r⟩
theorem Res.lst {ds : List PD} {xs : List V} {p : Addr} {Q : VK} (h : Res T gh0 H0 σ (some (.ow (.list ds), w)) Q) (s : Stp gh0 H0 gh H) (k : Ok T.K gh H σ w) (r : RpA T.K gh.G ds xs) (hp : H p = none) : Q (.ref p) (upd H p (.lst xs)) := by
  obtain ⟨r', w', e, _, h2⟩ := h
  cases e
  exact h2 _ gh _ (s.trans (Stp.grow (K := T.K) hp _)) (k.grow hp _) ⟨p, rfl, s.dom _ hp, k.nog hp, k.nom hp, xs, upd_same, r⟩
theorem Res.dctn {Q : VK} {p : Addr} {ds : List (PD × PD)} {es : List (Key × V)} (h : Res T gh0 H0 σ (some (.ow (.dict ds), w)) Q) (s : Stp gh0 H0 gh H) (k : Ok T.K gh H σ w) (r : RpK T.K gh.G ds es) (hp : H p = none) : Q (.ref p) (upd H p (.dK es)) := by
  obtain ⟨r', w', e, _, h2⟩ := h
  cases e
  exact h2 _ gh _ (s.trans (Stp.grow (K := T.K) hp _)) (k.grow hp _) ⟨p, rfl, s.dom _ hp, k.nog hp, k.nom hp, es, upd_same, r⟩
theorem Res.none {Q : VK} (h : Res T gh0 H0 σ none Q) {P : Prop} : P := by
  obtain ⟨r', w', e, _⟩ := h
  cases e

/-! ### freezing -/
def Wt.freeze (w : Wt) : R → Option (PD × Wt)
  | .fz d => some (d, w)
  | .ow d => some (d, w)
  | .pk i => match w.sl[i]? with
    | some (.v d) => some (d, w)
    | some (.o d) => some (d, { w with sl := w.sl.set i (.v d) })
    | _ => none
  | .ex _ _ => none
/-- the slot i is given up: what it held is never changed from now on -/
theorem Ok.yield {K : Fg} (k : Ok K gh H σ w) {i : Nat} {d : PD} (e : w.sl[i]? = some (.o d)) :
    ∃ (gh' : Gh) (a : Addr), σ[i]? = some (some (.ref a)) ∧ Stp gh H gh' H ∧ Ok K gh' H σ { w with sl := w.sl.set i (.v d) } ∧ Rp K gh'.G d (.ref a) := by
  obtain ⟨a, e0, e1, ow⟩ := k.own i d e
  obtain ⟨o, ho⟩ := ow.there
  have ga : gh.G a = none := k.dis a (.inl ⟨i, e0⟩)
  have sg : Same gh.G (upd gh.G a o) := same_lay ga
  have hi : i < w.sl.length := (List.getElem?_eq_some_iff.mp e).1
  have hs : Same (upd gh.G a o) H := fun b x q => by
    by_cases h : b = a
    · subst h; rw [upd_same] at q; cases q; exact ho
    · rw [upd_ne h] at q; exact k.sub b x q
  have rp : Rp K (upd gh.G a o) d (.ref a) := by
    refine Own.rp (G := gh.G) sg ?_
    cases d with
    | list ds => obtain ⟨xs, q, r⟩ := ow; rw [ho] at q; cases q; exact ⟨xs, upd_same, r⟩
    | dict kvs => obtain ⟨es, q, r⟩ := ow; rw [ho] at q; cases q; exact ⟨es, upd_same, r⟩
    | _ => exact ow.elim
  refine ⟨⟨upd gh.G a o, fun j => if j = i then none else gh.ow j, gh.sa, gh.tb⟩, a, e1, ⟨sg, fun b x q _ => q, fun b q => q, fun b x q => ?_, fun b m => ?_, rfl, rfl⟩, ⟨by rw [List.length_set]; exact k.len, hs, fun j c q => ?_, fun j ns q => ?_, fun j c q => ?_, fun j b q => ?_, fun j l b q1 q2 => ?_, fun j q => ?_, fun p q => ?_, fun p j b q1 q2 => ?_, fun b m => ?_, fun p q => (k.tab p q).mono sg rfl, k.tbw⟩, rp⟩
  · have q' : upd gh.G a o b = some x := q
    by_cases h : b = a
    · subst h; exact .inr (.inr (.inl (.inl ⟨i, e0⟩)))
    · rw [upd_ne h] at q'; exact .inl q'
  · rcases m with ⟨j, q⟩ | q
    · have q' : (if j = i then none else gh.ow j) = some b := q
      split at q'
      · cases q'
      · exact .inl (.inl ⟨j, q'⟩)
    · exact .inl (.inr q)
  · by_cases h : j = i
    · subst h
      rw [List.getElem?_set_self hi] at q
      cases q
      exact ⟨_, e1, rp⟩
    · rw [List.getElem?_set_ne (Ne.symm h)] at q
      obtain ⟨v, q1, r⟩ := k.val j c q
      exact ⟨v, q1, Rp.mono sg _ _ r⟩
  · by_cases h : j = i
    · subst h
      rw [List.getElem?_set_self hi] at q
      cases q
    · rw [List.getElem?_set_ne (Ne.symm h)] at q
      obtain ⟨b, q1, r⟩ := k.scr j ns q
      exact ⟨b, q1, sg.seq r⟩
  · by_cases h : j = i
    · subst h
      rw [List.getElem?_set_self hi] at q
      cases q
    · rw [List.getElem?_set_ne (Ne.symm h)] at q
      obtain ⟨b, q0, q1, r⟩ := k.own j c q
      exact ⟨b, (if_neg h).trans q0, q1, r.mono sg rfl⟩
  · have q' : (if j = i then none else gh.ow j) = some b := q
    split at q'
    · cases q'
    · rename_i h
      obtain ⟨c, r⟩ := k.onl j b q'
      exact ⟨c, by rw [List.getElem?_set_ne (Ne.symm h)]; exact r⟩
  · have q1' : (if j = i then none else gh.ow j) = some b := q1
    have q2' : (if l = i then none else gh.ow l) = some b := q2
    split at q1'
    · cases q1'
    · split at q2'
      · cases q2'
      · exact k.inj j l b q1' q2'
  · by_cases h : j = i
    · subst h
      rw [List.getElem?_set_self hi] at q
      cases q
    · rw [List.getElem?_set_ne (Ne.symm h)] at q
      exact k.st j q
  · exact (k.src p q).mono sg rfl rfl
  · have q2' : (if j = i then none else gh.ow j) = some b := q2
    split at q2'
    · cases q2'
    · exact k.sap p j b q1 q2'
  · show upd gh.G a o b = none
    rcases m with ⟨j, q⟩ | ⟨p, q, z⟩ | ⟨p, q, z⟩
    · have q' : (if j = i then none else gh.ow j) = some b := q
      split at q'
      · cases q'
      · rename_i h
        have hb : b ≠ a := fun y => by
          subst y
          exact h (k.inj j i b q' e0)
        rw [upd_ne hb]
        exact k.dis b (.inl ⟨j, q'⟩)
    · have hb : b ≠ a := fun y => by
        subst y
        obtain ⟨z1, z2⟩ := k.sap p i b q e0
        rcases z with z | z
        · exact z1 z
        · exact z2 z
      rw [upd_ne hb]
      exact k.dis b (.inr (.inl ⟨p, q, z⟩))
    · have hb : b ≠ a := fun y => by
        obtain ⟨ps, h1, _⟩ := k.tab p q
        rw [← z, y, ho] at h1
        cases h1
        exact ow.tbl ho
      rw [upd_ne hb]
      exact k.dis b (.inr (.inr ⟨p, q, z⟩))
/-- a fresh thing of one's own is given up -/
theorem Ok.giveUp {K : Fg} (k : Ok K gh H σ w) (s : Stp gh0 H0 gh H) {a : Addr} {d : PD} (h0 : H0 a = none) (hg : gh.G a = none) (hm : ¬ gh.M a) (ow : Own K gh.G H a d) :
    ∃ gh' : Gh, Stp gh0 H0 gh' H ∧ Ok K gh' H σ w ∧ Rp K gh'.G d (.ref a) := by
  obtain ⟨o, ho⟩ := ow.there
  have sg : Same gh.G (upd gh.G a o) := same_lay hg
  have hs : Same (upd gh.G a o) H := fun b x q => by
    by_cases h : b = a
    · subst h; rw [upd_same] at q; cases q; exact ho
    · rw [upd_ne h] at q; exact k.sub b x q
  refine ⟨{ gh with G := upd gh.G a o }, ⟨fun b x q => sg b x (s.sub b x q), s.keep, s.dom, fun b x q => ?_, s.mnew, s.dr, s.tbk⟩, ⟨k.len, hs, fun i c e => ?_, fun i ns e => (let ⟨b, q, r⟩ := k.scr i ns e; ⟨b, q, sg.seq r⟩), fun i c e => ?_, k.onl, k.inj, k.st, fun p e => ?_, k.sap, fun b m => ?_, fun p e => (k.tab p e).mono sg rfl, k.tbw⟩, ?_⟩
  · have q' : upd gh.G a o b = some x := q
    by_cases h : b = a
    · subst h; exact .inr (.inl h0)
    · rw [upd_ne h] at q'; exact s.gnew b x q'
  · obtain ⟨v, q1, r⟩ := k.val i c e
    exact ⟨v, q1, Rp.mono sg _ _ r⟩
  · obtain ⟨b, q0, q1, r⟩ := k.own i c e
    exact ⟨b, q0, q1, r.mono sg rfl⟩
  · exact (k.src p e).mono sg rfl rfl
  · show upd gh.G a o b = none
    have m' : gh.M b := m
    have hb : b ≠ a := fun y => by subst y; exact hm m'
    rw [upd_ne hb]
    exact k.dis b m'
  · refine Own.rp (G := gh.G) sg ?_
    cases d with
    | list ds => obtain ⟨xs, q, r⟩ := ow; rw [ho] at q; cases q; exact ⟨xs, upd_same, r⟩
    | dict kvs => obtain ⟨es, q, r⟩ := ow; rw [ho] at q; cases q; exact ⟨es, upd_same, r⟩
    | _ => exact ow.elim
theorem RV.freeze {K : Fg} {v : V} {r : R} {d : PD} (h : RV K gh H0 H σ w v r) (s : Stp gh0 H0 gh H) (k : Ok K gh H σ w) (e : w.freeze r = some (d, w')) : ∃ gh' : Gh, Stp gh0 H0 gh' H ∧ Ok K gh' H σ w' ∧ Rp K gh'.G d v := by
  cases r with
  | fz c =>
    have e' : (c, w) = (d, w') := Option.some.inj e
    cases e'
    exact ⟨gh, s, k, h⟩
  | ow c =>
    have e' : (c, w) = (d, w') := Option.some.inj e
    cases e'
    obtain ⟨a, rfl, h0, hg, hm, ow⟩ := h
    exact k.giveUp s h0 hg hm ow
  | pk i =>
    obtain ⟨h1, _⟩ := h
    unfold Wt.freeze at e
    simp only at e
    split at e
    · rename_i c q
      have e' : (c, w) = (d, w') := Option.some.inj e
      cases e'
      obtain ⟨v', e1, r⟩ := k.val i _ q
      rw [h1] at e1
      cases e1
      exact ⟨gh, s, k, r⟩
    · rename_i c q
      have e' : (c, ({ w with sl := w.sl.set i (.v c) } : Wt)) = (d, w') := Option.some.inj e
      cases e'
      obtain ⟨gh', a, e1, s', k', r⟩ := k.yield q
      rw [h1] at e1
      cases e1
      exact ⟨gh', s.trans s', k', r⟩
    · cases e
  | ex c x => exact h.elim

/-! ### expressions -/
variable {X : Cx} {e e1 e2 : Expr} {t t' ta tb : TE} {f g : EF}
theorem PE.weak (h : PE X e t) (i : ∀ σ H Q, t' σ H Q → t σ H Q) : PE X e t' := ⟨fun pins s σ H Q I q => h.run pins s σ H Q I (i σ H Q q)⟩
theorem PT.weak {t t' : TT} (h : PT X e t) (i : ∀ σ H Q, t' σ H Q → t σ H Q) : PT X e t' := ⟨fun pins s σ H Q I q => h.run pins s σ H Q I (i σ H Q q)⟩
theorem PS.weak {st : Stmt} {t t' : TS} (h : PS X st t) (i : ∀ D σ H, t' D σ H → t D σ H) : PS X st t' := ⟨fun pins s σ H D I q => h.run pins s σ H D I (i D σ H q)⟩
theorem PSs.weak {st : List Stmt} {t t' : TS} (h : PSs X st t) (i : ∀ D σ H, t' D σ H → t D σ H) : PSs X st t' := ⟨fun pins s σ H D I q => h.run pins s σ H D I (i D σ H q)⟩
/-- the state in the middle of an expression -/
def eB (f : EF) (k : R → Wt → Option (R × Wt)) : EF := fun w => eK (f w) k
theorem tD.bind {k : R → Wt → Option (R × Wt)} {Q : VK} (h : tD T (eB f k) σ H Q) :
    tD T f σ H (fun v H1 => ∃ (gh gh1 : Gh) (w1 : Wt) (r : R), Stp gh H gh1 H1 ∧ Ok T.K gh1 H1 σ w1 ∧ RV T.K gh1 H H1 σ w1 v r ∧ Res T gh H σ (k r w1) Q) := by
  obtain ⟨gh, w, k0, h⟩ := h
  obtain ⟨r, w', q1, q2, q3⟩ := Res.bind (Stp.refl _ _) h
  exact ⟨gh, w, k0, r, w', q1, q2, fun v gh' H' s o rv => by
    obtain ⟨gh1, w1, r, h1, h2, h3, h4⟩ := q3 v gh' H' s o rv
    exact ⟨gh, gh1, w1, r, h1, h2, h3, h4⟩⟩
/-- an operation on the contents -/
def kC (op : PD → Option R) (r : R) (w : Wt) : Option (R × Wt) := (w.cont r).bind fun d => (op d).map fun q => (q, w)
def kC2 (op : PD → PD → Option R) (r r' : R) (w : Wt) : Option (R × Wt) := (w.cont r).bind fun d => (w.cont r').bind fun d' => (op d d').map fun q => (q, w)
def eC (f : EF) (op : PD → Option R) : EF := eB f (kC op)
def eC2 (f g : EF) (op : PD → PD → Option R) : EF := eB f fun r => eB g fun r' => kC2 op r r'
def OpC (T : Tx) (op : PD → Option R) (r : V → Hp → VK → Prop) : Prop := ∀ (gh0 gh : Gh) (H0 H : Hp) (σ : L2.St) (w : Wt) (v : V) (d : PD) (Q : VK),
  Stp gh0 H0 gh H → Ok T.K gh H σ w → Cv T.K gh H d v → Res T gh0 H0 σ ((op d).map fun q => (q, w)) Q → r v H Q
def OpC2 (T : Tx) (op : PD → PD → Option R) (r : R2) : Prop := ∀ (gh0 gh : Gh) (H0 H : Hp) (σ : L2.St) (w : Wt) (x y : V) (d d' : PD) (Q : VK),
  Stp gh0 H0 gh H → Ok T.K gh H σ w → Cv T.K gh H d x → Cv T.K gh H d' y → Res T gh0 H0 σ ((op d d').map fun q => (q, w)) Q → r x y H Q
theorem eC_le {op : PD → Option R} {r : V → Hp → VK → Prop} (ho : OpC T op r) (σ : L2.St) (H : Hp) (Q : VK) (h : tD T (eC f op) σ H Q) : tD T f σ H fun x H1 => r x H1 Q := by
  obtain ⟨gh, w, k0, r0, w0, q1, q2, q3⟩ := tD.bind h
  refine ⟨gh, w, k0, r0, w0, q1, q2, fun v gh' H' s o rv => ?_⟩
  obtain ⟨g0, g1, w1, rr, h1, h2, h3, h4⟩ := q3 v gh' H' s o rv
  unfold kC at h4
  cases e : w1.cont rr with
  | none => rw [e] at h4; exact h4.none
  | some d =>
    rw [e] at h4
    exact ho g0 g1 H H' σ w1 v d Q h1 h2 (h3.now h2 e) h4
theorem eC2_le {op : PD → PD → Option R} {r : R2} (ho : OpC2 T op r) (σ : L2.St) (H : Hp) (Q : VK) (h : tD T (eC2 f g op) σ H Q) : tD T f σ H fun x H1 => tD T g σ H1 fun y H2 => r x y H2 Q := by
  obtain ⟨gh, w, k0, r0, w0, q1, q2, q3⟩ := tD.bind h
  refine ⟨gh, w, k0, r0, w0, q1, q2, fun v gh' H' s o rv => ?_⟩
  obtain ⟨g0, g1, w1, rr, h1, h2, h3, h4⟩ := q3 v gh' H' s o rv
  refine ⟨g1, w1, h2, ?_⟩
  have h5 := Res.bind h1 (show Res T g0 H σ (eK (g w1) fun r' => kC2 op rr r') Q from h4)
  obtain ⟨r1, w2, p1, p2, p3⟩ := h5
  refine ⟨r1, w2, p1, p2, fun u gh2 H2 s2 o2 rv2 => ?_⟩
  obtain ⟨g2, w3, r3, z1, z2, z3, z4⟩ := p3 u gh2 H2 s2 o2 rv2
  unfold kC2 at z4
  cases e : w3.cont rr with
  | none => rw [e] at z4; exact z4.none
  | some d =>
    cases e' : w3.cont r3 with
    | none => rw [e, e'] at z4; exact z4.none
    | some d' =>
      rw [e, e'] at z4
      exact ho g0 g2 H H2 σ w3 v u d d' Q (h1.trans z1) z2 (h3.later z1 z2 e) (z3.now z2 e') z4
/-- the value is given away -/
def kF (r : R) (w : Wt) : Option (R × Wt) := (w.freeze r).map fun p => (.fz p.1, p.2)
def eF (f : EF) : EF := eB f kF
theorem eF_le (σ : L2.St) (H : Hp) (Q : VK) (h : tD T (eF f) σ H Q) : tD T f σ H Q := by
  obtain ⟨gh, w, k0, r0, w0, q1, q2, q3⟩ := tD.bind h
  refine ⟨gh, w, k0, r0, w0, q1, q2, fun v gh' H' s o rv => ?_⟩
  obtain ⟨g0, g1, w1, rr, h1, h2, h3, h4⟩ := q3 v gh' H' s o rv
  unfold kF at h4
  cases e : w1.freeze rr with
  | none => rw [e] at h4; exact h4.none
  | some p =>
    obtain ⟨d, w2⟩ := p
    rw [e] at h4
    obtain ⟨g2, s2, o2, r2⟩ := h3.freeze h1 h2 e
    exact h4.fz s2 o2 r2
/-! ### names, constants -/
def eV (i : Nat) : EF := fun w => match w.sl[i]? with
  | some (.v d) => some (.fz d, w)
  | some (.o _) => some (.pk i, w)
  | _ => none
theorem eV_le (i : Nat) (σ : L2.St) (H : Hp) (Q : VK) (h : tD T (eV i) σ H Q) : tVar i σ H Q := by
  obtain ⟨gh, w, k, h⟩ := h
  unfold eV at h
  cases e : w.sl[i]? with
  | none => rw [e] at h; exact h.none
  | some sl =>
    rw [e] at h
    cases sl with
    | un => exact h.none
    | st => exact h.none
    | sc _ => exact h.none
    | v d =>
      obtain ⟨v, e1, r⟩ := k.val i d e
      exact ⟨v, e1, h.fz (Stp.refl _ _) k r⟩
    | o d =>
      obtain ⟨a, e0, e1, r⟩ := k.own i d e
      obtain ⟨r', w', z, _, h2⟩ := h
      cases z
      exact ⟨_, e1, h2 _ gh H (Stp.refl _ _) k ⟨e1, .inr ⟨d, e⟩⟩⟩
theorem d_var (i : Nat) {x : Str} {pos : Pos} (hN : X.N[i]? = some x := by rfl) (hv : Vis X.env.scope x := by first | exact Or.inl rfl | exact Or.inr (Or.inl rfl) | exact Or.inr (Or.inr rfl)) (hd : (x == ("__debug__" : Str)) = false := by decide)
    (hcd : (x == ("__classdict__" : Str)) = false := by decide) : PE X (.Name x pos) (tD T (eV i)) := PE.weak (pe_var hN hv hd hcd) (eV_le i)
def eD (d : PD) : EF := fun w => some (.fz d, w)
theorem eD_le {d : PD} {v : V} (hv : ∀ H, Rp T.K H d v) (σ : L2.St) (H : Hp) (Q : VK) (h : tD T (eD d) σ H Q) : tC v σ H Q := by
  obtain ⟨gh, w, k, h⟩ := h
  exact h.fz (Stp.refl _ _) k (hv _)
theorem d_int {i : Int} {j : Nat} {pos : Pos} : PE X (.Constant (.int i) j pos) (tD T (eD (.int i))) := PE.weak pe_int (eD_le fun _ => by simp [Rp])
theorem d_str {x : Str} {j : Nat} {pos : Pos} : PE X (.Constant (.str x) j pos) (tD T (eD (.str x))) := PE.weak pe_str (eD_le fun _ => by simp [Rp])
theorem d_bl {b : Bool} {j : Nat} {pos : Pos} : PE X (.Constant (.bool b) j pos) (tD T (eD (.bool b))) := PE.weak pe_bl (eD_le fun _ => by simp [Rp])
theorem d_non {j : Nat} {pos : Pos} : PE X (.Constant .none j pos) (tD T (eD .none)) := PE.weak pe_non (eD_le fun _ => by simp [Rp])
/-- a constant of the module -/
theorem d_glob {x : Str} {d : PD} {v : V} {u : Value} {pos : Pos} (hm : X.mg x = some u) (r : RelV v u) (hv : ∀ H, Rp T.K H d v) (hg : Gl X x := by rfl) (hd : (x == ("__debug__" : Str)) = false := by decide) : PE X (.Name x pos) (tD T (eD d)) := PE.weak (pe_glob hg hm r hd) (eD_le hv)
end
end DL
set_option maxHeartbeats 1000000
/-! DL3: argument lists, displays, tests, statements. -/
namespace DL
open PySem PySem.Spec PyProof.Rows L2
variable [TbC]
section
variable {T : Tx} {gh0 gh gh1 : Gh} {H0 H H1 : Hp} {σ : L2.St} {w w' w1 : Wt} {X : Cx} {e e1 e2 : Expr} {es : List Expr} {t t' ta tb : TE} {f g : EF} {pos : Pos}

/-! ### argument lists -/
inductive RA where
  | ok (ds : List PD) | ex (c : Str) (x : Option (Str × PD))
abbrev AF := Wt → Option (RA × Wt)
def ResA (T : Tx) (gh : Gh) (H : Hp) (σ : L2.St) (o : Option (RA × Wt)) (Q : List V → Hp → Prop) : Prop := ∃ (r : RA) (w : Wt), o = some (r, w) ∧
  (∀ c x, r = .ex c x → ∀ gh' H', Stp gh H gh' H' → Ok T.K gh' H' σ w → Exn T gh' H' c x) ∧
  (∀ ds, r = .ok ds → ∀ vs gh' H', Stp gh H gh' H' → Ok T.K gh' H' σ w → RpA T.K gh'.G ds vs → Q vs H')
def tA (T : Tx) (f : AF) : TA := fun σ H Q => ∃ (gh : Gh) (w : Wt), Ok T.K gh H σ w ∧ ResA T gh H σ (f w) Q
def aNil : AF := fun w => some (.ok [], w)
def aCons (f : EF) (g : AF) : AF := fun w => match eF f w with
  | some (.fz d, w1) => (match g w1 with
    | some (.ok ds, w2) => some (.ok (d :: ds), w2)
    | some (.ex c x, w2) => some (.ex c x, w2)
    | none => none)
  | some (.ex c x, w1) => some (.ex c x, w1)
  | _ => none
theorem dA_nil : PA X [] (tA T aNil) := ⟨fun pos pins s σ H Q I h => by
  obtain ⟨gh, w, k, r, w', e, _, q⟩ := h
  cases e
  exact pa_nil.run pos pins s σ H Q I (q _ rfl [] gh H (Stp.refl _ _) k RpA.nil)⟩
theorem tCons_le {t1 : TE} {t2 : TA} {g : AF} (i1 : ∀ σ H Q, tD T (eF f) σ H Q → t1 σ H Q) (i2 : ∀ σ H Q, tA T g σ H Q → t2 σ H Q) (σ : L2.St) (H : Hp) (Q : List V → Hp → Prop) (h : tA T (aCons f g) σ H Q) : tCons t1 t2 σ H Q := by
  obtain ⟨gh, w, k, r, w', e, q1, q2⟩ := h
  refine i1 _ _ _ ⟨gh, w, k, ?_⟩
  unfold aCons at e
  cases q : eF f w with
  | none => rw [q] at e; exact nomatch e
  | some p =>
    obtain ⟨r1, w1⟩ := p
    rw [q] at e
    cases r1 with
    | ow d => exact nomatch e
    | pk d => exact nomatch e
    | ex c x =>
      have e' : (RA.ex c x, w1) = (r, w') := Option.some.inj e
      cases e'
      exact ⟨.ex c x, _, rfl, fun c' x' z => by cases z; exact q1 _ _ rfl, fun v gh' H' _ _ rv => rv.elim⟩
    | fz d =>
      refine ⟨.fz d, w1, rfl, fun _ _ z => (nomatch z), fun v gh1 H1 s1 k1 rv => ?_⟩
      refine i2 _ _ _ ⟨gh1, w1, k1, ?_⟩
      dsimp only at e
      cases z : g w1 with
      | none => rw [z] at e; exact nomatch e
      | some p =>
        obtain ⟨r2, w2⟩ := p
        rw [z] at e
        cases r2 with
        | ex c x =>
          have e' : (RA.ex c x, w2) = (r, w') := Option.some.inj e
          cases e'
          exact ⟨.ex c x, _, rfl, fun c' x' y gh' H' s' k' => q1 _ _ y gh' H' (s1.trans s') k', fun ds y => (nomatch y)⟩
        | ok ds =>
          have e' : (RA.ok (d :: ds), w2) = (r, w') := Option.some.inj e
          cases e'
          refine ⟨.ok ds, _, rfl, fun _ _ y => (nomatch y), fun ds' y vs gh2 H2 s2 k2 rvs => ?_⟩
          cases y
          exact q2 _ rfl (v :: vs) gh2 H2 (s1.trans s2) k2 (RpA.cons (Rp.mono s2.sub _ _ rv) rvs)
theorem PA.weak {t t' : TA} (h : PA X es t) (i : ∀ σ H Q, t' σ H Q → t σ H Q) : PA X es t' := ⟨fun pos pins s σ H Q I q => h.run pos pins s σ H Q I (i σ H Q q)⟩
theorem dA_cons {g : AF} (ha : PE X e (tD T f)) (hr : PA X es (tA T g)) (hs : starEach (e :: es) X.env = (false, eval e X.env) :: starEach es X.env := by rfl) : PA X (e :: es) (tA T (aCons f g)) :=
  PA.weak (pa_cons ha hr hs) (tCons_le (fun σ H Q h => eF_le σ H Q h) fun σ H Q h => h)
/-- what becomes of the arguments -/
def eA (g : AF) (k : List PD → Wt → Option (R × Wt)) : EF := fun w => match g w with
  | some (.ok ds, w1) => k ds w1
  | some (.ex c x, w1) => some (.ex c x, w1)
  | none => none
theorem eA_le {g : AF} {k : List PD → Wt → Option (R × Wt)} {r : List V → Hp → VK → Prop}
    (ho : ∀ (gh0 gh : Gh) (H0 H : Hp) (σ : L2.St) (w : Wt) (vs : List V) (ds : List PD) (Q : VK), Stp gh0 H0 gh H → Ok T.K gh H σ w → RpA T.K gh.G ds vs → Res T gh0 H0 σ (k ds w) Q → r vs H Q)
    (σ : L2.St) (H : Hp) (Q : VK) (h : tD T (eA g k) σ H Q) : tA T g σ H fun vs H1 => r vs H1 Q := by
  obtain ⟨gh, w, k0, h⟩ := h
  refine ⟨gh, w, k0, ?_⟩
  unfold eA at h
  cases e : g w with
  | none => rw [e] at h; exact h.none
  | some p =>
    obtain ⟨r1, w1⟩ := p
    rw [e] at h
    cases r1 with
    | ex c x =>
      obtain ⟨r', w', e', q1, q2⟩ := h
      cases e'
      exact ⟨.ex c x, _, rfl, fun c' x' y => by cases y; exact q1 _ _ rfl, fun ds y => (nomatch y)⟩
    | ok ds =>
      refine ⟨.ok ds, w1, rfl, fun _ _ y => (nomatch y), fun ds' y vs gh' H' s k' rv => ?_⟩
      cases y
      exact ho gh gh' H H' σ w1 vs _ Q s k' rv h
/-- a display -/
def lim : Nat := 1000000
theorem lim_line : lim < sizeLine := by rw [sizeLine_eq]; decide
def eTup (g : AF) : EF := eA g fun ds w => if ds.length < lim then some (.fz (.tuple ds), w) else none
def eLst (g : AF) : EF := eA g fun ds w => if ds.length < lim then some (.ow (.list ds), w) else none
theorem lim_le {n : Nat} (h : n < lim) : n ≤ sizeLine := Nat.le_of_lt (Nat.lt_trans h lim_line)
theorem d_tup {g : AF} {x1 : Nat} (h : PA X es (tA T g)) : PE X (.Tuple es x1 pos) (tD T (eTup g)) := PE.weak (pe_tup h) fun σ H Q q =>
  eA_le (r := fun vs H1 Q => vs.length ≤ sizeLine ∧ ∀ p, H1 p = none → Q (.ref p) (upd H1 p (.tup vs))) (fun gh0 gh H0 H σ w vs ds Q s k rv z => by
    split at z
    · rename_i hl
      exact ⟨by rw [rv.len]; exact lim_le hl, fun p hp => z.tup s k rv hp⟩
    · exact z.none) σ H Q q
theorem d_lst {g : AF} (h : PA X es (tA T g)) : PE X (.List es pos) (tD T (eLst g)) := PE.weak (pe_lst h) fun σ H Q q =>
  eA_le (r := fun vs H1 Q => vs.length ≤ sizeLine ∧ ∀ p, H1 p = none → Q (.ref p) (upd H1 p (.lst vs))) (fun gh0 gh H0 H σ w vs ds Q s k rv z => by
    split at z
    · rename_i hl
      exact ⟨by rw [rv.len]; exact lim_le hl, fun p hp => z.lst s k rv hp⟩
    · exact z.none) σ H Q q

/-! ### tests -/
inductive RT where
  | b (b : Bool) | ex (c : Str) (x : Option (Str × PD))
abbrev TFn := Wt → Option (RT × Wt)
def ResT (T : Tx) (gh : Gh) (H : Hp) (σ : L2.St) (o : Option (RT × Wt)) (Q : Bool → Hp → Prop) : Prop := ∃ (r : RT) (w : Wt), o = some (r, w) ∧
  (∀ c x, r = .ex c x → ∀ gh' H', Stp gh H gh' H' → Ok T.K gh' H' σ w → Exn T gh' H' c x) ∧
  (∀ b, r = .b b → ∀ gh' H', Stp gh H gh' H' → Ok T.K gh' H' σ w → Q b H')
def tT (T : Tx) (f : TFn) : TT := fun σ H Q => ∃ (gh : Gh) (w : Wt), Ok T.K gh H σ w ∧ ResT T gh H σ (f w) Q
theorem ResT.none {Q : Bool → Hp → Prop} (h : ResT T gh0 H0 σ none Q) {P : Prop} : P := by
  obtain ⟨r', w', e, _⟩ := h
  cases e
/-- one behind another -/
def tK (o : Option (RT × Wt)) (k : Bool → Wt → Option (RT × Wt)) : Option (RT × Wt) := match o with
  | some (.b b, w) => k b w
  | some (.ex c x, w) => some (.ex c x, w)
  | none => none
theorem ResT.bind {o : Option (RT × Wt)} {k : Bool → Wt → Option (RT × Wt)} {Q : Bool → Hp → Prop} (h : ResT T gh H σ (tK o k) Q) :
    ResT T gh H σ o (fun b H1 => ∃ (gh1 : Gh) (w1 : Wt), Ok T.K gh1 H1 σ w1 ∧ ResT T gh1 H1 σ (k b w1) Q) := by
  cases o with
  | none => exact h.none
  | some p =>
    obtain ⟨r, w⟩ := p
    cases r with
    | ex c x =>
      obtain ⟨r', w', e', q1, q2⟩ := h
      cases e'
      exact ⟨.ex c x, _, rfl, fun c' x' y => by cases y; exact q1 _ _ rfl, fun ds y => (nomatch y)⟩
    | b b =>
      refine ⟨.b b, w, rfl, fun _ _ y => (nomatch y), fun b' y gh' H' s k' => ?_⟩
      cases y
      obtain ⟨r', w', e', q1, q2⟩ := h
      exact ⟨gh', w, k', r', w', e', fun c x y g2 H2 s2 => q1 c x y g2 H2 (s.trans s2), fun b y g2 H2 s2 => q2 b y g2 H2 (s.trans s2)⟩
/-- an expression that gives a truth value, as a test -/
def tE (f : EF) : TFn := fun w => match f w with
  | some (.fz (.bool b), w1) => some (.b b, w1)
  | some (.ex c x, w1) => some (.ex c x, w1)
  | _ => none
theorem tE_le (σ : L2.St) (H : Hp) (Q : Bool → Hp → Prop) (h : tT T (tE f) σ H Q) : tB (tD T f) σ H Q := by
  obtain ⟨gh, w, k, r, w', e, q1, q2⟩ := h
  refine ⟨gh, w, k, ?_⟩
  unfold tE at e
  split at e
  · rename_i b w1 z
    cases e
    refine ⟨_, _, z, fun _ _ y => (nomatch y), fun v gh' H' s k' rv => ⟨b, ?_, q2 b rfl gh' H' s k'⟩⟩
    have rv' : Rp T.K gh'.G (.bool b) v := rv
    simpa only [Rp] using rv'
  · rename_i c x w1 z
    cases e
    exact ⟨_, _, z, fun c' x' y => by cases y; exact q1 _ _ rfl, fun v gh' H' _ _ rv => rv.elim⟩
  · cases e
theorem dt_val (h : PE X e (tD T f)) (he : ∀ whole, isTrue e X.env whole = (do let v ← whole; standAt e.pos; holding [v] (truthy v)) := by intro _; rfl) : PT X e (tT T (tE f)) := PT.weak (pt_val h he) tE_le
def tNt (f : TFn) : TFn := fun w => tK (f w) fun b w1 => some (.b (!b), w1)
def tAn (f g : TFn) : TFn := fun w => tK (f w) fun b w1 => if b = true then g w1 else some (.b false, w1)
def tOo (f g : TFn) : TFn := fun w => tK (f w) fun b w1 => if b = true then some (.b true, w1) else g w1
theorem ResT.b {b : Bool} {Q : Bool → Hp → Prop} (h : ResT T gh H σ (some (.b b, w)) Q) (k : Ok T.K gh H σ w) : Q b H := by
  obtain ⟨r', w', e', _, q2⟩ := h
  cases e'
  exact q2 b rfl gh H (Stp.refl _ _) k
theorem ResT.mono {o : Option (RT × Wt)} {Q Q' : Bool → Hp → Prop} (h : ResT T gh H σ o Q) (i : ∀ b H, Q b H → Q' b H) : ResT T gh H σ o Q' := by
  obtain ⟨r, w, e, q1, q2⟩ := h
  exact ⟨r, w, e, q1, fun b y gh' H' s k => i _ _ (q2 b y gh' H' s k)⟩
variable {c a b : Expr} {rest : List Expr} {p q : TFn}
theorem dt_not (h : PT X a (tT T p)) : PT X (.UnaryOp .Not a pos) (tT T (tNt p)) := PT.weak (pt_not h) fun σ H Q z => by
  obtain ⟨gh, w, k, z⟩ := z
  exact ⟨gh, w, k, z.bind.mono fun b H1 ⟨gh1, w1, k1, y⟩ => y.b k1⟩
theorem PW.weak {t t' : TT} (h : PW X e t) (i : ∀ σ H Q, t' σ H Q → t σ H Q) : PW X e t' := ⟨fun wh pins s σ H Q I q => h.run wh pins s σ H Q I (i σ H Q q)⟩
theorem dw_and1 (h : PT X a (tT T p)) : PW X (.BoolOp .And [a] pos) (tT T p) := pw_and1 h
theorem dw_or1 (h : PT X a (tT T p)) : PW X (.BoolOp .Or [a] pos) (tT T p) := pw_or1 h
theorem dw_and (h : PT X a (tT T p)) (h' : PW X (.BoolOp .And (b :: rest) pos) (tT T q)) : PW X (.BoolOp .And (a :: b :: rest) pos) (tT T (tAn p q)) := PW.weak (pw_and h h') fun σ H Q z => by
  obtain ⟨gh, w, k, z⟩ := z
  refine ⟨gh, w, k, z.bind.mono fun c H1 ⟨gh1, w1, k1, y⟩ => ?_⟩
  cases c with
  | true => rw [if_pos rfl] at y ⊢; exact ⟨gh1, w1, k1, y⟩
  | false => rw [if_neg Bool.false_ne_true] at y ⊢; exact y.b k1
theorem dw_or (h : PT X a (tT T p)) (h' : PW X (.BoolOp .Or (b :: rest) pos) (tT T q)) : PW X (.BoolOp .Or (a :: b :: rest) pos) (tT T (tOo p q)) := PW.weak (pw_or h h') fun σ H Q z => by
  obtain ⟨gh, w, k, z⟩ := z
  refine ⟨gh, w, k, z.bind.mono fun c H1 ⟨gh1, w1, k1, y⟩ => ?_⟩
  cases c with
  | true => rw [if_pos rfl] at y ⊢; exact y.b k1
  | false => rw [if_neg Bool.false_ne_true] at y ⊢; exact ⟨gh1, w1, k1, y⟩
theorem dt_pw (h : PW X e (tT T p)) : PT X e (tT T p) := h.pt
/-- a test's way chooses -/
def eIf (p : TFn) (f g : EF) : EF := fun w => match p w with
  | some (.b true, w1) => f w1
  | some (.b false, w1) => g w1
  | some (.ex c x, w1) => some (.ex c x, w1)
  | none => none
theorem Res.later {o : Option (R × Wt)} {Q : VK} (h : Res T gh0 H0 σ o Q) (s : Stp gh0 H0 gh H) : Res T gh H σ o Q := by
  obtain ⟨r, w, e, q1, q2⟩ := h
  exact ⟨r, w, e, fun c x y gh' H' s' => q1 c x y gh' H' (s.trans s'), fun v gh' H' s' k rv => q2 v gh' H' (s.trans s') k (rv.base s.dom)⟩
theorem d_ifExp (hc : PT X c (tT T p)) (ha : PE X a (tD T f)) (hb : PE X b (tD T g)) : PE X (.IfExp c a b pos) (tD T (eIf p f g)) := PE.weak (pe_ifExp hc ha hb) fun σ H Q z => by
  obtain ⟨gh, w, k, z⟩ := z
  refine ⟨gh, w, k, ?_⟩
  unfold eIf at z
  cases e : p w with
  | none => rw [e] at z; exact z.none
  | some r =>
    obtain ⟨r, w1⟩ := r
    rw [e] at z
    cases r with
    | ex c x =>
      obtain ⟨r', w', e', q1, q2⟩ := z
      cases e'
      exact ⟨.ex c x, _, rfl, fun c' x' y => by cases y; exact q1 _ _ rfl, fun ds y => (nomatch y)⟩
    | b b =>
      refine ⟨.b b, w1, rfl, fun _ _ y => (nomatch y), fun b' y gh' H' s k' => ?_⟩
      cases y
      cases b with
      | true => rw [if_pos rfl]; exact ⟨gh', w1, k', Res.later z s⟩
      | false => rw [if_neg Bool.false_ne_true]; exact ⟨gh', w1, k', Res.later z s⟩
/-- and, or, not as values of truths -/
def eAnd (f g : EF) : EF := fun w => match f w with
  | some (.fz (.bool true), w1) => g w1
  | some (.fz (.bool false), w1) => some (.fz (.bool false), w1)
  | some (.ex c x, w1) => some (.ex c x, w1)
  | _ => none
def eOr (f g : EF) : EF := fun w => match f w with
  | some (.fz (.bool true), w1) => some (.fz (.bool true), w1)
  | some (.fz (.bool false), w1) => g w1
  | some (.ex c x, w1) => some (.ex c x, w1)
  | _ => none
theorem d_one {op : BoolOp} (h : PE X a (tD T f)) : PE X (.BoolOp op [a] pos) (tD T f) := pe_one h
theorem d_and (h : PE X a (tD T f)) (h' : PE X (.BoolOp .And (b :: rest) pos) (tD T g)) : PE X (.BoolOp .And (a :: b :: rest) pos) (tD T (eAnd f g)) := PE.weak (pe_and h h') fun σ H Q z => by
  obtain ⟨gh, w, k, z⟩ := z
  refine ⟨gh, w, k, ?_⟩
  unfold eAnd at z
  split at z
  · rename_i w1 e
    rw [e]
    refine ⟨_, _, rfl, fun _ _ y => (nomatch y), fun v gh' H' s k' rv => ⟨true, ?_, ?_⟩⟩
    · have rv' : Rp T.K gh'.G (.bool true) v := rv
      simpa only [Rp] using rv'
    · rw [if_pos rfl]; exact ⟨gh', _, k', Res.later z s⟩
  · rename_i w1 e
    rw [e]
    refine ⟨_, _, rfl, fun _ _ y => (nomatch y), fun v gh' H' s k' rv => ⟨false, ?_, ?_⟩⟩
    · have rv' : Rp T.K gh'.G (.bool false) v := rv
      simpa only [Rp] using rv'
    · rw [if_neg Bool.false_ne_true]; exact z.fz s k' (by simp [Rp])
  · rename_i w1 e
    rw [e]
    obtain ⟨r', w', e', q1, q2⟩ := z
    cases e'
    exact ⟨.ex _ _, _, rfl, fun c' x' y => by cases y; exact q1 _ _ rfl, fun v gh' H' _ _ rv => rv.elim⟩
  · exact z.none
theorem d_or (h : PE X a (tD T f)) (h' : PE X (.BoolOp .Or (b :: rest) pos) (tD T g)) : PE X (.BoolOp .Or (a :: b :: rest) pos) (tD T (eOr f g)) := PE.weak (pe_or h h') fun σ H Q z => by
  obtain ⟨gh, w, k, z⟩ := z
  refine ⟨gh, w, k, ?_⟩
  unfold eOr at z
  split at z
  · rename_i w1 e
    rw [e]
    refine ⟨_, _, rfl, fun _ _ y => (nomatch y), fun v gh' H' s k' rv => ⟨true, ?_, ?_⟩⟩
    · have rv' : Rp T.K gh'.G (.bool true) v := rv
      simpa only [Rp] using rv'
    · rw [if_pos rfl]; exact z.fz s k' (by simp [Rp])
  · rename_i w1 e
    rw [e]
    refine ⟨_, _, rfl, fun _ _ y => (nomatch y), fun v gh' H' s k' rv => ⟨false, ?_, ?_⟩⟩
    · have rv' : Rp T.K gh'.G (.bool false) v := rv
      simpa only [Rp] using rv'
    · rw [if_neg Bool.false_ne_true]; exact ⟨gh', _, k', Res.later z s⟩
  · rename_i w1 e
    rw [e]
    obtain ⟨r', w', e', q1, q2⟩ := z
    cases e'
    exact ⟨.ex _ _, _, rfl, fun c' x' y => by cases y; exact q1 _ _ rfl, fun v gh' H' _ _ rv => rv.elim⟩
  · exact z.none
def eNot (f : EF) : EF := eC f fun d => match d with
  | .bool b => some (.fz (.bool (!b)))
  | _ => none
theorem d_not (h : PE X a (tD T f)) : PE X (.UnaryOp .Not a pos) (tD T (eNot f)) := PE.weak (pe_not h) fun σ H Q z => eC_le (r := fun x H1 Q => ∃ c, x = .bl c ∧ Q (.bl (!c)) H1) (fun gh0 gh H0 H σ w v d Q s k cv z => by
  cases d with
  | bool b => exact ⟨b, cv.bool, z.fz s k (by simp [Rp])⟩
  | _ => exact z.none) σ H Q z

/-! ### statements -/
inductive Out where
  | nx (w : Wt) | rt (d : PD) (w : Wt) | bk (w : Wt) | ct (w : Wt) | ex (c : Str) (x : Option (Str × PD)) (w : Wt)
abbrev SF := Wt → Option Out
def OutOk (T : Tx) (gh : Gh) (H : Hp) (D : Ends) : Out → Prop
  | .nx w => ∀ σ' gh' H', Stp gh H gh' H' → Ok T.K gh' H' σ' w → D.nx σ' H'
  | .bk w => ∀ σ' gh' H', Stp gh H gh' H' → Ok T.K gh' H' σ' w → D.bk σ' H'
  | .ct w => ∀ σ' gh' H', Stp gh H gh' H' → Ok T.K gh' H' σ' w → D.ct σ' H'
  | .rt d w => ∀ σ' v gh' H', Stp gh H gh' H' → Ok T.K gh' H' σ' w → Rp T.K gh'.G d v → D.rt v H'
  | .ex c x w => ∀ σ' gh' H', Stp gh H gh' H' → Ok T.K gh' H' σ' w → Exn T gh' H' c x
theorem OutOk.later {D : Ends} {o : Out} (h : OutOk T gh0 H0 D o) (s : Stp gh0 H0 gh H) : OutOk T gh H D o := by
  cases o with
  | nx w => exact fun σ' gh' H' s' k => h σ' gh' H' (s.trans s') k
  | bk w => exact fun σ' gh' H' s' k => h σ' gh' H' (s.trans s') k
  | ct w => exact fun σ' gh' H' s' k => h σ' gh' H' (s.trans s') k
  | rt d w => exact fun σ' v gh' H' s' k => h σ' v gh' H' (s.trans s') k
  | ex c x w => exact fun σ' gh' H' s' k => h σ' gh' H' (s.trans s') k
def SRes (T : Tx) (gh : Gh) (H : Hp) (o : Option Out) (D : Ends) : Prop := ∃ out, o = some out ∧ OutOk T gh H D out
theorem SRes.later {D : Ends} {o : Option Out} (h : SRes T gh0 H0 o D) (s : Stp gh0 H0 gh H) : SRes T gh H o D := let ⟨a, b, c⟩ := h; ⟨a, b, c.later s⟩
theorem SRes.none {D : Ends} (h : SRes T gh H none D) {P : Prop} : P := by
  obtain ⟨_, e, _⟩ := h
  cases e
def tS (T : Tx) (g : SF) : TS := fun D σ H => ∃ (gh : Gh) (w : Wt), Ok T.K gh H σ w ∧ SRes T gh H (g w) D
def gNx : SF := fun w => some (.nx w)
def gSq (g1 g2 : SF) : SF := fun w => match g1 w with
  | some (.nx w1) => g2 w1
  | o => o
variable {st : Stmt} {sts : List Stmt} {g1 g2 : SF}
theorem ds_nil : PSs X [] (tS T gNx) := PSs.weak pss_nil fun D σ H z => by
  obtain ⟨gh, w, k, o, e, q⟩ := z
  cases e
  exact q σ gh H (Stp.refl _ _) k
theorem ds_cons (h1 : PS X st (tS T g1)) (h2 : PSs X sts (tS T g2)) : PSs X (st :: sts) (tS T (gSq g1 g2)) := PSs.weak (pss_cons h1 h2) fun D σ H z => by
  obtain ⟨gh, w, k, o, e, q⟩ := z
  refine ⟨gh, w, k, ?_⟩
  unfold gSq at e
  cases y : g1 w with
  | none => rw [y] at e; cases e
  | some o1 =>
    rw [y] at e
    cases o1 with
    | nx w1 => exact ⟨_, rfl, fun σ' gh' H' s k' => ⟨gh', w1, k', o, e, q.later s⟩⟩
    | rt d w1 => cases e; exact ⟨_, rfl, q⟩
    | bk w1 => cases e; exact ⟨_, rfl, q⟩
    | ct w1 => cases e; exact ⟨_, rfl, q⟩
    | ex c x w1 => cases e; exact ⟨_, rfl, q⟩
theorem ds_one (h1 : PS X st (tS T g1)) : PSs X [st] (tS T g1) := pss_one h1
def gBk : SF := fun w => some (.bk w)
def gCt : SF := fun w => some (.ct w)
theorem d_pass : PS X (.Pass pos) (tS T gNx) := PS.weak ps_pass fun D σ H z => by
  obtain ⟨gh, w, k, o, e, q⟩ := z
  cases e
  exact q σ gh H (Stp.refl _ _) k
theorem d_break : PS X (.Break pos) (tS T gBk) := PS.weak ps_break fun D σ H z => by
  obtain ⟨gh, w, k, o, e, q⟩ := z
  cases e
  exact q σ gh H (Stp.refl _ _) k
theorem d_cont : PS X (.Continue pos) (tS T gCt) := PS.weak ps_continue fun D σ H z => by
  obtain ⟨gh, w, k, o, e, q⟩ := z
  cases e
  exact q σ gh H (Stp.refl _ _) k
/-- a statement that is never come to -/
def gNo : SF := fun _ => none
theorem d_never : PS X st (tS T gNo) := PS.weak ps_never fun D σ H z => by
  obtain ⟨gh, w, k, o, e, q⟩ := z
  cases e
/-- from an expression's result to a statement's -/
def kS (o : Option (R × Wt)) (k : R → Wt → Option Out) : Option Out := match o with
  | some (.ex c x, w) => some (.ex c x w)
  | some (.fz d, w) => k (.fz d) w
  | some (.ow d, w) => k (.ow d) w
  | some (.pk i, w) => k (.pk i) w
  | none => none
theorem SRes.expr {o : Option (R × Wt)} {k : R → Wt → Option Out} {D : Ends} (h : SRes T gh H (kS o k) D) :
    Res T gh H σ o (fun v H1 => ∃ (gh1 : Gh) (w1 : Wt) (r : R), Stp gh H gh1 H1 ∧ Ok T.K gh1 H1 σ w1 ∧ RV T.K gh1 H H1 σ w1 v r ∧ SRes T gh H (k r w1) D) := by
  cases o with
  | none => exact h.none
  | some p =>
    obtain ⟨r, w⟩ := p
    cases r with
    | ex c x =>
      obtain ⟨out, e, q⟩ := h
      cases e
      exact ⟨.ex c x, _, rfl, fun c' x' z gh' H' s' k => by cases z; exact q σ gh' H' s' k, fun v gh' H' _ _ rv => rv.elim⟩
    | fz d => exact ⟨.fz d, _, rfl, fun _ _ z => (nomatch z), fun v gh' H' s' k rv => ⟨gh', w, _, s', k, rv, h⟩⟩
    | ow d => exact ⟨.ow d, _, rfl, fun _ _ z => (nomatch z), fun v gh' H' s' k rv => ⟨gh', w, _, s', k, rv, h⟩⟩
    | pk d => exact ⟨.pk d, _, rfl, fun _ _ z => (nomatch z), fun v gh' H' s' k rv => ⟨gh', w, _, s', k, rv, h⟩⟩
def gDrop (f : EF) : SF := fun w => kS (f w) fun _ w1 => some (.nx w1)
theorem d_expr (he : PE X e (tD T f)) (hs : swapsWith e none pos.line X.env = pure false := by rfl) : PS X (.Expr e pos) (tS T (gDrop f)) := PS.weak (ps_expr he hs) fun D σ H z => by
  obtain ⟨gh, w, k, z⟩ := z
  obtain ⟨r, w', e, q1, q2⟩ := SRes.expr (σ := σ) z
  refine ⟨gh, w, k, r, w', e, q1, fun v gh' H' s k' rv => ?_⟩
  obtain ⟨gh1, w1, r1, s1, k1, _, out, e1, q⟩ := q2 v gh' H' s k' rv
  cases e1
  exact q σ gh1 H' s1 k1
def gRet (f : EF) : SF := fun w => kS (f w) fun r w1 => (w1.freeze r).map fun p => .rt p.1 p.2
theorem d_ret (he : PE X e (tD T f)) : PS X (.Return (some e) pos) (tS T (gRet f)) := PS.weak (ps_ret he) fun D σ H z => by
  obtain ⟨gh, w, k, z⟩ := z
  obtain ⟨r, w', e, q1, q2⟩ := SRes.expr (σ := σ) z
  refine ⟨gh, w, k, r, w', e, q1, fun v gh' H' s k' rv => ?_⟩
  obtain ⟨gh1, w1, r1, s1, k1, rv1, out, e1, q⟩ := q2 v gh' H' s k' rv
  cases y : w1.freeze r1 with
  | none => rw [y] at e1; cases e1
  | some p =>
    obtain ⟨d, w2⟩ := p
    rw [y] at e1
    cases e1
    obtain ⟨g2, s2, k2, r2⟩ := rv1.freeze s1 k1 y
    exact q σ v g2 H' s2 k2 r2
def gRetN : SF := fun w => some (.rt .none w)
theorem d_retN : PS X (.Return none pos) (tS T gRetN) := PS.weak ps_retN fun D σ H z => by
  obtain ⟨gh, w, k, o, e, q⟩ := z
  cases e
  exact q σ .non gh H (Stp.refl _ _) k (by simp [Rp])
def tS2 (p : TFn) (k : Bool → SF) : SF := fun w => match p w with
  | some (.b b, w1) => k b w1
  | some (.ex c x, w1) => some (.ex c x w1)
  | none => none
def gIf (p : TFn) (g1 g2 : SF) : SF := tS2 p fun b => cond b g1 g2
theorem SRes.test {p : TFn} {k : Bool → SF} {D : Ends} (h : SRes T gh H (tS2 p k w) D) : ResT T gh H σ (p w) (fun b H1 => ∃ (gh1 : Gh) (w1 : Wt), Stp gh H gh1 H1 ∧ Ok T.K gh1 H1 σ w1 ∧ p w = some (.b b, w1) ∧ SRes T gh H (k b w1) D) := by
  unfold tS2 at h
  cases e : p w with
  | none => rw [e] at h; exact h.none
  | some r =>
    obtain ⟨r, w1⟩ := r
    rw [e] at h
    cases r with
    | ex c x =>
      obtain ⟨out, e', q⟩ := h
      cases e'
      exact ⟨.ex c x, _, rfl, fun c' x' z gh' H' s' k => by cases z; exact q σ gh' H' s' k, fun b y => (nomatch y)⟩
    | b b =>
      refine ⟨.b b, w1, rfl, fun _ _ y => (nomatch y), fun b' y gh' H' s k' => ?_⟩
      cases y
      exact ⟨gh', w1, s, k', rfl, h⟩
theorem d_if {c : Expr} {sa sb : List Stmt} (hc : PT X c (tT T p)) (ha : PSs X sa (tS T g1)) (hb : PSs X sb (tS T g2)) : PS X (.If c sa sb pos) (tS T (gIf p g1 g2)) := PS.weak (ps_if hc ha hb) fun D σ H z => by
  obtain ⟨gh, w, k, z⟩ := z
  refine ⟨gh, w, k, (SRes.test (k := fun b => cond b g1 g2) z).mono fun b H1 ⟨gh1, w1, s1, k1, _, y⟩ => ?_⟩
  cases b with
  | true => rw [if_pos rfl]; exact ⟨gh1, w1, k1, SRes.later (o := g1 w1) y s1⟩
  | false => rw [if_neg Bool.false_ne_true]; exact ⟨gh1, w1, k1, SRes.later (o := g2 w1) y s1⟩
end
end DL
set_option maxHeartbeats 1000000
/-! DL4: slots stored, targets, what is walked, for, while, list comprehensions. -/
namespace DL
open PySem PySem.Spec PyProof.Rows L2
variable [TbC]
section
variable {T : Tx} {gh0 gh gh1 : Gh} {H0 H H1 : Hp} {σ : L2.St} {w w' w1 : Wt} {X : Cx} {e e1 e2 : Expr} {es : List Expr} {t t' ta tb : TE} {f g : EF} {pos : Pos}
def Wt.at (w : Wt) (i : Nat) (s : Slot) : Wt := { w with sl := w.sl.set i s }
theorem Ok.setV {K : Fg} {i : Nat} {d : PD} {v : V} (k : Ok K gh H σ w) (hi : i < w.sl.length) (r : Rp K gh.G d v) :
    ∃ gh' : Gh, Stp gh H gh' H ∧ Ok K gh' H (σ.set i (some v)) (w.at i (.v d)) ∧ gh'.G = gh.G := by
  refine ⟨⟨gh.G, fun j => if j = i then none else gh.ow j, gh.sa, gh.tb⟩, ⟨fun _ _ h => h, fun b x q _ => q, fun b q => q, fun b x q => .inl q, fun b m => ?_, rfl, rfl⟩, ⟨by show (σ.set i _).length = (w.sl.set i _).length; rw [List.length_set, List.length_set]; exact k.len, k.sub, fun j c q => ?_, fun j ns q => ?_, fun j c q => ?_, fun j b q => ?_, fun j l b q1 q2 => ?_, fun j q => ?_, k.src, fun p j b q1 q2 => ?_, fun b m => ?_, k.tab, k.tbw⟩, rfl⟩
  · rcases m with ⟨j, q⟩ | q
    · have q' : (if j = i then none else gh.ow j) = some b := q
      split at q'
      · cases q'
      · exact .inl (.inl ⟨j, q'⟩)
    · exact .inl (.inr q)
  · have q : (w.sl.set i (.v d))[j]? = some (.v c) := q
    by_cases h : j = i
    · subst h
      rw [List.getElem?_set_self hi] at q
      cases q
      exact ⟨v, List.getElem?_set_self (by rw [k.len]; exact hi), r⟩
    · rw [List.getElem?_set_ne (Ne.symm h)] at q
      obtain ⟨x, q1, r⟩ := k.val j c q
      exact ⟨x, by rw [List.getElem?_set_ne (Ne.symm h)]; exact q1, r⟩
  · have q : (w.sl.set i (.v d))[j]? = some (.sc ns) := q
    by_cases h : j = i
    · subst h
      rw [List.getElem?_set_self hi] at q
      cases q
    · rw [List.getElem?_set_ne (Ne.symm h)] at q
      obtain ⟨x, q1, r⟩ := k.scr j ns q
      exact ⟨x, by rw [List.getElem?_set_ne (Ne.symm h)]; exact q1, r⟩
  · have q : (w.sl.set i (.v d))[j]? = some (.o c) := q
    by_cases h : j = i
    · subst h
      rw [List.getElem?_set_self hi] at q
      cases q
    · rw [List.getElem?_set_ne (Ne.symm h)] at q
      obtain ⟨b, q0, q1, r⟩ := k.own j c q
      exact ⟨b, (if_neg h).trans q0, by rw [List.getElem?_set_ne (Ne.symm h)]; exact q1, r⟩
  · have q' : (if j = i then none else gh.ow j) = some b := q
    split at q'
    · cases q'
    · rename_i h
      obtain ⟨c, r⟩ := k.onl j b q'
      exact ⟨c, by show (w.sl.set i (.v d))[j]? = _; rw [List.getElem?_set_ne (Ne.symm h)]; exact r⟩
  · have q1' : (if j = i then none else gh.ow j) = some b := q1
    have q2' : (if l = i then none else gh.ow l) = some b := q2
    split at q1'
    · cases q1'
    · split at q2'
      · cases q2'
      · exact k.inj j l b q1' q2'
  · have q : (w.sl.set i (.v d))[j]? = some .st := q
    by_cases h : j = i
    · subst h
      rw [List.getElem?_set_self hi] at q
      cases q
    · rw [List.getElem?_set_ne (Ne.symm h)] at q
      obtain ⟨p, q0, q1⟩ := k.st j q
      exact ⟨p, q0, by rw [List.getElem?_set_ne (Ne.symm h)]; exact q1⟩
  · have q2' : (if j = i then none else gh.ow j) = some b := q2
    split at q2'
    · cases q2'
    · exact k.sap p j b q1 q2'
  · rcases m with ⟨j, q⟩ | q
    · have q' : (if j = i then none else gh.ow j) = some b := q
      split at q'
      · cases q'
      · exact k.dis b (.inl ⟨j, q'⟩)
    · exact k.dis b (.inr q)
theorem Ok.setO {K : Fg} {i : Nat} {d : PD} {a : Addr} (k : Ok K gh H σ w) (s : Stp gh0 H0 gh H) (hi : i < w.sl.length) (h0 : H0 a = none) (hg : gh.G a = none) (hm : ¬ gh.M a) (ow : Own K gh.G H a d) :
    ∃ gh' : Gh, Stp gh0 H0 gh' H ∧ Ok K gh' H (σ.set i (some (.ref a))) (w.at i (.o d)) := by
  refine ⟨⟨gh.G, fun j => if j = i then some a else gh.ow j, gh.sa, gh.tb⟩, ⟨s.sub, s.keep, s.dom, s.gnew, fun b m => ?_, s.dr, s.tbk⟩, ⟨by show (σ.set i _).length = (w.sl.set i _).length; rw [List.length_set, List.length_set]; exact k.len, k.sub, fun j c q => ?_, fun j ns q => ?_, fun j c q => ?_, fun j b q => ?_, fun j l b q1 q2 => ?_, fun j q => ?_, k.src, fun p j b q1 q2 => ?_, fun b m => ?_, k.tab, k.tbw⟩⟩
  · rcases m with ⟨j, q⟩ | q
    · have q' : (if j = i then some a else gh.ow j) = some b := q
      split at q'
      · cases q'; exact .inr h0
      · exact s.mnew b (.inl ⟨j, q'⟩)
    · exact s.mnew b (.inr q)
  · have q : (w.sl.set i (.o d))[j]? = some (.v c) := q
    by_cases h : j = i
    · subst h
      rw [List.getElem?_set_self hi] at q
      cases q
    · rw [List.getElem?_set_ne (Ne.symm h)] at q
      obtain ⟨x, q1, r⟩ := k.val j c q
      exact ⟨x, by rw [List.getElem?_set_ne (Ne.symm h)]; exact q1, r⟩
  · have q : (w.sl.set i (.o d))[j]? = some (.sc ns) := q
    by_cases h : j = i
    · subst h
      rw [List.getElem?_set_self hi] at q
      cases q
    · rw [List.getElem?_set_ne (Ne.symm h)] at q
      obtain ⟨x, q1, r⟩ := k.scr j ns q
      exact ⟨x, by rw [List.getElem?_set_ne (Ne.symm h)]; exact q1, r⟩
  · have q : (w.sl.set i (.o d))[j]? = some (.o c) := q
    by_cases h : j = i
    · subst h
      rw [List.getElem?_set_self hi] at q
      cases q
      exact ⟨a, if_pos rfl, List.getElem?_set_self (by rw [k.len]; exact hi), ow⟩
    · rw [List.getElem?_set_ne (Ne.symm h)] at q
      obtain ⟨b, q0, q1, r⟩ := k.own j c q
      exact ⟨b, (if_neg h).trans q0, by rw [List.getElem?_set_ne (Ne.symm h)]; exact q1, r⟩
  · have q' : (if j = i then some a else gh.ow j) = some b := q
    split at q'
    · rename_i h
      subst h
      exact ⟨d, List.getElem?_set_self hi⟩
    · rename_i h
      obtain ⟨c, r⟩ := k.onl j b q'
      exact ⟨c, by show (w.sl.set i (.o d))[j]? = _; rw [List.getElem?_set_ne (Ne.symm h)]; exact r⟩
  · have q1' : (if j = i then some a else gh.ow j) = some b := q1
    have q2' : (if l = i then some a else gh.ow l) = some b := q2
    split at q1'
    · rename_i h1
      split at q2'
      · rename_i h2; rw [h1, h2]
      · cases q1'; exact absurd (.inl ⟨l, q2'⟩) hm
    · split at q2'
      · cases q2'; exact absurd (.inl ⟨j, q1'⟩) hm
      · exact k.inj j l b q1' q2'
  · have q : (w.sl.set i (.o d))[j]? = some .st := q
    by_cases h : j = i
    · subst h
      rw [List.getElem?_set_self hi] at q
      cases q
    · rw [List.getElem?_set_ne (Ne.symm h)] at q
      obtain ⟨p, q0, q1⟩ := k.st j q
      exact ⟨p, q0, by rw [List.getElem?_set_ne (Ne.symm h)]; exact q1⟩
  · have q2' : (if j = i then some a else gh.ow j) = some b := q2
    split at q2'
    · cases q2'
      exact ⟨fun z => hm (.inr (.inl ⟨p, q1, .inl z⟩)), fun z => hm (.inr (.inl ⟨p, q1, .inr z⟩))⟩
    · exact k.sap p j b q1 q2'
  · rcases m with ⟨j, q⟩ | q
    · have q' : (if j = i then some a else gh.ow j) = some b := q
      split at q'
      · cases q'; exact hg
      · exact k.dis b (.inl ⟨j, q'⟩)
    · exact k.dis b (.inr q)
/-- a value stored in a slot -/
def Wt.put (w : Wt) (i : Nat) : R → Option Wt
  | .fz d => if i < w.sl.length then some (w.at i (.v d)) else none
  | .ow d => if i < w.sl.length then some (w.at i (.o d)) else none
  | .pk j => if j = i then some w else (w.freeze (.pk j)).bind fun p => if i < p.2.sl.length then some (p.2.at i (.v p.1)) else none
  | .ex _ _ => none
theorem set_same {σ : L2.St} {i : Nat} {x : Option V} (h : σ[i]? = some x) : σ.set i x = σ := by
  apply List.ext_getElem?
  intro j
  by_cases e : i = j
  · subst e
    rw [List.getElem?_set_self (List.getElem?_eq_some_iff.mp h).1, h]
  · rw [List.getElem?_set_ne e]
theorem RV.put {K : Fg} {i : Nat} {v : V} {r : R} (h : RV K gh H0 H σ w v r) (s : Stp gh0 H0 gh H) (k : Ok K gh H σ w) (e : w.put i r = some w') : ∃ gh' : Gh, Stp gh0 H0 gh' H ∧ Ok K gh' H (σ.set i (some v)) w' := by
  cases r with
  | fz d =>
    unfold Wt.put at e
    simp only at e
    split at e
    · rename_i hi
      cases e
      obtain ⟨g', s', k', _⟩ := k.setV hi h
      exact ⟨g', s.trans s', k'⟩
    · cases e
  | ow d =>
    unfold Wt.put at e
    simp only at e
    split at e
    · rename_i hi
      cases e
      obtain ⟨a, rfl, h0, hg, hm, ow⟩ := h
      exact k.setO s hi h0 hg hm ow
    · cases e
  | pk j =>
    unfold Wt.put at e
    simp only at e
    split at e
    · rename_i hj
      subst hj
      cases e
      rw [set_same h.1]
      exact ⟨gh, s, k⟩
    · cases q : w.freeze (.pk j) with
      | none => rw [q] at e; cases e
      | some p =>
        obtain ⟨d, w2⟩ := p
        rw [q] at e
        simp only [Option.bind_some] at e
        split at e
        · rename_i hi
          cases e
          obtain ⟨g2, s2, k2, r2⟩ := RV.freeze h s k q
          obtain ⟨g', s', k', _⟩ := k2.setV hi r2
          exact ⟨g', s2.trans s', k'⟩
        · cases e
  | ex c x => exact h.elim
def gAsg (i : Nat) (f : EF) : SF := fun w => kS (f w) fun r w1 => (w1.put i r).map .nx
theorem gAsg_le (i : Nat) {t : TE} (ht : ∀ σ H Q, tD T f σ H Q → t σ H Q) (D : Ends) (σ : L2.St) (H : Hp) (z : tS T (gAsg i f) D σ H) : tAsg t (gName i) D σ H := by
  obtain ⟨gh, w, k, z⟩ := z
  obtain ⟨r, w', e, q1, q2⟩ := SRes.expr (σ := σ) z
  refine ht _ _ _ ⟨gh, w, k, r, w', e, q1, fun v gh' H' s k' rv => ?_⟩
  obtain ⟨gh1, w1, r1, s1, k1, rv1, out, e1, q⟩ := q2 v gh' H' s k' rv
  cases y : w1.put i r1 with
  | none => rw [y] at e1; cases e1
  | some w2 =>
    rw [y] at e1
    cases e1
    obtain ⟨g2, s2, k2⟩ := rv1.put s1 k1 y
    exact q _ g2 H' s2 k2
theorem d_set (i : Nat) {x : Str} {pos' : Pos} (he : PE X e (tD T f)) (hN : X.N.Nodup := by assumption) (hi : X.N[i]? = some x := by rfl) (hx : Loc X.env.scope x := by first | exact Or.inl rfl | exact Or.inr rfl) (hs : swapsWith e (some (.Name x pos')) pos.line X.env = pure false := by rfl)
    (hf : X.fn x = true ∨ X.env.scope.names.lookup x = some .local := by first | exact .inl rfl | exact .inr rfl | assumption) : PS X (.Assign [.Name x pos'] e pos) (tS T (gAsg i f)) :=
  PS.weak (ps_set hN hi hx he hs hf) (gAsg_le i fun _ _ _ h => h)

/-! ### targets -/
abbrev TgF := PD → Wt → Option Wt
/-- a target that stores at places among ixs -/
def tG (T : Tx) (ixs : List Nat) (tg : TgF) : TG := fun v σ H Q => ∃ (gh : Gh) (w : Wt) (d : PD) (w' : Wt), Ok T.K gh H σ w ∧ Rp T.K gh.G d v ∧ tg d w = some w' ∧
  ∀ σ' gh' H', Stp gh H gh' H' → Ok T.K gh' H' σ' w' → (∀ j : Nat, j ∉ ixs → σ'[j]? = σ[j]?) → σ'.length = σ.length → Q σ' H'
theorem PG.weak {tg : Expr} {t t' : TG} (h : PG X tg t) (i : ∀ v σ H Q, t' v σ H Q → t v σ H Q) : PG X tg t' := ⟨fun pins s σ H v u Q I r q => h.run pins s σ H v u Q I r (i v σ H Q q)⟩
def gN (i : Nat) : TgF := fun d w => if i < w.sl.length then some (w.at i (.v d)) else none
theorem dg_name (i : Nat) {x : Str} (hN : X.N.Nodup := by assumption) (hi : X.N[i]? = some x := by rfl) (hx : Loc X.env.scope x := by first | exact Or.inl rfl | exact Or.inr rfl)
    (hf : X.fn x = true ∨ X.env.scope.names.lookup x = some .local := by first | exact .inl rfl | exact .inr rfl | assumption) : PG X (.Name x pos) (tG T [i] (gN i)) := PG.weak (pg_name hN hi hx hf) fun v σ H Q z => by
  obtain ⟨gh, w, d, w', k, r, e, q⟩ := z
  unfold gN at e
  split at e
  · rename_i hi
    cases e
    obtain ⟨g', s', k', _⟩ := k.setV hi r
    refine q _ g' H s' k' (fun j hj => ?_) (List.length_set ..)
    have hne : i ≠ j := fun z => hj (by simp [z])
    exact List.getElem?_set_ne hne
  · cases e
/-- several targets in a row -/
abbrev TgsF := List PD → Wt → Option Wt
def tGs (T : Tx) (ixs : List Nat) (tg : TgsF) : TGs := fun vs σ H Q => ∃ (gh : Gh) (w : Wt) (ds : List PD) (w' : Wt), Ok T.K gh H σ w ∧ RpA T.K gh.G ds vs ∧ tg ds w = some w' ∧
  ∀ σ' gh' H', Stp gh H gh' H' → Ok T.K gh' H' σ' w' → (∀ j : Nat, j ∉ ixs → σ'[j]? = σ[j]?) → σ'.length = σ.length → Q σ' H'
theorem PGs.weak {ts : List Expr} {t t' : TGs} (h : PGs X ts t) (i : ∀ v σ H Q, t' v σ H Q → t v σ H Q) : PGs X ts t' := ⟨fun pins s σ H v u Q I r q => h.run pins s σ H v u Q I r (i v σ H Q q)⟩
def gsNil : TgsF := fun ds w => match ds with
  | [] => some w
  | _ => none
def gsCons (t : TgF) (u : TgsF) : TgsF := fun ds w => match ds with
  | d :: r => (match t d w with
    | some w1 => u r w1
    | none => none)
  | [] => none
theorem dgs_nil : PGs X [] (tGs T [] gsNil) := PGs.weak pgs_nil fun vs σ H Q z => by
  obtain ⟨gh, w, ds, w', k, r, e, q⟩ := z
  cases ds with
  | nil =>
    cases e
    refine ⟨by simpa only [RpA] using r, q σ gh H (Stp.refl _ _) k (fun _ _ => rfl) rfl⟩
  | cons d ds => cases e
theorem dgs_cons {i1 i2 : List Nat} {tg : TgF} {tgs : TgsF} (h1 : PG X e (tG T i1 tg)) (h2 : PGs X es (tGs T i2 tgs)) (hs : (assignEach (e :: es) X.env).map (·.2) = assign e X.env :: (assignEach es X.env).map (·.2) := by rfl) : PGs X (e :: es) (tGs T (i1 ++ i2) (gsCons tg tgs)) :=
  PGs.weak (pgs_cons h1 h2 hs) fun vs σ H Q z => by
    obtain ⟨gh, w, ds, w', k, r, e, q⟩ := z
    cases ds with
    | nil => cases e
    | cons d ds =>
      simp only [RpA] at r
      obtain ⟨x, xs, rfl, r1, r2⟩ := r
      unfold gsCons at e
      simp only at e
      cases y : tg d w with
      | none => rw [y] at e; cases e
      | some w1 =>
        rw [y] at e
        refine ⟨x, xs, rfl, gh, w, d, w1, k, r1, y, fun σ' gh' H' s' k' n1 n2 => ?_⟩
        refine ⟨gh', w1, ds, w', k', RpA.mono s'.sub _ _ r2, e, fun σ2 g2 H2 s2 k2 n3 n4 => ?_⟩
        refine q σ2 g2 H2 (s'.trans s2) k2 (fun j hj => ?_) (n4.trans n2)
        rw [n3 j fun z => hj (List.mem_append_right _ z), n1 j fun z => hj (List.mem_append_left _ z)]
def gT (n : Nat) (u : TgsF) : TgF := fun d w => match d with
  | .tuple ds => if ds.length = n then u ds w else none
  | _ => none
theorem dg_tup {ixs : List Nat} {tgs : TgsF} {n kk : Nat} (hK : T.K = X.K := by rfl) (hc : X.calm = true := by rfl) (h : PGs X es (tGs T ixs tgs)) (hn : (assignEach es X.env).length = n := by rfl) (hst : (assignEach es X.env).findIdx? (·.1) = none := by rfl) : PG X (.Tuple es kk pos) (tG T ixs (gT n tgs)) :=
  PG.weak (pg_tup hc h hn hst) fun v σ H Q z => by
    obtain ⟨gh, w, d, w', k, r, e, q⟩ := z
    unfold gT at e
    split at e
    · rename_i ds
      split at e
      · rename_i hl
        simp only [Rp] at r
        obtain ⟨a, xs, rfl, h1, h2⟩ := r
        refine ⟨a, xs, rfl, hK ▸ sqT_mono k.sub h1, h2.len.trans hl, gh, w, ds, w', k, h2, e, q⟩
      · cases e
    · cases e
/-- a, b, .. = a tuple in hand -/
def gUnp (f : EF) (tg : TgF) : SF := fun w => match eF f w with
  | some (.fz d, w1) => (tg d w1).map .nx
  | some (.ex c x, w1) => some (.ex c x w1)
  | _ => none
theorem d_unp {tgE : Expr} {ixs : List Nat} {tg : TgF} (he : PE X e (tD T f)) (hg : PG X tgE (tG T ixs tg)) (hs : swapsWithSole [tgE] e pos.line X.env = pure false := by rfl) (hw : swappedStores [tgE] e X.env = pure none := by rfl)
    (h1 : (assignEach [tgE] X.env).map (·.2) = [assign tgE X.env] := by rfl) : PS X (.Assign [tgE] e pos) (tS T (gUnp f tg)) := PS.weak (ps_asg he hg hs hw h1) fun D σ H z => by
  obtain ⟨gh, w, k, out, z, q⟩ := z
  refine eF_le _ _ _ ⟨gh, w, k, ?_⟩
  unfold gUnp at z
  split at z
  · rename_i d w1 y
    rw [y]
    cases y2 : tg d w1 with
    | none => rw [y2] at z; cases z
    | some w2 =>
      rw [y2] at z
      cases z
      refine ⟨.fz d, w1, rfl, fun _ _ z => (nomatch z), fun v gh' H' s k' rv => ?_⟩
      exact ⟨gh', w1, d, w2, k', rv, y2, fun σ' g2 H2 s2 k2 _ _ => q σ' g2 H2 (s.trans s2) k2⟩
  · rename_i c x w1 y
    rw [y]
    cases z
    exact ⟨.ex c x, _, rfl, fun c' x' z gh' H' s' k => by cases z; exact q σ gh' H' s' k, fun v gh' H' _ _ rv => rv.elim⟩
  · cases z

/-! ### what is walked -/
/-- a walk over data, whatever steps the state takes meanwhile -/
def DIt (T : Tx) (J : It) (gh0 : Gh) (H0 : Hp) (ds : List PD) : Prop := ∀ (gh : Gh) (H : Hp) (σ : L2.St) (w : Wt) (j : Nat), Same gh0.G gh.G → Ok T.K gh H σ w →
  (∀ d, ds[j]? = some d → J.go j H ∧ ∀ x H', J.yld j H x H' → ∃ gh' : Gh, Stp gh H gh' H' ∧ Ok T.K gh' H' σ w ∧ Rp T.K gh'.G d x) ∧ (ds.length ≤ j → J.stop j H)
abbrev IF := Wt → Option (List PD × Wt)
def tI (T : Tx) (fi : IF) : TI := fun σ H Rr => ∃ (gh : Gh) (w : Wt) (ds : List PD) (w' : Wt), Ok T.K gh H σ w ∧ fi w = some (ds, w') ∧ ∀ J gh' H', Stp gh H gh' H' → Ok T.K gh' H' σ w' → DIt T J gh' H' ds → Rr J H'
theorem PI.weak {tg iter : Expr} {t t' : TI} (h : PI X tg iter t) (i : ∀ σ H Rr, t' σ H Rr → t σ H Rr) : PI X tg iter t' := ⟨fun pins s σ H Rr I q => h.run pins s σ H Rr I (i σ H Rr q)⟩
/-- over a list or a tuple -/
def iSeq (K : Fg) (tl : TE) : TI := fun σ H Rr => tl σ H fun x H1 => ∃ a, x = .ref a ∧ (((∃ xs, SqL K H1 a xs) ∧ Rr (Itl K a) H1) ∨ ((∃ xs, SqT K H1 a xs) ∧ Rr (Itt K a) H1))
theorem pi_seq {tg l : Expr} {tl : TE} (hl : PE X l tl) : PI X tg l (iSeq X.K tl) := by
  refine ⟨fun pins s σ H Rr I h => ?_⟩
  refine thn (hl.run pins s σ H _ I h) fun v s1 ⟨x, H2, I1, r1, a, ex, q1⟩ => ?_
  subst ex
  cases r1
  rcases q1 with ⟨⟨xs, hq⟩, q⟩ | ⟨⟨xs, hq⟩, q⟩
  · have hP : PE X l (fun σ' H' Q => σ' = σ ∧ H' = H ∧ False) := ⟨fun _ _ _ _ _ _ z => z.2.2.elim⟩
    obtain ⟨its, rv, p, hz⟩ := I1.list hq
    refine wpAny_pyIter_list p.isList ?_
    refine ⟨s1.heap.objs.size, [s1.heap.objs.size], _, _, H2, rfl, I1.kept (t' := s1.toks) fun b o e => Heap.get?_push_of_some _ e, turn_list a _, ⟨_, Heap.get?_push_size _ rfl, rfl, rfl⟩, fun b hb => ?_, q⟩
    obtain rfl : b = s1.heap.objs.size := by simpa using hb
    exact I1.fpOk (Nat.le_refl _) (I1.hok.fresh (Nat.le_refl _))
  · obtain ⟨its, rv, p, hz⟩ := I1.tuple hq
    refine wpAny_pyIter_tuple (show s1.heap.IsTuple a its.toArray from p) ?_
    refine ⟨s1.heap.objs.size, [s1.heap.objs.size], _, _, H2, rfl, I1.kept (t' := s1.toks) fun b o e => Heap.get?_push_of_some _ e, turn_tuple a _, ⟨_, Heap.get?_push_size _ rfl, rfl, rfl⟩, fun b hb => ?_, q⟩
    obtain rfl : b = s1.heap.objs.size := by simpa using hb
    exact I1.fpOk (Nat.le_refl _) (I1.hok.fresh (Nat.le_refl _))
def iS (f : EF) : IF := fun w => match eF f w with
  | some (.fz (.list ds), w1) => some (ds, w1)
  | some (.fz (.tuple ds), w1) => some (ds, w1)
  | _ => none
theorem DIt.list {a : Addr} {xs : List V} {ds : List PD} (hq : gh0.G a = some (.lst xs)) (hr : RpA T.K gh0.G ds xs) : DIt T (Itl T.K a) gh0 H0 ds := fun gh H σ w j s k => by
  have q : SqL T.K H a xs := .of (k.sub _ _ (s _ _ hq))
  refine ⟨fun d hd => ?_, fun hj => ⟨xs, q, by rw [hr.len]; exact hj⟩⟩
  obtain ⟨x, hx, rx⟩ := hr.get hd
  refine ⟨⟨xs, x, q, hx⟩, fun y H' ⟨e1, e2⟩ => ?_⟩
  subst e1
  have := e2 xs q
  rw [hx] at this
  cases this
  exact ⟨gh, Stp.refl _ _, k, Rp.mono s _ _ rx⟩
theorem DIt.tuple {a : Addr} {xs : List V} {ds : List PD} (hq : SqT T.K gh0.G a xs) (hr : RpA T.K gh0.G ds xs) : DIt T (Itt T.K a) gh0 H0 ds := fun gh H σ w j s k => by
  have q : SqT T.K H a xs := sqT_mono k.sub (sqT_mono s hq)
  refine ⟨fun d hd => ?_, fun hj => ⟨xs, q, by rw [hr.len]; exact hj⟩⟩
  obtain ⟨x, hx, rx⟩ := hr.get hd
  refine ⟨⟨xs, x, q, hx⟩, fun y H' ⟨e1, e2⟩ => ?_⟩
  subst e1
  have := e2 xs q
  rw [hx] at this
  cases this
  exact ⟨gh, Stp.refl _ _, k, Rp.mono s _ _ rx⟩
theorem di_seq {tg l : Expr} (hl : PE X l (tD T f)) (hK : T.K = X.K := by rfl) : PI X tg l (tI T (iS f)) := PI.weak (pi_seq hl) fun σ H Rr z => by
  obtain ⟨gh, w, ds, w', k, e, q⟩ := z
  refine eF_le _ _ _ ⟨gh, w, k, ?_⟩
  unfold iS at e
  split at e
  · rename_i es w1 y
    cases e
    refine ⟨_, _, y, fun _ _ z => (nomatch z), fun v gh' H' s k' rv => ?_⟩
    have rv : Rp T.K gh'.G (.list ds) v := rv
    simp only [Rp] at rv
    obtain ⟨a, xs, rfl, h1, h2⟩ := rv
    refine ⟨a, rfl, .inl ⟨⟨xs, .of (k'.sub _ _ h1)⟩, hK ▸ q _ gh' H' s k' (DIt.list h1 h2)⟩⟩
  · rename_i es w1 y
    cases e
    refine ⟨_, _, y, fun _ _ z => (nomatch z), fun v gh' H' s k' rv => ?_⟩
    have rv : Rp T.K gh'.G (.tuple ds) v := rv
    simp only [Rp] at rv
    obtain ⟨a, xs, rfl, h1, h2⟩ := rv
    refine ⟨a, rfl, .inr ⟨⟨xs, hK ▸ sqT_mono k'.sub h1⟩, hK ▸ q _ gh' H' s k' (DIt.tuple h1 h2)⟩⟩
  · cases e
/-- over range(n), range(a, b) -/
def rngD (a b : Int) : List PD := (List.range (b - a).toNat).map fun i => .int (a + (i : Nat))
def small (i : Int) : Bool := decide (-4611686018427387904 ≤ i) && decide (i < 4611686018427387904)
theorem small_ok {i : Int} (h : small i = true) : -(2 ^ 62) ≤ i ∧ i < 2 ^ 62 := by
  unfold small at h
  rw [Bool.and_eq_true] at h
  exact ⟨of_decide_eq_true h.1, of_decide_eq_true h.2⟩
theorem DIt.range {a : Int} {n : Nat} : DIt T (Itr a n) gh0 H0 ((List.range n).map fun i => PyData.int (a + (i : Nat))) := fun gh H σ w j s k => by
  refine ⟨fun d hd => ?_, fun hj => by show n ≤ j; simpa using hj⟩
  rw [List.getElem?_map] at hd
  have hj : j < n := by
    cases q : (List.range n)[j]? with
    | none => rw [q] at hd; cases hd
    | some x => have := (List.getElem?_eq_some_iff.mp q).1; simpa using this
  rw [List.getElem?_range hj] at hd
  cases hd
  refine ⟨hj, fun x H' ⟨e1, e2⟩ => ?_⟩
  subst e1 e2
  exact ⟨gh, Stp.refl _ _, k, by simp [Rp]⟩
def iR1 (g : AF) : IF := fun w => match g w with
  | some (.ok [.int b], w1) => if small b then some ((List.range b.toNat).map fun i => .int (0 + (i : Nat)), w1) else none
  | _ => none
def iR2 (g : AF) : IF := fun w => match g w with
  | some (.ok [.int a, .int b], w1) => if small a && small b then some ((List.range (b - a).toNat).map fun i => .int (a + (i : Nat)), w1) else none
  | _ => none
theorem tA_ok {g : AF} {ds : List PD} {Q : List V → Hp → Prop} (k : Ok T.K gh H σ w) (e : g w = some (.ok ds, w1)) (q : ∀ vs gh' H', Stp gh H gh' H' → Ok T.K gh' H' σ w1 → RpA T.K gh'.G ds vs → Q vs H') : tA T g σ H Q :=
  ⟨gh, w, k, _, _, e, fun _ _ z => (nomatch z), fun ds' z => by cases z; exact q⟩
theorem di_range1 {tg a : Expr} {g : AF} {p : Pos} (hm : X.mg "range" = none) (ha : PA X [a] (tA T g)) (hg : Gl X "range" := by rfl) (hs : starEach [a] X.env = [(false, eval a X.env)] := by rfl) : PI X tg (.Call (.Name "range" p) [a] [] pos) (tI T (iR1 g)) :=
  PI.weak (pi_range1 hg hm ha hs) fun σ H Rr z => by
    obtain ⟨gh, w, ds, w', k, e, q⟩ := z
    unfold iR1 at e
    split at e
    · rename_i b w1 y
      split at e
      · rename_i hb
        cases e
        refine tA_ok k y fun vs gh' H' s k' r => ?_
        simp only [RpA, Rp] at r
        obtain ⟨x, rr, rfl, rfl, rfl⟩ := r
        obtain ⟨b1, b2⟩ := small_ok hb
        exact ⟨b, rfl, b1, b2, q _ gh' H' s k' DIt.range⟩
      · cases e
    · cases e
theorem di_range2 {tg a b : Expr} {g : AF} {p : Pos} (hm : X.mg "range" = none) (ha : PA X [a, b] (tA T g)) (hg : Gl X "range" := by rfl) (hs : starEach [a, b] X.env = [(false, eval a X.env), (false, eval b X.env)] := by rfl) (hs2 : starEach [b] X.env = [(false, eval b X.env)] := by rfl) :
    PI X tg (.Call (.Name "range" p) [a, b] [] pos) (tI T (iR2 g)) := PI.weak (pi_range2 hg hm ha hs hs2) fun σ H Rr z => by
    obtain ⟨gh, w, ds, w', k, e, q⟩ := z
    unfold iR2 at e
    split at e
    · rename_i i j w1 y
      split at e
      · rename_i hb
        cases e
        rw [Bool.and_eq_true] at hb
        refine tA_ok k y fun vs gh' H' s k' r => ?_
        simp only [RpA, Rp] at r
        obtain ⟨x, rr, rfl, rfl, x2, r2, rfl, rfl, rfl⟩ := r
        obtain ⟨a1, a2⟩ := small_ok hb.1
        obtain ⟨b1, b2⟩ := small_ok hb.2
        exact ⟨i, j, rfl, ⟨a1, a2, b1, b2⟩, q _ gh' H' s k' DIt.range⟩
      · cases e
    · cases e

/-! ### for -/
def fFor (tg : TgF) (body : SF) : List PD → SF
  | [], w => some (.nx w)
  | d :: ds, w => match tg d w with
    | none => none
    | some w1 => (match body w1 with
      | some (.nx w2) => fFor tg body ds w2
      | some (.ct w2) => fFor tg body ds w2
      | some (.bk w2) => some (.nx w2)
      | o => o)
def gFor (fi : IF) (tg : TgF) (body : SF) : SF := fun w => match fi w with
  | some (ds, w1) => fFor tg body ds w1
  | none => none
theorem d_for {iter tgE : Expr} {body : List Stmt} {fi : IF} {ixs : List Nat} {tg : TgF} {g : SF} (hi : PI X tgE iter (tI T fi)) (hg : PG X tgE (tG T ixs tg)) (hb : PSs X body (tS T g)) (hp : PassesOwn (model X.prog X.w) X.A X.env X.xe := by first | assumption | exact PassesOwn.never) (hc : X.calm = true := by rfl)
    (hs : ∀ x, foldedSetIterable iter X.env x = pure x := by intro _; rfl) : PS X (.For tgE iter body [] pos) (tS T (gFor fi tg g)) := PS.weak (ps_for hp hc hi hg hb hs) fun D σ H z => by
  obtain ⟨gh, w, k, z⟩ := z
  unfold gFor at z
  cases y : fi w with
  | none => rw [y] at z; exact z.none
  | some p =>
    obtain ⟨ds, w1⟩ := p
    rw [y] at z
    have z : SRes T gh H (fFor tg g ds w1) D := z
    refine ⟨gh, w, ds, w1, k, y, fun J gh' H' s k' it => ?_⟩
    refine ⟨fun j m σ2 H2 => ∃ (g2 : Gh) (w2 : Wt), Stp gh' H' g2 H2 ∧ Ok T.K g2 H2 σ2 w2 ∧ m = ds.length - j ∧ SRes T g2 H2 (fFor tg g (ds.drop j) w2) D, ⟨ds.length, gh', w1, Stp.refl _ _, k', by omega, z.later s⟩, ?_⟩
    rintro j m σ2 H2 ⟨g2, w2, s2, k2, em, z2⟩
    obtain ⟨go, stop⟩ := it g2 H2 σ2 w2 j s2.sub k2
    by_cases hj : j < ds.length
    · refine .inr ?_
      have hd : ds[j]? = some ds[j] := List.getElem?_eq_getElem hj
      rw [List.drop_eq_getElem_cons hj] at z2
      obtain ⟨g0, gy⟩ := go _ hd
      refine ⟨g0, fun σ3 H3 => ∃ (g3 : Gh) (w3 : Wt), Stp gh' H' g3 H3 ∧ Ok T.K g3 H3 σ3 w3 ∧ SRes T g3 H3 (fFor tg g (ds.drop (j + 1)) w3) D, fun σ3 H3 ⟨g3, w3, s3, k3, z3⟩ => ⟨ds.length - (j + 1), by omega, g3, w3, s3, k3, rfl, z3⟩, fun x H3 hy => ?_⟩
      obtain ⟨g3, s3, k3, r3⟩ := gy x H3 hy
      unfold fFor at z2
      cases y1 : tg ds[j] w2 with
      | none => rw [y1] at z2; exact z2.none
      | some w3 =>
        rw [y1] at z2
        refine ⟨g3, w2, ds[j], w3, k3, r3, y1, fun σ4 g4 H4 s4 k4 _ _ => ?_⟩
        refine ⟨g4, w3, k4, ?_⟩
        have z2 := z2.later (s3.trans s4)
        have s' := (s2.trans s3).trans s4
        dsimp only at z2
        cases y2 : g w3 with
        | none => rw [y2] at z2; exact z2.none
        | some o =>
          rw [y2] at z2
          cases o with
          | nx w4 => exact ⟨_, rfl, fun σ5 g5 H5 s5 k5 => ⟨g5, w4, s'.trans s5, k5, z2.later s5⟩⟩
          | ct w4 => exact ⟨_, rfl, fun σ5 g5 H5 s5 k5 => ⟨g5, w4, s'.trans s5, k5, z2.later s5⟩⟩
          | bk w4 =>
            obtain ⟨out, e, q⟩ := z2
            cases e
            exact ⟨_, rfl, q⟩
          | rt d w4 =>
            obtain ⟨out, e, q⟩ := z2
            cases e
            exact ⟨_, rfl, q⟩
          | ex c x w4 =>
            obtain ⟨out, e, q⟩ := z2
            cases e
            exact ⟨_, rfl, q⟩
    · refine .inl ⟨stop (by omega), ?_⟩
      rw [List.drop_of_length_le (by omega)] at z2
      obtain ⟨out, e, q⟩ := z2
      cases e
      exact q σ2 g2 H2 (Stp.refl _ _) k2

/-! ### while -/
def fWhile (p : TFn) (body : SF) : Nat → SF
  | 0, _ => none
  | n + 1, w => match p w with
    | some (.b true, w1) => (match body w1 with
      | some (.nx w2) => fWhile p body n w2
      | some (.ct w2) => fWhile p body n w2
      | some (.bk w2) => some (.nx w2)
      | o => o)
    | some (.b false, w1) => some (.nx w1)
    | some (.ex c x, w1) => some (.ex c x w1)
    | none => none
theorem d_while {c : Expr} {body : List Stmt} {p : TFn} {g : SF} (n : Nat) (hc : PT X c (tT T p)) (hb : PSs X body (tS T g)) (hp : PassesOwn (model X.prog X.w) X.A X.env X.xe := by first | assumption | exact PassesOwn.never) : PS X (.While c body [] pos) (tS T (fWhile p g n)) := PS.weak (ps_while hp hc hb) fun D σ H z => by
  obtain ⟨gh, w, k, z⟩ := z
  refine ⟨fun m σ2 H2 => ∃ (g2 : Gh) (w2 : Wt), Ok T.K g2 H2 σ2 w2 ∧ SRes T g2 H2 (fWhile p g m w2) D, ⟨n, gh, w, k, z⟩, ?_⟩
  rintro m σ2 H2 ⟨g2, w2, k2, z2⟩
  cases m with
  | zero => exact z2.none
  | succ m =>
    have z3 : SRes T g2 H2 (tS2 p (fun b => cond b (fun w1 => match g w1 with
      | some (.nx w2) => fWhile p g m w2
      | some (.ct w2) => fWhile p g m w2
      | some (.bk w2) => some (.nx w2)
      | o => o) fun w1 => some (.nx w1)) w2) D := by
      unfold tS2
      unfold fWhile at z2
      cases y : p w2 with
      | none => rw [y] at z2; exact z2.none
      | some r =>
        obtain ⟨r, w3⟩ := r
        rw [y] at z2
        cases r with
        | ex c x => exact z2
        | b b => cases b <;> exact z2
    refine ⟨g2, w2, k2, (SRes.test z3).mono fun b H3 ⟨g3, w3, s3, k3, _, y⟩ => ?_⟩
    cases b with
    | false =>
      rw [if_neg Bool.false_ne_true]
      obtain ⟨out, e, q⟩ := y
      cases e
      exact q σ2 g3 H3 s3 k3
    | true =>
      rw [if_pos rfl]
      refine ⟨fun σ4 H4 => ∃ (g4 : Gh) (w4 : Wt), Ok T.K g4 H4 σ4 w4 ∧ SRes T g4 H4 (fWhile p g m w4) D, fun σ4 H4 q => ⟨m, Nat.lt_succ_self m, q⟩, g3, w3, k3, ?_⟩
      have y := y.later s3
      dsimp only [cond] at y
      cases y2 : g w3 with
      | none => rw [y2] at y; exact y.none
      | some o =>
        rw [y2] at y
        cases o with
        | nx w4 => exact ⟨_, rfl, fun σ5 g5 H5 s5 k5 => ⟨g5, w4, k5, y.later s5⟩⟩
        | ct w4 => exact ⟨_, rfl, fun σ5 g5 H5 s5 k5 => ⟨g5, w4, k5, y.later s5⟩⟩
        | bk w4 =>
          obtain ⟨out, e, q⟩ := y
          cases e
          exact ⟨_, rfl, q⟩
        | rt d w4 =>
          obtain ⟨out, e, q⟩ := y
          cases e
          exact ⟨_, rfl, q⟩
        | ex c x w4 =>
          obtain ⟨out, e, q⟩ := y
          cases e
          exact ⟨_, rfl, q⟩
end
end DL
set_option maxHeartbeats 1000000
/-! DL5: list comprehensions, two names stored at once, append. -/
namespace DL
open PySem PySem.Spec PyProof.Rows L2
variable [TbC]
section
variable {T : Tx} {gh0 gh gh1 : Gh} {H0 H H1 : Hp} {σ : L2.St} {w w' w1 : Wt} {X : Cx} {e e1 e2 : Expr} {es : List Expr} {t t' ta tb : TE} {f g : EF} {pos : Pos}
/-! ### a block's own slots -/
def wipeS (sl : List Slot) : List Nat → List Slot
  | [] => sl
  | v :: vs => (wipeS sl vs).set v .un
def restS (s0 sl : List Slot) : List Nat → List Slot
  | [] => sl
  | v :: vs => (match s0[v]? with
    | some s => (restS s0 sl vs).set v s
    | none => restS s0 sl vs)
def plainS : Option Slot → Bool
  | some (.v _) => true
  | some .un => true
  | none => true
  | _ => false
def plainW (w : Wt) (vs : List Nat) : Bool := vs.all fun v => plainS w.sl[v]?
def Wt.wipe (w : Wt) (vs : List Nat) : Wt := { w with sl := wipeS w.sl vs }
def Wt.rest (w0 w : Wt) (vs : List Nat) : Wt := { w with sl := restS w0.sl w.sl vs }
theorem wipeS_len (sl : List Slot) : ∀ vs, (wipeS sl vs).length = sl.length
  | [] => rfl
  | v :: vs => by unfold wipeS; rw [List.length_set, wipeS_len sl vs]
theorem restS_len (s0 sl : List Slot) : ∀ vs, (restS s0 sl vs).length = sl.length
  | [] => rfl
  | v :: vs => by
    unfold restS
    split
    · rw [List.length_set, restS_len s0 sl vs]
    · exact restS_len s0 sl vs
theorem wipeS_in {sl : List Slot} {i : Nat} : ∀ {vs : List Nat}, i ∈ vs → i < sl.length → (wipeS sl vs)[i]? = some .un
  | v :: vs, h, hl => by
    unfold wipeS
    by_cases e : v = i
    · subst e
      exact List.getElem?_set_self (by rw [wipeS_len]; exact hl)
    · rw [List.getElem?_set_ne e]
      exact wipeS_in ((List.mem_cons.mp h).resolve_left (Ne.symm e)) hl
theorem wipeS_out {sl : List Slot} {i : Nat} : ∀ {vs : List Nat}, i ∉ vs → (wipeS sl vs)[i]? = sl[i]?
  | [], _ => rfl
  | v :: vs, h => by
    simp only [List.mem_cons, not_or] at h
    unfold wipeS
    rw [List.getElem?_set_ne (Ne.symm h.1)]
    exact wipeS_out h.2
theorem wipe_out {σ : L2.St} {i : Nat} : ∀ {vs : List Nat}, i ∉ vs → (L2.wipe σ vs)[i]? = σ[i]?
  | [], _ => rfl
  | v :: vs, h => by
    simp only [List.mem_cons, not_or] at h
    unfold L2.wipe
    rw [List.getElem?_set_ne (Ne.symm h.1)]
    exact wipe_out h.2
theorem wipe_in {σ : L2.St} {i : Nat} : ∀ {vs : List Nat}, i ∈ vs → i < σ.length → (L2.wipe σ vs)[i]? = some none
  | v :: vs, h, hl => by
    unfold L2.wipe
    by_cases e : v = i
    · subst e
      exact List.getElem?_set_self (by rw [L2.wipe_length]; exact hl)
    · rw [List.getElem?_set_ne e]
      exact wipe_in ((List.mem_cons.mp h).resolve_left (Ne.symm e)) hl
theorem restS_in {s0 sl : List Slot} (hl : s0.length = sl.length) {i : Nat} : ∀ {vs : List Nat}, i ∈ vs → (restS s0 sl vs)[i]? = s0[i]?
  | v :: vs, h => by
    unfold restS
    by_cases e : v = i
    · subst e
      split
      · rename_i s q
        rw [q]
        exact List.getElem?_set_self (by rw [restS_len, ← hl]; exact (List.getElem?_eq_some_iff.mp q).1)
      · rename_i q
        rw [q]
        exact List.getElem?_eq_none (by rw [restS_len, ← hl]; exact List.getElem?_eq_none_iff.mp q)
    · have h' := (List.mem_cons.mp h).resolve_left (Ne.symm e)
      split
      · rw [List.getElem?_set_ne e]; exact restS_in hl h'
      · exact restS_in hl h'
theorem restS_out {s0 sl : List Slot} {i : Nat} : ∀ {vs : List Nat}, i ∉ vs → (restS s0 sl vs)[i]? = sl[i]?
  | [], _ => rfl
  | v :: vs, h => by
    simp only [List.mem_cons, not_or] at h
    unfold restS
    split
    · rw [List.getElem?_set_ne (Ne.symm h.1)]; exact restS_out h.2
    · exact restS_out h.2
/-- into the block -/
theorem Ok.into {K : Fg} {vs : List Nat} (k : Ok K gh H σ w) (hp : plainW w vs = true) : Ok K gh H (L2.wipe σ vs) (w.wipe vs) := by
  have pl : ∀ i, i ∈ vs → plainS w.sl[i]? = true := fun i h => List.all_eq_true.mp hp i h
  have look : ∀ (i : Nat) (s : Slot), (wipeS w.sl vs)[i]? = some s → s ≠ .un → i ∉ vs ∧ w.sl[i]? = some s := fun i s e n => by
    by_cases h : i ∈ vs
    · have hl : i < w.sl.length := by rw [← wipeS_len w.sl vs]; exact (List.getElem?_eq_some_iff.mp e).1
      rw [wipeS_in h hl] at e
      cases e
      exact absurd rfl n
    · rw [wipeS_out h] at e
      exact ⟨h, e⟩
  refine ⟨by rw [L2.wipe_length]; show σ.length = (wipeS w.sl vs).length; rw [wipeS_len]; exact k.len, k.sub, fun i d e => ?_, fun i ns e => ?_, fun i d e => ?_, fun i a e => ?_, k.inj, fun i e => ?_, k.src, k.sap, k.dis, k.tab, k.tbw⟩
  · obtain ⟨h, e⟩ := look i _ e (by intro z; cases z)
    obtain ⟨v, q, r⟩ := k.val i d e
    exact ⟨v, (wipe_out h).trans q, r⟩
  · obtain ⟨h, e⟩ := look i _ e (by intro z; cases z)
    obtain ⟨v, q, r⟩ := k.scr i ns e
    exact ⟨v, (wipe_out h).trans q, r⟩
  · obtain ⟨h, e⟩ := look i _ e (by intro z; cases z)
    obtain ⟨a, q0, q1, r⟩ := k.own i d e
    exact ⟨a, q0, (wipe_out h).trans q1, r⟩
  · obtain ⟨d, q⟩ := k.onl i a e
    have h : i ∉ vs := fun h => by
      have := pl i h
      rw [q] at this
      cases this
    exact ⟨d, (wipeS_out h).trans q⟩
  · obtain ⟨h, e⟩ := look i _ e (by intro z; cases z)
    obtain ⟨p, q0, q1⟩ := k.st i e
    exact ⟨p, q0, (wipe_out h).trans q1⟩
/-- out of the block -/
theorem Ok.outOf {K : Fg} {vs : List Nat} {gh2 : Gh} {H2 : Hp} {w0 w2 : Wt} (k0 : Ok K gh H σ w0) (hp : plainW w0 vs = true) (k : Ok K gh2 H2 (L2.wipe σ vs) w2) (hu : ∀ i, i ∈ vs → i < w2.sl.length → w2.sl[i]? = some .un) (s : Same gh.G gh2.G) : Ok K gh2 H2 σ (w0.rest w2 vs) := by
  have pl : ∀ i, i ∈ vs → plainS w0.sl[i]? = true := fun i h => List.all_eq_true.mp hp i h
  have hl : w0.sl.length = w2.sl.length := by rw [← k0.len, ← k.len, L2.wipe_length]
  have look : ∀ (i : Nat) (sl : Slot), (restS w0.sl w2.sl vs)[i]? = some sl → (i ∈ vs ∧ w0.sl[i]? = some sl) ∨ (i ∉ vs ∧ w2.sl[i]? = some sl) := fun i sl e => by
    by_cases h : i ∈ vs
    · rw [restS_in hl h] at e; exact .inl ⟨h, e⟩
    · rw [restS_out h] at e; exact .inr ⟨h, e⟩
  refine ⟨by show σ.length = (restS w0.sl w2.sl vs).length; rw [restS_len, ← hl]; exact k0.len, k.sub, fun i d e => ?_, fun i ns e => ?_, fun i d e => ?_, fun i a e => ?_, k.inj, fun i e => ?_, k.src, k.sap, k.dis, k.tab, k.tbw⟩
  · rcases look i _ e with ⟨h, e⟩ | ⟨h, e⟩
    · obtain ⟨v, q, r⟩ := k0.val i d e
      exact ⟨v, q, Rp.mono s _ _ r⟩
    · obtain ⟨v, q, r⟩ := k.val i d e
      exact ⟨v, (wipe_out h).symm.trans q, r⟩
  · rcases look i _ e with ⟨h, e⟩ | ⟨h, e⟩
    · obtain ⟨v, q, r⟩ := k0.scr i ns e
      exact ⟨v, q, s.seq r⟩
    · obtain ⟨v, q, r⟩ := k.scr i ns e
      exact ⟨v, (wipe_out h).symm.trans q, r⟩
  · rcases look i _ e with ⟨h, e⟩ | ⟨h, e⟩
    · have := pl i h
      rw [e] at this
      cases this
    · obtain ⟨a, q0, q1, r⟩ := k.own i d e
      exact ⟨a, q0, (wipe_out h).symm.trans q1, r⟩
  · obtain ⟨d, q⟩ := k.onl i a e
    have h : i ∉ vs := fun h => by
      rw [hu i h (List.getElem?_eq_some_iff.mp q).1] at q
      cases q
    exact ⟨d, (restS_out h).trans q⟩
  · rcases look i _ e with ⟨h, e⟩ | ⟨h, e⟩
    · have := pl i h
      rw [e] at this
      cases this
    · obtain ⟨p, q0, q1⟩ := k.st i e
      exact ⟨p, q0, (wipe_out h).symm.trans q1⟩

/-! ### list comprehensions -/
def lcL (vs : List Nat) (tg : TgF) (tt : TFn) (fe : EF) : List PD → Wt → List PD → Option (List PD × Wt)
  | [], w, acc => some (acc, w)
  | d :: ds, w, acc => match tg d w with
    | none => none
    | some w1 => (match tt w1 with
      | some (.b true, w2) => (match eF fe w2 with
        | some (.fz y, w3) => if plainW w3 vs = true ∧ acc.length < lim then lcL vs tg tt fe ds (w3.wipe vs) (acc ++ [y]) else none
        | _ => none)
      | some (.b false, w2) => if plainW w2 vs = true then lcL vs tg tt fe ds (w2.wipe vs) acc else none
      | _ => none)
def eLC (vs : List Nat) (fi : IF) (tg : TgF) (tt : TFn) (fe : EF) : EF := fun w => match fi w with
  | some (ds, w1) => if plainW w1 vs = true then (match lcL vs tg tt fe ds (w1.wipe vs) [] with
    | some (acc, w2) => some (.ow (.list acc), w1.rest w2 vs)
    | none => none) else none
  | none => none
def tYs : TFn := fun w => some (.b true, w)
theorem tYs_le (σ : L2.St) (H : Hp) (Q : Bool → Hp → Prop) (h : tT T tYs σ H Q) : tYes σ H Q := by
  obtain ⟨gh, w, k, h⟩ := h
  exact h.b k
theorem PTs.weak {ifs : List Expr} {t t' : TT} (h : PTs X ifs t) (i : ∀ σ H Q, t' σ H Q → t σ H Q) : PTs X ifs t' := ⟨fun pins s σ H Q I q => h.run pins s σ H Q I (i σ H Q q)⟩
theorem dts_nil : PTs X [] (tT T tYs) := PTs.weak pts_nil tYs_le
theorem dts_one {c : Expr} {p : TFn} (h : PT X c (tT T p)) : PTs X [c] (tT T p) := pts_one h
theorem wipe_set {σ σ2 : L2.St} {vs ixs : List Nat} (hx : ∀ j ∈ ixs, j ∈ vs) (h : ∀ j : Nat, j ∉ ixs → σ2[j]? = (L2.wipe σ vs)[j]?) (hl : σ2.length = (L2.wipe σ vs).length) : L2.wipe σ2 vs = L2.wipe σ vs := by
  rw [L2.wipe_length] at hl
  apply List.ext_getElem?
  intro j
  by_cases hj : j ∈ vs
  · by_cases hlt : j < σ.length
    · rw [wipe_in hj hlt, wipe_in hj (by rw [hl]; exact hlt)]
    · rw [List.getElem?_eq_none (by rw [L2.wipe_length, hl]; omega), List.getElem?_eq_none (by rw [L2.wipe_length]; omega)]
  · rw [wipe_out hj, h j fun z => hj (hx j z)]
theorem wiped_un {w : Wt} {vs : List Nat} : ∀ i, i ∈ vs → i < (w.wipe vs).sl.length → (w.wipe vs).sl[i]? = some .un := fun i h hl => wipeS_in h (by
  have : i < (wipeS w.sl vs).length := hl
  rwa [wipeS_len] at this)
/-- the loop of a comprehension, from its function -/
theorem lc_le {vs ixs : List Nat} {fi : IF} {tg : TgF} {tt : TFn} {fe : EF} (hx : ∀ j ∈ ixs, j ∈ vs) (σ : L2.St) (H : Hp) (Q : VK) (h : tD T (eLC vs fi tg tt fe) σ H Q) : tLc (tI T fi) (tG T ixs tg) (tT T tt) (tD T (eF fe)) vs σ H Q := by
  obtain ⟨gh, w, k, z⟩ := h
  unfold eLC at z
  cases y : fi w with
  | none => rw [y] at z; exact z.none
  | some p =>
    obtain ⟨ds, w1⟩ := p
    rw [y] at z
    dsimp only at z
    split at z
    · rename_i hp
      cases y2 : lcL vs tg tt fe ds (w1.wipe vs) [] with
      | none => rw [y2] at z; exact z.none
      | some q =>
        obtain ⟨acc, w2⟩ := q
        rw [y2] at z
        dsimp only at z
        obtain ⟨r', w', er, _, fin⟩ := z
        cases er
        refine ⟨gh, w, ds, w1, k, y, fun J gh' H' s k' it D hD => ?_⟩
        have kD := k'.grow hD (.lst [])
        have sD : Stp gh' H' gh' (upd H' D (.lst [])) := Stp.grow (K := T.K) hD _
        refine ⟨fun j m H2 => ∃ (g2 : Gh) (wi : Wt) (pre : List PD) (xs : List V), Stp gh' H' g2 H2 ∧ Ok T.K g2 H2 (L2.wipe σ vs) wi ∧ (∀ i, i ∈ vs → i < wi.sl.length → wi.sl[i]? = some .un) ∧ m = ds.length - j ∧
          H2 D = some (.lst xs) ∧ RpA T.K g2.G pre xs ∧ g2.G D = none ∧ ¬ g2.M D ∧ lcL vs tg tt fe (ds.drop j) wi pre = some (acc, w2),
          ⟨ds.length, gh', w1.wipe vs, [], [], sD, kD.into hp, wiped_un, by omega, upd_same, RpA.nil, k'.nog hD, k'.nom hD, y2⟩, ?_⟩
        rintro j m H2 ⟨g2, wi, pre, xs, s2, k2, hu, em, hDl, rp, nG, nM, ev⟩
        obtain ⟨go, stop⟩ := it g2 H2 _ wi j s2.sub k2
        by_cases hj : j < ds.length
        · refine .inr ?_
          have hd : ds[j]? = some ds[j] := List.getElem?_eq_getElem hj
          rw [List.drop_eq_getElem_cons hj] at ev
          obtain ⟨g0, gy⟩ := go _ hd
          refine ⟨g0, fun H3 => ∃ (g3 : Gh) (wj : Wt) (pre : List PD) (xs : List V), Stp gh' H' g3 H3 ∧ Ok T.K g3 H3 (L2.wipe σ vs) wj ∧ (∀ i, i ∈ vs → i < wj.sl.length → wj.sl[i]? = some .un) ∧
            H3 D = some (.lst xs) ∧ RpA T.K g3.G pre xs ∧ g3.G D = none ∧ ¬ g3.M D ∧ lcL vs tg tt fe (ds.drop (j + 1)) wj pre = some (acc, w2),
            fun H3 ⟨g3, wj, pre, xs, a1, a2, a3, a4, a5, a6, a7, a8⟩ => ⟨ds.length - (j + 1), by omega, g3, wj, pre, xs, a1, a2, a3, rfl, a4, a5, a6, a7, a8⟩, fun x H3 hy => ?_⟩
          obtain ⟨g3, s3, k3, r3⟩ := gy x H3 hy
          unfold lcL at ev
          cases y1 : tg ds[j] wi with
          | none => rw [y1] at ev; cases ev
          | some w3 =>
            rw [y1] at ev
            dsimp only at ev
            refine ⟨g3, wi, ds[j], w3, k3, r3, y1, fun σ4 g4 H4 s4 k4 n1 n2 => ⟨wipe_set hx n1 n2, g4, w3, k4, ?_⟩⟩
            have hw : L2.wipe σ4 vs = L2.wipe σ vs := wipe_set hx n1 n2
            have s24 : Stp g2 H2 g4 H4 := s3.trans s4
            cases y3 : tt w3 with
            | none => rw [y3] at ev; cases ev
            | some rt =>
              obtain ⟨rt, w4⟩ := rt
              rw [y3] at ev
              -- what of the list at D stays through later steps
              have stay : ∀ {g5 : Gh} {H5 : Hp}, Stp g2 H2 g5 H5 → H5 D = some (.lst xs) ∧ RpA T.K g5.G pre xs ∧ g5.G D = none ∧ ¬ g5.M D := fun {g5 H5} s5 => by
                refine ⟨s5.keep D _ hDl nM, RpA.mono s5.sub _ _ rp, ?_, fun m => ?_⟩
                · cases q : g5.G D with
                  | none => rfl
                  | some o =>
                    rcases s5.gnew D o q with z | z | z | ⟨φ, z⟩
                    · rw [nG] at z; cases z
                    · rw [hDl] at z; cases z
                    · exact absurd z nM
                    · rw [hDl] at z; cases z
                · rcases s5.mnew D m with z | z
                  · exact nM z
                  · rw [hDl] at z; cases z
              cases rt with
              | ex c x => cases ev
              | b bb =>
                refine ⟨.b bb, w4, rfl, fun _ _ z => (nomatch z), fun b' z g5 H5 s5 k5 => ?_⟩
                cases z
                cases bb with
                | false =>
                  rw [if_neg Bool.false_ne_true]
                  dsimp only at ev
                  split at ev
                  · rename_i hp4
                    obtain ⟨a1, a2, a3, a4⟩ := stay (s24.trans s5)
                    exact ⟨g5, w4.wipe vs, pre, xs, s2.trans (s24.trans s5), hw ▸ k5.into hp4, wiped_un, a1, a2, a3, a4, ev⟩
                  · cases ev
                | true =>
                  rw [if_pos rfl]
                  dsimp only at ev
                  refine ⟨g5, w4, k5, ?_⟩
                  cases y4 : eF fe w4 with
                  | none => rw [y4] at ev; cases ev
                  | some re =>
                    obtain ⟨re, w5⟩ := re
                    rw [y4] at ev
                    cases re with
                    | ow d => cases ev
                    | pk d => cases ev
                    | ex c x => cases ev
                    | fz yv =>
                      dsimp only at ev
                      split at ev
                      · rename_i hp5
                        refine ⟨.fz yv, w5, rfl, fun _ _ z => (nomatch z), fun v g6 H6 s6 k6 rv => ?_⟩
                        have s26 := (s24.trans s5).trans s6
                        obtain ⟨a1, a2, a3, a4⟩ := stay s26
                        have hxl : xs.length < lim := by rw [rp.len]; exact hp5.2
                        have k7 : Ok T.K g6 (upd H6 D (.lst (xs ++ [v]))) (L2.wipe σ vs) (w5.wipe vs) := by
                          have k6' := hw ▸ k6.into hp5.1
                          refine ⟨k6'.len, fun a o q => ?_, k6'.val, k6'.scr, fun i d q => ?_, k6'.onl, k6'.inj, k6'.st, fun p q => ?_, k6'.sap, k6'.dis, fun p q => (k6'.tab p q).mono (fun _ _ z => z) (upd_ne fun z => a4 (.inr (.inr ⟨p, q, z.symm⟩))), k6'.tbw⟩
                          · have hne : a ≠ D := fun z => by subst z; rw [a3] at q; cases q
                            rw [upd_ne hne]; exact k6'.sub a o q
                          · obtain ⟨a, q0, q1, r⟩ := k6'.own i d q
                            have hne : a ≠ D := fun z => by subst z; exact a4 (.inl ⟨i, q0⟩)
                            exact ⟨a, q0, q1, r.mono (fun _ _ z => z) (upd_ne hne)⟩
                          · have n1 : p.1 ≠ D := fun z => a4 (.inr (.inl ⟨p, q, .inl z.symm⟩))
                            have n2 : p.2 ≠ D := fun z => a4 (.inr (.inl ⟨p, q, .inr z.symm⟩))
                            exact (k6'.src p q).mono (fun _ _ z => z) (upd_ne n1) (upd_ne n2)
                        refine ⟨xs, a1, Nat.lt_trans hxl lim_line, g6, w5.wipe vs, pre ++ [yv], xs ++ [v], ?_, k7, wiped_un, upd_same, RpA.append a2 (RpA.cons rv RpA.nil), a3, a4, ev⟩
                        have s06 := s2.trans s26
                        refine ⟨s06.sub, fun a o q n => ?_, fun a q => ?_, s06.gnew, s06.mnew, s06.dr, s06.tbk⟩
                        · have hne : a ≠ D := ne_of_none q hD
                          rw [upd_ne hne]; exact s06.keep a o q n
                        · by_cases hne : a = D
                          · subst hne; exact hD
                          · rw [upd_ne hne] at q; exact s06.dom a q
                      · cases ev
        · refine .inl ⟨stop (by omega), ?_⟩
          rw [List.drop_of_length_le (by omega)] at ev
          cases ev
          refine fin (.ref D) g2 H2 (s.trans s2) (Ok.outOf k' hp k2 hu s2.sub) ⟨D, rfl, s.dom D hD, nG, nM, xs, hDl, rp⟩
    · exact z.none
variable {elt tgE iter : Expr} {ifs : List Expr} {scope : Scope} {own : List (Str × Nat)} {ixs : List Nat} {fi : IF} {tg : TgF} {tt : TFn} {fe : EF}
theorem d_lc (own : List (Str × Nat)) (hi : PI X tgE iter (tI T fi))
    (hg : ∀ (s : Shared) (H : Hp) (C : Addr) (cl : List (Str × Addr)) (fp : List Addr), PG (X.blk s H scope (compEnvC scope cl C X.env) fp) tgE (tG T ixs tg)) (ht : ∀ (s : Shared) (H : Hp) (C : Addr) (cl : List (Str × Addr)) (fp : List Addr), PTs (X.blk s H scope (compEnvC scope cl C X.env) fp) ifs (tT T tt))
    (he : ∀ (s : Shared) (H : Hp) (C : Addr) (cl : List (Str × Addr)) (fp : List Addr), PE (X.blk s H scope (compEnvC scope cl C X.env) fp) elt (tD T fe)) (ok : blkC X.N X.env.scope scope own = true := by kernel_rfl) (hx : ∀ j ∈ ixs, j ∈ own.map (·.2) := by decide) (hN : X.N.Nodup := by assumption) (hc : X.calm = true := by rfl)
    (hs : ∀ x, foldedSetIterable iter X.env x = pure x := by intro _; rfl) : PE X (.ListComp elt [⟨tgE, iter, ifs, 0⟩] scope pos) (tD T (eLC (own.map (·.2)) fi tg tt fe)) :=
  PE.weak (pe_lc hc hN hi (blkOk_by ok) hg ht (fun s H C cl fp => PE.weak (he s H C cl fp) fun σ H Q h => eF_le σ H Q h) hs) (lc_le hx)
theorem d_setLc (i : Nat) (own : List (Str × Nat)) {y : Str} {py spos : Pos} (hi : PI X tgE iter (tI T fi))
    (hg : ∀ (s : Shared) (H : Hp) (C : Addr) (cl : List (Str × Addr)) (fp : List Addr), PG (X.blk s H scope (compEnvC scope cl C X.env) fp) tgE (tG T ixs tg)) (ht : ∀ (s : Shared) (H : Hp) (C : Addr) (cl : List (Str × Addr)) (fp : List Addr), PTs (X.blk s H scope (compEnvC scope cl C X.env) fp) ifs (tT T tt))
    (he : ∀ (s : Shared) (H : Hp) (C : Addr) (cl : List (Str × Addr)) (fp : List Addr), PE (X.blk s H scope (compEnvC scope cl C X.env) fp) elt (tD T fe)) (ok : blkC X.N X.env.scope scope own = true := by kernel_rfl) (hx : ∀ j ∈ ixs, j ∈ own.map (·.2) := by decide)
    (hsw : swapsWith (.ListComp elt [⟨tgE, iter, ifs, 0⟩] scope pos) (some (.Name y py)) spos.line X.env = pure true := by exact sw_true rfl rfl rfl (by kernel_rfl)) (hy : X.N[i]? = some y := by rfl) (hyl : X.env.scope.names.lookup y = some .local := by rfl)
    (hN : X.N.Nodup := by assumption) (hc : X.calm = true := by rfl) (hs : ∀ x, foldedSetIterable iter X.env x = pure x := by intro _; rfl) :
    PS X (.Assign [.Name y py] (.ListComp elt [⟨tgE, iter, ifs, 0⟩] scope pos) spos) (tS T (gAsg i (eLC (own.map (·.2)) fi tg tt fe))) :=
  PS.weak (ps_setLc hc hN hy hyl hsw hi (blkOk_by ok) hg ht (fun s H C cl fp => PE.weak (he s H C cl fp) fun σ H Q h => eF_le σ H Q h) hs) (gAsg_le i (lc_le hx))
end
end DL
set_option maxHeartbeats 1000000
/-! DL6: defs by their functions; calls of them. -/
namespace DL
open PySem PySem.Spec PyProof.Rows L2
variable [TbC]
/-- the room of a call: nothing is being shown as a text, either -/
structure Rm (k : Nat) (A : Around) : Prop where
  room : Room k A
  gd : A.guards = some []
/-- the def at f keeps the promise sp, where nothing is being shown -/
structure FnG (P : Program) (w : World) (K : Fg) (mg : Str → Option Value) (base : Heap) (CX : CXT) (k : Nat) (f : Addr) (fd : FuncData) (ps : List Str) (sp : Sp) : Prop where
  arity : ∀ vs H Q E, sp vs H Q E → vs.length = ps.length
  go : ∀ (A : Around) (outer : List Env) (s : Shared) (H : Hp) (args : Args) (us : List Value) (vs : List V) (Q : VK) (E : XK), Rm k A → Env0 P w K mg base A outer s H → BindsTo s fd args (ps.zip us) → Vals vs us → sp vs H Q E →
    codeAny (model P w) A (.call (.ref f) args) (CR CX outer P w H s Q E) s
section
variable {P : Program} {w : World} {K : Fg} {mg : Str → Option Value} {base : Heap} {CX : CXT}
theorem FnG.up {j k : Nat} {f : Addr} {fd : FuncData} {ps : List Str} {sp : Sp} (F : FnG P w K mg base CX j f fd ps sp) (h : j ≤ k) : FnG P w K mg base CX k f fd ps sp :=
  ⟨F.arity, fun A outer s H args us vs Q E r => F.go A outer s H args us vs Q E ⟨r.room.mono h, r.gd⟩⟩
/-- cdv is the code object of the def at f -/
def CdAt (K : Fg) (f : Addr) (qual : Str) (cdv : Value) : Prop := ∃ (oc : Value) (od : Option Addr) (osl : Array (Option Value)) (fd : FuncData), K.lookup f = some ⟨oc, od, .func fd, osl⟩ ∧ fd.code = cdv ∧ PySem.W.codeIn K cdv qual = true
/-- by its body -/
theorem FnG.of {k : Nat} {f : Addr} {name qual : Str} {params : Arguments} {body : List Stmt} {scope : Scope} {dvs : List V} {kws : List (Str × V)} {fd : FuncData} {N ps : List Str} {sp : Sp} (D : FunD K name qual params body scope dvs kws f fd) (S : FnScope N ps scope)
    (ar : ∀ vs H Q E, sp vs H Q E → vs.length = ps.length)
    (hb : ∀ (cdv : Value), CdAt K f qual cdv → ∀ (A : Around) (outer : List Env) (s : Shared) (H : Hp) (vs : List V) (Q : VK) (E : XK), Rm k (A.deeper (envOfC qual scope s.heap.objs.size f cdv)) → sp vs H Q E →
      ∃ t, PSs (cxOf CX P w K mg base N qual scope f cdv A outer s H E) body t ∧ t { nx := fun _ H' => Q .non H', rt := Q } (start N vs) H) : FnG P w K mg base CX (k + 1) f fd ps sp := by
  obtain ⟨oc, od, dV, kV, doc, pm, an, cdv, ct, osl, rfl, lk, hcd, _, _⟩ := D.ex
  refine ⟨ar, fun A outer s H args us vs Q E rm e0 bd rv hsp => ?_⟩
  have n1 := ar _ _ _ _ hsp
  have kin : K.In s.heap := e0.mod.kin.keeps fun b o e => (e0.bs b o e).1
  have nol : s.heap.NoLimit := e0.mod.nolimit.keeps fun b o e => (e0.bs b o e).1
  have kinds : ∀ y ∈ ps.zip us, scope.names.lookup y.1 = some .local ∨ (scope.names.lookup y.1 = some .cell ∧ ((cellsFrom (s.heap.objs.size + 1) scope.names []).lookup y.1).isSome = true) := by
    rintro ⟨n, v⟩ hy
    have := S.par n (List.of_mem_zip hy).1
    exact this.elim (fun q => .inl q) fun q => .inr ⟨q, PySem.W.cellsFrom_some _ _ _ (.inl q)⟩
  refine codeAny_call_function rm.room.depth (kin _ _ lk) rfl S.co S.gen rfl (PySem.W.codeRec_of kin hcd) (bd _ _ _ _ ?_)
  refine wpAny_newFunctionEnv_cells S.kind kinds fun env he s1 ic => ?_
  subst he
  refine ⟨nol.keeps ic.toInCall.keep, codeAny_func ?_⟩
  obtain ⟨t, ht, hq⟩ := hb cdv ⟨oc, od, osl, _, lk, rfl, hcd⟩ A outer s H vs Q E ⟨rm.room.deeper _, rm.gd⟩ hsp
  have I := inv_start (CX := CX) (E := E) (qual := qual) (f := f) (cd := cdv) S rm.room.hd e0 n1 rv ic
  refine wpAny_mono (ht.run [] s1 (start N vs) H _ I hq) (fun fl s' hs => ?_) fun e s' hs => hs
  cases fl with
  | ret u =>
    obtain ⟨v, σ', H', J, r, q⟩ := hs
    exact ⟨v, H', J.os, J.bare, J.base, J.hok, r, q⟩
  | next =>
    obtain ⟨σ', H', J, q⟩ := hs
    exact ⟨.non, H', J.os, J.bare, J.base, J.hok, rfl, q⟩
  | brk => obtain ⟨_, _, _, q⟩ := hs; exact q.elim
  | cont => obtain ⟨_, _, _, q⟩ := hs; exact q.elim
end
section
variable {X : Cx} {CX : CXT} {k : Nat} {f : Addr} {fd : FuncData} {ps ks : List Str} {sp : Sp} {dvs : List V} {ds : List Value} {E : XK} {x : Str} {p pos : Pos} {e : Expr} {es : List Expr} {kws : List Keyword} {t tk : TA}
theorem FnG.ends {pins : List (Addr × Obj)} {σ : L2.St} {H : Hp} {s : Shared} {Q : VK} (hx : Passes CX X E) (I : Inv X pins σ H s) : ∀ (r : Result) (s' : Shared), CR CX X.stack X.prog X.w H s Q E r s' → (match r with
    | .ok (.ret u) => EP X pins σ Q u s'
    | .ok _ => False
    | .error e => X.xe e s')
  | .ok (.ret u), s', q => I.after q
  | .ok .next, s', q => q
  | .ok .brk, s', q => q
  | .ok .cont, s', q => q
  | .error e, s', q => hx pins σ H s e s' I q
theorem FnG.call {pins : List (Addr × Obj)} {σ : L2.St} {H : Hp} {s : Shared} {Q : VK} {args : Args} {us : List Value} {vs : List V} (F : FnG X.prog X.w X.K X.mg X.base CX k f fd ps sp) (rm : Rm k X.A) (hx : Passes CX X E)
    (I : Inv X pins σ H s) (bd : BindsTo s fd args (ps.zip us)) (r : Vals vs us) (h : sp vs H Q E) : codeAny (model X.prog X.w) X.A (.call (.ref f) args) (fun r s' => match r with
    | .ok (.ret u) => EP X pins σ Q u s'
    | .ok _ => False
    | .error e => X.xe e s') s := codeAny_mono (F.go X.A X.stack s H args us vs Q E rm I.env0 bd r h) fun r s' q => FnG.ends hx I r s' q
theorem wp_of_code {M : Model} {A : Around} {a : Value} {args : List Value} {kw : List (Str × Value)} {Q : Value → Shared → Prop} {E : Value → Shared → Prop} {s : Shared} (h : codeAny M A (.call a ⟨args, kw⟩) (fun r s' => match r with
    | .ok (.ret u) => Q u s'
    | .ok _ => False
    | .error e => E e s') s) : wpAny M A (call a args kw) Q E s := wpAny_call (codeAny_mono h fun r s' q => by
  cases r with
  | error e => exact q
  | ok fl => cases fl with
    | ret u => exact q
    | next => exact q.elim
    | brk => exact q.elim
    | cont => exact q.elim)
/-- f(e, ..) -/
theorem pg_call (F : FnG X.prog X.w X.K X.mg X.base CX k f fd ps sp) (rm : Rm k X.A) (hg : Gl X x) (hm : X.mg x = some (.ref f)) (hk : PySem.W.keepIn X.K (.ref f) = true) (hb : Binds X.K fd ps ds) (hd : Vals dvs ds) (hx : Passes CX X E)
    (ha : PA X (e :: es) t) (hdb : (x == ("__debug__" : Str)) = false) (he : starEach (e :: es) X.env = (false, eval e X.env) :: starEach es X.env) (hpl : (backTo pos (starEach es X.env)).any (·.1) = false) :
    PE X (.Call (.Name x p) (e :: es) [] pos) (tCall sp dvs E t) := ⟨fun pins s σ H Q I h => by
  refine wpAny_Call_Name_kw (ld_glob I hg hm ?_ hdb)
  refine PySem.W.callWith_K (h₀ := X.base) I.ok.mod.kin hk (thn (ha.run pos pins s σ H _ I h) fun us s1 ⟨vs, H1, I1, r, q⟩ => ⟨I1.kIn, ?_⟩) he hpl
  have r2 : Vals (vs ++ dvs) (us ++ ds) := r.append hd
  exact wp_of_code (F.call rm hx I1 (hb s1 us I1.kIn (by rw [← r2.length]; exact F.arity _ _ _ _ q)) r2 q)⟩
theorem pg_call0 (F : FnG X.prog X.w X.K X.mg X.base CX k f fd ps sp) (rm : Rm k X.A) (hg : Gl X x) (hm : X.mg x = some (.ref f)) (hk : PySem.W.keepIn X.K (.ref f) = true) (hb : Binds X.K fd ps ds) (hd : Vals dvs ds) (hx : Passes CX X E)
    (hdb : (x == ("__debug__" : Str)) = false) : PE X (.Call (.Name x p) [] [] pos) (tCall sp dvs E tNil) := ⟨fun pins s σ H Q I h => by
  refine wpAny_Call_Name_kw (ld_glob I hg hm ?_ hdb)
  refine PySem.W.callWith_K0 I.kIn hk ?_
  have r2 : Vals ([] ++ dvs) ([] ++ ds) := hd
  have h : sp ([] ++ dvs) H Q E := h
  exact wp_of_code (F.call rm hx I (hb s [] I.kIn (by rw [← r2.length]; exact F.arity _ _ _ _ h)) r2 h)⟩
/-- f(e, .., k = v, ..) -/
theorem pg_callK {g : List Value → List Value → List Value} {gV : List V → List V → List V} (F : FnG X.prog X.w X.K X.mg X.base CX k f fd ps sp) (rm : Rm k X.A) (hg : Gl X x) (hm : X.mg x = some (.ref f)) (hk : PySem.W.keepIn X.K (.ref f) = true) (hb : KBinds X.K fd ps ks g gV) (hx : Passes CX X E)
    (ha : PA X (e :: es) t) (hkw : PK X kws tk) (hall : (backToKw pos (keywordEach kws X.env)).all (·.1.isSome) = true) (hks : (backToKw pos (keywordEach kws X.env)).filterMap (·.1) = ks)
    (hdb : (x == ("__debug__" : Str)) = false) (he : starEach (e :: es) X.env = (false, eval e X.env) :: starEach es X.env)
    (hpl : ((backTo pos (starEach (e :: es) X.env)).any (·.1) || (backToKw pos (keywordEach kws X.env)).any (·.1.isNone)) = false) :
    PE X (.Call (.Name x p) (e :: es) kws pos) (tCallK sp gV E t tk) := ⟨fun pins s σ H Q I h => by
  refine wpAny_Call_Name_kw (ld_glob I hg hm ?_ hdb)
  refine PySem.W.callWith_KW (h₀ := X.base) I.ok.mod.kin hk hall (thn (ha.run pos pins s σ H _ I h) fun us s1 ⟨vs, H1, I1, r, q⟩ => ?_) hpl he
  refine thn (hkw.run pos pins s1 σ H1 _ I1 q) fun ws s2 ⟨zs, H2, I2, rz, q2⟩ => ⟨I2.kIn, ?_⟩
  rw [hks]
  have r2 := hb.rel r rz
  exact wp_of_code (F.call rm hx I2 (hb.to s2 us ws I2.kIn (by rw [← r2.length]; exact F.arity _ _ _ _ q2)) r2 q2)⟩
end

/-! ### a def's promise, by a function on data -/
inductive Fr where
  | ok (d : PD) | ex (c : Str) (x : Option (Str × PD))
abbrev FF := List PD → Option Fr
def FrOk (T : Tx) (gh : Gh) (H : Hp) (Q : VK) : Fr → Prop
  | .ok d => ∀ v gh' H', Stp gh H gh' H' → Same gh'.G H' → Rp T.K gh'.G d v → Q v H'
  | .ex c x => ∀ gh' H', Stp gh H gh' H' → Same gh'.G H' → Exn T gh' H' c x
def spF (K : Fg) (mg : Str → Option Value) (n : Nat) (F : FF) : Sp := fun vs H Q E => ∃ (G : Hp) (ds : List PD) (fr : Fr), Same G H ∧ ds.length = n ∧ RpA K G ds vs ∧ F ds = some fr ∧ FrOk ⟨K, mg, E⟩ (Gh.pure G) H Q fr
/-- the slots at a def's entry -/
def entry (m : Nat) (ds : List PD) : Wt := ⟨ds.map Slot.v ++ List.replicate (m - ds.length) Slot.un, ⟨[], [], 0, 0⟩⟩
def outF : Option Out → Option Fr
  | some (.nx _) => some (.ok .none)
  | some (.rt d _) => some (.ok d)
  | some (.ex c x _) => some (.ex c x)
  | _ => none
omit [TbC] in
theorem entry_ok {K : Fg} {G H : Hp} {N : List Str} {ds : List PD} {vs : List V} (s : Same G H) (r : RpA K G ds vs) : @Ok ⟨none⟩ K (Gh.pure G) H (start N vs) (entry N.length ds) := by
  have hl := r.len
  have look : ∀ (i : Nat) (x : Slot), (entry N.length ds).sl[i]? = some x → x ≠ .un → i < ds.length ∧ ∃ d, ds[i]? = some d ∧ x = .v d := fun i x e n => by
    have e : (ds.map Slot.v ++ List.replicate (N.length - ds.length) Slot.un)[i]? = some x := e
    by_cases hi : i < ds.length
    · rw [List.getElem?_append_left (by simpa using hi), List.getElem?_map, List.getElem?_eq_getElem hi] at e
      cases e
      exact ⟨hi, _, List.getElem?_eq_getElem hi, rfl⟩
    · rw [List.getElem?_append_right (by simpa using hi), List.getElem?_replicate] at e
      split at e
      · cases e; exact absurd rfl n
      · cases e
  refine ⟨?_, s, fun i d e => ?_, fun i ns e => ?_, fun i d e => ?_, fun i a e => (nomatch e), fun i j a e => (nomatch e), fun i e => ?_, fun p e => (nomatch e), fun p i a e => (nomatch e), fun a m => absurd m Gh.pure_M, fun p e => (nomatch e), rfl⟩
  · show (L2.start N vs).length = (ds.map Slot.v ++ List.replicate (N.length - ds.length) Slot.un).length
    unfold L2.start
    rw [List.length_append, List.length_append, List.length_map, List.length_map, List.length_replicate, List.length_replicate, hl]
  · obtain ⟨hi, d', e1, e2⟩ := look i _ e (by intro z; cases z)
    cases e2
    obtain ⟨v, e3, r3⟩ := r.get e1
    refine ⟨v, ?_, r3⟩
    unfold L2.start
    rw [List.getElem?_append_left (by rw [List.length_map, hl]; exact hi), List.getElem?_map, e3]
    rfl
  · obtain ⟨hi, d', e1, e2⟩ := look i _ e (by intro z; cases z)
    cases e2
  · obtain ⟨hi, d', e1, e2⟩ := look i _ e (by intro z; cases z)
    cases e2
  · obtain ⟨hi, d', e1, e2⟩ := look i _ e (by intro z; cases z)
    cases e2
section
variable {P : Program} {w : World} {K : Fg} {mg : Str → Option Value} {base : Heap} {CX : CXT}
omit [TbC] in
/-- a def by its function: its body's derivation, and what the body's function gives at every argument for which the function is defined -/
theorem fn_data {k n : Nat} {f : Addr} {name qual : Str} {params : Arguments} {body : List Stmt} {scope : Scope} {dvs : List V} {kws : List (Str × V)} {fd : FuncData} {N ps : List Str} {F : FF} {g : SF} (D : FunD K name qual params body scope dvs kws f fd) (S : FnScope N ps scope)
    (hn : ps.length = n) (hb : ∀ (cdv : Value) (A : Around) (outer : List Env) (s : Shared) (H : Hp) (E : XK), Rm k (cxOf CX P w K mg base N qual scope f cdv A outer s H E).A → PSs (cxOf CX P w K mg base N qual scope f cdv A outer s H E) body (@tS ⟨none⟩ ⟨K, mg, E⟩ g))
    (ev : ∀ ds fr, ds.length = n → F ds = some fr → outF (g (entry N.length ds)) = some fr) : FnG P w K mg base CX (k + 1) f fd ps (spF K mg n F) := by
  refine FnG.of D S (fun vs H Q E h => ?_) fun cdv _ A outer s H vs Q E rm h => ?_
  · obtain ⟨G, ds, fr, _, hl, r, _⟩ := h
    rw [r.len, hl, hn]
  · obtain ⟨G, ds, fr, sm, hl, r, e, q⟩ := h
    refine ⟨_, hb cdv A outer s H E rm, Gh.pure G, entry N.length ds, entry_ok sm r, ?_⟩
    have e2 := ev ds fr hl e
    cases y : g (entry N.length ds) with
    | none => rw [y] at e2; cases e2
    | some o =>
      rw [y] at e2
      refine ⟨o, rfl, ?_⟩
      cases o with
      | nx w1 =>
        cases e2
        exact fun σ' gh' H' s' k' => q .non gh' H' s' k'.sub (by simp [Rp])
      | rt d w1 =>
        cases e2
        exact fun σ' v gh' H' s' k' rv => q v gh' H' s' k'.sub rv
      | ex c x w1 =>
        cases e2
        exact fun σ' gh' H' s' k' => q gh' H' s' k'.sub
      | bk w1 => cases e2
      | ct w1 => cases e2
end
section
variable {X : Cx} {T : Tx} {CX : CXT} {k n : Nat} {f : Addr} {fd : FuncData} {ps ks : List Str} {F : FF} {x : Str} {p pos : Pos} {e : Expr} {es : List Expr} {kws : List Keyword} {g : AF}
/-- behind a call that leaves all as it was -/
theorem Ok.after {K : Fg} {gh gh' : Gh} {H H' : Hp} {σ : L2.St} {w : Wt} (k : Ok K gh H σ w) (s : Stp (Gh.pure gh.G) H gh' H') (sm : Same gh'.G H') : Ok K { gh with G := gh'.G } H' σ w ∧ Stp gh H { gh with G := gh'.G } H' := by
  have sg : Same gh.G gh'.G := s.sub
  have kp : ∀ a o, H a = some o → H' a = some o := fun a o e => s.keep a o e Gh.pure_M
  have eq : ∀ {a o}, H a = some o → H' a = H a := fun {a o} e => (kp a o e).trans e.symm
  refine ⟨⟨k.len, sm, fun i d e => ?_, fun i ns e => (let ⟨a, q, r⟩ := k.scr i ns e; ⟨a, q, sg.seq r⟩), fun i d e => ?_, k.onl, k.inj, k.st, fun q e => ?_, k.sap, fun a m => ?_, fun p e => (let h := k.tab p e; h.mono sg (let ⟨ps, h1, _⟩ := h; eq h1)), k.tbw⟩, ⟨sg, fun a o e _ => kp a o e, s.dom, fun a o e => ?_, fun a m => .inl m, rfl, rfl⟩⟩
  · obtain ⟨v, q, r⟩ := k.val i d e
    exact ⟨v, q, Rp.mono sg _ _ r⟩
  · obtain ⟨a, q0, q1, r⟩ := k.own i d e
    obtain ⟨o, ho⟩ := r.there
    exact ⟨a, q0, q1, r.mono sg (eq ho)⟩
  · have h := k.src q e
    obtain ⟨c, h1, h2, _, _⟩ := id h
    exact h.mono sg (eq h1) (eq h2)
  · have m' : gh.M a := m
    obtain ⟨o, ho⟩ := k.mh m'
    show gh'.G a = none
    cases q : gh'.G a with
    | none => rfl
    | some o' =>
      rcases s.gnew a o' q with z | z | z | ⟨φ, z⟩
      · have z : gh.G a = some o' := z
        rw [k.dis a m'] at z; cases z
      · rw [ho] at z; cases z
      · exact absurd z Gh.pure_M
      · exact absurd z (k.mx m' φ)
  · rcases s.gnew a o e with z | z | z | z
    · exact .inl z
    · exact .inr (.inl z)
    · exact absurd z Gh.pure_M
    · exact .inr (.inr (.inr z))
def kF' (o : Option Fr) (w : Wt) : Option (R × Wt) := match o with
  | some (.ok d) => some (.fz d, w)
  | some (.ex c x) => some (.ex c x, w)
  | none => none
theorem call_le {gh0 gh : Gh} {H0 H : Hp} {σ : L2.St} {w : Wt} {vs : List V} {ds : List PD} {Q : VK} (s : Stp gh0 H0 gh H) (kk : Ok T.K gh H σ w) (r : RpA T.K gh.G ds vs) (hl : ds.length = n) (z : Res T gh0 H0 σ (kF' (F ds) w) Q) : spF T.K T.mg n F vs H Q T.E := by
  cases e : F ds with
  | none => rw [e] at z; exact z.none
  | some fr =>
    rw [e] at z
    refine ⟨gh.G, ds, fr, kk.sub, hl, r, e, ?_⟩
    cases fr with
    | ok d =>
      intro v gh' H' s' sm rv
      obtain ⟨k2, s2⟩ := kk.after s' sm
      exact z.fz (s.trans s2) k2 rv
    | ex c x =>
      intro gh' H' s' sm
      obtain ⟨k2, s2⟩ := kk.after s' sm
      obtain ⟨r', w', e', q1, _⟩ := z
      cases e'
      have := q1 _ _ rfl _ H' (s.trans s2) k2
      cases x with
      | none => exact this
      | some y => exact this
/-- f(e, ..), f by its function; dd: the defaults that fill up -/
def eCall (F : FF) (n : Nat) (dd : List PD) (g : AF) : EF := eA g fun ds w => if (ds ++ dd).length = n then kF' (F (ds ++ dd)) w else none
theorem d_call {dvs : List V} {ds : List Value} {dd : List PD} (G : FnG X.prog X.w X.K X.mg X.base CX k f fd ps (spF X.K X.mg n F)) (rm : Rm k X.A) (hm : X.mg x = some (.ref f)) (hk : PySem.W.keepIn X.K (.ref f) = true) (hb : Binds X.K fd ps ds) (hd : Vals dvs ds) (hdd : ∀ H, RpA X.K H dd dvs) (hx : Passes CX X T.E)
    (ha : PA X (e :: es) (tA T g)) (hK : T.K = X.K := by rfl) (hM : T.mg = X.mg := by rfl) (hg : Gl X x := by rfl) (hdb : (x == ("__debug__" : Str)) = false := by decide) (he : starEach (e :: es) X.env = (false, eval e X.env) :: starEach es X.env := by rfl) (hpl : (backTo pos (starEach es X.env)).any (·.1) = false := by rfl) :
    PE X (.Call (.Name x p) (e :: es) [] pos) (tD T (eCall F n dd g)) := PE.weak (pg_call G rm hg hm hk hb hd hx ha hdb he hpl) fun σ H Q z =>
  eA_le (r := fun vs H1 Q => spF X.K X.mg n F (vs ++ dvs) H1 Q T.E) (fun gh0 gh H0 H σ w vs ds Q s kk r z => by
    split at z
    · rename_i hl
      rw [← hK, ← hM]
      exact call_le s kk (RpA.append r (hK ▸ hdd _)) hl z
    · exact z.none) σ H Q z
theorem d_call0 {dvs : List V} {ds : List Value} {dd : List PD} (G : FnG X.prog X.w X.K X.mg X.base CX k f fd ps (spF X.K X.mg n F)) (rm : Rm k X.A) (hm : X.mg x = some (.ref f)) (hk : PySem.W.keepIn X.K (.ref f) = true) (hb : Binds X.K fd ps ds) (hd : Vals dvs ds) (hdd : ∀ H, RpA X.K H dd dvs) (hx : Passes CX X T.E)
    (hK : T.K = X.K := by rfl) (hM : T.mg = X.mg := by rfl) (hg : Gl X x := by rfl) (hdb : (x == ("__debug__" : Str)) = false := by decide) :
    PE X (.Call (.Name x p) [] [] pos) (tD T (eCall F n dd aNil)) := PE.weak (pg_call0 G rm hg hm hk hb hd hx hdb) fun σ H Q z => by
  have h := eA_le (r := fun vs H1 Q => spF X.K X.mg n F (vs ++ dvs) H1 Q T.E) (fun gh0 gh H0 H σ w vs ds Q s kk r z => by
    split at z
    · rename_i hl
      rw [← hK, ← hM]
      exact call_le s kk (RpA.append r (hK ▸ hdd _)) hl z
    · exact z.none) σ H Q z
  obtain ⟨gh, w, kk, r, w', e, _, q⟩ := h
  cases e
  exact q [] rfl [] gh H (Stp.refl _ _) kk RpA.nil
/-- keywords: their values behind the positional ones, then put in order by gD -/
theorem dK_nil : PK X [] (tA T aNil) := ⟨fun pos pins s σ H Q I h => by
  obtain ⟨gh, w, k, r, w', e, _, q⟩ := h
  cases e
  exact pk_nil.run pos pins s σ H Q I (q _ rfl [] gh H (Stp.refl _ _) k RpA.nil)⟩
theorem PK.weak {t t' : TA} (h : PK X kws t) (i : ∀ σ H Q, t' σ H Q → t σ H Q) : PK X kws t' := ⟨fun pos pins s σ H Q I q => h.run pos pins s σ H Q I (i σ H Q q)⟩
theorem dK_cons {f : EF} {nm : Option Str} {kpos : Pos} (ha : PE X e (tD T f)) (hr : PK X kws (tA T g)) : PK X (⟨nm, e, kpos⟩ :: kws) (tA T (aCons f g)) :=
  PK.weak (pk_cons ha hr) (tCons_le (fun σ H Q h => eF_le σ H Q h) fun σ H Q h => h)
theorem Res.args {gh0 gh : Gh} {H0 H : Hp} {σ : L2.St} {w : Wt} {h : AF} {k : List PD → Wt → Option (R × Wt)} {Q : VK} (s : Stp gh0 H0 gh H) (z : Res T gh0 H0 σ (eA h k w) Q) :
    ResA T gh H σ (h w) (fun vs H1 => ∃ (gh1 : Gh) (w1 : Wt) (ds : List PD), Stp gh H gh1 H1 ∧ Ok T.K gh1 H1 σ w1 ∧ RpA T.K gh1.G ds vs ∧ Res T gh0 H0 σ (k ds w1) Q) := by
  unfold eA at z
  cases e : h w with
  | none => rw [e] at z; exact z.none
  | some p =>
    obtain ⟨r1, w1⟩ := p
    rw [e] at z
    cases r1 with
    | ex c x =>
      obtain ⟨r', w', e', q1, q2⟩ := z
      cases e'
      exact ⟨.ex c x, _, rfl, fun c' x' y gh' H' s' => by cases y; exact q1 _ _ rfl gh' H' (s.trans s'), fun ds y => (nomatch y)⟩
    | ok ds => exact ⟨.ok ds, w1, rfl, fun _ _ y => (nomatch y), fun ds' y vs gh' H' s' k' rv => by cases y; exact ⟨gh', w1, _, s', k', rv, z⟩⟩
def eCallK (F : FF) (n : Nat) (gD : List PD → List PD → List PD) (g h : AF) : EF := eA g fun ds w => eA h (fun es w1 => if (gD ds es).length = n then kF' (F (gD ds es)) w1 else none) w
theorem d_callK {h : AF} {gv : List Value → List Value → List Value} {gV : List V → List V → List V} {gD : List PD → List PD → List PD} (G : FnG X.prog X.w X.K X.mg X.base CX k f fd ps (spF X.K X.mg n F)) (rm : Rm k X.A) (hm : X.mg x = some (.ref f)) (hk : PySem.W.keepIn X.K (.ref f) = true) (hb : KBinds X.K fd ps ks gv gV)
    (hdd : ∀ H ds es vs us, RpA X.K H ds vs → RpA X.K H es us → RpA X.K H (gD ds es) (gV vs us)) (hx : Passes CX X T.E)
    (ha : PA X (e :: es) (tA T g)) (hkw : PK X kws (tA T h)) (hK : T.K = X.K := by rfl) (hM : T.mg = X.mg := by rfl) (hg : Gl X x := by rfl) (hall : (backToKw pos (keywordEach kws X.env)).all (·.1.isSome) = true := by rfl) (hks : (backToKw pos (keywordEach kws X.env)).filterMap (·.1) = ks := by rfl)
    (hdb : (x == ("__debug__" : Str)) = false := by decide) (he : starEach (e :: es) X.env = (false, eval e X.env) :: starEach es X.env := by rfl)
    (hpl : ((backTo pos (starEach (e :: es) X.env)).any (·.1) || (backToKw pos (keywordEach kws X.env)).any (·.1.isNone)) = false := by rfl) :
    PE X (.Call (.Name x p) (e :: es) kws pos) (tD T (eCallK F n gD g h)) := PE.weak (pg_callK G rm hg hm hk hb hx ha hkw hall hks hdb he hpl) fun σ H Q z => by
  obtain ⟨gh, w, kk, z⟩ := z
  obtain ⟨r, w1, y, q1, q2⟩ := Res.args (Stp.refl _ _) z
  refine ⟨gh, w, kk, r, w1, y, q1, fun ds' y' vs gh1 H1 s1 k1 rv => ?_⟩
  obtain ⟨g2, w2, ds, s2, k2, rv2, z2⟩ := q2 ds' y' vs gh1 H1 s1 k1 rv
  obtain ⟨r3, w3, y3, p1, p2⟩ := Res.args s2 z2
  refine ⟨g2, w2, k2, r3, w3, y3, p1, fun es' y4 us gh3 H3 s3 k3 rv3 => ?_⟩
  obtain ⟨g4, w4, es, s4, k4, rv4, z4⟩ := p2 es' y4 us gh3 H3 s3 k3 rv3
  split at z4
  · rename_i hl
    rw [← hK, ← hM]
    exact call_le (s2.trans s4) k4 (hK ▸ hdd _ _ _ _ _ (hK ▸ RpA.mono s4.sub _ _ rv2) (hK ▸ rv4)) hl z4
  · exact z4.none
end
end DL
set_option maxHeartbeats 1000000
/-! DL7: operations on data. -/
namespace DL
open PySem PySem.Spec PyProof.Rows L2
variable [TbC]
section
variable {T : Tx} {X : Cx} {e e1 e2 a b : Expr} {es : List Expr} {f g : EF} {pos : Pos}
/-! ### + - * // % -/
def oAdd : PD → PD → Option R
  | .int i, .int j => some (.fz (.int (i + j)))
  | .str i, .str j => if i.length + j.length < lim then some (.fz (.str (i ++ j))) else none
  | .list xs, .list ys => if xs.length + ys.length < lim then some (.ow (.list (xs ++ ys))) else none
  | .tuple xs, .tuple ys => if xs.length + ys.length < lim then some (.fz (.tuple (xs ++ ys))) else none
  | _, _ => none
def rAddU (K : Fg) : R2 := fun x y H Q => ((∃ i j, x = .int i ∧ y = .int j ∧ Q (.int (i + j)) H) ∨ (∃ i j, x = .str i ∧ y = .str j ∧ i.length + j.length ≤ sizeLine ∧ Q (.str (i ++ j)) H)) ∨ (rCat x y H Q ∨ rCatA K x y H Q)
theorem op_addU : OpR X (binaryOp .Add) (rAddU X.K) := (op_add.or op_add_str).or (op_cat.or op_catA)
theorem RpA.nil_of {K : Fg} {H : Hp} {ds : List PD} {xs : List V} (r : RpA K H ds xs) : xs = [] ↔ ds = [] := by
  rw [← List.length_eq_zero_iff, r.len, List.length_eq_zero_iff]
theorem rp_tup {K : Fg} {H : Hp} {a : Addr} {xs : List V} {ds : List PD} (h : SqT K H a xs) (r : RpA K H ds xs) : Rp K H (.tuple ds) (.ref a) := by
  simp only [Rp]
  exact ⟨a, xs, rfl, h, r⟩
theorem Cv.tupG {K : Fg} {gh : Gh} {H : Hp} {ds : List PD} {v : V} (h : Cv K gh H (.tuple ds) v) : ∃ a xs, v = .ref a ∧ SqT K gh.G a xs ∧ RpA K gh.G ds xs := by
  rcases h with h | ⟨a, rfl, h⟩
  · simpa only [Rp] using h
  · exact h.elim
theorem oAdd_ok : OpC2 T oAdd (rAddU T.K) := fun gh0 gh H0 H σ w x y d d' Q s k c1 c2 z => by
  unfold oAdd at z
  split at z
  · exact .inl (.inl ⟨_, _, c1.int, c2.int, z.fz s k (by simp [Rp])⟩)
  · split at z
    · rename_i h
      exact .inl (.inr ⟨_, _, c1.str, c2.str, lim_le h, z.fz s k (by simp [Rp])⟩)
    · exact z.none
  · split at z
    · rename_i h
      obtain ⟨a, xs, rfl, q1, r1⟩ := c1.list k.sub
      obtain ⟨b, ys, rfl, q2, r2⟩ := c2.list k.sub
      exact .inr (.inl ⟨a, b, xs, ys, rfl, rfl, q1, q2, by rw [r1.len, r2.len]; exact lim_le h, fun p hp => z.lst s k (RpA.append r1 r2) hp⟩)
    · exact z.none
  · split at z
    · rename_i h
      obtain ⟨a, xs, rfl, q1, r1⟩ := c1.tupG
      obtain ⟨b, ys, rfl, q2, r2⟩ := c2.tupG
      refine .inr (.inr ⟨a, b, xs, ys, rfl, rfl, sqT_mono k.sub q1, sqT_mono k.sub q2, by rw [r1.len, r2.len]; exact lim_le h, fun e => ?_, fun e e' => ?_, fun e e' p hp => z.tup s k (RpA.append r1 r2) hp⟩)
      · have := r1.nil_of.mp e
        subst this
        exact z.fz s k (rp_tup q2 r2)
      · have := r2.nil_of.mp e'
        subst this
        rw [List.append_nil] at z
        exact z.fz s k (rp_tup q1 r1)
    · exact z.none
  · exact z.none
theorem d_add (ha : PE X a (tD T f)) (hb : PE X b (tD T g)) (hK : T.K = X.K := by rfl) : PE X (.BinOp a .Add b pos) (tD T (eC2 f g oAdd)) :=
  PE.weak (pe_op op_addU ha hb) fun σ H Q z => eC2_le (hK ▸ oAdd_ok) σ H Q z
/-- two ints -/
def oI2 (C : Int → Int → Bool) (r : Int → Int → PD) : PD → PD → Option R
  | .int i, .int j => if C i j = true then some (.fz (r i j)) else none
  | _, _ => none
theorem oI2_ok {C : Int → Int → Bool} {Cp : Int → Int → Prop} {r : Int → Int → PD} {rv : Int → Int → V} (hc : ∀ i j, C i j = true → Cp i j) (hr : ∀ H i j, Rp T.K H (r i j) (rv i j)) : OpC2 T (oI2 C r) (rI Cp rv) := fun gh0 gh H0 H σ w x y d d' Q s k c1 c2 z => by
  unfold oI2 at z
  split at z
  · split at z
    · rename_i h
      exact ⟨_, _, c1.int, c2.int, hc _ _ h, z.fz s k (hr _ _ _)⟩
    · exact z.none
  · exact z.none
theorem oI2_ok0 {r : Int → Int → PD} {rv : Int → Int → V} (hr : ∀ H i j, Rp T.K H (r i j) (rv i j)) : OpC2 T (oI2 (fun _ _ => true) r) (rI0 rv) := fun gh0 gh H0 H σ w x y d d' Q s k c1 c2 z => by
  unfold oI2 at z
  split at z
  · rw [if_pos rfl] at z
    exact ⟨_, _, c1.int, c2.int, z.fz s k (hr _ _ _)⟩
  · exact z.none
def oSub := oI2 (fun _ _ => true) fun i j => .int (i - j)
def cMul (i j : Int) : Bool := (decide (-18446744073709551616 < i) && decide (i < 18446744073709551616)) || (decide (-18446744073709551616 < j) && decide (j < 18446744073709551616))
def oMul := oI2 cMul fun i j => .int (i * j)
def cDiv (_ j : Int) : Bool := decide (0 < j) && decide (j < 1073741824)
def oFdiv := oI2 cDiv fun i j => .int (i / j)
def cMod (_ j : Int) : Bool := decide (0 < j)
def oMod := oI2 cMod fun i j => .int (i % j)
theorem d_sub (ha : PE X a (tD T f)) (hb : PE X b (tD T g)) : PE X (.BinOp a .Sub b pos) (tD T (eC2 f g oSub)) := PE.weak (pe_op op_sub ha hb) fun σ H Q z => eC2_le (oI2_ok0 fun _ _ _ => by simp [Rp]) σ H Q z
theorem d_mul (ha : PE X a (tD T f)) (hb : PE X b (tD T g)) : PE X (.BinOp a .Mult b pos) (tD T (eC2 f g oMul)) := PE.weak (pe_op op_mul ha hb) fun σ H Q z => eC2_le (oI2_ok (fun i j h => by
  unfold cMul at h
  rw [Bool.or_eq_true, Bool.and_eq_true, Bool.and_eq_true] at h
  rcases h with ⟨h1, h2⟩ | ⟨h1, h2⟩
  · exact .inl ⟨of_decide_eq_true h1, of_decide_eq_true h2⟩
  · exact .inr ⟨of_decide_eq_true h1, of_decide_eq_true h2⟩) fun _ _ _ => by simp [Rp]) σ H Q z
theorem d_fdiv (ha : PE X a (tD T f)) (hb : PE X b (tD T g)) : PE X (.BinOp a .FloorDiv b pos) (tD T (eC2 f g oFdiv)) := PE.weak (pe_op op_fdiv ha hb) fun σ H Q z => eC2_le (oI2_ok (fun i j h => by
  unfold cDiv at h
  rw [Bool.and_eq_true] at h
  exact ⟨of_decide_eq_true h.1, of_decide_eq_true h.2⟩) fun _ _ _ => by simp [Rp]) σ H Q z
theorem d_mod (ha : PE X a (tD T f)) (hb : PE X b (tD T g)) : PE X (.BinOp a .Mod b pos) (tD T (eC2 f g oMod)) := PE.weak (pe_op op_mod ha hb) fun σ H Q z => eC2_le (oI2_ok (fun i j h => of_decide_eq_true h) fun _ _ _ => by simp [Rp]) σ H Q z
/-! ### comparisons of ints -/
def oCmp (p : Int → Int → Bool) := oI2 (fun _ _ => true) fun i j => .bool (p i j)
abbrev oLt := oCmp fun i j => decide (i < j)
abbrev oLe := oCmp fun i j => decide (i ≤ j)
abbrev oGt := oCmp fun i j => decide (j < i)
abbrev oGe := oCmp fun i j => decide (j ≤ i)
theorem d_lt (ha : PE X a (tD T f)) (hb : PE X b (tD T g)) : PE X (.Compare a [.Lt] [b] pos) (tD T (eC2 f g oLt)) := PE.weak (pe_cmpR op_lt ha hb (nomark _)) fun σ H Q z => eC2_le (oI2_ok0 fun _ _ _ => by simp [Rp]) σ H Q z
theorem d_le (ha : PE X a (tD T f)) (hb : PE X b (tD T g)) : PE X (.Compare a [.LtE] [b] pos) (tD T (eC2 f g oLe)) := PE.weak (pe_cmpR op_le ha hb (nomark _)) fun σ H Q z => eC2_le (oI2_ok0 fun _ _ _ => by simp [Rp]) σ H Q z
theorem d_gt (ha : PE X a (tD T f)) (hb : PE X b (tD T g)) : PE X (.Compare a [.Gt] [b] pos) (tD T (eC2 f g oGt)) := PE.weak (pe_cmpR op_gt ha hb (nomark _)) fun σ H Q z => eC2_le (oI2_ok0 fun _ _ _ => by simp [Rp]) σ H Q z
theorem d_ge (ha : PE X a (tD T f)) (hb : PE X b (tD T g)) : PE X (.Compare a [.GtE] [b] pos) (tD T (eC2 f g oGe)) := PE.weak (pe_cmpR op_ge ha hb (nomark _)) fun σ H Q z => eC2_le (oI2_ok0 fun _ _ _ => by simp [Rp]) σ H Q z
/-! ### == and != of data -/
def flatD (d : PD) : Bool := d.plain && decide (d.depth ≤ 100)
def oEq : PD → PD → Option R
  | .dict xs, .dict [] => some (.fz (.bool xs.isEmpty))
  | d, e => if (flatD d && flatD e) = true then some (.fz (.bool (PyData.eqv d e))) else none
def oNe (d e : PD) : Option R := if (flatD d && flatD e) = true then some (.fz (.bool (!PyData.eqv d e))) else none
def rEqP (K : Fg) : R2 := fun x y H Q => ∃ d e, Dp K H x d ∧ Dp K H y e ∧ flatD d = true ∧ flatD e = true ∧ Q (.bl (PyData.eqv d e)) H
def rNeP (K : Fg) : R2 := fun x y H Q => ∃ d e, Dp K H x d ∧ Dp K H y e ∧ flatD d = true ∧ flatD e = true ∧ Q (.bl (!PyData.eqv d e)) H
theorem flat_plain {d : PD} (h : flatD d = true) : d.plain = true := by
  unfold flatD at h
  rw [Bool.and_eq_true] at h
  exact h.1
theorem flat_depth {d : PD} (h : flatD d = true) : d.depth ≤ 100 := by
  unfold flatD at h
  rw [Bool.and_eq_true] at h
  exact of_decide_eq_true h.2
theorem op_eqP (hu : X.A.units + 180 < cLine) : OpR X (compareOp .Eq) (rEqP X.K) := by
  intro pins s σ H x y v u Q I rx ry h
  obtain ⟨d, e, hd, he, sd, se, q⟩ := h
  obtain ⟨as, r1⟩ := Dp.reads I d x v hd rx
  obtain ⟨bs, r2⟩ := Dp.reads I e y u he ry
  have hm : min d.depth e.depth ≤ 100 := Nat.le_trans (Nat.min_le_left _ _) (flat_depth sd)
  exact SeqAt.eq_plain r1 r2 (flat_plain sd) (flat_plain se) (by omega) ⟨.bl _, H, I, rfl, q⟩
theorem op_neP (hu : X.A.units + 180 < cLine) : OpR X (compareOp .NotEq) (rNeP X.K) := by
  intro pins s σ H x y v u Q I rx ry h
  obtain ⟨d, e, hd, he, sd, se, q⟩ := h
  obtain ⟨as, r1⟩ := Dp.reads I d x v hd rx
  obtain ⟨bs, r2⟩ := Dp.reads I e y u he ry
  have hm : min d.depth e.depth ≤ 100 := Nat.le_trans (Nat.min_le_left _ _) (flat_depth sd)
  exact SeqAt.ne_plain r1 r2 (flat_plain sd) (flat_plain se) (by omega) ⟨.bl _, H, I, rfl, q⟩
/-- a dict beside the empty one -/
def rEqE : R2 := fun x y H Q => ∃ a b ks, x = .ref a ∧ y = .ref b ∧ Rd H a (.dK ks) ∧ Rd H b (.dK []) ∧ Q (.bl ks.isEmpty) H
theorem op_eqE (hu : X.A.units < cLine) : OpR X (compareOp .Eq) rEqE := by
  intro pins s σ H x y v u Q I rx ry h
  obtain ⟨a, b, ks, rfl, rfl, ea, eb, q⟩ := h
  obtain rfl : v = Value.ref a := rx
  obtain rfl : u = Value.ref b := ry
  obtain ⟨_, ya, va, ra, da⟩ := ea.ok I.hok
  obtain ⟨_, yb, vb, rb, db⟩ := eb.ok I.hok
  have hl := rb.length
  have hla := ra.length
  have hb0 : vb = [] := List.length_eq_zero_iff.mp hl.symm
  subst hb0
  refine PySem.W.keq_eq (knd := mixKind X.prog X.w) (r := true) ya yb da db hu (fun h0 => ?_) (fin_bl I q ?_)
  · have : va = [] := List.length_eq_zero_iff.mp (by simpa using h0)
    subst this
    exact .nil
  · cases ks with
    | nil => have : va = [] := List.length_eq_zero_iff.mp hla.symm; subst this; rfl
    | cons p r =>
      cases va with
      | nil => cases hla
      | cons p' r' => simp
def rEqU (K : Fg) : R2 := fun x y H Q => rEqP K x y H Q ∨ rEqE x y H Q
theorem RpK.nil_of {K : Fg} {H : Hp} {ds : List (PD × PD)} {es : List (Key × V)} (r : RpK K H ds es) : es.isEmpty = ds.isEmpty := by
  cases ds with
  | nil => simp only [RpK] at r; subst r; rfl
  | cons p t =>
    obtain ⟨k, d⟩ := p
    simp only [RpK] at r
    obtain ⟨q, x, t', rfl, _⟩ := r
    rfl
theorem Cv.dp {K : Fg} {gh : Gh} {H : Hp} {d : PD} {v : V} (h : Cv K gh H d v) (s : Same gh.G H) (hf : flatD d = true) : Dp K H v d := Rp.dp d v (flat_plain hf) (h.rp s)
theorem oEq_ok : OpC2 T oEq (rEqU T.K) := fun gh0 gh H0 H σ w x y d d' Q s k c1 c2 z => by
  unfold oEq at z
  split at z
  · obtain ⟨a, es, rfl, q1, r1⟩ := c1.dict k.sub
    obtain ⟨b, fs, rfl, q2, r2⟩ := c2.dict k.sub
    have : fs = [] := by simpa [RpK] using r2
    subst this
    refine .inr ⟨a, b, es, rfl, rfl, q1, q2, z.fz s k ?_⟩
    simp only [Rp]
    rw [r1.nil_of]
  · split at z
    · rename_i h
      rw [Bool.and_eq_true] at h
      exact .inl ⟨d, d', c1.dp k.sub h.1, c2.dp k.sub h.2, h.1, h.2, z.fz s k (by simp [Rp])⟩
    · exact z.none
theorem oNe_ok : OpC2 T oNe (rNeP T.K) := fun gh0 gh H0 H σ w x y d d' Q s k c1 c2 z => by
  unfold oNe at z
  split at z
  · rename_i h
    rw [Bool.and_eq_true] at h
    exact ⟨d, d', c1.dp k.sub h.1, c2.dp k.sub h.2, h.1, h.2, z.fz s k (by simp [Rp])⟩
  · exact z.none
theorem un180 {k : Nat} {A : Around} (r : Rm k A) : A.units + 180 < cLine := by have := r.room.un; omega
theorem un1 {k : Nat} {A : Around} (r : Rm k A) : A.units + 1 < cLine := by have := r.room.un; omega
theorem un0 {k : Nat} {A : Around} (r : Rm k A) : A.units < cLine := by have := r.room.un; omega
theorem d_eq {k : Nat} (rm : Rm k X.A) (ha : PE X a (tD T f)) (hb : PE X b (tD T g)) (hK : T.K = X.K := by rfl) : PE X (.Compare a [.Eq] [b] pos) (tD T (eC2 f g oEq)) :=
  PE.weak (pe_cmpR ((op_eqP (un180 rm)).or (op_eqE (un0 rm))) ha hb (nomark _)) fun σ H Q z => eC2_le (r := rEqU X.K) (hK ▸ oEq_ok) σ H Q z
theorem d_ne {k : Nat} (rm : Rm k X.A) (ha : PE X a (tD T f)) (hb : PE X b (tD T g)) (hK : T.K = X.K := by rfl) : PE X (.Compare a [.NotEq] [b] pos) (tD T (eC2 f g oNe)) :=
  PE.weak (pe_cmpR (op_neP (un180 rm)) ha hb (nomark _)) fun σ H Q z => eC2_le (hK ▸ oNe_ok) σ H Q z
/-! ### in, not in -/
def inD (xs : List PD) (d : PD) : Bool := xs.any fun y => PyData.eqv y d
def flatA (ds : List PD) : Bool := PyData.plainAll ds && decide (PyData.depthAll ds ≤ 100)
def hasD (kvs : List (PD × PD)) : PD → Option Bool
  | .int i => some (kvs.any fun p => match p.1 with
    | .int j => decide (j = i)
    | _ => false)
  | .str x => some (kvs.any fun p => match p.1 with
    | .str y => decide (y = x)
    | _ => false)
  | _ => none
def inO (d c : PD) : Option Bool := match c with
  | .list xs => if (flatD d && flatA xs) = true then some (inD xs d) else none
  | .tuple xs => if (flatD d && flatA xs) = true then some (inD xs d) else none
  | .dict kvs => hasD kvs d
  | _ => none
def oIn (d c : PD) : Option R := (inO d c).map fun b => .fz (.bool b)
def oNin (d c : PD) : Option R := (inO d c).map fun b => .fz (.bool (!b))
def rInP (K : Fg) (neg : Bool) : R2 := fun x y H Q => ∃ d ds, Dp K H x d ∧ flatD d = true ∧ flatA ds = true ∧ (Dp K H y (.list ds) ∨ Dp K H y (.tuple ds)) ∧ Q (.bl (if neg then !inD ds d else inD ds d)) H
theorem op_inP (hu : X.A.units + 180 < cLine) : OpR X (compareOp .In) (rInP X.K false) := by
  intro pins s σ H x y v u Q I rx ry h
  obtain ⟨d, ds, hd, fd, fa, hy, q⟩ := h
  obtain ⟨as, r1⟩ := Dp.reads I d x v hd rx
  unfold flatA at fa
  rw [Bool.and_eq_true] at fa
  have hm : min (PyData.depthAll ds) d.depth ≤ 100 := Nat.le_trans (Nat.min_le_right _ _) (flat_depth fd)
  rcases hy with hy | hy
  · obtain ⟨bs, r2⟩ := Dp.reads I _ y u hy ry
    exact SeqAt.in_list_data r2 r1 fa.1 (flat_plain fd) (by omega) ⟨.bl _, H, I, rfl, q⟩
  · obtain ⟨bs, r2⟩ := Dp.reads I _ y u hy ry
    exact SeqAt.in_tuple_data r2 r1 fa.1 (flat_plain fd) (by omega) ⟨.bl _, H, I, rfl, q⟩
theorem op_ninP (hu : X.A.units + 180 < cLine) : OpR X (compareOp .NotIn) (rInP X.K true) := by
  intro pins s σ H x y v u Q I rx ry h
  obtain ⟨d, ds, hd, fd, fa, hy, q⟩ := h
  obtain ⟨as, r1⟩ := Dp.reads I d x v hd rx
  unfold flatA at fa
  rw [Bool.and_eq_true] at fa
  have hm : min (PyData.depthAll ds) d.depth ≤ 100 := Nat.le_trans (Nat.min_le_right _ _) (flat_depth fd)
  rcases hy with hy | hy
  · obtain ⟨bs, r2⟩ := Dp.reads I _ y u hy ry
    exact SeqAt.notIn_list_data r2 r1 fa.1 (flat_plain fd) (by omega) ⟨.bl _, H, I, rfl, q⟩
  · obtain ⟨bs, r2⟩ := Dp.reads I _ y u hy ry
    exact SeqAt.notIn_tuple_data r2 r1 fa.1 (flat_plain fd) (by omega) ⟨.bl _, H, I, rfl, q⟩
def rInK (neg : Bool) : R2 := fun y x H Q => ∃ a es k, x = .ref a ∧ y = kV k ∧ Rd H a (.dK es) ∧ Q (.bl (if neg then !(valV es k).isSome else (valV es k).isSome)) H
theorem op_inK (hu : X.A.units + 1 < cLine) : OpR X (compareOp .In) (rInK false) := by
  intro pins s σ H x y v u Q I rx ry h
  obtain ⟨a, es, k, rfl, rfl, hd, q⟩ := h
  obtain rfl : u = Value.ref a := ry
  exact d_in hu I (.inl ⟨es, k, hd, rfl, rfl⟩) rx fun s3 I3 => ⟨.bl _, H, I3, rfl, q⟩
theorem op_ninK (hu : X.A.units + 1 < cLine) : OpR X (compareOp .NotIn) (rInK true) := by
  intro pins s σ H x y v u Q I rx ry h
  obtain ⟨a, es, k, rfl, rfl, hd, q⟩ := h
  obtain rfl : u = Value.ref a := ry
  exact d_notIn hu I (.inl ⟨es, k, hd, rfl, rfl⟩) rx fun s3 I3 => ⟨.bl _, H, I3, rfl, q⟩
theorem has_int {K : Fg} {H : Hp} {i : Int} : ∀ {kvs : List (PD × PD)} {es : List (Key × V)}, RpK K H kvs es → (kvs.any fun p => match p.1 with
    | .int j => decide (j = i)
    | _ => false) = (valV es (Sum.inl i)).isSome
  | [], es, r => by simp only [RpK] at r; subst r; rfl
  | (k, d) :: t, es, r => by
    simp only [RpK] at r
    obtain ⟨q, x, t', rfl, rfl, _, r'⟩ := r
    rw [List.any_cons, has_int r']
    cases q with
    | inl j =>
      by_cases e : j = i
      · subst e
        rw [valV_pos (p := (Sum.inl j, x)) rfl]
        simp [kD]
      · rw [valV_neg (p := (Sum.inl j, x)) (fun z => e (Sum.inl.inj z))]
        simp [kD, e]
    | inr j =>
      rw [valV_neg (p := (Sum.inr j, x)) (fun z => by cases z)]
      simp [kD]
theorem has_str {K : Fg} {H : Hp} {i : Str} : ∀ {kvs : List (PD × PD)} {es : List (Key × V)}, RpK K H kvs es → (kvs.any fun p => match p.1 with
    | .str j => decide (j = i)
    | _ => false) = (valV es (Sum.inr i)).isSome
  | [], es, r => by simp only [RpK] at r; subst r; rfl
  | (k, d) :: t, es, r => by
    simp only [RpK] at r
    obtain ⟨q, x, t', rfl, rfl, _, r'⟩ := r
    rw [List.any_cons, has_str r']
    cases q with
    | inr j =>
      by_cases e : j = i
      · subst e
        rw [valV_pos (p := (Sum.inr j, x)) rfl]
        simp [kD]
      · rw [valV_neg (p := (Sum.inr j, x)) (fun z => e (Sum.inr.inj z))]
        simp [kD, e]
    | inl j =>
      rw [valV_neg (p := (Sum.inl j, x)) (fun z => by cases z)]
      simp [kD]
theorem has_key {K : Fg} {H : Hp} {kvs : List (PD × PD)} {es : List (Key × V)} {d : PD} {v : V} {b : Bool} (r : RpK K H kvs es) (e : hasD kvs d = some b) (hv : Rp K H d v) : ∃ k : Key, v = kV k ∧ b = (valV es k).isSome := by
  unfold hasD at e
  split at e
  · rename_i i
    simp only [Rp] at hv
    exact ⟨Sum.inl i, hv, by rw [← has_int r]; exact (Option.some.inj e).symm⟩
  · rename_i x
    simp only [Rp] at hv
    exact ⟨Sum.inr x, hv, by rw [← has_str r]; exact (Option.some.inj e).symm⟩
  · cases e
def rInU (K : Fg) (neg : Bool) : R2 := fun x y H Q => rInP K neg x y H Q ∨ rInK neg x y H Q
theorem inO_ok {neg : Bool} : OpC2 T (fun d c => (inO d c).map fun b => .fz (.bool (if neg then !b else b))) (rInU T.K neg) := fun gh0 gh H0 H σ w x y d c Q s k c1 c2 z => by
  dsimp only at z
  cases e : inO d c with
  | none => rw [e] at z; exact z.none
  | some b =>
    rw [e] at z
    have q : Q (.bl (if neg then !b else b)) H := z.fz s k (by simp [Rp])
    unfold inO at e
    split at e
    · split at e
      · rename_i xs h
        rw [Bool.and_eq_true] at h
        cases e
        have hf : (PyData.list xs).plain = true := by
          have := h.2
          unfold flatA at this
          rw [Bool.and_eq_true] at this
          simpa [PyData.plain] using this.1
        exact .inl ⟨d, xs, c1.dp k.sub h.1, h.1, h.2, .inl (Rp.dp _ _ hf (c2.rp k.sub)), q⟩
      · cases e
    · split at e
      · rename_i xs h
        rw [Bool.and_eq_true] at h
        cases e
        have hf : (PyData.tuple xs).plain = true := by
          have := h.2
          unfold flatA at this
          rw [Bool.and_eq_true] at this
          simpa [PyData.plain] using this.1
        exact .inl ⟨d, xs, c1.dp k.sub h.1, h.1, h.2, .inr (Rp.dp _ _ hf (c2.rp k.sub)), q⟩
      · cases e
    · obtain ⟨a, es, rfl, q2, r2⟩ := c2.dict k.sub
      obtain ⟨kk, e1, e2⟩ := has_key (RpK.mono k.sub _ _ r2) e (c1.rp k.sub)
      rw [e2] at q
      exact .inr ⟨a, es, kk, rfl, e1, q2, q⟩
    · cases e
theorem d_in' {k : Nat} (rm : Rm k X.A) (ha : PE X a (tD T f)) (hb : PE X b (tD T g)) (hK : T.K = X.K := by rfl) (hm : behindInMarks .In b = false := by rfl) : PE X (.Compare a [.In] [b] pos) (tD T (eC2 f g oIn)) :=
  PE.weak (pe_cmpR ((op_inP (un180 rm)).or (op_inK (un1 rm))) ha hb hm) fun σ H Q z => eC2_le (r := rInU X.K false) (hK ▸ inO_ok (neg := false)) σ H Q z
theorem d_nin {k : Nat} (rm : Rm k X.A) (ha : PE X a (tD T f)) (hb : PE X b (tD T g)) (hK : T.K = X.K := by rfl) (hm : behindInMarks .NotIn b = false := by rfl) : PE X (.Compare a [.NotIn] [b] pos) (tD T (eC2 f g oNin)) :=
  PE.weak (pe_cmpR ((op_ninP (un180 rm)).or (op_ninK (un1 rm))) ha hb hm) fun σ H Q z => eC2_le (r := rInU X.K true) (hK ▸ inO_ok (neg := true)) σ H Q z
end
end DL
set_option maxHeartbeats 1000000
/-! DL8: built-in calls, subscripts, slices, comparisons as tests, chains, append, two stores at once. -/
namespace DL
open PySem PySem.Spec PyProof.Rows L2
variable [TbC]
section
variable {T : Tx} {X : Cx} {e e1 e2 a b c : Expr} {es : List Expr} {f g h : EF} {pos p p2 : Pos}
/-! ### built-in calls of one value -/
theorem d_b1 {id : String} {x : Str} {r : List V → Hp → VK → Prop} {op : PD → Option R} (hc : CallR X (.builtin id) r) (ho : OpC T op (fun v H Q => r [v] H Q)) (hm : X.mg x = none) (ha : PE X a (tD T f)) (hv : bootBuiltins x = some (.builtin id)) (hn : x ≠ "__name__" := by decide) (hdb : (x == ("__debug__" : Str)) = false := by decide) (hg : Gl X x := by rfl) (hs : starEach [a] X.env = (false, eval a X.env) :: starEach [] X.env := by rfl) :
    PE X (.Call (.Name x p) [a] [] pos) (tD T (eC f op)) := PE.weak (pe_callB hc hg hm hv (pa_cons ha pa_nil hs) hn hdb hs rfl) fun σ H Q z => eC_le ho σ H Q z
theorem d_t1 {id : String} {x : Str} {r : List V → Hp → VK → Prop} {op : PD → Option R} (hc : CallR X (.type id) r) (ho : OpC T op (fun v H Q => r [v] H Q)) (hm : X.mg x = none) (ha : PE X a (tD T f)) (hv : bootBuiltins x = some (.type id)) (hn : x ≠ "__name__" := by decide) (hdb : (x == ("__debug__" : Str)) = false := by decide) (hg : Gl X x := by rfl) (hs : starEach [a] X.env = (false, eval a X.env) :: starEach [] X.env := by rfl) :
    PE X (.Call (.Name x p) [a] [] pos) (tD T (eC f op)) := PE.weak (pe_callTy hc hg hm hv (pa_cons ha pa_nil hs) hn hdb hs rfl) fun σ H Q z => eC_le ho σ H Q z
def oLen : PD → Option R
  | .list ds => some (.fz (.int ds.length))
  | .tuple ds => some (.fz (.int ds.length))
  | .str x => if x.length < lim then some (.fz (.int x.length)) else none
  | _ => none
theorem oLen_ok : OpC T oLen (fun v H Q => ∃ x n, [v] = [x] ∧ LenV T.K x H n ∧ Q (.int n) H) := fun gh0 gh H0 H σ w v d Q s k c z => by
  unfold oLen at z
  split at z
  · obtain ⟨a, xs, rfl, q1, r1⟩ := c.list k.sub
    exact ⟨_, xs.length, rfl, .inl ⟨xs, .of q1, rfl⟩, by rw [r1.len]; exact z.fz s k (by simp [Rp])⟩
  · obtain ⟨a, xs, rfl, q1, r1⟩ := c.tuple k.sub
    exact ⟨_, xs.length, rfl, .inr ⟨xs, q1, rfl⟩, by rw [r1.len]; exact z.fz s k (by simp [Rp])⟩
  · split at z
    · rename_i x h
      have := c.str
      subst this
      exact ⟨.str x, x.length, rfl, ⟨lim_le h, rfl⟩, z.fz s k (by simp [Rp])⟩
    · exact z.none
  · exact z.none
theorem d_len (hm : X.mg "len" = none) (ha : PE X a (tD T f)) (hK : T.K = X.K := by rfl) (hg : Gl X "len" := by rfl) (hs : starEach [a] X.env = (false, eval a X.env) :: starEach [] X.env := by rfl) : PE X (.Call (.Name "len" p) [a] [] pos) (tD T (eC f oLen)) :=
  d_b1 call_len (hK ▸ oLen_ok) hm ha boot_len (hg := hg) (hs := hs)
def oTupOf : PD → Option R
  | .list ds => some (.fz (.tuple ds))
  | .tuple ds => some (.fz (.tuple ds))
  | _ => none
theorem oTupOf_ok : OpC T oTupOf (fun v H Q => ∃ p ys, [v] = [V.ref p] ∧ ((SqL T.K H p ys ∧ ∀ l, H l = none → Q (.ref l) (upd H l (.tup ys))) ∨ (SqT T.K H p ys ∧ Q (.ref p) H))) := fun gh0 gh H0 H σ w v d Q s k c z => by
  unfold oTupOf at z
  split at z
  · obtain ⟨a, xs, rfl, q1, r1⟩ := c.list k.sub
    exact ⟨a, xs, rfl, .inl ⟨.of q1, fun l hl => z.tup s k r1 hl⟩⟩
  · obtain ⟨a, xs, rfl, q1, r1⟩ := c.tupG
    exact ⟨a, xs, rfl, .inr ⟨sqT_mono k.sub q1, z.fz s k (rp_tup q1 r1)⟩⟩
  · exact z.none
theorem d_tupOf (hm : X.mg "tuple" = none) (ha : PE X a (tD T f)) (hK : T.K = X.K := by rfl) (hg : Gl X "tuple" := by rfl) (hs : starEach [a] X.env = (false, eval a X.env) :: starEach [] X.env := by rfl) : PE X (.Call (.Name "tuple" p) [a] [] pos) (tD T (eC f oTupOf)) :=
  d_t1 call_tuple_of (hK ▸ oTupOf_ok) hm ha boot_tuple (hg := hg) (hs := hs)
def oLstOf : PD → Option R
  | .list ds => some (.ow (.list ds))
  | .tuple ds => some (.ow (.list ds))
  | _ => none
theorem oLstOf_ok : OpC T oLstOf (fun v H Q => ∃ p ys, [v] = [V.ref p] ∧ (SqL T.K H p ys ∨ SqT T.K H p ys) ∧ ∀ l, H l = none → Q (.ref l) (upd H l (.lst ys))) := fun gh0 gh H0 H σ w v d Q s k c z => by
  unfold oLstOf at z
  split at z
  · obtain ⟨a, xs, rfl, q1, r1⟩ := c.list k.sub
    exact ⟨a, xs, rfl, .inl (.of q1), fun l hl => z.lst s k r1 hl⟩
  · obtain ⟨a, xs, rfl, q1, r1⟩ := c.tuple k.sub
    exact ⟨a, xs, rfl, .inr q1, fun l hl => z.lst s k r1 hl⟩
  · exact z.none
theorem d_lstOf (hm : X.mg "list" = none) (ha : PE X a (tD T f)) (hK : T.K = X.K := by rfl) (hg : Gl X "list" := by rfl) (hs : starEach [a] X.env = (false, eval a X.env) :: starEach [] X.env := by rfl) : PE X (.Call (.Name "list" p) [a] [] pos) (tD T (eC f oLstOf)) :=
  d_t1 call_list_of (hK ▸ oLstOf_ok) hm ha boot_list (hg := hg) (hs := hs)
def oAbs : PD → Option R
  | .int i => some (.fz (.int (if i < 0 then -i else i)))
  | _ => none
theorem d_abs (hm : X.mg "abs" = none) (ha : PE X a (tD T f)) (hg : Gl X "abs" := by rfl) (hs : starEach [a] X.env = (false, eval a X.env) :: starEach [] X.env := by rfl) : PE X (.Call (.Name "abs" p) [a] [] pos) (tD T (eC f oAbs)) :=
  d_b1 call_abs (fun gh0 gh H0 H σ w v d Q s k c z => by
    unfold oAbs at z
    split at z
    · exact ⟨_, by rw [c.int], z.fz s k (by simp [Rp])⟩
    · exact z.none) hm ha (by first | rfl | decide +kernel) (hg := hg) (hs := hs)
def oInt : PD → Option R
  | .int i => some (.fz (.int i))
  | .bool k => some (.fz (.int (if k then 1 else 0)))
  | _ => none
theorem d_intOf (hm : X.mg "int" = none) (ha : PE X a (tD T f)) (hg : Gl X "int" := by rfl) (hs : starEach [a] X.env = (false, eval a X.env) :: starEach [] X.env := by rfl) : PE X (.Call (.Name "int" p) [a] [] pos) (tD T (eC f oInt)) :=
  d_t1 call_int1 (fun gh0 gh H0 H σ w v d Q s k c z => by
    unfold oInt at z
    split at z
    · exact .inl ⟨_, by rw [c.int], z.fz s k (by simp [Rp])⟩
    · exact .inr ⟨_, by rw [c.bool], z.fz s k (by simp [Rp])⟩
    · exact z.none) hm ha (by first | rfl | decide +kernel) (hg := hg) (hs := hs)
/-- lists of truths -/
def bls : List PD → Option (List Bool)
  | [] => some []
  | .bool b :: r => (bls r).map (b :: ·)
  | _ => none
theorem bls_map : ∀ {ds : List PD} {bs : List Bool}, bls ds = some bs → ds = bs.map PyData.bool
  | [], bs, e => by cases e; rfl
  | .bool b :: r, bs, e => by
    unfold bls at e
    cases q : bls r with
    | none => rw [q] at e; cases e
    | some cs =>
      rw [q] at e
      cases e
      rw [List.map_cons, bls_map q]
  | .none :: _, _, e => by cases e
  | .int _ :: _, _, e => by cases e
  | .str _ :: _, _, e => by cases e
  | .list _ :: _, _, e => by cases e
  | .tuple _ :: _, _, e => by cases e
  | .dict _ :: _, _, e => by cases e
def oAny : PD → Option R
  | .list ds => (bls ds).map fun bs => .fz (.bool (bs.any id))
  | _ => none
def oAll : PD → Option R
  | .list ds => (bls ds).map fun bs => .fz (.bool (bs.all id))
  | _ => none
theorem d_any (hm : X.mg "any" = none) (ha : PE X a (tD T f)) (hK : T.K = X.K := by rfl) (hc : X.calm = true := by rfl) (hg : Gl X "any" := by rfl) (hs : starEach [a] X.env = (false, eval a X.env) :: starEach [] X.env := by rfl) : PE X (.Call (.Name "any" p) [a] [] pos) (tD T (eC f oAny)) :=
  d_b1 (cr_any hc) (fun gh0 gh H0 H σ w v d Q s k c z => by
    unfold oAny at z
    split at z
    · rename_i ds
      cases e : bls ds with
      | none => rw [e] at z; exact z.none
      | some bs =>
        rw [e] at z
        obtain ⟨a, xs, rfl, q1, r1⟩ := c.list k.sub
        rw [bls_map e] at r1
        have := RpA.of_bls r1
        subst this
        exact ⟨a, bs, rfl, .of q1, z.fz s k (by simp [Rp])⟩
    · exact z.none) hm ha (by first | rfl | decide +kernel) (hg := hg) (hs := hs)
theorem d_all (hm : X.mg "all" = none) (ha : PE X a (tD T f)) (hK : T.K = X.K := by rfl) (hc : X.calm = true := by rfl) (hg : Gl X "all" := by rfl) (hs : starEach [a] X.env = (false, eval a X.env) :: starEach [] X.env := by rfl) : PE X (.Call (.Name "all" p) [a] [] pos) (tD T (eC f oAll)) :=
  d_b1 (cr_all hc) (fun gh0 gh H0 H σ w v d Q s k c z => by
    unfold oAll at z
    split at z
    · rename_i ds
      cases e : bls ds with
      | none => rw [e] at z; exact z.none
      | some bs =>
        rw [e] at z
        obtain ⟨a, xs, rfl, q1, r1⟩ := c.list k.sub
        rw [bls_map e] at r1
        have := RpA.of_bls r1
        subst this
        exact ⟨a, bs, rfl, .of q1, z.fz s k (by simp [Rp])⟩
    · exact z.none) hm ha (by first | rfl | decide +kernel) (hg := hg) (hs := hs)
/-- two ints -/
theorem d_b2 {id : String} {x : Str} {r : List V → Hp → VK → Prop} {op : PD → PD → Option R} (hc : CallR X (.builtin id) r) (ho : OpC2 T op (fun v u H Q => r [v, u] H Q)) (hm : X.mg x = none) (ha : PE X a (tD T f)) (hb : PE X b (tD T g)) (hv : bootBuiltins x = some (.builtin id)) (hn : x ≠ "__name__" := by decide) (hdb : (x == ("__debug__" : Str)) = false := by decide) (hg : Gl X x := by rfl)
    (hs : starEach [a, b] X.env = (false, eval a X.env) :: starEach [b] X.env := by rfl) (hs2 : starEach [b] X.env = (false, eval b X.env) :: starEach [] X.env := by rfl) (hpl : (backTo pos (starEach [b] X.env)).any (·.1) = false := by rfl) :
    PE X (.Call (.Name x p) [a, b] [] pos) (tD T (eC2 f g op)) := PE.weak (pe_callB hc hg hm hv (pa_cons ha (pa_cons hb pa_nil hs2) hs) hn hdb hs hpl) fun σ H Q z => eC2_le ho σ H Q z
def oMin := oI2 (fun _ _ => true) fun i j => .int (if j < i then j else i)
def oMax := oI2 (fun _ _ => true) fun i j => .int (if j > i then j else i)
theorem d_min (hm : X.mg "min" = none) (ha : PE X a (tD T f)) (hb : PE X b (tD T g)) (hc : X.calm = true := by rfl) (hg : Gl X "min" := by rfl)
    (hs : starEach [a, b] X.env = (false, eval a X.env) :: starEach [b] X.env := by rfl) (hs2 : starEach [b] X.env = (false, eval b X.env) :: starEach [] X.env := by rfl) (hpl : (backTo pos (starEach [b] X.env)).any (·.1) = false := by rfl) : PE X (.Call (.Name "min" p) [a, b] [] pos) (tD T (eC2 f g oMin)) :=
  d_b2 (call_min2 hc) (fun gh0 gh H0 H σ w v u d d' Q s k c c' z => by
    unfold oMin oI2 at z
    split at z
    · rw [if_pos rfl] at z
      exact ⟨_, _, by rw [c.int, c'.int], z.fz s k (by simp [Rp])⟩
    · exact z.none) hm ha hb (by first | rfl | decide +kernel) (hg := hg) (hs := hs) (hs2 := hs2) (hpl := hpl)
theorem d_max (hm : X.mg "max" = none) (ha : PE X a (tD T f)) (hb : PE X b (tD T g)) (hc : X.calm = true := by rfl) (hg : Gl X "max" := by rfl)
    (hs : starEach [a, b] X.env = (false, eval a X.env) :: starEach [b] X.env := by rfl) (hs2 : starEach [b] X.env = (false, eval b X.env) :: starEach [] X.env := by rfl) (hpl : (backTo pos (starEach [b] X.env)).any (·.1) = false := by rfl) : PE X (.Call (.Name "max" p) [a, b] [] pos) (tD T (eC2 f g oMax)) :=
  d_b2 (call_max2 hc) (fun gh0 gh H0 H σ w v u d d' Q s k c c' z => by
    unfold oMax oI2 at z
    split at z
    · rw [if_pos rfl] at z
      exact ⟨_, _, by rw [c.int, c'.int], z.fz s k (by simp [Rp])⟩
    · exact z.none) hm ha hb (by first | rfl | decide +kernel) (hg := hg) (hs := hs) (hs2 := hs2) (hpl := hpl)

/-! ### isinstance(x, T), T a built-in type -/
def oIsa (B : PD → Bool) (d : PD) : Option R := if d.plain = true then some (.fz (.bool (B d))) else none
theorem d_isa {id : String} {B : PD → Bool} (hI : ∀ {M : Program} {w : World} {A : Around} {E : Value → Shared → Prop} {s : Shared} {v : Value} {d : PD} {as : List Addr} {Q : Value → Shared → Prop} (r : Reads s.heap v d as) (h : ∀ tk, s.toks ≤ tk → Q (.bool (B d)) { s with toks := tk }), wpAny (model M w) A (call (.builtin "isinstance") [v, .type id]) Q E s)
    (hb : PE X b (tC (.ty id))) (hm : X.mg "isinstance" = none) (ha : PE X a (tD T f)) (hK : T.K = X.K := by rfl) (hg : Gl X "isinstance" := by rfl)
    (hs : starEach [a, b] X.env = (false, eval a X.env) :: starEach [b] X.env := by rfl) (hs2 : starEach [b] X.env = (false, eval b X.env) :: starEach [] X.env := by rfl) (hpl : (backTo pos (starEach [b] X.env)).any (·.1) = false := by rfl) :
    PE X (.Call (.Name "isinstance" p) [a, b] [] pos) (tD T (eC f (oIsa B))) :=
  PE.weak (pe_callB (r := fun xs H Q => ∃ v d, xs = [v, .ty id] ∧ Dp X.K H v d ∧ Q (.bl (B d)) H) (fun pins s σ H xs us Q I r h => by
    obtain ⟨v, d, rfl, dp, q⟩ := h
    obtain ⟨u1, u2, rfl, r1, r2⟩ := vals2 r
    cases (show u2 = Value.type id from r2)
    obtain ⟨as, rd⟩ := Dp.reads I d v u1 dp r1
    exact hI rd fun tk _ => ⟨.bl (B d), H, I.tok tk, rfl, q⟩) hg hm (by first | rfl | decide +kernel) (pa_cons ha (pa_cons hb pa_nil hs2) hs) (he := hs) (hpl := hpl)) fun σ H Q z => eC_le (r := fun v H Q => ∃ d, Dp X.K H v d ∧ Q (.bl (B d)) H) (fun gh0 gh H0 H σ w v d Q s k c z => by
    unfold oIsa at z
    split at z
    · rename_i hp
      exact ⟨d, hK ▸ Rp.dp d v hp (c.rp k.sub), z.fz s k (by simp [Rp])⟩
    · exact z.none) σ H Q z |> fun q => eC_mono q
where
  eC_mono {σ : L2.St} {H : Hp} {Q : VK} (q : tD T f σ H fun x H1 => ∃ d, Dp X.K H1 x d ∧ Q (.bl (B d)) H1) : tCB (fun xs H Q => ∃ v d, xs = [v, .ty id] ∧ Dp X.K H v d ∧ Q (.bl (B d)) H) (tCons (tD T f) (tCons (tC (.ty id)) tNil)) σ H Q := by
    obtain ⟨gh, w, k, r, w', e, q1, q2⟩ := q
    refine ⟨gh, w, k, r, w', e, q1, fun v gh' H' s k' rv => ?_⟩
    obtain ⟨d, dp, z⟩ := q2 v gh' H' s k' rv
    exact ⟨v, d, rfl, dp, z⟩
end
end DL
set_option maxHeartbeats 1000000
/-! DL9: subscripts, slices, comparisons as tests, chains, append, two stores at once. -/
namespace DL
open PySem PySem.Spec PyProof.Rows L2
variable [TbC]
section
variable {T : Tx} {X : Cx} {e e1 e2 a b c : Expr} {es : List Expr} {f g h : EF} {pos p p2 : Pos}
/-! ### subscripts -/
theorem ixN_lt {n : Nat} {i : Int} {j : Nat} (h : ixN n i = some j) : j < n := (ixN_seq h).2.1
theorem RpA.atI {K : Fg} {H : Hp} {ds : List PD} {xs : List V} {i : Int} {d : PD} (r : RpA K H ds xs) (e : L2.atI ds i = some d) : ∃ x, L2.atI xs i = some x ∧ Rp K H d x := by
  unfold L2.atI at e ⊢
  rw [r.len]
  cases q : ixN ds.length i with
  | none => rw [q] at e; cases e
  | some j =>
    rw [q] at e
    obtain ⟨x, hx, rx⟩ := r.get e
    exact ⟨x, hx, rx⟩
/-- the value at a key -/
def keyOfD : PD → Option Key
  | .int i => some (.inl i)
  | .str x => some (.inr x)
  | _ => none
def getD' (kvs : List (PD × PD)) (k : Key) : Option PD := match kvs with
  | [] => none
  | (q, d) :: r => if keyOfD q = some k then some d else getD' r k
theorem RpK.getK {K : Fg} {H : Hp} {k : Key} {d : PD} : ∀ {kvs : List (PD × PD)} {es : List (Key × V)}, RpK K H kvs es → getD' kvs k = some d → ∃ x, valV es k = some x ∧ Rp K H d x
  | [], es, r, e => by cases e
  | (q, c) :: t, es, r, e => by
    simp only [RpK] at r
    obtain ⟨k', x, t', rfl, rfl, r1, r2⟩ := r
    unfold getD' at e
    by_cases z : k' = k
    · subst z
      have : keyOfD (kD k') = some k' := by cases k' <;> rfl
      rw [if_pos this] at e
      cases e
      exact ⟨x, valV_pos rfl, r1⟩
    · have : ¬ keyOfD (kD k') = some k := by
        intro y
        apply z
        cases k' <;> exact Option.some.inj y
      rw [if_neg this] at e
      rw [valV_neg (p := (k', x)) z]
      exact RpK.getK r2 e
def oIx : PD → PD → Option R
  | .list ds, .int i => (L2.atI ds i).map .fz
  | .tuple ds, .int i => (L2.atI ds i).map .fz
  | .str z, .int i => if z.length < lim then (L2.atI z.cps.toList i).map fun c => .fz (.str ⟨#[c]⟩) else none
  | .dict kvs, .int i => (getD' kvs (.inl i)).map .fz
  | .dict kvs, .str i => (getD' kvs (.inr i)).map .fz
  | _, _ => none

def rIxK : R2 := fun x y H Q => ∃ a kvs k v, x = .ref a ∧ y = kV k ∧ Rd H a (.dK kvs) ∧ valV kvs k = some v ∧ Q v H
theorem ix_kd (hu : X.A.units + 1 < cLine) : IxR X rIxK := by
  intro value slice pins s σ H x y v u Q I rx ry h hs
  obtain ⟨a, kvs, k, v', rfl, rfl, hd, e, q⟩ := h
  obtain rfl : v = Value.ref a := rx
  obtain ⟨_, hd2, vs, rel, dd⟩ := dk_rd I.hok hd
  exact tail_any dd.typeIs slot_dict_getitem.lookup (d_getItem hu I (.inl ⟨kvs, k, hd, rfl, e.symm⟩) ry fun w' s3 I3 r3 => ⟨v', H, I3, r3, q⟩) hs
def rIxU (K : Fg) : R2 := fun x y H Q => rIx K x y H Q ∨ rIxK x y H Q
theorem oIx_ok : OpC2 T oIx (rIxU T.K) := fun gh0 gh H0 H σ w x y d d' Q s k c1 c2 z => by
  unfold oIx at z
  split at z
  · rename_i ds i
    cases e : L2.atI ds i with
    | none => rw [e] at z; exact z.none
    | some d2 =>
      rw [e] at z
      obtain ⟨a, xs, rfl, q1, r1⟩ := c1.list k.sub
      obtain ⟨v, hv, rv⟩ := r1.atI e
      exact .inl (.inl ⟨a, xs, i, v, rfl, c2.int, .of q1, hv, z.fz s k rv⟩)
  · rename_i ds i
    cases e : L2.atI ds i with
    | none => rw [e] at z; exact z.none
    | some d2 =>
      rw [e] at z
      obtain ⟨a, xs, rfl, q1, r1⟩ := c1.tuple k.sub
      obtain ⟨v, hv, rv⟩ := r1.atI e
      exact .inl (.inr (.inl ⟨a, xs, i, v, rfl, c2.int, q1, hv, z.fz s k rv⟩))
  · rename_i t i
    split at z
    · rename_i hl
      cases e : L2.atI t.cps.toList i with
      | none => rw [e] at z; exact z.none
      | some d2 =>
        rw [e] at z
        exact .inl (.inr (.inr ⟨t, i, d2, c1.str, c2.int, lim_le hl, e, z.fz s k (by simp [Rp])⟩))
    · exact z.none
  · rename_i kvs i
    cases e : getD' kvs (.inl i) with
    | none => rw [e] at z; exact z.none
    | some d2 =>
      rw [e] at z
      obtain ⟨a, es, rfl, q1, r1⟩ := c1.dict k.sub
      obtain ⟨v, hv, rv⟩ := r1.getK e
      exact .inr ⟨a, es, .inl i, v, rfl, c2.int, q1, hv, z.fz s k rv⟩
  · rename_i kvs i
    cases e : getD' kvs (.inr i) with
    | none => rw [e] at z; exact z.none
    | some d2 =>
      rw [e] at z
      obtain ⟨a, es, rfl, q1, r1⟩ := c1.dict k.sub
      obtain ⟨v, hv, rv⟩ := r1.getK e
      exact .inr ⟨a, es, .inr i, v, rfl, c2.str, q1, hv, z.fz s k rv⟩
  · exact z.none
theorem d_ix {kk : Nat} (rm : Rm kk X.A) (ha : PE X a (tD T f)) (hb : PE X b (tD T g)) (hK : T.K = X.K := by rfl) (hs : PlainIx b := by exact fun _ _ => rfl) : PE X (.Subscript a b pos) (tD T (eC2 f g oIx)) :=
  PE.weak (pe_ix (ix_seq.or (ix_kd (un1 rm))) ha hb hs) fun σ H Q z => eC2_le (r := rIxU X.K) (hK ▸ oIx_ok) σ H Q z
/-! ### slices -/
def cutD (xs : List PD) (lo hi : Option Int) : List PD := (xs.drop (HT.sIx xs.length 0 lo)).take (HT.sIx xs.length xs.length hi - HT.sIx xs.length 0 lo)
theorem RpA.cut {K : Fg} {H : Hp} {ds : List PD} {xs : List V} (r : RpA K H ds xs) (lo hi : Option Int) : RpA K H (cutD ds lo hi) (cutV xs lo hi) := by
  unfold cutD cutV
  rw [r.len]
  exact (r.drop _).take _
def oCut (d : PD) (lo hi : Option Int) : Option R := match d with
  | .list ds => some (.ow (.list (cutD ds lo hi)))
  | .tuple ds => some (.fz (.tuple (cutD ds lo hi)))
  | _ => none
def rSlU (K : Fg) : V → Option Int → Option Int → Hp → VK → Prop := fun x lo hi H Q => rSlL K x lo hi H Q ∨ rSlA K x lo hi H Q
theorem oCut_ok {gh0 gh : Gh} {H0 H : Hp} {σ : L2.St} {w : Wt} {x : V} {d : PD} {lo hi : Option Int} {Q : VK} (s : Stp gh0 H0 gh H) (k : Ok T.K gh H σ w) (c1 : Cv T.K gh H d x) (z : Res T gh0 H0 σ ((oCut d lo hi).map fun q => (q, w)) Q) : rSlU T.K x lo hi H Q := by
  unfold oCut at z
  split at z
  · obtain ⟨a, xs, rfl, q1, r1⟩ := c1.list k.sub
    exact .inl ⟨a, xs, rfl, .of q1, fun p hp => z.lst s k (r1.cut lo hi) hp⟩
  · obtain ⟨a, xs, rfl, q1, r1⟩ := c1.tupG
    refine .inr ⟨a, xs, rfl, sqT_mono k.sub q1, fun hw => z.fz s k ?_, fun _ p hp => z.tup s k (r1.cut lo hi) hp⟩
    rw [r1.len] at hw
    have e : cutD _ lo hi = _ := (by unfold cutD; rw [hw.1, hw.2, Nat.sub_zero, List.drop_zero, List.take_length] : cutD _ lo hi = _)
    rw [e]
    exact rp_tup q1 r1
  · exact z.none
def oCutH (d i : PD) : Option R := match i with
  | .int i => oCut d none (some i)
  | _ => none
def oCutL (d i : PD) : Option R := match i with
  | .int i => oCut d (some i) none
  | _ => none
theorem d_cutH (ha : PE X a (tD T f)) (hb : PE X b (tD T g)) (hK : T.K = X.K := by rfl) : PE X (.Subscript a (.Slice none (some b) none p2) pos) (tD T (eC2 f g oCutH)) :=
  PE.weak (pe_slice (sl_list.or sl_tupA) ha po_none (po_some hb)) fun σ H Q z => eC2_le (r := fun x y H Q => ∃ i, y = .int i ∧ rSlU X.K x none (some i) H Q) (fun gh0 gh H0 H σ w x y d d' Q s k c1 c2 z => by
    unfold oCutH at z
    split at z
    · exact ⟨_, c2.int, hK ▸ oCut_ok s k c1 z⟩
    · exact z.none) σ H Q z
theorem d_cutL (ha : PE X a (tD T f)) (hb : PE X b (tD T g)) (hK : T.K = X.K := by rfl) : PE X (.Subscript a (.Slice (some b) none none p2) pos) (tD T (eC2 f g oCutL)) :=
  PE.weak (pe_slice (sl_list.or sl_tupA) ha (po_some hb) po_none) fun σ H Q z => eC2_le (r := fun x y H Q => ∃ i, y = .int i ∧ rSlU X.K x (some i) none H Q) (fun gh0 gh H0 H σ w x y d d' Q s k c1 c2 z => by
    unfold oCutL at z
    split at z
    · exact ⟨_, c2.int, hK ▸ oCut_ok s k c1 z⟩
    · exact z.none) σ H Q z
def oCutA (d : PD) : Option R := oCut d none none
theorem d_cutA (ha : PE X a (tD T f)) (hK : T.K = X.K := by rfl) : PE X (.Subscript a (.Slice none none none p2) pos) (tD T (eC f oCutA)) :=
  PE.weak (pe_slice (sl_list.or sl_tupA) ha po_none po_none) fun σ H Q z => eC_le (r := fun x H Q => rSlU X.K x none none H Q) (fun gh0 gh H0 H σ w x d Q s k c1 z => hK ▸ oCut_ok s k c1 z) σ H Q z
/-- a[b:c] -/
def kCut (h : EF) (r r' : R) (w : Wt) : Option (R × Wt) := match w.cont r' with
  | some (.int i) => eK (h w) fun r'' w' => (match w'.cont r, w'.cont r'' with
    | some d, some (.int j) => (oCut d (some i) (some j)).map fun q => (q, w')
    | _, _ => none)
  | _ => none
def eCut (f g h : EF) : EF := eB f fun r => eB g (kCut h r)
theorem Res.bind' {gh0 gh : Gh} {H0 H : Hp} {σ : L2.St} {o : Option (R × Wt)} {k : R → Wt → Option (R × Wt)} {Q : VK} (s : Stp gh0 H0 gh H) (h : Res T gh0 H0 σ (eK o k) Q) :
    Res T gh H σ o (fun v H1 => ∃ (gh1 : Gh) (w1 : Wt) (r : R), Stp gh H gh1 H1 ∧ Ok T.K gh1 H1 σ w1 ∧ RV T.K gh1 H H1 σ w1 v r ∧ Res T gh0 H0 σ (k r w1) Q) := by
  obtain ⟨r', w', e, h1, h2⟩ := h
  cases o with
  | none => exact nomatch e
  | some p =>
    obtain ⟨r, w⟩ := p
    cases r with
    | ex c x =>
      have e' : (R.ex c x, w) = (r', w') := Option.some.inj e
      cases e'
      exact ⟨.ex c x, _, rfl, fun c' x' z gh' H' s' k => h1 c' x' z gh' H' (s.trans s') k, fun v gh' H' _ _ rv => rv.elim⟩
    | fz d => exact ⟨.fz d, w, rfl, fun _ _ z => (nomatch z), fun v gh' H' s' k rv => ⟨gh', w, _, s', k, rv, r', w', e, h1, h2⟩⟩
    | ow d => exact ⟨.ow d, w, rfl, fun _ _ z => (nomatch z), fun v gh' H' s' k rv => ⟨gh', w, _, s', k, rv, r', w', e, h1, h2⟩⟩
    | pk d => exact ⟨.pk d, w, rfl, fun _ _ z => (nomatch z), fun v gh' H' s' k rv => ⟨gh', w, _, s', k, rv, r', w', e, h1, h2⟩⟩
theorem eB2_le {σ : L2.St} {k : R → R → Wt → Option (R × Wt)} {r : V → V → Hp → VK → Prop} (ho : ∀ (gh0 g1 g2 : Gh) (H0 H1 H2 : Hp) (w1 w2 : Wt) (x y : V) (r1 r2 : R) (Q : VK), Stp gh0 H0 g1 H1 → Ok T.K g1 H1 σ w1 → RV T.K g1 H0 H1 σ w1 x r1 → Stp g1 H1 g2 H2 → Ok T.K g2 H2 σ w2 → RV T.K g2 H1 H2 σ w2 y r2 → Res T gh0 H0 σ (k r1 r2 w2) Q → r x y H2 Q)
    (H : Hp) (Q : VK) (z : tD T (eB f fun r1 => eB g (k r1)) σ H Q) : tD T f σ H fun x H1 => tD T g σ H1 fun y H2 => r x y H2 Q := by
  obtain ⟨gh, w, k0, r0, w0, q1, q2, q3⟩ := tD.bind z
  refine ⟨gh, w, k0, r0, w0, q1, q2, fun v gh' H' s o rv => ?_⟩
  obtain ⟨g0, g1, w1, rr, h1, h2, h3, h4⟩ := q3 v gh' H' s o rv
  refine ⟨g1, w1, h2, ?_⟩
  have h5 := Res.bind' h1 (show Res T g0 H σ (eK (g w1) fun r' => k rr r') Q from h4)
  obtain ⟨r1, w2, p1, p2, p3⟩ := h5
  refine ⟨r1, w2, p1, p2, fun u gh2 H2 s2 o2 rv2 => ?_⟩
  obtain ⟨g2, w3, r3, z1, z2, z3, z4⟩ := p3 u gh2 H2 s2 o2 rv2
  exact ho g0 g1 g2 H H' H2 w1 w3 v u rr r3 Q h1 h2 h3 z1 z2 z3 z4
end
end DL
set_option maxHeartbeats 1000000
/-! DL10: comparisons as tests, chains, powers, append, two stores at once. -/
namespace DL
open PySem PySem.Spec PyProof.Rows L2
variable [TbC]
section
variable {T : Tx} {X : Cx} {e e1 e2 a b c : Expr} {es : List Expr} {f g h : EF} {pos p p2 : Pos}
/-! ### tests -/
theorem dt_cmp {op : CmpOp} {r : R2} {o : PD → PD → Option R} (ho : OpR X (compareOp op) r) (hq : OpC2 T o r) (ha : PE X a (tD T f)) (hb : PE X b (tD T g)) (hm : behindInMarks op b = false) : PT X (.Compare a [op] [b] pos) (tT T (tE (eC2 f g o))) :=
  PT.weak (pt_cmpR ho ha hb hm) fun σ H Q z => eC2_le hq σ H _ (tE_le σ H Q z)
theorem dt_lt (ha : PE X a (tD T f)) (hb : PE X b (tD T g)) : PT X (.Compare a [.Lt] [b] pos) (tT T (tE (eC2 f g oLt))) := dt_cmp op_lt (oI2_ok0 fun _ _ _ => by simp [Rp]) ha hb (nomark _)
theorem dt_le (ha : PE X a (tD T f)) (hb : PE X b (tD T g)) : PT X (.Compare a [.LtE] [b] pos) (tT T (tE (eC2 f g oLe))) := dt_cmp op_le (oI2_ok0 fun _ _ _ => by simp [Rp]) ha hb (nomark _)
theorem dt_gt (ha : PE X a (tD T f)) (hb : PE X b (tD T g)) : PT X (.Compare a [.Gt] [b] pos) (tT T (tE (eC2 f g oGt))) := dt_cmp op_gt (oI2_ok0 fun _ _ _ => by simp [Rp]) ha hb (nomark _)
theorem dt_ge (ha : PE X a (tD T f)) (hb : PE X b (tD T g)) : PT X (.Compare a [.GtE] [b] pos) (tT T (tE (eC2 f g oGe))) := dt_cmp op_ge (oI2_ok0 fun _ _ _ => by simp [Rp]) ha hb (nomark _)
theorem dt_eq {k : Nat} (rm : Rm k X.A) (ha : PE X a (tD T f)) (hb : PE X b (tD T g)) (hK : T.K = X.K := by rfl) : PT X (.Compare a [.Eq] [b] pos) (tT T (tE (eC2 f g oEq))) :=
  dt_cmp (r := rEqU X.K) ((op_eqP (un180 rm)).or (op_eqE (un0 rm))) (hK ▸ oEq_ok) ha hb (nomark _)
theorem dt_ne {k : Nat} (rm : Rm k X.A) (ha : PE X a (tD T f)) (hb : PE X b (tD T g)) (hK : T.K = X.K := by rfl) : PT X (.Compare a [.NotEq] [b] pos) (tT T (tE (eC2 f g oNe))) :=
  dt_cmp (op_neP (un180 rm)) (hK ▸ oNe_ok) ha hb (nomark _)
theorem dt_in {k : Nat} (rm : Rm k X.A) (ha : PE X a (tD T f)) (hb : PE X b (tD T g)) (hK : T.K = X.K := by rfl) (hm : behindInMarks .In b = false := by rfl) : PT X (.Compare a [.In] [b] pos) (tT T (tE (eC2 f g oIn))) :=
  dt_cmp (r := rInU X.K false) ((op_inP (un180 rm)).or (op_inK (un1 rm))) (hK ▸ inO_ok (neg := false)) ha hb hm
theorem dt_nin {k : Nat} (rm : Rm k X.A) (ha : PE X a (tD T f)) (hb : PE X b (tD T g)) (hK : T.K = X.K := by rfl) (hm : behindInMarks .NotIn b = false := by rfl) : PT X (.Compare a [.NotIn] [b] pos) (tT T (tE (eC2 f g oNin))) :=
  dt_cmp (r := rInU X.K true) ((op_ninP (un180 rm)).or (op_ninK (un1 rm))) (hK ▸ inO_ok (neg := true)) ha hb hm
/-! ### a op b op c, ints -/
def kChn (p q : Int → Int → Bool) (h : EF) (r r' : R) (w : Wt) : Option (R × Wt) := match w.cont r, w.cont r' with
  | some (.int i), some (.int j) => if p i j = true then eK (h w) (fun r'' w' => match w'.cont r'' with
    | some (.int k) => some (.fz (.bool (q j k)), w')
    | _ => none) else some (.fz (.bool false), w)
  | _, _ => none
def eChn (p q : Int → Int → Bool) (f g h : EF) : EF := eB f fun r => eB g (kChn p q h r)
theorem chn_le {op op' : Int → Int → Bool} (σ : L2.St) (H : Hp) (Q : VK) (z : tD T (eChn op op' f g h) σ H Q) : tChain (rI0 fun i j => .bl (op i j)) (rI0 fun i j => .bl (op' i j)) (tD T f) (tD T g) (tD T h) σ H Q :=
  eB2_le (σ := σ) (r := fun x y H2 Q => rI0 (fun i j => V.bl (op i j)) x y H2 fun z H3 => ∃ k, z = .bl k ∧ (if k = true then (tD T h) σ H3 fun w' H4 => rI0 (fun i j => V.bl (op' i j)) y w' H4 Q else Q (.bl false) H3)) (fun gh0 g1 g2 H0 H1 H2 w1 w2 x y r1 r2 Q s1 k1 rv1 s2 k2 rv2 z => by
    unfold kChn at z
    split at z
    · rename_i i j e1 e2
      have cx := (rv1.later s2 k2 e1).int
      have cy := (rv2.now k2 e2).int
      refine ⟨i, j, cx, cy, op i j, rfl, ?_⟩
      by_cases hp : op i j = true
      · rw [if_pos hp] at z ⊢
        have z2 := Res.bind (s1.trans s2) z
        refine ⟨g2, w2, k2, ?_⟩
        obtain ⟨r3, w3, p1, p2, p3⟩ := z2
        refine ⟨r3, w3, p1, p2, fun u gh2 H3 s3 o3 rv3 => ?_⟩
        obtain ⟨g4, w4, r4, y1, y2, y3, y4⟩ := p3 u gh2 H3 s3 o3 rv3
        split at y4
        · rename_i k e3
          exact ⟨j, k, cy, (y3.now y2 e3).int, y4.fz ((s1.trans s2).trans y1) y2 (by simp [Rp])⟩
        · exact y4.none
      · rw [if_neg hp] at z ⊢
        exact z.fz (s1.trans s2) k2 (by simp [Rp])
    · exact z.none) H Q z
theorem d_chLtLt (ha : PE X a (tD T f)) (hb : PE X b (tD T g)) (hc : PE X c (tD T h)) (hm : lastMarks [.Lt, .Lt] [b, c] = false := by with_unfolding_all rfl) : PE X (.Compare a [.Lt, .Lt] [b, c] pos) (tD T (eChn (fun i j => decide (i < j)) (fun i j => decide (i < j)) f g h)) := PE.weak (pe_chain op_lt op_lt ha hb hc hm) chn_le
theorem d_chLeLe (ha : PE X a (tD T f)) (hb : PE X b (tD T g)) (hc : PE X c (tD T h)) (hm : lastMarks [.LtE, .LtE] [b, c] = false := by with_unfolding_all rfl) : PE X (.Compare a [.LtE, .LtE] [b, c] pos) (tD T (eChn (fun i j => decide (i ≤ j)) (fun i j => decide (i ≤ j)) f g h)) := PE.weak (pe_chain op_le op_le ha hb hc hm) chn_le
theorem d_chLeLt (ha : PE X a (tD T f)) (hb : PE X b (tD T g)) (hc : PE X c (tD T h)) (hm : lastMarks [.LtE, .Lt] [b, c] = false := by with_unfolding_all rfl) : PE X (.Compare a [.LtE, .Lt] [b, c] pos) (tD T (eChn (fun i j => decide (i ≤ j)) (fun i j => decide (i < j)) f g h)) := PE.weak (pe_chain op_le op_lt ha hb hc hm) chn_le
theorem d_chLtLe (ha : PE X a (tD T f)) (hb : PE X b (tD T g)) (hc : PE X c (tD T h)) (hm : lastMarks [.Lt, .LtE] [b, c] = false := by with_unfolding_all rfl) : PE X (.Compare a [.Lt, .LtE] [b, c] pos) (tD T (eChn (fun i j => decide (i < j)) (fun i j => decide (i ≤ j)) f g h)) := PE.weak (pe_chain op_lt op_le ha hb hc hm) chn_le
theorem dt_chLtLt (ha : PE X a (tD T f)) (hb : PE X b (tD T g)) (hc : PE X c (tD T h)) (hm : lastMarks [.Lt, .Lt] [b, c] = false := by with_unfolding_all rfl) : PT X (.Compare a [.Lt, .Lt] [b, c] pos) (tT T (tE (eChn (fun i j => decide (i < j)) (fun i j => decide (i < j)) f g h))) := PT.weak (pt_chain op_lt op_lt ha hb hc hm) fun σ H Q z => chn_le σ H _ (tE_le σ H Q z)
theorem dt_chLeLe (ha : PE X a (tD T f)) (hb : PE X b (tD T g)) (hc : PE X c (tD T h)) (hm : lastMarks [.LtE, .LtE] [b, c] = false := by with_unfolding_all rfl) : PT X (.Compare a [.LtE, .LtE] [b, c] pos) (tT T (tE (eChn (fun i j => decide (i ≤ j)) (fun i j => decide (i ≤ j)) f g h))) := PT.weak (pt_chain op_le op_le ha hb hc hm) fun σ H Q z => chn_le σ H _ (tE_le σ H Q z)
theorem dt_chLeLt (ha : PE X a (tD T f)) (hb : PE X b (tD T g)) (hc : PE X c (tD T h)) (hm : lastMarks [.LtE, .Lt] [b, c] = false := by with_unfolding_all rfl) : PT X (.Compare a [.LtE, .Lt] [b, c] pos) (tT T (tE (eChn (fun i j => decide (i ≤ j)) (fun i j => decide (i < j)) f g h))) := PT.weak (pt_chain op_le op_lt ha hb hc hm) fun σ H Q z => chn_le σ H _ (tE_le σ H Q z)
theorem dt_chLtLe (ha : PE X a (tD T f)) (hb : PE X b (tD T g)) (hc : PE X c (tD T h)) (hm : lastMarks [.Lt, .LtE] [b, c] = false := by with_unfolding_all rfl) : PT X (.Compare a [.Lt, .LtE] [b, c] pos) (tT T (tE (eChn (fun i j => decide (i < j)) (fun i j => decide (i ≤ j)) f g h))) := PT.weak (pt_chain op_lt op_le ha hb hc hm) fun σ H Q z => chn_le σ H _ (tE_le σ H Q z)
/-! ### powers, slices by two ends -/
def cPow (i j : Int) : Bool := decide (0 ≤ j) && (decide (j ≤ 1000000) && decide (i.natAbs < 18446744073709551616))
def oPow := oI2 cPow fun i j => .int (i ^ j.toNat)
theorem d_pow (ha : PE X a (tD T f)) (hb : PE X b (tD T g)) : PE X (.BinOp a .Pow b pos) (tD T (eC2 f g oPow)) := PE.weak (pe_op op_pow ha hb) fun σ H Q z => eC2_le (oI2_ok (fun i j h => by
  unfold cPow at h
  rw [Bool.and_eq_true, Bool.and_eq_true] at h
  exact ⟨of_decide_eq_true h.1, of_decide_eq_true h.2.1, of_decide_eq_true h.2.2⟩) fun _ _ _ => by simp [Rp]) σ H Q z
/-- -e -/
def oNeg : PD → Option R
  | .int i => some (.fz (.int (-i)))
  | _ => none
theorem d_cut (ha : PE X a (tD T f)) (hb : PE X b (tD T g)) (hc : PE X c (tD T h)) (hK : T.K = X.K := by rfl) : PE X (.Subscript a (.Slice (some b) (some c) none p2) pos) (tD T (eCut f g h)) :=
  PE.weak (pe_slice (sl_list.or sl_tupA) ha (po_some hb) (po_some hc)) fun σ H Q z => by
    refine eB2_le (σ := σ) (k := kCut h) (r := fun x y H2 Q => ∃ i, y = .int i ∧ tD T h σ H2 fun z H3 => ∃ j, z = .int j ∧ rSlU X.K x (some i) (some j) H3 Q) (fun gh0 g1 g2 H0 H1 H2 w1 w2 x y r1 r2 Q s1 k1 rv1 s2 k2 rv2 z => ?_) H Q z
    unfold kCut at z
    split at z
    · rename_i i e1
      have z2 := Res.bind (s1.trans s2) z
      obtain ⟨r3, w3, p1, p2, p3⟩ := z2
      refine ⟨i, (rv2.now k2 e1).int, g2, w2, k2, r3, w3, p1, p2, fun u gh2 H3 s3 o3 rv3 => ?_⟩
      obtain ⟨g4, w4, r4, y1, y2, y3, y4⟩ := p3 u gh2 H3 s3 o3 rv3
      split at y4
      · rename_i d j e3 e4
        exact ⟨j, (y3.now y2 e4).int, hK ▸ oCut_ok ((s1.trans s2).trans y1) y2 (rv1.later (s2.trans y1) y2 e3) y4⟩
      · exact y4.none
    · exact z.none
theorem d_neg (ha : PE X a (tD T f)) : PE X (.UnaryOp .USub a pos) (tD T (eC f oNeg)) := PE.weak (pe_un un_neg ha) fun σ H Q z => eC_le (r := rU fun i => .int (-i)) (fun gh0 gh H0 H σ w v d Q s k c z => by
  unfold oNeg at z
  split at z
  · exact ⟨_, c.int, z.fz s k (by simp [Rp])⟩
  · exact z.none) σ H Q z
/-! ### found.append(e), found one's own -/
def gApp (i : Nat) (f : EF) : SF := fun w => match w.sl[i]? with
  | some (.o (.list _)) => (match eF f w with
    | some (.fz y, w1) => (match w1.sl[i]? with
      | some (.o (.list ds)) => if ds.length < lim then some (.nx (w1.at i (.o (.list (ds ++ [y]))))) else none
      | _ => none)
    | some (.ex c x, w1) => some (.ex c x w1)
    | _ => none)
  | _ => none
theorem Ok.app {K : Fg} {gh : Gh} {H : Hp} {σ : L2.St} {w : Wt} {i : Nat} {ds : List PD} {y : PD} {a : Addr} {xs : List V} {v : V} (k : Ok K gh H σ w) (e : w.sl[i]? = some (.o (.list ds))) (e0 : gh.ow i = some a) (hx : H a = some (.lst xs)) (rx : RpA K gh.G ds xs) (rv : Rp K gh.G y v) :
    Stp gh H gh (upd H a (.lst (xs ++ [v]))) ∧ Ok K gh (upd H a (.lst (xs ++ [v]))) σ (w.at i (.o (.list (ds ++ [y])))) := by
  have hM : gh.M a := .inl ⟨i, e0⟩
  have hi : i < w.sl.length := (List.getElem?_eq_some_iff.mp e).1
  have ga := k.dis a hM
  refine ⟨⟨fun _ _ h => h, fun b o q n => ?_, fun b q => ?_, fun b o q => .inl q, fun b m => .inl m, rfl, rfl⟩, ⟨?_, fun b o q => ?_, fun j d q => ?_, fun j ns q => ?_, fun j d q => ?_, fun j b q => ?_, k.inj, fun j q => ?_, fun p q => ?_, k.sap, k.dis, fun p q => (let h := k.tab p q; h.mono (fun _ _ h => h) (let ⟨ps, h1, _⟩ := h; upd_ne fun z => by rw [z, hx] at h1; cases h1)), k.tbw⟩⟩
  · rw [upd_ne (show b ≠ a from fun z => n (by rw [z]; exact hM))]; exact q
  · by_cases z : b = a
    · subst z; rw [upd_same] at q; cases q
    · rw [upd_ne z] at q; exact q
  · show σ.length = (w.sl.set i _).length
    rw [List.length_set]; exact k.len
  · have z : b ≠ a := fun z => by subst z; rw [ga] at q; cases q
    rw [upd_ne z]; exact k.sub b o q
  · have q : (w.sl.set i _)[j]? = some (.v d) := q
    by_cases z : i = j
    · subst z; rw [List.getElem?_set_self hi] at q; cases q
    · rw [List.getElem?_set_ne z] at q; exact k.val j d q
  · have q : (w.sl.set i _)[j]? = some (.sc ns) := q
    by_cases z : i = j
    · subst z; rw [List.getElem?_set_self hi] at q; cases q
    · rw [List.getElem?_set_ne z] at q; exact k.scr j ns q
  · have q : (w.sl.set i _)[j]? = some (.o d) := q
    by_cases z : i = j
    · subst z
      rw [List.getElem?_set_self hi] at q
      cases q
      obtain ⟨b, q0, q1, _⟩ := k.own i _ e
      rw [e0] at q0
      cases q0
      exact ⟨a, e0, q1, _, upd_same, RpA.append rx (RpA.cons rv RpA.nil)⟩
    · rw [List.getElem?_set_ne z] at q
      obtain ⟨b, q0, q1, r⟩ := k.own j d q
      have hne : b ≠ a := fun y => z (k.inj i j a e0 (y ▸ q0))
      exact ⟨b, q0, q1, r.mono (fun _ _ h => h) (upd_ne hne)⟩
  · obtain ⟨d, r⟩ := k.onl j b q
    by_cases z : i = j
    · subst z; exact ⟨_, List.getElem?_set_self hi⟩
    · exact ⟨d, by show (w.sl.set i _)[j]? = _; rw [List.getElem?_set_ne z]; exact r⟩
  · have q : (w.sl.set i _)[j]? = some .st := q
    by_cases z : i = j
    · subst z; rw [List.getElem?_set_self hi] at q; cases q
    · rw [List.getElem?_set_ne z] at q; exact k.st j q
  · obtain ⟨n1, n2⟩ := k.sap p i a q e0
    exact (k.src p q).mono (fun _ _ h => h) (upd_ne (Ne.symm n1)) (upd_ne (Ne.symm n2))
theorem d_app (i : Nat) {x : Str} {xp apos cpos : Pos} (he : PE X e (tD T f)) (hN : X.N[i]? = some x := by rfl) (hv : Vis X.env.scope x := by first | exact Or.inl rfl | exact Or.inr (Or.inl rfl) | exact Or.inr (Or.inr rfl)) (hd : (x == ("__debug__" : Str)) = false := by decide) (hcd : (x == ("__classdict__" : Str)) = false := by decide)
    (hbase : attributeBase (.Name x xp) "append" X.env (eval (.Name x xp) X.env) = eval (.Name x xp) X.env := by rfl)
    (hfew : ((backTo cpos (starEach [e] X.env)).all (fun x => !x.1) && (backToKw cpos (keywordEach [] X.env)).all (fun x => x.1.isSome) && decide (([e] : List Expr).length + ([] : List Keyword).length + (if ([] : List Keyword).isEmpty then 0 else 1) < 30)) = true := by rfl)
    (hline : (apos.endLine == cpos.line) = true := by rfl) (hs : starEach [e] X.env = (false, eval e X.env) :: starEach [] X.env := by rfl)
    (hsw : swapsWith (.Call (.Attribute (.Name x xp) "append" apos) [e] [] cpos) none pos.line X.env = pure false := by rfl) : PS X (.Expr (.Call (.Attribute (.Name x xp) "append" apos) [e] [] cpos) pos) (tS T (gApp i f)) :=
  PS.weak (ps_expr (pe_bm PySem.F.plainAttrs_list PySem.F.slot_list_append PySem.F.type_list_append mt_append (pe_var hN hv hd hcd) (pa_cons he pa_nil hs) hbase hfew hline hs rfl) hsw) fun D σ H z => by
    obtain ⟨gh, w, k, out, z, q⟩ := z
    unfold gApp at z
    split at z
    · rename_i ds0 e0
      obtain ⟨a, q0, q1, xs0, hx0, rx0⟩ := k.own i _ e0
      refine ⟨.ref a, q1, ?_, ?_⟩
      · exact .inl ⟨rfl, xs0, .of hx0⟩
      refine eF_le _ _ _ ⟨gh, w, k, ?_⟩
      split at z
      · rename_i y w1 y1
        rw [y1]
        split at z
        · rename_i ds e1
          split at z
          · rename_i hl
            cases z
            refine ⟨.fz y, w1, rfl, fun _ _ z => (nomatch z), fun v gh' H' s' k' rv => ?_⟩
            obtain ⟨a', p0, p1, xs, hx, rx⟩ := k'.own i _ e1
            rw [q1] at p1
            cases p1
            obtain ⟨s2, k2⟩ := k'.app e1 p0 hx rx rv
            exact ⟨a, xs, v, rfl, rfl, hx, by rw [rx.len]; exact Nat.lt_trans hl lim_line, q σ gh' _ (s'.trans s2) k2⟩
          · cases z
        · cases z
      · rename_i c x w1 y1
        rw [y1]
        cases z
        exact ⟨.ex c x, _, rfl, fun c' x' z gh' H' s' k => by cases z; exact q σ gh' H' s' k, fun v gh' H' _ _ rv => rv.elim⟩
      · cases z
    · cases z
/-! ### two stores at once -/
/-- what is one's own elsewhere is given up; what is fresh stays fresh -/
def kPk (k : R → Wt → Option Out) (r : R) (w : Wt) : Option Out := match r with
  | .pk i => (w.freeze (.pk i)).bind fun p => k (.fz p.1) p.2
  | r => k r w
theorem RV.keep {K : Fg} {g1 g2 : Gh} {H0 H1 H2 : Hp} {σ σ' : L2.St} {w1 w2 : Wt} {v : V} {r : R} (h : RV K g1 H0 H1 σ w1 v r) (hn : ∀ i, r ≠ .pk i) (s : Stp g1 H1 g2 H2) : RV K g2 H0 H2 σ' w2 v r := by
  cases r with
  | fz d => exact Rp.mono s.sub _ _ h
  | ow d =>
    obtain ⟨a, e, h0, h1, h2, h3⟩ := h
    obtain ⟨o, ho⟩ := h3.there
    refine ⟨a, e, h0, ?_, fun m => ?_, h3.mono s.sub ((s.keep a o ho h2).trans ho.symm)⟩
    · cases q : g2.G a with
      | none => rfl
      | some o' =>
        rcases s.gnew a o' q with z | z | z | ⟨φ, z⟩
        · rw [h1] at z; cases z
        · rw [ho] at z; cases z
        · exact absurd z h2
        · exact absurd z (h3.nx φ)
    · rcases s.mnew a m with z | z
      · exact h2 z
      · rw [ho] at z; cases z
  | pk i => exact absurd rfl (hn i)
  | ex c x => exact h.elim
theorem SRes.exprP {gh0 gh : Gh} {H0 H : Hp} {σ : L2.St} {o : Option (R × Wt)} {k : R → Wt → Option Out} {D : Ends} (sb : Stp gh0 H0 gh H) (z : SRes T gh0 H0 (kS o (kPk k)) D) :
    Res T gh H σ o (fun v H1 => ∃ (gh1 : Gh) (w1 : Wt) (r : R), Stp gh H gh1 H1 ∧ Ok T.K gh1 H1 σ w1 ∧ RV T.K gh1 H H1 σ w1 v r ∧ (∀ i, r ≠ .pk i) ∧ SRes T gh0 H0 (k r w1) D) := by
  cases o with
  | none => exact z.none
  | some p =>
    obtain ⟨r, w⟩ := p
    cases r with
    | ex c x =>
      obtain ⟨out, e, q⟩ := z
      cases e
      exact ⟨.ex c x, _, rfl, fun c' x' z gh' H' s' k => by cases z; exact q σ gh' H' (sb.trans s') k, fun v gh' H' _ _ rv => rv.elim⟩
    | fz d => exact ⟨.fz d, _, rfl, fun _ _ z => (nomatch z), fun v gh' H' s' k rv => ⟨gh', w, _, s', k, rv, fun i e => (nomatch e), z⟩⟩
    | ow d => exact ⟨.ow d, _, rfl, fun _ _ z => (nomatch z), fun v gh' H' s' k rv => ⟨gh', w, _, s', k, rv, fun i e => (nomatch e), z⟩⟩
    | pk i =>
      refine ⟨.pk i, _, rfl, fun _ _ z => (nomatch z), fun v gh' H' s' k' rv => ?_⟩
      have z : SRes T gh0 H0 ((w.freeze (.pk i)).bind fun p => k (.fz p.1) p.2) D := z
      cases y : w.freeze (.pk i) with
      | none => rw [y] at z; exact z.none
      | some p =>
        obtain ⟨d, w2⟩ := p
        rw [y] at z
        obtain ⟨g2, s2, k2, r2⟩ := rv.freeze s' k' y
        exact ⟨g2, w2, .fz d, s2, k2, r2, fun i e => (nomatch e), z⟩
def gPar (i j : Nat) (f g : EF) : SF := fun w => kS (f w) (kPk fun r w1 => kS (g w1) (kPk fun r' w2 => (w2.put j r').bind fun w3 => (w3.put i r).map .nx))
theorem gPar_le {i j : Nat} (hij : i ≠ j) (D : Ends) (σ : L2.St) (H : Hp) (z : tS T (gPar i j f g) D σ H) : tD T f σ H fun x H1 => tD T g σ H1 fun y H2 => ∀ H3, (∀ gh w, Ok T.K gh H2 σ w → Ok T.K gh H3 σ w ∧ Stp gh H2 gh H3) → D.nx ((σ.set i (some x)).set j (some y)) H3 := by
  obtain ⟨gh, w, k, z⟩ := z
  obtain ⟨r, w', e, q1, q2⟩ := SRes.exprP (σ := σ) (Stp.refl _ _) z
  refine ⟨gh, w, k, r, w', e, q1, fun x gh' H' s k' rv => ?_⟩
  obtain ⟨gh1, w1, r1, s1, k1, rv1, np1, z1⟩ := q2 x gh' H' s k' rv
  obtain ⟨r2, w2, e2, p1, p2⟩ := SRes.exprP (σ := σ) s1 z1
  refine ⟨gh1, w1, k1, r2, w2, e2, p1, fun y gh2 H2' s2 k2 rv2 H2 hH => ?_⟩
  obtain ⟨gh3, w3, r3, s3, k3, rv3, np3, z3⟩ := p2 y gh2 H2' s2 k2 rv2
  obtain ⟨k3, sg⟩ := hH gh3 w3 k3
  have rv3 : RV T.K gh3 H' H2 σ w3 y r3 := rv3.keep np3 sg
  have s3 := s3.trans sg
  cases y3 : w3.put j r3 with
  | none => rw [y3] at z3; exact z3.none
  | some w4 =>
    rw [y3] at z3
    simp only [Option.bind_some] at z3
    obtain ⟨gh4, s4, k4⟩ := rv3.put s3 k3 y3
    cases y4 : w4.put i r1 with
    | none => rw [y4] at z3; exact z3.none
    | some w5 =>
      rw [y4] at z3
      have rv4 : RV T.K gh4 H H2 (σ.set j (some y)) w4 x r1 := rv1.keep np1 s4
      obtain ⟨gh5, s5, k5⟩ := rv4.put (s1.trans s4) k4 y4
      obtain ⟨out, e5, q5⟩ := z3
      cases e5
      rw [List.set_comm _ _ hij]
      exact q5 _ gh5 H2 s5 k5
/-- a, b = e1, e2: plain local names -/
theorem d_par (i j : Nat) {x y : Str} {px py pt : Pos} {kt k2 : Nat} {pt2 : Pos} (ha : PE X a (tD T f)) (hb : PE X b (tD T g)) (hN : X.N.Nodup := by assumption) (hi : X.N[i]? = some x := by rfl) (hj : X.N[j]? = some y := by rfl) (hx : X.env.scope.names.lookup x = some .local := by rfl) (hy : X.env.scope.names.lookup y = some .local := by rfl)
    (hij : i ≠ j := by decide) (hc : X.calm = true := by rfl) (hs1 : starEach [a, b] X.env = (false, eval a X.env) :: starEach [b] X.env := by rfl) (hs2 : starEach [b] X.env = (false, eval b X.env) :: starEach [] X.env := by rfl)
    (hw : swappedStores [.Tuple [.Name x px, .Name y py] kt pt] (.Tuple [a, b] k2 pt2) X.env = pure (some [x, y]) := by rfl) (hs : swapsWithSole [.Tuple [.Name x px, .Name y py] kt pt] (.Tuple [a, b] k2 pt2) pos.line X.env = pure false := by rfl) :
    PS X (.Assign [.Tuple [.Name x px, .Name y py] kt pt] (.Tuple [a, b] k2 pt2) pos) (tS T (gPar i j f g)) :=
  PS.weak (ps_par hc hN hi hj hij hx hy (pa_cons ha (pa_cons hb pa_nil hs2) hs1) hw hs) fun D σ H z => by
    obtain ⟨gh, w, k, r, w', e, q1, q2⟩ := gPar_le hij D σ H z
    refine ⟨gh, w, k, r, w', e, q1, fun x gh' H' s k' rv => ?_⟩
    obtain ⟨gh1, w1, k1, r1, w1', e1, p1, p2⟩ := q2 x gh' H' s k' rv
    exact ⟨gh1, w1, k1, r1, w1', e1, p1, fun y gh2 H2 s2 k2 rv2 => ⟨x, y, rfl, p2 y gh2 H2 s2 k2 rv2 H2 fun gh w k => ⟨k, Stp.refl _ _⟩⟩⟩
/-- the same, at least one of them in a cell: the pair is laid and taken apart -/
theorem d_parC (i j : Nat) {x y : Str} {px py pt : Pos} {kt k2 : Nat} {pt2 : Pos} (ha : PE X a (tD T f)) (hb : PE X b (tD T g)) (hN : X.N.Nodup := by assumption) (hi : X.N[i]? = some x := by rfl) (hj : X.N[j]? = some y := by rfl) (hx : Loc X.env.scope x := by first | exact Or.inl rfl | exact Or.inr rfl) (hy : Loc X.env.scope y := by first | exact Or.inl rfl | exact Or.inr rfl)
    (hfx : X.fn x = true ∨ X.env.scope.names.lookup x = some .local := by first | exact .inl rfl | exact .inr rfl | assumption) (hfy : X.fn y = true ∨ X.env.scope.names.lookup y = some .local := by first | exact .inl rfl | exact .inr rfl | assumption)
    (hij : i ≠ j := by decide) (hK : T.K = X.K := by rfl) (hc : X.calm = true := by rfl) (hs1 : starEach [a, b] X.env = (false, eval a X.env) :: starEach [b] X.env := by rfl) (hs2 : starEach [b] X.env = (false, eval b X.env) :: starEach [] X.env := by rfl)
    (hw : swappedStores [.Tuple [.Name x px, .Name y py] kt pt] (.Tuple [a, b] k2 pt2) X.env = pure none := by rfl) (hs : swapsWithSole [.Tuple [.Name x px, .Name y py] kt pt] (.Tuple [a, b] k2 pt2) pos.line X.env = pure false := by rfl)
    (h1 : (assignEach [.Tuple [.Name x px, .Name y py] kt pt] X.env).map (·.2) = [assign (.Tuple [.Name x px, .Name y py] kt pt) X.env] := by rfl) (hn : (assignEach [.Name x px, .Name y py] X.env).length = 2 := by rfl) (hst : (assignEach [.Name x px, .Name y py] X.env).findIdx? (·.1) = none := by rfl)
    (hg1 : (assignEach (.Name x px :: [.Name y py]) X.env).map (·.2) = assign (.Name x px) X.env :: (assignEach [.Name y py] X.env).map (·.2) := by rfl) (hg2 : (assignEach (.Name y py :: []) X.env).map (·.2) = assign (.Name y py) X.env :: (assignEach [] X.env).map (·.2) := by rfl) :
    PS X (.Assign [.Tuple [.Name x px, .Name y py] kt pt] (.Tuple [a, b] k2 pt2) pos) (tS T (gPar i j f g)) :=
  PS.weak (ps_asg (pe_tup (pa_cons ha (pa_cons hb pa_nil hs2) hs1)) (pg_tup hc (pgs_cons (pg_name hN hi hx hfx) (pgs_cons (pg_name hN hj hy hfy) pgs_nil hg2) hg1) hn hst) hs hw h1) fun D σ H z => by
    obtain ⟨gh, w, k, r, w', e, q1, q2⟩ := gPar_le hij D σ H z
    refine ⟨gh, w, k, r, w', e, q1, fun x gh' H' s' k' rv => ?_⟩
    obtain ⟨gh1, w1, k1, r1, w1', e1, p1, p2⟩ := q2 x gh' H' s' k' rv
    refine ⟨gh1, w1, k1, r1, w1', e1, p1, fun y gh2 H2 s2 k2 rv2 => ⟨by show 2 ≤ sizeLine; decide, fun p hp => ?_⟩⟩
    refine ⟨p, [x, y], rfl, .of upd_same, rfl, x, [y], rfl, y, [], rfl, rfl, ?_⟩
    exact p2 y gh2 H2 s2 k2 rv2 _ fun gh w k => ⟨k.grow hp _, Stp.grow (K := T.K) hp _⟩
end
end DL
set_option maxHeartbeats 4000000
/-! DS1: sorted(set(x)) of ints, x a list or a tuple. -/
namespace DL
open PySem PySem.Spec PyProof.Rows L2
section
variable {P : Program} {w : World} {A : Around} {E : Value → Shared → Prop} {s : Shared}
/-- the new set's object -/
abbrev newSet (w : World) : Obj := { cls := .type "set", dict := none, data := .set #[] 0 (.fresh 0 0 (!w.params.followText "set-order")) }
theorem set_of_list {l : Addr} {items : Array Value} (ns : List Int) {Q : Value → Shared → Prop} (hh : A.handled = none) (hl : s.heap.IsList l items) (hit : IntsAre items.toList ns) (hb : ns.length + 1 < scanBound)
    (h : ∀ (h' : Heap) (tk c : Nat), SetR w h' s.heap.objs.size (fun j => decide (j ∈ ns)) c → c ≤ ns.length → (∀ b o, s.heap.get? b = some o → h'.get? b = some o) → Q (.ref s.heap.objs.size) { s with heap := h', toks := tk }) :
    wpAny (model P w) A (call (.type "set") [.ref l]) Q E s := by
  have hn : items.size = ns.length := by
    have q := IntsAre.length hit
    rwa [Array.length_toList] at q
  obtain ⟨c, tl, hmro⟩ := F.called_set.mro
  have hmade := F.called_set.made
  have hsub := F.called_set.sub
  have h1 := F.called_set.notType
  have h2 := F.called_set.canCreate
  have hct := F.typeCall_set_1 (.ref l)
  refine wpAny_call (codeAny_of_tree ?_)
  show wpAny _ _ (callAny (.type "set") _) _ _ _
  refine wpAny_pure ⟨Code.quiet_builtin _ (by decide +kernel), codeAny_builtin F.entry_type_call ?_⟩
  rw [Around.under_plain (weight_type_call_type "set" [.ref l] []) rfl]
  repeat (any_goals (first | assumption | wp_step))
  -- set.__new__
  refine codeAny_mono (code_set_led1 (.ref l) (E := E) (Q₁ := fun obj s₁ => obj = .ref s.heap.objs.size ∧ s₁ = { s with heap := s.heap.push (newSet w) }) ⟨rfl, rfl⟩) fun r s₁ hr => ?_
  cases r with
  | error e => exact hr
  | ok fl =>
    cases fl with
    | next => exact hr.elim
    | brk => exact hr.elim
    | cont => exact hr.elim
    | ret obj =>
      obtain ⟨rfl, rfl⟩ := hr
      have hS : (s.heap.push (newSet w)).get? s.heap.objs.size = some (newSet w) := Heap.get?_push_size _ rfl
      have hT : Shared.TypeIs { s with heap := s.heap.push (newSet w) } (.ref s.heap.objs.size) "set" := ⟨_, hS, rfl⟩
      have hli := F.called_set.init.lookup
      have hbi := F.called_set.init.bind (.ref s.heap.objs.size)
      repeat (any_goals (first | assumption | wp_step))
      -- set.__init__
      refine codeAny_mono (codeAny_call_builtin (R := wants (fun r s₂ => r = .none ∧ ∃ h' tk c, s₂ = { s with heap := h', toks := tk } ∧ SetR w h' s.heap.objs.size (fun j => decide (j ∈ ns)) c ∧ c ≤ ns.length ∧
          (∀ b o, s.heap.get? b = some o → h'.get? b = some o)) E) F.called_set.init.plain F.entry_set_init (check_set_init_1 hT ?_)) fun r₂ s₂ hr₂ => ?_
      · obtain ⟨⟨ocls, odict, odata, oslots⟩, hol, hcl, nl, hdl⟩ := hl
        simp only at hcl hdl
        subst hcl; subst hdl
        have hlS : l < s.heap.objs.size := Heap.lt_size hol
        have hol' : (s.heap.push (newSet w)).get? l = some { cls := .type "list", dict := odict, data := .seq items nl, slots := oslots } := Heap.get?_push_of_some _ hol
        have hl1 : (s.heap.push (newSet w)).IsList l items := ⟨_, hol', rfl, nl, rfl⟩
        have hz1 : (s.heap.push (newSet w)).objs.size = s.heap.objs.size + 1 := Heap.size_push ..
        have hneI : l ≠ (s.heap.push (newSet w)).objs.size := by rw [hz1]; exact Nat.ne_of_lt (Nat.lt_succ_of_lt hlS)
        have hSf : s.heap.objs.size ∉ [(s.heap.push (newSet w)).objs.size, l] := by
          rw [hz1]; simp only [List.mem_cons, List.not_mem_nil, or_false, not_or]
          exact ⟨Nat.ne_of_lt (Nat.lt_succ_self _), Nat.ne_of_gt hlS⟩
        have hsls := F.sub_list_set
        have hslf := F.sub_list_frozenset
        have hne : (Value.type "list" == Value.type "dict") = false := by decide
        unfold Builtin.«set.__init__» noKeywords Builtin.Frozenset.updateFrom
        generalize hPI : pyIter = PI
        wp_walk
        subst hPI
        refine wpAny_pyIter_list hl1 ?_
        refine wpAny_bind (wpAny_runValue ?_)
        refine set_update_ints ((Walks.list (by simp [hh]) _ l hneI items).toS) s.heap.objs.size hSf ns hn hb (fun i v hv => ?_) (items.size - 0) 0 _ (by omega) (Nat.zero_le _)
          ⟨⟨_, Heap.get?_push_size _ rfl, rfl, rfl⟩, (hl1.push _)⟩ ⟨0, Nat.le_refl 0, setR_new_at (Heap.get?_push_of_some _ hS)⟩ fun s' c' hm hc' hS' => ?_
        · have hi : i < ns.length := by rw [← hn]; exact (Array.getElem?_eq_some_iff.mp hv).1
          obtain ⟨t, e⟩ := PyProof.Rows.IntsAre.int_at hit i v (by rw [Array.getElem?_toList]; exact hv)
          refine ⟨ns[i], t, List.getElem?_eq_getElem hi, ?_⟩
          rw [e, List.getD_eq_getElem?_getD, List.getElem?_eq_getElem hi] <;> rfl
        · obtain ⟨h', g2, d', tk', os'⟩ := s'
          have eg : g2 = s.gens := hm.gens
          have ed : d' = s.drawn := hm.drawn
          have eo : os' = s.os := hm.os
          subst eg; subst ed; subst eo
          show wpAny _ _ _ _ _ _
          refine wpAny_pure ?_
          show wpAny _ _ (ret Value.none) _ _ _
          rw [hn] at hc'
          refine wpAny_pure ⟨rfl, h', tk', c', rfl, hS', hc', fun b o e => ?_⟩
          have hb0 : b < s.heap.objs.size := Heap.lt_size e
          refine hm.heap b o ?_ (Heap.get?_push_of_some _ (Heap.get?_push_of_some _ e))
          rw [hz1]; simp only [List.mem_cons, List.not_mem_nil, or_false, not_or]
          exact ⟨Nat.ne_of_lt hb0, Nat.ne_of_lt (Nat.lt_succ_of_lt hb0)⟩
      · cases r₂ with
        | error e => exact hr₂
        | ok fl₂ =>
          cases fl₂ with
          | next => exact hr₂.elim
          | brk => exact hr₂.elim
          | cont => exact hr₂.elim
          | ret r =>
            obtain ⟨rfl, h', tk, c', rfl, hS', hc', hk'⟩ := hr₂
            repeat (any_goals (first | assumption | wp_step))
            exact h _ _ _ hS' hc' hk'
/-- sorted(s) of a set of ints of any size -/
theorem sorted_setN {a : Addr} {S : Int → Bool} {n : Nat} {Q : Value → Shared → Prop} (R : SetR w s.heap a S n) (hh : A.handled = none)
    (hQ : ∀ s' p (out : Array Value) (c : Nat) (ns : List Int), (∀ b o, s.heap.get? b = some o → s'.heap.get? b = some o) → s'.gens = s.gens → s'.os = s.os → s.heap.objs.size ≤ p →
      s'.heap.get? p = some (seqObj "list" out c) → IntsAre out.toList ns → ns.Pairwise (· < ·) → (∀ k, k ∈ ns ↔ S k = true) → ns.length = n → Q (.ref p) s') :
    wpAny (model P w) A (call (.builtin "sorted") [.ref a]) Q E s := by
  obtain ⟨o, es, ep, t, ho, hex, hd, g, nd, hm, hb, hf, hn, hr, hl⟩ := R
  refine Calls.call_function_entry kind_sorted plain_sorted entry_sorted (args_sorted1 _) ?_
  unfold Builtin.«sorted»
  refine wpAny_bind (m := checkCount "sorted" 1 1 _) (wpAny_pure ?_)
  refine wpAny_bind (collect_set (A := A.in1) hh ⟨o, ho, hex.1, hd⟩ hf hb hr hl fun s1 vs k1 hz g1 o1 pm => ?_)
  have hvl : vs.length = n := by rw [pm.length_eq, List.length_map, Array.length_toList]; exact hn
  have hvz : vs.length ≤ sizeLine := by rw [hvl, ← hn]; exact fits_of_scanBound hb
  have hI : IntsAre vs (vs.map Builtin.Re.reRawOf) := ints_of vs fun v hv => by
    obtain ⟨e, he, q⟩ := List.mem_map.mp (pm.mem_iff.mp hv)
    obtain ⟨k, tk, h1, _⟩ := g e he
    exact ⟨k, tk, by rw [← q]; exact h1⟩
  have pk : (vs.map Builtin.Re.reRawOf).Perm (es.toList.map keyOf) := by
    have q := pm.map Builtin.Re.reRawOf
    rw [List.map_map] at q
    exact q
  refine wpAny_bind (wpAny_newList ?_ hvz)
  have hoL : (s1.heap.push (seqObj "list" vs.toArray 0)).get? s1.heap.objs.size = some (seqObj "list" vs.toArray 0) := Heap.get?_push_size _ rfl
  refine wpAny_bind (wpAny_holding (wpAny_call_entry slot_list_sort ⟨_, hoL, rfl⟩ entry_list_sort (SrtO.list_sort_ord SrtO.swo_int hoL hvz (fun h2 => SrtO.ints_sortable hI h2) fun out h1 h2 => ⟨_, rfl, ?_⟩) (args_list_sort _)))
  obtain ⟨a1, a2, a3⟩ := SrtO.ints_out hI h1 h2
  obtain ⟨c, hc⟩ := sortedHeap_at (vs := vs) (out := out.toArray) hoL
  have pn : (out.map SrtO.iv).Perm (es.toList.map keyOf) := a2.trans pk
  refine wpAny_pure ⟨_, rfl, hQ _ s1.heap.objs.size out.toArray c (out.map SrtO.iv) (fun b u e => ?_) g1 o1 hz hc a1 (lt_of_le_nodup _ a3 (pn.nodup_iff.mpr nd)) (fun k => by rw [pn.mem_iff, ← hm k]) ?_⟩
  · have q := k1 b u e
    have hlt := Heap.lt_size q
    show (sortedHeap (s1.heap.push (seqObj "list" vs.toArray 0)) s1.heap.objs.size vs out.toArray).get? b = some u
    rw [sortedHeap_old (Nat.ne_of_lt hlt) (by rw [size_push']; exact Nat.lt_succ_of_lt hlt)]
    exact Heap.get?_push_of_some _ q
  · rw [pn.length_eq, List.length_map, Array.length_toList]; exact hn
end
end DL
set_option maxHeartbeats 1000000
/-! DS2: sorted(set(x)), sorted(x) as an operation on data. -/
namespace DL
open PySem PySem.Spec PyProof.Rows L2
variable [TbC]
/-! ### lists of ints -/
def intsD : List PD → Option (List Int)
  | [] => some []
  | .int i :: r => (intsD r).map (i :: ·)
  | _ => none
theorem intsD_map : ∀ {ds : List PD} {ns : List Int}, intsD ds = some ns → ds = ns.map PyData.int
  | [], bs, e => by cases e; rfl
  | .int b :: r, bs, e => by
    unfold intsD at e
    cases q : intsD r with
    | none => rw [q] at e; cases e
    | some cs =>
      rw [q] at e
      cases e
      rw [List.map_cons, intsD_map q]
  | .none :: _, _, e => by cases e
  | .bool _ :: _, _, e => by cases e
  | .str _ :: _, _, e => by cases e
  | .list _ :: _, _, e => by cases e
  | .tuple _ :: _, _, e => by cases e
  | .dict _ :: _, _, e => by cases e
theorem intsD_of_map : ∀ ns : List Int, intsD (ns.map PyData.int) = some ns
  | [] => rfl
  | n :: ns => by show (intsD (ns.map PyData.int)).map (n :: ·) = _; rw [intsD_of_map ns]; rfl
/-- an int put into an ascending list -/
def insU (k : Int) : List Int → List Int
  | [] => [k]
  | x :: r => if k < x then k :: x :: r else if k = x then x :: r else x :: insU k r
def sortU (ns : List Int) : List Int := ns.foldr insU []
theorem mem_insU (k : Int) : ∀ (l : List Int) (j : Int), j ∈ insU k l ↔ j = k ∨ j ∈ l
  | [], j => by simp [insU]
  | x :: r, j => by
    unfold insU
    split
    · simp
    · split
      · rename_i h; subst h; simp
      · simp only [List.mem_cons, mem_insU k r j]
        constructor
        · rintro (h | h | h) <;> simp [h]
        · rintro (h | h | h) <;> simp [h]
theorem insU_lt (k : Int) : ∀ l : List Int, l.Pairwise (· < ·) → (insU k l).Pairwise (· < ·)
  | [], _ => List.pairwise_singleton _ _
  | x :: r, h => by
    obtain ⟨h1, h2⟩ := List.pairwise_cons.mp h
    unfold insU
    split
    · rename_i q
      refine List.pairwise_cons.mpr ⟨fun y hy => ?_, h⟩
      rcases List.mem_cons.mp hy with e | e
      · omega
      · have := h1 y e; omega
    · split
      · exact h
      · refine List.pairwise_cons.mpr ⟨fun y hy => ?_, insU_lt k r h2⟩
        rcases (mem_insU k r y).mp hy with e | e
        · omega
        · exact h1 y e
theorem sortU_lt : ∀ l : List Int, (sortU l).Pairwise (· < ·)
  | [] => List.Pairwise.nil
  | x :: r => insU_lt x _ (sortU_lt r)
theorem mem_sortU : ∀ (l : List Int) (j : Int), j ∈ sortU l ↔ j ∈ l
  | [], j => by simp [sortU]
  | x :: r, j => by
    show j ∈ insU x (sortU r) ↔ _
    rw [mem_insU, mem_sortU r j, List.mem_cons]
theorem asc_eq : ∀ {a b : List Int}, a.Pairwise (· < ·) → b.Pairwise (· < ·) → (∀ k, k ∈ a ↔ k ∈ b) → a = b
  | [], [], _, _, _ => rfl
  | [], y :: b, _, _, h => absurd ((h y).mpr List.mem_cons_self) (by simp)
  | x :: a, [], _, _, h => absurd ((h x).mp List.mem_cons_self) (by simp)
  | x :: a, y :: b, ha, hb, h => by
    obtain ⟨a1, a2⟩ := List.pairwise_cons.mp ha
    obtain ⟨b1, b2⟩ := List.pairwise_cons.mp hb
    have e : x = y := by
      rcases List.mem_cons.mp ((h x).mp List.mem_cons_self) with z | z
      · exact z
      · rcases List.mem_cons.mp ((h y).mpr List.mem_cons_self) with q | q
        · exact q.symm
        · have := a1 y q
          have := b1 x z
          omega
    subst e
    congr 1
    refine asc_eq a2 b2 fun k => ?_
    constructor
    · intro hk
      rcases List.mem_cons.mp ((h k).mp (List.mem_cons_of_mem _ hk)) with z | z
      · have := a1 k hk; omega
      · exact z
    · intro hk
      rcases List.mem_cons.mp ((h k).mpr (List.mem_cons_of_mem _ hk)) with z | z
      · have := b1 k hk; omega
      · exact z
section
variable {X : Cx}
def rSetI (K : Fg) (w : World) : List V → Hp → VK → Prop := fun xs H Q => ∃ (a : Addr) (ns : List Int), xs = [.ref a] ∧ (SqL K H a (ns.map V.int) ∨ SqT K H a (ns.map V.int)) ∧ ns.length + 1 < scanBound ∧
  ∀ (p : Addr) (c : Nat), H p = none → Q (.ref p) (upd H p (SetO w p (fun j => decide (j ∈ ns)) c))
theorem call_setI (hc : X.calm = true) : CallR X (.type "set") (rSetI X.K X.w) := by
  intro pins s σ H xs us Q I r h
  obtain ⟨a, ns, rfl, hs, hb, q⟩ := h
  rw [Vals.ref1 r]
  have fin : ∀ (h' : Heap) (tk c : Nat), SetR X.w h' s.heap.objs.size (fun j => decide (j ∈ ns)) c → c ≤ ns.length → (∀ b o, s.heap.get? b = some o → h'.get? b = some o) → EP X pins σ Q (.ref s.heap.objs.size) { s with heap := h', toks := tk } := fun h' tk c R _ k =>
    ⟨.ref _, upd H s.heap.objs.size (SetO X.w s.heap.objs.size (fun j => decide (j ∈ ns)) c), I.laid (t' := tk) k (Nat.le_refl _) (setO_new R), rfl, q _ c (I.hok.fresh (Nat.le_refl _))⟩
  rcases hs with hs | hs
  · obtain ⟨its, rv, pl, _⟩ := I.list hs
    exact set_of_list ns (I.ok.hd hc) pl.isList (by simpa using rv.ints) hb fin
  · obtain ⟨its, rv, pl, _⟩ := I.tuple hs
    exact call_set_tupI ns (I.ok.hd hc) (show s.heap.IsTuple a its.toArray from pl) (by simpa using rv.ints) hb fin
def rSortSet (w : World) : List V → Hp → VK → Prop := fun vs H Q => ∃ (a : Addr) (S : Int → Bool) (n : Nat), vs = [V.ref a] ∧ H a = some (SetO w a S n) ∧
  ∀ (ns : List Int) (p : Addr), ns.Pairwise (· < ·) → (∀ k : Int, k ∈ ns ↔ S k = true) → H p = none → Q (.ref p) (upd H p (.lst (ns.map V.int)))
theorem call_sortSet (hc : X.calm = true) : CallR X (.builtin "sorted") (rSortSet X.w) := by
  intro pins s σ H vs us Q I r h
  obtain ⟨a, S, n, rfl, ha, q⟩ := h
  have R := setO_get I ha
  rw [Vals.ref1 r]
  obtain ⟨o, es, ep, t, ho, hex, hd, g0, nd, hm0, hb, hf, hn0, hr, hl0⟩ := id R
  have hz : n ≤ sizeLine := by rw [← hn0]; exact fits_of_scanBound hb
  refine sorted_setN R (I.ok.hd hc) fun s' p out c ns k g o hp hg hi hs hm hl => ?_
  have hlen : (ns.map V.int).length ≤ sizeLine := by rw [List.length_map, hl]; exact hz
  have hn : H p = none := I.hok.fresh hp
  have J : Inv X pins σ (upd H p (.lst (ns.map V.int))) { s with heap := s'.heap, gens := s'.gens, drawn := s'.drawn, toks := s'.toks } :=
    I.call (ch := []) (Un.laid k hp hn) (I.hok.laid k hp ⟨hlen, out.toList, c, vals_of_ints hi, hg⟩) (by rw [g]; exact I.bare) (fun _ z => nomatch z)
  have e : s' = { s with heap := s'.heap, gens := s'.gens, drawn := s'.drawn, toks := s'.toks } := by
    cases s'
    cases s
    cases o
    rfl
  rw [e]
  exact ⟨.ref p, _, J, rfl, q ns p hs hm hn⟩
end
section
variable {T : Tx} {X : Cx} {a : Expr} {f : EF} {pos p p2 p3 : Pos}
def oSrtSet (d : PD) : Option R := match d with
  | .list ds => if ds.length < 4000 then (intsD ds).map fun ns => .ow (.list ((sortU ns).map PyData.int)) else none
  | .tuple ds => if ds.length < 4000 then (intsD ds).map fun ns => .ow (.list ((sortU ns).map PyData.int)) else none
  | _ => none
theorem scan4000 {n : Nat} (h : n < 4000) : n + 1 < scanBound := by unfold scanBound; omega
theorem Cv.intsL {gh : Gh} {H : Hp} {K : Fg} {ds : List PD} {v : V} {ns : List Int} (s : Same gh.G H) (c : Cv K gh H (.list ds) v) (e : intsD ds = some ns) : ∃ a, v = .ref a ∧ H a = some (.lst (ns.map V.int)) := by
  obtain ⟨a, xs, rfl, q1, r1⟩ := c.list s
  rw [intsD_map e] at r1
  have := RpA.of_ints r1
  subst this
  exact ⟨a, rfl, q1⟩
theorem Cv.intsT {gh : Gh} {H : Hp} {K : Fg} {ds : List PD} {v : V} {ns : List Int} (s : Same gh.G H) (c : Cv K gh H (.tuple ds) v) (e : intsD ds = some ns) : ∃ a, v = .ref a ∧ SqT K H a (ns.map V.int) := by
  obtain ⟨a, xs, rfl, q1, r1⟩ := c.tuple s
  rw [intsD_map e] at r1
  have := RpA.of_ints r1
  subst this
  exact ⟨a, rfl, q1⟩
theorem d_srtSet (hm : X.mg "sorted" = none) (hm2 : X.mg "set" = none) (ha : PE X a (tD T f)) (hK : T.K = X.K := by rfl) (hc : X.calm = true := by rfl) (hg : Gl X "sorted" := by rfl) (hg2 : Gl X "set" := by rfl) (hs : starEach [a] X.env = (false, eval a X.env) :: starEach [] X.env := by rfl)
    (hs2 : starEach [.Call (.Name "set" p2) [a] [] p3] X.env = (false, eval (.Call (.Name "set" p2) [a] [] p3) X.env) :: starEach [] X.env := by rfl) : PE X (.Call (.Name "sorted" p) [.Call (.Name "set" p2) [a] [] p3] [] pos) (tD T (eC f oSrtSet)) :=
  PE.weak (pe_callB (call_sortSet hc) hg hm (by first | rfl | decide +kernel) (pa_cons (pe_callTy (call_setI hc) hg2 hm2 (by first | rfl | decide +kernel) (pa_cons ha pa_nil hs) (he := hs) (hpl := rfl)) pa_nil hs2) (he := hs2) (hpl := rfl)) fun σ H Q z => eC_le (r := fun v H1 Q => rSetI X.K X.w [v] H1 fun x H2 => rSortSet X.w [x] H2 Q) (fun gh0 gh H0 H σ w v d Q s k c z => by
    have fin : ∀ {ns : List Int}, Res T gh0 H0 σ (some (.ow (.list ((sortU ns).map PyData.int)), w)) Q → ∀ (p : Addr) (cc : Nat), H p = none → rSortSet X.w [.ref p] (upd H p (SetO X.w p (fun j => decide (j ∈ ns)) cc)) Q := fun {ns} z p cc hp => by
      refine ⟨p, _, cc, rfl, upd_same, fun ms q h1 h2 hq => ?_⟩
      have e : ms = sortU ns := asc_eq h1 (sortU_lt ns) fun k => by rw [h2 k, mem_sortU]; simp
      subst e
      exact z.lst (s.trans (Stp.grow (K := T.K) hp _)) (k.grow hp _) (RpA.ints _) hq
    unfold oSrtSet at z
    split at z
    · rename_i ds
      split at z
      · rename_i hl
        cases e : intsD ds with
        | none => rw [e] at z; exact z.none
        | some ns =>
          rw [e] at z
          obtain ⟨a, rfl, q1⟩ := c.intsL k.sub e
          exact ⟨a, ns, rfl, .inl (.of q1), by rw [intsD_map e, List.length_map] at hl; exact scan4000 hl, fin z⟩
      · exact z.none
    · rename_i ds
      split at z
      · rename_i hl
        cases e : intsD ds with
        | none => rw [e] at z; exact z.none
        | some ns =>
          rw [e] at z
          obtain ⟨a, rfl, q1⟩ := c.intsT k.sub e
          exact ⟨a, ns, rfl, .inr (hK ▸ q1), by rw [intsD_map e, List.length_map] at hl; exact scan4000 hl, fin z⟩
      · exact z.none
    · exact z.none) σ H Q z
/-- sorted(x), a list of ints -/
def insS (k : Int) : List Int → List Int
  | [] => [k]
  | x :: r => if k ≤ x then k :: x :: r else x :: insS k r
def sortS (ns : List Int) : List Int := ns.foldr insS []
theorem insS_perm (k : Int) : ∀ l : List Int, (insS k l).Perm (k :: l)
  | [] => List.Perm.refl _
  | x :: r => by
    unfold insS
    split
    · exact List.Perm.refl _
    · exact (List.Perm.cons x (insS_perm k r)).trans (List.Perm.swap k x r)
theorem insS_le (k : Int) : ∀ l : List Int, l.Pairwise (· ≤ ·) → (insS k l).Pairwise (· ≤ ·)
  | [], _ => List.pairwise_singleton _ _
  | x :: r, h => by
    obtain ⟨h1, h2⟩ := List.pairwise_cons.mp h
    unfold insS
    split
    · refine List.pairwise_cons.mpr ⟨fun y hy => ?_, h⟩
      rcases List.mem_cons.mp hy with e | e
      · omega
      · have := h1 y e; omega
    · refine List.pairwise_cons.mpr ⟨fun y hy => ?_, insS_le k r h2⟩
      rcases List.mem_cons.mp ((insS_perm k r).mem_iff.mp hy) with e | e
      · omega
      · exact h1 y e
theorem sortS_perm : ∀ l : List Int, (sortS l).Perm l
  | [] => List.Perm.refl _
  | x :: r => (insS_perm x _).trans (List.Perm.cons x (sortS_perm r))
theorem sortS_le : ∀ l : List Int, (sortS l).Pairwise (· ≤ ·)
  | [] => List.Pairwise.nil
  | x :: r => insS_le x _ (sortS_le r)
theorem le_eq {a b : List Int} (ha : a.Pairwise (· ≤ ·)) (hb : b.Pairwise (· ≤ ·)) (h : a.Perm b) : a = b := h.eq_of_pairwise (fun x y _ _ h1 h2 => Int.le_antisymm h1 h2) ha hb
end
end DL
set_option maxHeartbeats 4000000
/-! DS3: sets of ints: what one has and another has not; two sets compared. -/
namespace DL
open PySem PySem.Spec PyProof.Rows L2
section
variable {P : Program} {w : World} {A : Around} {E : Value → Shared → Prop} {s : Shared} {a b r : Addr} {S S' Sr : Int → Bool} {n m nr : Nat}
/-- a list of a set's elements -/
structure ElsOf (S : Int → Bool) (n : Nat) (es : List (Int × Value)) : Prop where
  good : ∀ e ∈ es, GoodE e
  nd : (es.map keyOf).Nodup
  mem : ∀ k, S k = true ↔ k ∈ es.map keyOf
  len : es.length = n
theorem ElsOf.perm {es es' : List (Int × Value)} (h : ElsOf S n es) (p : es'.Perm es) : ElsOf S n es' :=
  ⟨fun e he => h.good e (p.mem_iff.mp he), (p.map keyOf).nodup_iff.mpr h.nd, fun k => (h.mem k).trans (p.map keyOf).mem_iff.symm, p.length_eq.trans h.len⟩
theorem setR_els (R : SetR w s.heap a S n) : ∃ o es ep t, s.heap.get? a = some o ∧ o.ExactSet ∧ o.data = .set es ep t ∧ ElsOf S n es.toList ∧ es.size < scanBound ∧ t.fits es.size = true ∧ Ris t.place.toList ∧ (w.params.followText "set-order" = true ∨ t.led = true) := by
  obtain ⟨o, es, ep, t, ho, hx, hd, g, nd, hm, hb, hf, hn, hr, hl⟩ := R
  exact ⟨o, es, ep, t, ho, hx, hd, ⟨g, nd, hm, by rw [Array.length_toList]; exact hn⟩, hb, hf, hr, hl⟩
theorem setEntries_at {Q : Array (Int × Value) → Shared → Prop} (R : SetR w s.heap a S n) (h : ∀ es : Array (Int × Value), ElsOf S n es.toList → Q es s) : wpAny (model P w) A (setEntries a) Q E s := by
  obtain ⟨o, es, ep, t, ho, hx, hd, el, hb, hf, hr, hl⟩ := setR_els R
  unfold setEntries
  exact wpAny_bind (wpAny_setState_of ho hd hf (wpAny_pure (h es el)))
theorem quiet_one {x : Int × Value} (g : GoodE x) : ∃ k t, x = (hashInt k, Value.int k t) := by
  obtain ⟨k, t, h1, h2⟩ := g
  exact ⟨k, t, by rw [← h1, ← h2]⟩
theorem setsQuiet_ints (l : List Addr) (hl : ∀ x ∈ l, ∃ S n, SetR w s.heap x S n) {Q : Bool → Shared → Prop} (h : Q true s) : wpAny (model P w) A (setsQuiet l) Q E s := by
  unfold setsQuiet
  refine wpAny_bind (wpAny_mono (wpAny_forIn_list _ (fun rest b s' => s' = s ∧ b = ⟨none, ⟨⟩⟩ ∧ ∀ x ∈ rest, ∃ S n, SetR w s.heap x S n) (fun b s' => s' = s ∧ b = ⟨none, ⟨⟩⟩) ?_ (fun b s' I => ⟨I.1, I.2.1⟩) l _ ⟨rfl, rfl, hl⟩) ?_ (fun _ _ z => z))
  · intro x rest b s' I
    obtain ⟨rfl, rfl, hr⟩ := I
    obtain ⟨S, n, R⟩ := hr x List.mem_cons_self
    refine wpAny_bind (setEntries_at R fun es el => ?_)
    refine wpAny_bind (wpAny_mono (MeetsSeq2.wpAny_forIn_array _ (fun rest b s2 => s2 = s' ∧ b = ⟨none, ⟨⟩⟩ ∧ ∀ e ∈ rest, GoodE e) (fun b s2 => s2 = s' ∧ b = ⟨none, ⟨⟩⟩) ?_ (fun b s2 I2 => ⟨I2.1, I2.2.1⟩) es _ ⟨rfl, rfl, el.good⟩) ?_ (fun _ _ z => z))
    · intro e rest b s2 I2
      obtain ⟨rfl, rfl, g2⟩ := I2
      obtain ⟨k, t, rfl⟩ := quiet_one (g2 e List.mem_cons_self)
      exact wpAny_pure ⟨rfl, rfl, fun e he => g2 e (List.mem_cons_of_mem _ he)⟩
    · intro b s2 q
      obtain ⟨rfl, rfl⟩ := q
      exact wpAny_pure ⟨rfl, rfl, fun y hy => hr y (List.mem_cons_of_mem _ hy)⟩
  · intro b s' q
    obtain ⟨rfl, rfl⟩ := q
    exact wpAny_pure h

theorem setWalk_at {Q : Array (Int × Value) → Shared → Prop} (R : SetR w s.heap a S n) (h : ∀ (es : Array (Int × Value)) d, ElsOf S n es.toList → Q es { s with drawn := d }) : wpAny (model P w) A (setWalk a) Q E s := by
  obtain ⟨o, es, ep, t, ho, hx, hd, el, hb, hf, hr, hl⟩ := setR_els R
  unfold setWalk
  refine wpAny_bind (wpAny_setState_of ho hd hf ?_)
  dsimp only
  refine wpAny_bind (wpAny_byText ?_)
  by_cases hbt : w.params.followText "set-order" = true
  · refine wp_if_pos hbt ?_
    exact wpAny_bind (wpAny_askSetting (wpAny_pure (h _ s.drawn (el.perm (pick_perm _ _)))))
  · refine wp_if_neg hbt ?_
    try refine wpAny_bind (wpAny_pure ?_)
    by_cases hdr : (!t.plain && decide (es.size > 1)) = true
    · refine wp_if_pos hdr ?_
      refine wpAny_bind (drawOrder_at _ _ _ _ (by rw [Array.length_toList]; exact Nat.le_refl _) fun ys d q => ?_)
      exact wpAny_pure (h _ d (el.perm (by simpa using q)))
    · refine wp_if_neg hdr ?_
      try refine wpAny_bind (wpAny_pure ?_)
      have hled : t.led = true := hl.resolve_left hbt
      refine wpAny_bind (wpAny_of_eq (a := ()) ?_ ?_)
      · show (if (!t.led && decide (es.size > 1)) = true then unsupported "set:maker-not-led" else pure ()) = pure ()
        rw [hled] <;> rfl
      · exact wpAny_pure (h _ s.drawn el)
theorem setR_put {o : Obj} {es : Array (Int × Value)} {ep : Nat} {t : SetTable} {h : Heap} (ho : h.get? a = some o) (hx : o.ExactSet) (hd : o.data = .set es ep t) (el : ElsOf S n es.toList) (hb : es.size < scanBound) (hf : t.fits es.size = true) (hr : Ris t.place.toList) (l p : Bool) (hl : w.params.followText "set-order" = true ∨ l = true) :
    SetR w (h.update a (Obj.putSet es { t with led := l, plain := p })) a S n := by
  have hg := Heap.get?_update_self (Obj.putSet es { t with led := l, plain := p }) ho (by rw [putSet_of es _ hd]; rfl)
  rw [putSet_of es _ hd] at hg
  exact ⟨_, es, ep + 1, { t with led := l, plain := p }, hg, hx, rfl, el.good, el.nd, el.mem, hb, by cases t; exact hf, by rw [← el.len, Array.length_toList], hr, hl⟩
theorem walkUnseen_at {Q : Array (Int × Value) → Shared → Prop} (R : SetR w s.heap a S n) (Rb : SetR w s.heap b S' m) (Rr : SetR w s.heap r Sr nr) (h : ∀ (es : Array (Int × Value)) h' d, ElsOf S n es.toList → Heap.SameBut r s.heap h' → SetR w h' r Sr nr → Q es { s with heap := h', drawn := d }) :
    wpAny (model P w) A (setWalkUnseen a [b, r] (some r)) Q E s := by
  obtain ⟨o, es, ep, t, ho, hx, hd, el, hb, hf, hr, hl⟩ := setR_els R
  unfold setWalkUnseen
  refine wpAny_bind (wpAny_setState_of ho hd hf ?_)
  dsimp only
  refine wpAny_bind (wpAny_byText ?_)
  have walk : wpAny (model P w) A (setWalk a) Q E s := setWalk_at R fun es d el => h es s.heap d el (Heap.SameBut.refl _ _) Rr
  by_cases hc : (w.params.followText "set-order" || (t.led && t.plain) || decide (es.size ≤ 1)) = true
  · refine wp_if_pos hc ?_
    first
      | exact walk
      | exact wpAny_bind (wpAny_mono walk (fun _ _ q => wpAny_pure q) fun _ _ z => z)
  · refine wp_if_neg hc ?_
    try refine wpAny_bind (wpAny_pure ?_)
    refine wpAny_bind (setsQuiet_ints _ (fun x hx => ?_) ?_)
    · simp only [List.mem_cons, List.not_mem_nil, or_false] at hx
      rcases hx with rfl | rfl | rfl
      · exact ⟨_, _, R⟩
      · exact ⟨_, _, Rb⟩
      · exact ⟨_, _, Rr⟩
    · refine wp_if_neg (by simp) ?_
      try refine wpAny_bind (wpAny_pure ?_)
      refine wpAny_bind (wpAny_rule ?_)
      obtain ⟨o2, es2, ep2, t2, ho2, hx2, hd2, el2, hb2, hf2, hr2, hl2⟩ := setR_els Rr
      try dsimp only
      refine wpAny_bind (wpAny_setState_of ho2 hd2 hf2 ?_)
      dsimp only
      have hnt : ¬ w.params.followText "set-order" = true := fun z => hc (by rw [z]; rfl)
      by_cases hw : (t2.led && !t.led || t2.plain && !t.plain) = true
      · refine wp_if_pos hw ?_
        refine wpAny_bind (wpAny_storeSet_of ho2 hd2 ?_ (fits_of_scanBound hb2))
        first
          | exact wpAny_pure (h es _ s.drawn el (Heap.SameBut.update _ _ _) (setR_put ho2 hx2 hd2 el2 hb2 hf2 hr2 _ _ (.inr (by rw [hl2.resolve_left hnt, hl.resolve_left hnt]; rfl))))
          | skip
      · refine wp_if_neg hw ?_
        first
          | exact wpAny_bind (wpAny_pure (wpAny_pure (h es _ s.drawn el (Heap.SameBut.refl _ _) Rr)))
          | exact wpAny_pure (h es _ s.drawn el (Heap.SameBut.refl _ _) Rr)

theorem setR_type (R : SetR w s.heap a S n) : s.TypeIs (.ref a) "set" := by
  obtain ⟨o, es, ep, t, ho, hx, _⟩ := R
  exact ⟨o, ho, hx.1⟩
theorem isAnySet_at {Q : Bool → Shared → Prop} (R : SetR w s.heap a S n) (h : Q true s) : wpAny (model P w) A (Builtin.Frozenset.isAnySet (.ref a)) Q E s := by
  unfold Builtin.Frozenset.isAnySet
  refine wpAny_bind (wpAny_isInstance (setR_type R) F.sub_set_set ?_)
  exact wpAny_pure h
theorem sizeOf_at {Q : Nat → Shared → Prop} (R : SetR w s.heap a S n) (h : Q n s) : wpAny (model P w) A (Builtin.Frozenset.sizeOf a) Q E s := by
  unfold Builtin.Frozenset.sizeOf
  refine wpAny_bind (setEntries_at R fun es el => ?_)
  refine wpAny_pure ?_
  rw [← Array.length_toList, el.len]
  exact h
theorem setEpoch_at {Q : Nat → Shared → Prop} (R : SetR w s.heap a S n) (h : ∀ ep, (∃ o es t, s.heap.get? a = some o ∧ o.data = .set es ep t ∧ t.fits es.size = true) → Q ep s) : wpAny (model P w) A (setEpoch a) Q E s := by
  obtain ⟨o, es, ep, t, ho, hx, hd, el, hb, hf, hr, hl⟩ := setR_els R
  unfold setEpoch
  exact wpAny_bind (wpAny_setState_of ho hd hf (wpAny_pure (h ep ⟨o, es, t, ho, hd, hf⟩)))
theorem unchanged_at {Q : Unit → Shared → Prop} {id : String} {ep : Nat} (x : ∃ o es t, s.heap.get? a = some o ∧ o.data = .set es ep t ∧ t.fits es.size = true) (h : Q () s) : wpAny (model P w) A (Builtin.Frozenset.unchanged id a ep) Q E s := by
  obtain ⟨o, es, t, ho, hd, hf⟩ := x
  unfold Builtin.Frozenset.unchanged setEpoch
  refine wpAny_bind (wpAny_bind (wpAny_setState_of ho hd hf (wpAny_pure ?_)))
  refine wp_if_neg (by simp) ?_
  exact wpAny_pure h
theorem newSet_at {Q : Value → Shared → Prop} (h : ∀ h', (∀ c o, s.heap.get? c = some o → h'.get? c = some o) → s.heap.objs.size < h'.objs.size → SetR w h' s.heap.objs.size (fun _ => false) 0 → Q (.ref s.heap.objs.size) { s with heap := h' }) : wpAny (model P w) A (PySem.newSet (.type "set")) Q E s := by
  unfold PySem.newSet
  refine wpAny_bind (wpAny_byText ?_)
  dsimp only
  refine wpAny_newObj_type ?_
  have hn : (s.heap.push { cls := .type "set", dict := none, data := .set #[] 0 (.fresh 0 0 (!w.params.followText "set-order")) }).get? s.heap.objs.size = some { cls := .type "set", dict := none, data := .set #[] 0 (.fresh 0 0 (!w.params.followText "set-order")) } := Heap.get?_push_size _ rfl
  exact h _ (fun c o e => Heap.get?_push_of_some _ e) (by rw [Heap.size_push]; omega) ((setR_new_at (ns := []) hn).congr fun k => by simp)
theorem mem_snoc (dn : List (Int × Value)) (e : Int × Value) (j : Int) : decide (j ∈ (dn ++ [e]).map keyOf) = (decide (j ∈ dn.map keyOf) || decide (j = keyOf e)) := by
  rw [Bool.eq_iff_iff, Bool.or_eq_true, decide_eq_true_eq, decide_eq_true_eq, decide_eq_true_eq, List.map_append, List.mem_append]
  simp
/-- what a has and b has not -/
theorem difference_at {Q : Value → Shared → Prop} {id : String} (R : SetR w s.heap a S n) (Rb : SetR w s.heap b S' m) (hq : n / 4 ≤ m) (hb : n + 1 < scanBound)
    (h : ∀ h' d c, SetR w h' s.heap.objs.size (fun k => S k && !S' k) c → c ≤ n → (∀ x o, s.heap.get? x = some o → h'.get? x = some o) → Q (.ref s.heap.objs.size) { s with heap := h', drawn := d }) :
    wpAny (model P w) A (Builtin.Frozenset.difference id a (.ref b)) Q E s := by
  unfold Builtin.Frozenset.difference
  try dsimp only
  refine wpAny_bind (isAnySet_at Rb ?_)
  refine wp_if_neg (by simp) ?_
  try refine wpAny_bind (wpAny_pure ?_)
  refine wp_if_neg (by simp) ?_
  refine wp_if_pos rfl ?_
  refine wpAny_bind (sizeOf_at Rb ?_)
  refine wpAny_bind (sizeOf_at R ?_)
  refine wp_if_neg (by omega) ?_
  refine wpAny_bind ?_
  unfold Builtin.Frozenset.baseOf
  refine wpAny_bind (wpAny_isInstance (setR_type R) F.sub_set_set ?_)
  refine wpAny_pure ?_
  rw [if_pos rfl]
  refine wpAny_bind (newSet_at fun h1 k1 lt1 Rr => ?_)
  refine wpAny_bind (m := Builtin.Frozenset.addrOf (.ref s.heap.objs.size)) (wpAny_pure ?_)
  have R1 : SetR w h1 a S n := R.at fun o e => k1 a o e
  have Rb1 : SetR w h1 b S' m := Rb.at fun o e => k1 b o e
  refine wpAny_bind (setEpoch_at (s := { s with heap := h1 }) R1 fun ep hep => ?_)
  have ra : s.heap.objs.size ≠ a := Nat.ne_of_gt R.lt
  have rb : s.heap.objs.size ≠ b := Nat.ne_of_gt Rb.lt
  refine wpAny_bind (wpAny_holding ?_)
  rw [if_pos rfl]
  refine wpAny_bind (walkUnseen_at (s := { s with heap := h1 }) R1 Rb1 Rr fun es h2 d el sb2 R2 => ?_)
  have keep2 : ∀ x o, x ≠ s.heap.objs.size → h1.get? x = some o → h2.get? x = some o := fun x o n e => sb2.extBut x o n e
  refine wpAny_bind (wpAny_mono (MeetsSeq2.wpAny_forIn_array _ (fun rest _ s' => ∃ (h' : Heap) (c : Nat) (dn : List (Int × Value)), s' = { s with heap := h', drawn := d } ∧ (∀ x o, x ≠ s.heap.objs.size → h1.get? x = some o → h'.get? x = some o) ∧ SetR w h' s.heap.objs.size (fun k => decide (k ∈ dn.map keyOf) && !S' k) c ∧ c ≤ dn.length ∧ dn ++ rest = es.toList)
      (fun _ s' => ∃ (h' : Heap) (c : Nat), s' = { s with heap := h', drawn := d } ∧ (∀ x o, x ≠ s.heap.objs.size → h1.get? x = some o → h'.get? x = some o) ∧ SetR w h' s.heap.objs.size (fun k => S k && !S' k) c ∧ c ≤ n) ?_ ?_ es _ ⟨h2, 0, [], rfl, keep2, R2.congr (fun k => by simp), Nat.le_refl _, rfl⟩) ?_ fun _ _ z => z)
  · rintro e rest u s' ⟨h', c, dn, rfl, kp, Rc, hc, ed⟩
    have ge : GoodE e := el.good e (by rw [← ed]; simp)
    obtain ⟨k, tk, rfl⟩ := quiet_one ge
    have hdl : dn.length < n := by
      have := congrArg List.length ed
      rw [el.len, List.length_append, List.length_cons] at this
      omega
    have Rb3 : SetR w h' b S' m := Rb1.at fun o e => kp b o (Ne.symm rb) e
    have kin : keyOf (hashInt k, Value.int k tk) = k := rfl
    refine wpAny_bind ?_
    refine wpAny_holding ?_
    refine wp_if_pos rfl ?_
    refine wpAny_bind (wpAny_setFind_of (s := { s with heap := h', drawn := d }) (knd := intKind P w) (k := k) (intKind_is P w k tk) rfl (Rb3.setOf (P := P)) fun q hq => ?_)
    refine wpAny_bind (wpAny_pure ?_)
    have next : ∀ (h3 : Heap) (Qp : ForInStep PUnit → Shared → Prop), (∀ x o, x ≠ s.heap.objs.size → h1.get? x = some o → h3.get? x = some o) → Qp (.yield PUnit.unit) { s with heap := h3, drawn := d } →
        wpAny (model P w) A (Builtin.Frozenset.unchanged id a ep >>= fun _ => pure (ForInStep.yield PUnit.unit)) Qp E { s with heap := h3, drawn := d } := fun h3 Qp kp3 hq3 => by
      obtain ⟨o, es0, t0, z1, z2, z3⟩ := hep
      exact wpAny_bind (unchanged_at ⟨o, es0, t0, kp3 a o (Ne.symm ra) z1, z2, z3⟩ (wpAny_pure hq3))
    cases hS : S' k with
    | true =>
      refine wp_if_neg (by rw [hq, hS]; simp) (wpAny_pure ?_)
      refine next h' _ kp ⟨h', c, dn ++ [(hashInt k, Value.int k tk)], rfl, kp, Rc.congr fun j => ?_, by rw [List.length_append]; omega, by rw [List.append_assoc]; exact ed⟩
      rw [mem_snoc, kin]
      by_cases hj : j = k
      · subst hj; rw [hS]; simp
      · rw [decide_eq_false hj, Bool.or_false]
    | false =>
      refine wp_if_pos (by rw [hq, hS]; rfl) ?_
      refine wpAny_bind (setR_add_hashed (s := { s with heap := h', drawn := d }) Rc (by omega) fun h3 sb3 R3 => ?_)
      refine wpAny_pure ?_
      have kp3 : ∀ x o, x ≠ s.heap.objs.size → h1.get? x = some o → h3.get? x = some o := fun x o nx e => sb3.extBut x o nx (kp x o nx e)
      refine next h3 _ kp3 ⟨h3, _, dn ++ [(hashInt k, Value.int k tk)], rfl, kp3, R3.congr fun j => ?_, by rw [List.length_append, List.length_singleton]; split <;> omega, by rw [List.append_assoc]; exact ed⟩
      rw [mem_snoc, kin]
      by_cases hj : j = k
      · subst hj; rw [hS]; simp
      · rw [decide_eq_false hj, Bool.or_false, Bool.or_false]
  · rintro u s' ⟨h', c, dn, rfl, kp, Rc, hc, ed⟩
    rw [List.append_nil] at ed
    refine ⟨h', c, rfl, kp, Rc.congr fun k => ?_, by rw [← el.len, ← ed]; exact hc⟩
    rw [ed]
    have := el.mem k
    by_cases hk : S k = true
    · rw [hk, decide_eq_true (this.mp hk)]
    · rw [Bool.not_eq_true] at hk
      rw [hk, decide_eq_false (fun z => by rw [this.mpr z] at hk; cases hk)]
  · rintro u s' ⟨h', c, rfl, kp, Rc, hc⟩
    refine wpAny_pure ?_
    refine wpAny_pure ?_
    exact h h' d c Rc hc fun x o e => kp x o (Nat.ne_of_lt (Heap.lt_size e)) (k1 x o e)

theorem entry_s_sub : entryFor table "set.__sub__" = some Builtin.«frozenset.__sub__» := entryFor_alias (id' := "frozenset.__sub__") (by kernel_rfl) rfl (by decide +kernel) (by kernel_rfl)
theorem entry_s_eq : entryFor table "set.__eq__" = some Builtin.«frozenset.__eq__» := entryFor_alias (id' := "frozenset.__eq__") (by kernel_rfl) rfl (by decide +kernel) (by kernel_rfl)
/-- a - b -/
theorem set_sub {Q : Value → Shared → Prop} (R : SetR w s.heap a S n) (Rb : SetR w s.heap b S' m) (hq : n / 4 ≤ m) (hb : n + 1 < scanBound)
    (h : ∀ h' d c, SetR w h' s.heap.objs.size (fun k => S k && !S' k) c → c ≤ n → (∀ x o, s.heap.get? x = some o → h'.get? x = some o) → Q (.ref s.heap.objs.size) { s with heap := h', drawn := d }) :
    wpAny (model P w) A (binaryOp .Sub (.ref a) (.ref b)) Q E s := by
  refine wpAny_binaryOp_same (setR_type R) (setR_type Rb) F.fills_set_sub F.slot_set_sub (wpAny_call_entry F.slot_set_sub (setR_type R) entry_s_sub ?_ (F.args_set_sub_2 _ _))
  have e : Builtin.«frozenset.__sub__» ⟨[.ref a, .ref b], []⟩ = (do
      let (self, other) ← Builtin.Frozenset.slot1 "__sub__" ⟨[.ref a, .ref b], []⟩
      let (l, r) := if false = true then (other, self) else (self, other)
      if !(← Builtin.Frozenset.isAnySet l <&&> Builtin.Frozenset.isAnySet r) then rule s!"frozenset.{"__sub__"}.declined"; return ← ret .notImplemented
      ret (← Builtin.Frozenset.difference s!"frozenset.{"__sub__"}" (← Builtin.Frozenset.addrOf l) r)) := rfl
  rw [e]
  refine wpAny_bind (wpAny_of_eq (a := (.ref a, .ref b)) (by rfl) ?_)
  dsimp only
  refine wpAny_bind ?_
  refine wpAny_bind (isAnySet_at R ?_)
  show wpAny _ _ (Builtin.Frozenset.isAnySet (.ref b)) _ _ s
  refine isAnySet_at Rb ?_
  refine wp_if_neg (by simp) ?_
  try refine wpAny_bind (wpAny_pure ?_)
  show wpAny _ _ (Builtin.Frozenset.difference _ a (.ref b) >>= fun v => ret v) _ _ s
  refine wpAny_bind (difference_at R Rb hq hb fun h' d c R' hc k => ?_)
  exact wpAny_pure ⟨_, rfl, (fun z => (nomatch z)), h h' d c R' hc k⟩
theorem subsetOf_at {Q : Bool → Shared → Prop} {id : String} (R : SetR w s.heap a S n) (Rb : SetR w s.heap b S' m) (hnm : n = m) (h : ∀ v, (v = true ↔ ∀ k, S k = true → S' k = true) → Q v s) :
    wpAny (model P w) A (Builtin.Frozenset.subsetOf id a b) Q E s := by
  unfold Builtin.Frozenset.subsetOf
  refine wpAny_bind (sizeOf_at R (wpAny_bind (sizeOf_at Rb ?_)))
  refine wp_if_neg (by omega) ?_
  try refine wpAny_bind (wpAny_pure ?_)
  refine wpAny_bind (setEpoch_at R fun ep hep => ?_)
  unfold Builtin.Frozenset.walkUnseen
  refine wpAny_bind (wpAny_bind (setEntries_at R fun es el => wpAny_bind (setEntries_at Rb fun es2 el2 => ?_)))
  refine wpAny_bind (wpAny_mono (wpAny_forIn_list _ (fun rest b s2 => s2 = s ∧ b = ⟨none, ⟨⟩⟩ ∧ ∀ e ∈ rest, GoodE e) (fun b s2 => s2 = s ∧ b = ⟨none, ⟨⟩⟩) ?_ (fun b s2 I2 => ⟨I2.1, I2.2.1⟩) (es.toList ++ es2.toList) _ ⟨rfl, rfl, fun e he => (List.mem_append.mp he).elim (el.good e) (el2.good e)⟩) ?_ (fun _ _ z => z))
  · intro e rest b s2 I2
    obtain ⟨rfl, rfl, g2⟩ := I2
    obtain ⟨k, t, rfl⟩ := quiet_one (g2 e List.mem_cons_self)
    refine wpAny_bind (m := Builtin.Frozenset.quietEq (.int k t)) (wpAny_pure ?_)
    refine wp_if_neg (by simp) ?_
    exact wpAny_pure ⟨rfl, rfl, fun e he => g2 e (List.mem_cons_of_mem _ he)⟩
  · intro b2 s2 q
    obtain ⟨rfl, rfl⟩ := q
    refine wpAny_pure ?_
    refine wpAny_bind (wpAny_mono (wpAny_forIn_list _ (fun rest b s3 => s3 = s2 ∧ b = ⟨none, ⟨⟩⟩ ∧ ∃ dn, dn ++ rest = es.toList ∧ ∀ e ∈ dn, S' (keyOf e) = true) (fun b s3 => s3 = s2 ∧ ((b = ⟨none, ⟨⟩⟩ ∧ ∀ e ∈ es.toList, S' (keyOf e) = true) ∨ (b = ⟨some false, ⟨⟩⟩ ∧ ∃ e ∈ es.toList, S' (keyOf e) = false))) ?_ (fun b s3 I3 => ?_) es.toList _ ⟨rfl, rfl, [], rfl, fun e he => nomatch he⟩) ?_ (fun _ _ z => z))
    · rintro e rest b s3 ⟨rfl, rfl, dn, ed, hdn⟩
      have me : e ∈ es.toList := by rw [← ed]; simp
      obtain ⟨k, t, rfl⟩ := quiet_one (el.good e me)
      refine wpAny_bind (wpAny_holding (wpAny_setFind_of (knd := intKind P w) (k := k) (intKind_is P w k t) rfl (Rb.setOf (P := P)) fun q hq => ?_))
      cases hS : S' k with
      | false =>
        rw [hS] at hq
        refine wp_if_pos (by cases q; rfl; cases hq) ?_
        exact wpAny_pure ⟨rfl, .inr ⟨rfl, _, me, hS⟩⟩
      | true =>
        rw [hS] at hq
        refine wp_if_neg (by cases q; cases hq; simp) ?_
        try refine wpAny_bind (wpAny_pure ?_)
        refine wpAny_bind (unchanged_at hep ?_)
        refine wpAny_pure ⟨rfl, rfl, dn ++ [(hashInt k, Value.int k t)], by rw [List.append_assoc]; exact ed, fun e he => ?_⟩
        rcases List.mem_append.mp he with h1 | h1
        · exact hdn e h1
        · rw [List.mem_singleton.mp h1]; exact hS
    · obtain ⟨rfl, rfl, dn, ed, hdn⟩ := I3
      rw [List.append_nil] at ed
      exact ⟨rfl, .inl ⟨rfl, ed ▸ hdn⟩⟩
    · rintro b s3 ⟨rfl, q⟩
      rcases q with ⟨rfl, q⟩ | ⟨rfl, e, he, q⟩
      · refine wpAny_pure (h true ⟨fun _ k hk => ?_, fun _ => rfl⟩)
        obtain ⟨e, he, z⟩ := List.mem_map.mp ((el.mem k).mp hk)
        rw [← z]; exact q e he
      · refine wpAny_pure (h false ⟨fun z => (nomatch z), fun z => ?_⟩)
        have := z (keyOf e) ((el.mem _).mpr (List.mem_map.mpr ⟨e, he, rfl⟩))
        rw [q] at this; cases this

theorem nd_sub_eq {l1 l2 : List Int} (h1 : l1.Nodup) (h2 : l2.Nodup) (hl : l1.length = l2.length) (hs : ∀ k ∈ l1, k ∈ l2) : ∀ k ∈ l2, k ∈ l1 := by
  induction l1 generalizing l2 with
  | nil =>
    intro k hk
    cases l2 with
    | nil => exact hk
    | cons _ _ => cases hl
  | cons x r ih =>
    rw [List.nodup_cons] at h1
    have hx := hs x List.mem_cons_self
    have p := List.perm_cons_erase hx
    have h3 : (l2.erase x).Nodup := h2.erase x
    have h4 : r.length = (l2.erase x).length := by
      have := p.length_eq
      simp only [List.length_cons] at this hl
      omega
    intro k hk
    by_cases e : k = x
    · subst e; exact List.mem_cons_self
    · refine List.mem_cons_of_mem _ (ih h1.2 h3 h4 (fun j hj => ?_) k ((List.mem_erase_of_ne e).mpr hk))
      have : j ≠ x := fun z => h1.1 (z ▸ hj)
      exact (List.mem_erase_of_ne this).mpr (hs j (List.mem_cons_of_mem _ hj))
/-- a == b -/
theorem set_eq {Q : Value → Shared → Prop} (R : SetR w s.heap a S n) (Rb : SetR w s.heap b S' m) (hu : A.units < cLine) (h : ∀ v : Bool, (v = true ↔ ∀ k, S k = S' k) → Q (.bool v) s) : wpAny (model P w) A (compareOp .Eq (.ref a) (.ref b)) Q E s := by
  show wpAny _ _ (richCompare .Eq (.ref a) (.ref b)) _ _ s
  refine wpAny_richCompare_same_room (setR_type R) (setR_type Rb) F.slot_set_eq (wpAny_call_entry F.slot_set_eq (setR_type R) entry_s_eq ?_ (F.args_set_eq_2 _ _)) hu
  have els : ∃ l1 l2 : List Int, l1.Nodup ∧ l2.Nodup ∧ l1.length = n ∧ l2.length = m ∧ (∀ k, S k = true ↔ k ∈ l1) ∧ ∀ k, S' k = true ↔ k ∈ l2 := by
    obtain ⟨_, es, _, _, _, _, _, el, _⟩ := setR_els R
    obtain ⟨_, es2, _, _, _, _, _, el2, _⟩ := setR_els Rb
    exact ⟨_, _, el.nd, el2.nd, by rw [List.length_map]; exact el.len, by rw [List.length_map]; exact el2.len, el.mem, el2.mem⟩
  obtain ⟨l1, l2, n1, n2, c1, c2, m1, m2⟩ := els
  have fin : ∀ v : Bool, (v = true ↔ ∀ k, S k = S' k) → (∃ v' : Value, Fin.done (Flow.ret (Value.bool v)) = Fin.done (Flow.ret v') ∧ v' ≠ Value.notImplemented ∧ Q v' s) := fun v hv => ⟨_, rfl, (fun z => (nomatch z)), h v hv⟩
  show wpAny _ _ (Builtin.Frozenset.slot1 "__eq__" ⟨[.ref a, .ref b], []⟩ >>= _) _ _ s
  refine wpAny_bind (wpAny_of_eq (a := (.ref a, .ref b)) (by rfl) ?_)
  show wpAny _ _ (Builtin.Frozenset.isAnySet (.ref b) >>= _) _ _ s
  refine wpAny_bind (isAnySet_at Rb ?_)
  refine wp_if_neg (by simp) ?_
  show wpAny _ _ (Builtin.Frozenset.addrOf (.ref a) >>= _) _ _ s
  refine wpAny_bind (m := Builtin.Frozenset.addrOf (.ref a)) (wpAny_pure ?_)
  refine wpAny_bind (m := Builtin.Frozenset.addrOf (.ref b)) (wpAny_pure ?_)
  refine wpAny_bind (sizeOf_at R (wpAny_bind (sizeOf_at Rb ?_)))
  dsimp only
  refine wpAny_bind ?_
  by_cases hnm : n = m
  · refine wp_if_neg (by simp [hnm]) ?_
    try refine wpAny_bind (wpAny_pure ?_)
    refine wpAny_bind ?_
    refine wpAny_bind (wpAny_isInstance (setR_type R) F.sub_set_frozenset ?_)
    refine wpAny_pure ?_
    refine wp_if_neg (by simp) ?_
    try refine wpAny_bind (wpAny_pure ?_)
    refine subsetOf_at R Rb hnm fun v hv => ?_
    refine wpAny_pure (fin v (hv.trans ⟨fun z k => ?_, fun z k hk => by rw [← z k]; exact hk⟩))
    have back := nd_sub_eq n1 n2 (by rw [c1, c2, hnm]) (fun k hk => (m2 k).mp (z k ((m1 k).mpr hk)))
    rw [Bool.eq_iff_iff]
    exact ⟨z k, fun h2 => (m1 k).mpr (back k ((m2 k).mp h2))⟩
  · refine wp_if_pos (by simp [hnm]) ?_
    refine wpAny_pure ?_
    refine wpAny_pure (fin false ⟨(fun z => (nomatch z)), fun z => ?_⟩)
    refine absurd ?_ hnm
    rw [← c1, ← c2]
    have p : l1.Perm l2 := (List.perm_ext_iff_of_nodup n1 n2).mpr fun k => by rw [← m1, ← m2, z k]
    exact p.length_eq
end
end DL
set_option maxHeartbeats 2000000
/-! DS4: sets of ints in expressions: len(set(x)), set(x) - {y} == set(z). -/
namespace DL
open PySem PySem.Spec PyProof.Rows L2
section
variable {X : Cx}
def rSubS (w : World) : R2 := fun x y H Q => ∃ (a b : Addr) (S S' : Int → Bool) (n m : Nat) (ns : List Int), x = .ref a ∧ y = .ref b ∧ H a = some (SetO w a S n) ∧ H b = some (SetO w b S' m) ∧ (∀ k, S k = true → k ∈ ns) ∧ ns.length < 8 ∧ (∃ k, S' k = true) ∧
  ∀ (p : Addr) (c : Nat), H p = none → Q (.ref p) (upd H p (SetO w p (fun k => S k && !S' k) c))
theorem nodup_len : ∀ {l1 l2 : List Int}, l1.Nodup → (∀ k ∈ l1, k ∈ l2) → l1.length ≤ l2.length
  | [], _, _, _ => Nat.zero_le _
  | x :: r, l2, h, hs => by
    rw [List.nodup_cons] at h
    have p := (List.perm_cons_erase (hs x List.mem_cons_self)).length_eq
    have := nodup_len (l2 := l2.erase x) h.2 fun k hk => (List.mem_erase_of_ne (by rintro rfl; exact h.1 hk)).mpr (hs k (List.mem_cons_of_mem _ hk))
    simp only [List.length_cons] at p ⊢
    omega
theorem setR_len {w : World} {h : Heap} {a : Addr} {S : Int → Bool} {n : Nat} (R : SetR w h a S n) {ns : List Int} (hs : ∀ k, S k = true → k ∈ ns) : n ≤ ns.length := by
  obtain ⟨o, es, ep, t, ho, hx, hd, g, nd, hm, hb, hf, hn, _⟩ := R
  have h1 : (es.toList.map keyOf).length ≤ ns.length := nodup_len nd fun k hk => hs k ((hm k).mpr hk)
  rw [List.length_map, Array.length_toList, hn] at h1
  exact h1
theorem setR_pos {w : World} {h : Heap} {a : Addr} {S : Int → Bool} {n : Nat} (R : SetR w h a S n) (hs : ∃ k, S k = true) : 1 ≤ n := by
  obtain ⟨o, es, ep, t, ho, hx, hd, g, nd, hm, hb, hf, hn, _⟩ := R
  obtain ⟨k, hk⟩ := hs
  have := List.length_pos_of_mem ((hm k).mp hk)
  rw [List.length_map, Array.length_toList, hn] at this
  exact this
theorem op_subS : OpR X (binaryOp .Sub) (rSubS X.w) := by
  intro pins s σ H x y v u Q I rx ry h
  obtain ⟨a, b, S, S', n, m, ns, rfl, rfl, ha, hb, hs, hl, hp, q⟩ := h
  cases rx
  cases ry
  have R := setO_get I ha
  have Rb := setO_get I hb
  have h1 := setR_len R hs
  have h2 := setR_pos Rb hp
  refine set_sub R Rb (by omega) (by unfold scanBound; omega) fun h' d c R' hc k => ?_
  have hn : H s.heap.objs.size = none := I.hok.fresh (Nat.le_refl _)
  have J : Inv X pins σ (upd H s.heap.objs.size (SetO X.w s.heap.objs.size (fun k => S k && !S' k) c)) { s with heap := h', gens := s.gens, drawn := d, toks := s.toks } :=
    I.call (ch := []) (Un.laid k (Nat.le_refl _) hn) (I.hok.laid k (Nat.le_refl _) (setO_new R')) I.bare (fun _ z => nomatch z)
  exact ⟨.ref _, _, J, rfl, q _ c hn⟩
def rEqS (w : World) : R2 := fun x y H Q => ∃ (a b : Addr) (S S' : Int → Bool) (n m : Nat), x = .ref a ∧ y = .ref b ∧ H a = some (SetO w a S n) ∧ H b = some (SetO w b S' m) ∧ ∀ v : Bool, (v = true ↔ ∀ k, S k = S' k) → Q (.bl v) H
theorem op_eqS (hu : X.A.units < cLine) : OpR X (compareOp .Eq) (rEqS X.w) := by
  intro pins s σ H x y v u Q I rx ry h
  obtain ⟨a, b, S, S', n, m, rfl, rfl, ha, hb, q⟩ := h
  cases rx
  cases ry
  exact set_eq (setO_get I ha) (setO_get I hb) hu fun v hv => ⟨.bl v, H, I, rfl, q v hv⟩
def rLenS (w : World) : List V → Hp → VK → Prop := fun vs H Q => ∃ (a : Addr) (ns : List Int) (n : Nat), vs = [V.ref a] ∧ H a = some (SetO w a (fun j => decide (j ∈ ns)) n) ∧ Q (.int (sortU ns).length) H
theorem call_lenS : CallR X (.builtin "len") (rLenS X.w) := by
  intro pins s σ H vs us Q I r h
  obtain ⟨a, ns, n, rfl, ha, q⟩ := h
  have R := setO_get I ha
  rw [Vals.ref1 r]
  obtain ⟨o, es, ep, t, ho, hex, hd, g, nd, hm, hb, hf, hn, hr, hl⟩ := R
  have e : es.size = (sortU ns).length := by
    have p : (es.toList.map keyOf).Perm (sortU ns) := (List.perm_ext_iff_of_nodup nd ((sortU_lt ns).imp fun h => Int.ne_of_lt h)).mpr fun k => by rw [← hm k, mem_sortU]; simp
    have := p.length_eq
    rwa [List.length_map, Array.length_toList] at this
  have hz : es.size < 2 ^ 63 := Nat.lt_trans hb (by unfold scanBound; decide)
  refine call_len_set ho hex hd hf (by exact_mod_cast hz) ⟨.int (sortU ns).length, H, I.tok _, ⟨_, by rw [e]⟩, q⟩

/-- an object that is there, untracked and young, is known from now on -/
theorem keepExt {pins : List (Addr × Obj)} {σ : L2.St} {H : Hp} {s : Shared} {a : Addr} {o : Obj} {φ : Heap → Prop} (I : Inv X pins σ H s) (ha : s.heap.get? a = some o) (nc : ∀ v, o.data ≠ .cell v) (na : H a = none)
    (nL : a ≠ X.env.locals) (h0 : X.s_0.heap.objs.size ≤ a) (hp : ∀ p ∈ X.pn ++ pins, p.1 ≠ a) (ok : φ s.heap) (st : ∀ h1 h2 : Heap, φ h1 → (∀ o, h1.get? a = some o → h2.get? a = some o) → φ h2) : Inv X pins σ (upd H a (.ext φ)) s := by
  have cne : ∀ x c, X.env.cells.lookup x = some c → c ≠ a := fun x c e z => by
    obtain ⟨v, o1, q1, q2⟩ := I.cell x c e
    rw [z, ha] at q1
    cases q1
    exact nc _ q2
  have b0 : ∀ b o, X.s_0.heap.get? b = some o → b ≠ a := fun b o e z => by
    rw [z] at e
    exact absurd (Heap.lt_size e) (Nat.not_lt.mpr h0)
  have kp : ∀ b u, H b = some u → upd H a (.ext φ) b = some u := fun b u e => by rw [upd_ne (ne_of_none e na)]; exact e
  refine ⟨I.ok, I.os, I.bare, ⟨I.base.keep, I.base.slot, fun b o e n x => by rw [upd_ne (b0 b o e)]; exact I.base.free b o e n x, I.base.there, fun b xs e => kp b _ (I.base.tups b xs e), fun b o u e => kp b _ (I.base.frzs b o u e), fun b ps e => ?_⟩,
    I.loc, I.cell, by rw [upd_ne (Ne.symm nL)]; exact I.free, fun x c e => by rw [upd_ne (cne x c e)]; exact I.freeC x c e, fun p h => ?_, fun b u e => ?_, I.len⟩
  · obtain ⟨more, q⟩ := I.base.tbls b ps e
    exact ⟨more, kp b _ q⟩
  · obtain ⟨q1, q2, q3⟩ := I.pin p h
    exact ⟨q1, by rw [upd_ne (hp p h)]; exact q2, q3⟩
  · by_cases z : b = a
    · subst z
      rw [upd_same] at e
      cases e
      exact ⟨ok, ⟨_, ha⟩, fun h1 h2 p k => st h1 h2 p k⟩
    · rw [upd_ne z] at e
      refine (I.hok b u e).stay (fun c v hc q => q) (fun c q => kp c _ q) fun c xs q => kp c _ q
/-- {e}, e an int -/
def tSet1 (w : World) (te : TE) : TE := fun σ H Q => te σ H fun v H1 => ∃ i, v = .int i ∧ ∀ (p : Addr) (c : Nat), H1 p = none → Q (.ref p) (upd H1 p (SetO w p (fun j => decide (j = i)) c))
theorem pe_set1 {e : Expr} {te : TE} {pos : Pos} (hcode : PySem.W.kdsCode X.K X.env.code = true) (he : PE X e te) (hpl : PySem.W.kdsPlain e = true) : PE X (.Set [e] 0 pos) (tSet1 X.w te) := ⟨fun pins s σ H Q I h => by
  rw [arm_eval_Set]
  refine wpAny_bind (wpAny_standAt ?_)
  refine wpAny_bind (PySem.W.kds_main I.kIn hcode fun b => ?_)
  rw [PySem.W.kds_star [e] (by rw [List.all_cons, hpl]; rfl), List.map_map]
  unfold setDisplay
  try dsimp only
  rw [if_neg (by show ¬ ((displayRoad 0 [e] == DisplayRoad.constants) = true); simp [displayRoad])]
  refine wpAny_bind (newSet_at fun h1 k1 lt1 R1 => ?_)
  dsimp only
  have p0L : s.heap.objs.size ≠ X.env.locals := Nat.ne_of_gt I.lt
  have p0f : s.heap.objs.size ∉ X.fs := I.nofs (Nat.le_refl _)
  have p0c : ∀ x c, X.env.cells.lookup x = some c → c ≠ s.heap.objs.size := fun x c e0 => by
    obtain ⟨v, o, q1, _⟩ := I.cell x c e0
    exact Nat.ne_of_lt (Heap.lt_size q1)
  have p0p : ∀ p ∈ X.pn ++ pins, p.1 ≠ s.heap.objs.size := fun p hp => Nat.ne_of_lt (Heap.lt_size (I.pin p hp).1)
  have p0H : H s.heap.objs.size = none := I.hok.fresh (Nat.le_refl _)
  obtain ⟨o0, es0, ep0, t0, ho0, hx0, hd0, _⟩ := id R1
  have nc0 : ∀ v, o0.data ≠ .cell v := fun v z => by rw [hd0] at z; cases z
  have I1 : Inv X pins σ H { s with heap := h1, toks := s.toks } := I.kept k1
  have I2 : Inv X ((s.heap.objs.size, o0) :: pins) σ H { s with heap := h1, toks := s.toks } := I1.pins_of fun p hp => by
    rcases List.mem_cons.mp hp with rfl | hp
    · exact ⟨ho0, p0H, p0L, p0f, nc0⟩
    · exact I1.pin p (List.mem_append_right _ hp)
  refine wpAny_bind (wpAny_holding ?_)
  show wpAny _ _ (evalAll ((evalEach [e] X.env).map fun t => do let v ← t; standAt pos; pure v) >>= _) _ _ _
  refine wpAny_bind (PySem.W.kds_all pos [e] _ _ ?_)
  show wpAny _ _ (eval e X.env) _ _ _
  refine thn (he.run ((s.heap.objs.size, o0) :: pins) _ σ H _ I2 h) fun u s2 ⟨v, H2, I3, rv, i, ev, q⟩ => ?_
  subst ev
  obtain ⟨tk, rfl⟩ := rv
  obtain ⟨g0, g1, _⟩ := I3.pin (s.heap.objs.size, o0) (List.mem_append_right _ List.mem_cons_self)
  have R2 : SetR X.w s2.heap s.heap.objs.size (fun _ => false) 0 := R1.at fun o e0 => by
    rw [ho0] at e0; cases e0; exact g0
  have I4 : Inv X pins σ H2 s2 := ⟨I3.ok, I3.os, I3.bare, I3.base, I3.loc, I3.cell, I3.free, I3.freeC, fun p hp => I3.pin p (by
    rcases List.mem_append.mp hp with z | z
    · exact List.mem_append_left _ z
    · exact List.mem_append_right _ (List.mem_cons_of_mem _ z)), I3.hok, I3.len⟩
  refine wpAny_bind (wpAny_holding ?_)
  refine wpAny_bind ?_
  refine wpAny_mono (wpAny_forIn_list _ (fun rest _ s' => (rest = [.int i tk] ∧ s' = s2) ∨ (rest = [] ∧ ∃ h3 t3, s' = { s2 with heap := h3, toks := t3 } ∧ Heap.SameBut s.heap.objs.size s2.heap h3 ∧ ∃ c, SetR X.w h3 s.heap.objs.size (fun j => decide (j = i)) c)) (fun _ s' => ∃ h3 t3, s' = { s2 with heap := h3, toks := t3 } ∧ Heap.SameBut s.heap.objs.size s2.heap h3 ∧ ∃ c, SetR X.w h3 s.heap.objs.size (fun j => decide (j = i)) c) ?_ ?_ _ _ (.inl ⟨rfl, rfl⟩)) ?_ fun _ _ z => z
  · intro x rest b s' hI
    obtain ⟨hx, rfl⟩ : x :: rest = [.int i tk] ∧ s' = s2 := by
      rcases hI with z | ⟨z, _⟩
      · exact z
      · cases z
    injection hx with hx1 hx2
    subst hx1 hx2
    refine wpAny_bind ?_
    unfold setAdd
    refine wpAny_holding (wpAny_bind ((PySem.intKind X.prog X.w).pyHash (PySem.intKind_is X.prog X.w i tk) ?_))
    refine setR_add_hashed R2 (by unfold scanBound; omega) fun h3 sb R3 => ?_
    refine wpAny_pure (.inr ⟨rfl, h3, _, rfl, sb, _, R3.congr fun j => by simp⟩)
  · rintro b s' (⟨hx, _⟩ | ⟨_, z⟩)
    · cases hx
    · exact z
  · rintro b s' ⟨h3, t3, rfl, sb, c, R3⟩
    refine wp_if_neg (by show ¬ ((displayRoad 0 [e] == DisplayRoad.unsure) = true); simp [displayRoad]) ?_
    refine wpAny_pure ?_
    show wpAny _ _ (forIn ([] : List (Bool × Sem Value)) PUnit.unit _ >>= _) _ _ _
    rw [List.forIn_nil]
    refine wpAny_bind (wpAny_pure ?_)
    refine wpAny_pure ?_
    have I5 : Inv X pins σ H2 { s2 with heap := h3, toks := t3 } := I4.turned (fun b o nb e0 => sb.extBut b o nb e0) g1 p0L (.inr (Nat.le_trans I.sz (Nat.le_refl _))) p0c p0p
    obtain ⟨o3, _, _, _, ho3, _, hd3, _⟩ := id R3
    refine wpAny_pure ?_
    refine ⟨.ref _, _, keepExt I5 ho3 (fun v z => by rw [hd3] at z; cases z) g1 p0L I.sz p0p R3 (fun h4 h5 p k => SetR.at p k), rfl, q _ c g1⟩⟩
end
section
variable [TbC]
variable {T : Tx} {X : Cx} {a b e : Expr} {f g h : EF} {pos p p2 p3 p4 p5 p6 p7 : Pos}
def seqInts : PD → Option (List Int)
  | .list ds => if ds.length < 4000 then intsD ds else none
  | .tuple ds => if ds.length < 4000 then intsD ds else none
  | _ => none
theorem seqInts_ok {gh : Gh} {H : Hp} {K : Fg} {d : PD} {v : V} {ns : List Int} (s : Same gh.G H) (c : Cv K gh H d v) (e : seqInts d = some ns) : ∃ a, v = .ref a ∧ (SqL K H a (ns.map V.int) ∨ SqT K H a (ns.map V.int)) ∧ ns.length + 1 < scanBound := by
  unfold seqInts at e
  split at e
  · split at e
    · rename_i hl
      obtain ⟨a, rfl, q1⟩ := c.intsL s e
      exact ⟨a, rfl, .inl (.of q1), by rw [intsD_map e, List.length_map] at hl; exact scan4000 hl⟩
    · cases e
  · split at e
    · rename_i hl
      obtain ⟨a, rfl, q1⟩ := c.intsT s e
      exact ⟨a, rfl, .inr q1, by rw [intsD_map e, List.length_map] at hl; exact scan4000 hl⟩
    · cases e
  · cases e
def oLenSet (d : PD) : Option R := (seqInts d).map fun ns => .fz (.int (sortU ns).length)
theorem d_lenSet (hm : X.mg "len" = none) (hm2 : X.mg "set" = none) (ha : PE X a (tD T f)) (hK : T.K = X.K := by rfl) (hc : X.calm = true := by rfl) (hg : Gl X "len" := by rfl) (hg2 : Gl X "set" := by rfl) (hs : starEach [a] X.env = (false, eval a X.env) :: starEach [] X.env := by rfl)
    (hs2 : starEach [.Call (.Name "set" p2) [a] [] p3] X.env = (false, eval (.Call (.Name "set" p2) [a] [] p3) X.env) :: starEach [] X.env := by rfl) : PE X (.Call (.Name "len" p) [.Call (.Name "set" p2) [a] [] p3] [] pos) (tD T (eC f oLenSet)) :=
  PE.weak (pe_callB call_lenS hg hm (by first | rfl | decide +kernel) (pa_cons (pe_callTy (call_setI hc) hg2 hm2 (by first | rfl | decide +kernel) (pa_cons ha pa_nil hs) (he := hs) (hpl := rfl)) pa_nil hs2) (he := hs2) (hpl := rfl)) fun σ H Q z => eC_le (r := fun v H1 Q => rSetI X.K X.w [v] H1 fun x H2 => rLenS X.w [x] H2 Q) (fun gh0 gh H0 H σ w v d Q s k c z => by
    unfold oLenSet at z
    cases e : seqInts d with
    | none => rw [e] at z; exact z.none
    | some ns =>
      rw [e] at z
      obtain ⟨a, rfl, q1, q2⟩ := seqInts_ok k.sub c e
      refine ⟨a, ns, rfl, hK ▸ q1, q2, fun p cc hp => ⟨p, ns, cc, rfl, upd_same, ?_⟩⟩
      exact z.fz (s.trans (Stp.grow (K := T.K) hp _)) (k.grow hp _) (by simp [Rp])) σ H Q z
/-- set(a) - {e} == set(b) -/
def sdEq (ns : List Int) (i : Int) (ms : List Int) : Bool := (ns.all fun k => k == i || ms.contains k) && ms.all fun k => ns.contains k && k != i
theorem sdEq_iff {ns ms : List Int} {i : Int} : sdEq ns i ms = true ↔ ∀ k : Int, (decide (k ∈ ns) && !decide (k = i)) = decide (k ∈ ms) := by
  unfold sdEq
  simp only [Bool.and_eq_true, List.all_eq_true, Bool.or_eq_true, beq_iff_eq, List.contains_iff_mem, bne_iff_ne]
  constructor
  · rintro ⟨h1, h2⟩ k
    rw [Bool.eq_iff_iff]
    simp only [Bool.and_eq_true, decide_eq_true_eq, Bool.not_eq_true', decide_eq_false_iff_not]
    exact ⟨fun ⟨z1, z2⟩ => (h1 k z1).resolve_left z2, fun z => h2 k z⟩
  · intro hh
    have h2 : ∀ k : Int, (k ∈ ns ∧ ¬ k = i) ↔ k ∈ ms := fun k => by
      have := hh k
      rw [Bool.eq_iff_iff] at this
      simpa only [Bool.and_eq_true, decide_eq_true_eq, Bool.not_eq_true', decide_eq_false_iff_not] using this
    exact ⟨fun k hk => (Decidable.em (k = i)).imp id fun z => (h2 k).mp ⟨hk, z⟩, fun k hk => (h2 k).mpr hk⟩
def eSD (f g h : EF) : EF := fun w => match eF f w with
  | some (.fz d1, w1) => (match seqInts d1 with
    | some ns => (match eF g w1 with
      | some (.fz (.int i), w2) => (match eF h w2 with
        | some (.fz d3, w3) => (match seqInts d3 with
          | some ms => if ns.length < 8 then some (.fz (.bool (sdEq ns i ms)), w3) else none
          | none => none)
        | _ => none)
      | _ => none)
    | none => none)
  | _ => none

theorem grown_there {K : Fg} {g1 g2 : Gh} {H1 H2 : Hp} {σ : L2.St} {w : Wt} {p : Addr} {o : HO} (k : Ok K g1 H1 σ w) (hp : H1 p = none) (s : Stp g1 (upd H1 p o) g2 H2) : H2 p = some o := s.keep p o upd_same (k.nom hp)
theorem eSD_inv {w : Wt} {q : R × Wt} (e : eSD f g h w = some q) : ∃ d1 w1 ns i w2 d3 w3 ms, eF f w = some (.fz d1, w1) ∧ seqInts d1 = some ns ∧ eF g w1 = some (.fz (.int i), w2) ∧ eF h w2 = some (.fz d3, w3) ∧ seqInts d3 = some ms ∧ ns.length < 8 ∧ q = (.fz (.bool (sdEq ns i ms)), w3) := by
  unfold eSD at e
  split at e
  · rename_i d1 w1 e1
    split at e
    · rename_i ns e2
      split at e
      · rename_i i w2 e3
        split at e
        · rename_i d3 w3 e4
          split at e
          · rename_i ms e5
            split at e
            · rename_i hl
              cases e
              exact ⟨d1, w1, ns, i, w2, d3, w3, ms, e1, e2, e3, e4, e5, hl, rfl⟩
            · cases e
          · cases e
        · cases e
      · cases e
    · cases e
  · cases e
theorem d_sdEq {kk : Nat} (rm : Rm kk X.A) (hcode : PySem.W.kdsCode X.K X.env.code = true) (hm : X.mg "set" = none) (ha : PE X a (tD T f)) (he : PE X e (tD T g)) (hb : PE X b (tD T h)) (hK : T.K = X.K := by rfl) (hpl : PySem.W.kdsPlain e = true := by rfl) (hc : X.calm = true := by rfl) (hg : Gl X "set" := by rfl)
    (hs : starEach [a] X.env = (false, eval a X.env) :: starEach [] X.env := by rfl) (hs2 : starEach [b] X.env = (false, eval b X.env) :: starEach [] X.env := by rfl) (hmk : behindInMarks .Eq (.Call (.Name "set" p5) [b] [] p6) = false := by first | exact nomark _ | rfl) :
    PE X (.Compare (.BinOp (.Call (.Name "set" p2) [a] [] p3) .Sub (.Set [e] 0 p4) p7) [.Eq] [.Call (.Name "set" p5) [b] [] p6] pos) (tD T (eSD f g h)) :=
  PE.weak (pe_cmpR (op_eqS (Nat.lt_of_le_of_lt (Nat.le_add_right _ 180) (un180 rm))) (pe_op op_subS (pe_callTy (call_setI hc) hg hm (by first | rfl | decide +kernel) (pa_cons ha pa_nil hs) (he := hs) (hpl := rfl)) (pe_set1 hcode he hpl)) (pe_callTy (call_setI hc) hg hm (by first | rfl | decide +kernel) (pa_cons hb pa_nil hs2) (he := hs2) (hpl := rfl)) hmk) fun σ H Q z => by
    obtain ⟨gh, w, k, z⟩ := z
    obtain ⟨r0, w0, e0, _, fin⟩ := z
    obtain ⟨d1, w1, ns, i, w2, d3, w3, ms, e1, e2, e3, e4, e5, hl, eq⟩ := eSD_inv e0
    cases eq
    refine eF_le _ _ _ ⟨gh, w, k, .fz d1, w1, e1, fun _ _ z => (nomatch z), fun v gh1 H1 s1 k1 rv => ?_⟩
    obtain ⟨a1, rfl, q1, b1⟩ := seqInts_ok k1.sub (.inl rv) e2
    refine ⟨a1, ns, rfl, hK ▸ q1, b1, fun p1 c1 hp1 => ?_⟩
    have k2 := k1.grow hp1 (SetO X.w p1 (fun j => decide (j ∈ ns)) c1)
    have s2 : Stp gh1 H1 gh1 (upd H1 p1 (SetO X.w p1 (fun j => decide (j ∈ ns)) c1)) := Stp.grow (K := T.K) hp1 _
    refine eF_le _ _ _ ⟨gh1, w1, k2, .fz (.int i), w2, e3, fun _ _ z => (nomatch z), fun y gh2 H3 s3 k3 rv2 => ⟨i, (Cv.int (K := T.K) (gh := gh2) (H := H3) (.inl rv2) : y = .int i), fun p2 c2 hp2 => ?_⟩⟩
    have t3 := grown_there k1 hp1 s3
    have n12 : p1 ≠ p2 := ne_of_none t3 hp2
    refine ⟨p1, p2, _, _, c1, c2, ns, rfl, rfl, by rw [upd_ne n12]; exact t3, upd_same, fun j hj => of_decide_eq_true hj, hl, ⟨i, decide_eq_true rfl⟩, fun p3 c3 hp3 => ?_⟩
    have k4 := k3.grow hp2 (SetO X.w p2 (fun j => decide (j = i)) c2)
    have s4 : Stp gh2 H3 gh2 (upd H3 p2 (SetO X.w p2 (fun j => decide (j = i)) c2)) := Stp.grow (K := T.K) hp2 _
    have k5 := k4.grow hp3 (SetO X.w p3 (fun j => decide (j ∈ ns) && !decide (j = i)) c3)
    have s5 : Stp gh2 (upd H3 p2 (SetO X.w p2 (fun j => decide (j = i)) c2)) gh2 (upd (upd H3 p2 (SetO X.w p2 (fun j => decide (j = i)) c2)) p3 (SetO X.w p3 (fun j => decide (j ∈ ns) && !decide (j = i)) c3)) := Stp.grow (K := T.K) hp3 _
    refine eF_le _ _ _ ⟨gh2, w2, k5, .fz d3, _, e4, fun _ _ z => (nomatch z), fun u gh3 H5 s6 k6 rv3 => ?_⟩
    obtain ⟨a3, rfl, q3, b3⟩ := seqInts_ok k6.sub (.inl rv3) e5
    have t5 := grown_there k4 hp3 s6
    refine ⟨a3, ms, rfl, hK ▸ q3, b3, fun p4 c4 hp4 => ?_⟩
    refine ⟨p3, p4, _, _, c3, c4, rfl, rfl, by rw [upd_ne (ne_of_none t5 hp4)]; exact t5, upd_same, fun v hv => ?_⟩
    have ev : v = sdEq ns i ms := by
      rw [Bool.eq_iff_iff, hv, sdEq_iff]
    subst ev
    exact fin (.bl _) gh3 _ ((((((s1.trans s2).trans s3).trans s4).trans s5).trans s6).trans (Stp.grow (K := T.K) hp4 _)) (k6.grow hp4 _) (by simp [RV, Rp])
end
end DL
set_option maxHeartbeats 1000000
/-! DL11: zip, enumerate, ranges as lists, repr, dict comprehensions, calls by keywords alone. -/
namespace DL
open PySem PySem.Spec PyProof.Rows L2
variable [TbC]
section
variable {T : Tx} {X : Cx} {e e1 e2 a b c : Expr} {es : List Expr} {f g h : EF} {pos p p2 p3 tpos : Pos} {gh0 gh : Gh} {H0 H : Hp} {σ : L2.St} {w : Wt}
/-! ### zip, enumerate -/
def pairs2 (xs ys : List PD) : List PD := List.zipWith (fun x y => .tuple [x, y]) xs ys
def pairsN : Nat → List PD → List PD
  | _, [] => []
  | i, x :: r => .tuple [.int i, x] :: pairsN (i + 1) r
theorem pairsN_get : ∀ (xs : List PD) (i j : Nat), (pairsN i xs)[j]? = xs[j]?.map fun x => .tuple [.int ((i + j : Nat) : Int), x]
  | [], i, j => by simp [pairsN]
  | x :: r, i, 0 => by simp [pairsN]
  | x :: r, i, j + 1 => by
    rw [pairsN, List.getElem?_cons_succ, List.getElem?_cons_succ, pairsN_get r (i + 1) j, Nat.succ_add_eq_add_succ]
theorem pairsN_len : ∀ (xs : List PD) (i : Nat), (pairsN i xs).length = xs.length
  | [], i => rfl
  | x :: r, i => by rw [pairsN, List.length_cons, List.length_cons, pairsN_len r]
def iZ (g : AF) : IF := fun w => match g w with
  | some (.ok [.list xs, .list ys], w1) => some (pairs2 xs ys, w1)
  | some (.ok [.tuple xs, .tuple ys], w1) => some (pairs2 xs ys, w1)
  | _ => none
def iE (g : AF) : IF := fun w => match g w with
  | some (.ok [.list xs], w1) => some (pairsN 0 xs, w1)
  | _ => none
theorem Ok.laidPair {K : Fg} {x y : V} {dx dy : PD} {t : Addr} (k : Ok K gh H σ w) (ht : H t = none) (rx : Rp K gh.G dx x) (ry : Rp K gh.G dy y) :
    ∃ gh' : Gh, Stp gh H gh' (upd H t (.tup [x, y])) ∧ Ok K gh' (upd H t (.tup [x, y])) σ w ∧ Rp K gh'.G (.tuple [dx, dy]) (.ref t) := by
  refine ⟨_, Stp.lay k ht _, k.lay ht _, ?_⟩
  have sg : Same gh.G (upd gh.G t (.tup [x, y])) := same_lay (k.nog ht)
  simp only [Rp]
  exact ⟨t, _, rfl, .of upd_same, RpA.cons (Rp.mono sg _ _ rx) (RpA.cons (Rp.mono sg _ _ ry) RpA.nil)⟩
theorem get_pairs2 {xs ys : List PD} {j : Nat} {d : PD} (h : (pairs2 xs ys)[j]? = some d) : ∃ x y, xs[j]? = some x ∧ ys[j]? = some y ∧ d = .tuple [x, y] := by
  unfold pairs2 at h
  rw [List.getElem?_zipWith] at h
  cases e1 : xs[j]? with
  | none => rw [e1] at h; simp at h
  | some x =>
    cases e2 : ys[j]? with
    | none => rw [e1, e2] at h; simp at h
    | some y =>
      rw [e1, e2] at h
      exact ⟨x, y, rfl, rfl, by simpa using h.symm⟩
theorem DIt.zipL {a b : Addr} {xs ys : List V} {ds es : List PD} (h1 : gh0.G a = some (.lst xs)) (h2 : gh0.G b = some (.lst ys)) (r1 : RpA T.K gh0.G ds xs) (r2 : RpA T.K gh0.G es ys) : DIt T (Itz T.K a b) gh0 H0 (pairs2 ds es) := fun gh H σ w j s k => by
  have q1 : SqL T.K H a xs := .of (k.sub _ _ (s _ _ h1))
  have q2 : SqL T.K H b ys := .of (k.sub _ _ (s _ _ h2))
  refine ⟨fun d hd => ?_, fun hj => ⟨xs, ys, q1, q2, ?_⟩⟩
  · obtain ⟨dx, dy, hx, hy, rfl⟩ := get_pairs2 hd
    obtain ⟨x, ex, rx⟩ := r1.get hx
    obtain ⟨y, ey, ry⟩ := r2.get hy
    refine ⟨⟨xs, ys, x, y, q1, q2, ex, ey⟩, fun v H' z => ?_⟩
    obtain ⟨t, x', y', rfl, ht, rfl, z1, z2⟩ := z
    have z1 := z1 xs q1
    have z2 := z2 ys q2
    rw [ex] at z1; rw [ey] at z2
    cases z1; cases z2
    exact k.laidPair ht (Rp.mono s _ _ rx) (Rp.mono s _ _ ry)
  · unfold pairs2 at hj
    rw [List.length_zipWith, ← r1.len, ← r2.len] at hj
    omega
theorem DIt.zipT {a b : Addr} {xs ys : List V} {ds es : List PD} (h1 : SqT T.K gh0.G a xs) (h2 : SqT T.K gh0.G b ys) (r1 : RpA T.K gh0.G ds xs) (r2 : RpA T.K gh0.G es ys) : DIt T (RZ.ItzT T.K a b) gh0 H0 (pairs2 ds es) := fun gh H σ w j s k => by
  have q1 : SqT T.K H a xs := sqT_mono k.sub (sqT_mono s h1)
  have q2 : SqT T.K H b ys := sqT_mono k.sub (sqT_mono s h2)
  refine ⟨fun d hd => ?_, fun hj => ⟨xs, ys, q1, q2, ?_⟩⟩
  · obtain ⟨dx, dy, hx, hy, rfl⟩ := get_pairs2 hd
    obtain ⟨x, ex, rx⟩ := r1.get hx
    obtain ⟨y, ey, ry⟩ := r2.get hy
    refine ⟨⟨xs, ys, x, y, q1, q2, ex, ey⟩, fun v H' z => ?_⟩
    obtain ⟨t, x', y', rfl, ht, rfl, z1, z2⟩ := z
    have z1 := z1 xs q1
    have z2 := z2 ys q2
    rw [ex] at z1; rw [ey] at z2
    cases z1; cases z2
    exact k.laidPair ht (Rp.mono s _ _ rx) (Rp.mono s _ _ ry)
  · unfold pairs2 at hj
    rw [List.length_zipWith, ← r1.len, ← r2.len] at hj
    omega
theorem DIt.enum {a : Addr} {xs : List V} {ds : List PD} (h1 : gh0.G a = some (.lst xs)) (r1 : RpA T.K gh0.G ds xs) : DIt T (Ite T.K a) gh0 H0 (pairsN 0 ds) := fun gh H σ w j s k => by
  have q1 : SqL T.K H a xs := .of (k.sub _ _ (s _ _ h1))
  refine ⟨fun d hd => ?_, fun hj => ⟨xs, q1, by rw [pairsN_len] at hj; rw [r1.len]; exact hj⟩⟩
  rw [pairsN_get, Nat.zero_add] at hd
  cases hx : ds[j]? with
  | none => rw [hx] at hd; cases hd
  | some dx =>
    rw [hx] at hd
    cases hd
    obtain ⟨x, ex, rx⟩ := r1.get hx
    refine ⟨⟨xs, x, q1, ex⟩, fun v H' z => ?_⟩
    obtain ⟨t, x', rfl, ht, rfl, z1⟩ := z
    have z1 := z1 xs q1
    rw [ex] at z1
    cases z1
    exact k.laidPair ht (by simp [Rp]) (Rp.mono s _ _ rx)
theorem di_zip {elts : List Expr} {kk : Nat} {g : AF} (hm : X.mg "zip" = none) (ha : PA X [e1, e2] (tA T g)) (hK : T.K = X.K := by rfl) (hg : Gl X "zip" := by rfl) (hs : starEach [e1, e2] X.env = (false, eval e1 X.env) :: starEach [e2] X.env := by rfl) (hpl : (backTo pos (starEach [e2] X.env)).any (·.1) = false := by rfl) :
    PI X (.Tuple elts kk tpos) (.Call (.Name "zip" p) [e1, e2] [] pos) (tI T (iZ g)) := PI.weak (RZ.pi_zipA hg hm ha hs hpl) fun σ H Rr z => by
  obtain ⟨gh, w, ds, w', k, e, q⟩ := z
  unfold iZ at e
  split at e
  · rename_i xs ys w1 y
    cases e
    refine tA_ok k y fun vs gh' H' s k' r => ?_
    simp only [RpA, Rp] at r
    obtain ⟨x, rr, rfl, ⟨a, vx, rfl, h1, r1⟩, x2, r2, rfl, ⟨b, vy, rfl, h2, r2'⟩, rfl⟩ := r
    exact ⟨a, b, vx, vy, rfl, .inl ⟨.of (k'.sub _ _ h1), .of (k'.sub _ _ h2), hK ▸ q _ gh' H' s k' (DIt.zipL h1 h2 r1 r2')⟩⟩
  · rename_i xs ys w1 y
    cases e
    refine tA_ok k y fun vs gh' H' s k' r => ?_
    simp only [RpA, Rp] at r
    obtain ⟨x, rr, rfl, ⟨a, vx, rfl, h1, r1⟩, x2, r2, rfl, ⟨b, vy, rfl, h2, r2'⟩, rfl⟩ := r
    exact ⟨a, b, vx, vy, rfl, .inr ⟨hK ▸ sqT_mono k'.sub h1, hK ▸ sqT_mono k'.sub h2, hK ▸ q _ gh' H' s k' (DIt.zipT h1 h2 r1 r2')⟩⟩
  · cases e
theorem di_enum {elts : List Expr} {kk : Nat} {g : AF} (hm : X.mg "enumerate" = none) (ha : PA X [a] (tA T g)) (hK : T.K = X.K := by rfl) (hg : Gl X "enumerate" := by rfl) (hs : starEach [a] X.env = [(false, eval a X.env)] := by rfl) :
    PI X (.Tuple elts kk tpos) (.Call (.Name "enumerate" p) [a] [] pos) (tI T (iE g)) := PI.weak (pi_enum hg hm ha hs) fun σ H Rr z => by
  obtain ⟨gh, w, ds, w', k, e, q⟩ := z
  unfold iE at e
  split at e
  · rename_i xs w1 y
    cases e
    refine tA_ok k y fun vs gh' H' s k' r => ?_
    simp only [RpA, Rp] at r
    obtain ⟨x, rr, rfl, ⟨a, vx, rfl, h1, r1⟩, rfl⟩ := r
    exact ⟨a, vx, rfl, .of (k'.sub _ _ h1), hK ▸ q _ gh' H' s k' (DIt.enum h1 r1)⟩
  · cases e
/-! ### list(range(..)), tuple(range(..)) -/
def rgD (a b : Int) : List PD := (List.range (b - a).toNat).map fun i => .int (a + (i : Nat))
theorem rgD_rp {K : Fg} {H : Hp} (a b : Int) : RpA K H (rgD a b) (rgV a b) := by
  unfold rgD rgV
  generalize List.range (b - a).toNat = l
  induction l with
  | nil => exact RpA.nil
  | cons x r ih => exact RpA.cons (by simp [Rp]) ih
def rgOk (a b : Int) : Bool := decide (0 ≤ a) && decide (a ≤ 1000000) && decide (0 ≤ b) && decide (b ≤ 1000000)
theorem rgOk_ok {a b : Int} (h : rgOk a b = true) : RgOk a b := by
  unfold rgOk at h
  simp only [Bool.and_eq_true, decide_eq_true_eq] at h
  exact RgOk.of_le h.1.1.1 (by omega) (by omega) h.1.2
def oLR1 (d : PD) : Option R := match d with
  | .int n => if rgOk 0 n = true then some (.ow (.list (rgD 0 n))) else none
  | _ => none
def oTR1 (d : PD) : Option R := match d with
  | .int n => if rgOk 0 n = true then some (.fz (.tuple (rgD 0 n))) else none
  | _ => none
def oLR2 (d d' : PD) : Option R := match d, d' with
  | .int m, .int n => if rgOk m n = true then some (.ow (.list (rgD m n))) else none
  | _, _ => none
def oTR2 (d d' : PD) : Option R := match d, d' with
  | .int m, .int n => if rgOk m n = true then some (.fz (.tuple (rgD m n))) else none
  | _, _ => none
theorem d_listR1 (hm : X.mg "list" = none) (hm2 : X.mg "range" = none) (ha : PE X a (tD T f)) (hc : X.calm = true := by rfl) (hg : Gl X "list" := by rfl) (hg2 : Gl X "range" := by rfl) (hs : starEach [a] X.env = (false, eval a X.env) :: starEach [] X.env := by rfl)
    (hs2 : starEach [.Call (.Name "range" p2) [a] [] p3] X.env = (false, eval (.Call (.Name "range" p2) [a] [] p3) X.env) :: starEach [] X.env := by rfl) : PE X (.Call (.Name "list" p) [.Call (.Name "range" p2) [a] [] p3] [] pos) (tD T (eC f oLR1)) :=
  PE.weak (pe_listRg hc hg hm (prg_1 hg2 hm2 ha hs) hs2) fun σ H Q z => eC_le (r := fun x H1 Q => ∃ n, x = .int n ∧ (RgOk 0 n ∧ ∀ q, H1 q = none → Q (.ref q) (upd H1 q (.lst (rgV 0 n))))) (fun gh0 gh H0 H σ w v d Q s k c z => by
    unfold oLR1 at z
    split at z
    · split at z
      · rename_i h
        exact ⟨_, c.int, rgOk_ok h, fun q hq => z.lst s k (rgD_rp _ _) hq⟩
      · exact z.none
    · exact z.none) σ H Q z
theorem d_tupR1 (hm : X.mg "tuple" = none) (hm2 : X.mg "range" = none) (ha : PE X a (tD T f)) (hc : X.calm = true := by rfl) (hg : Gl X "tuple" := by rfl) (hg2 : Gl X "range" := by rfl) (hs : starEach [a] X.env = (false, eval a X.env) :: starEach [] X.env := by rfl)
    (hs2 : starEach [.Call (.Name "range" p2) [a] [] p3] X.env = (false, eval (.Call (.Name "range" p2) [a] [] p3) X.env) :: starEach [] X.env := by rfl) : PE X (.Call (.Name "tuple" p) [.Call (.Name "range" p2) [a] [] p3] [] pos) (tD T (eC f oTR1)) :=
  PE.weak (pe_tupRg hc hg hm (prg_1 hg2 hm2 ha hs) hs2) fun σ H Q z => eC_le (r := fun x H1 Q => ∃ n, x = .int n ∧ (RgOk 0 n ∧ ∀ q, H1 q = none → Q (.ref q) (upd H1 q (.tup (rgV 0 n))))) (fun gh0 gh H0 H σ w v d Q s k c z => by
    unfold oTR1 at z
    split at z
    · split at z
      · rename_i h
        exact ⟨_, c.int, rgOk_ok h, fun q hq => z.tup s k (rgD_rp _ _) hq⟩
      · exact z.none
    · exact z.none) σ H Q z
theorem d_listR2 (hm : X.mg "list" = none) (hm2 : X.mg "range" = none) (ha : PE X a (tD T f)) (hb : PE X b (tD T g)) (hc : X.calm = true := by rfl) (hg : Gl X "list" := by rfl) (hg2 : Gl X "range" := by rfl) (hs : starEach [a, b] X.env = (false, eval a X.env) :: starEach [b] X.env := by rfl) (hsb : starEach [b] X.env = (false, eval b X.env) :: starEach [] X.env := by rfl) (hpl : (backTo p3 (starEach [b] X.env)).any (·.1) = false := by rfl)
    (hs2 : starEach [.Call (.Name "range" p2) [a, b] [] p3] X.env = (false, eval (.Call (.Name "range" p2) [a, b] [] p3) X.env) :: starEach [] X.env := by rfl) : PE X (.Call (.Name "list" p) [.Call (.Name "range" p2) [a, b] [] p3] [] pos) (tD T (eC2 f g oLR2)) :=
  PE.weak (pe_listRg hc hg hm (prg_2 hg2 hm2 ha hb hs hsb hpl) hs2) fun σ H Q z => eC2_le (r := fun x y H1 Q => ∃ m n, x = .int m ∧ y = .int n ∧ (RgOk m n ∧ ∀ q, H1 q = none → Q (.ref q) (upd H1 q (.lst (rgV m n))))) (fun gh0 gh H0 H σ w v u d d' Q s k c c' z => by
    unfold oLR2 at z
    split at z
    · split at z
      · rename_i h
        exact ⟨_, _, c.int, c'.int, rgOk_ok h, fun q hq => z.lst s k (rgD_rp _ _) hq⟩
      · exact z.none
    · exact z.none) σ H Q z
theorem d_tupR2 (hm : X.mg "tuple" = none) (hm2 : X.mg "range" = none) (ha : PE X a (tD T f)) (hb : PE X b (tD T g)) (hc : X.calm = true := by rfl) (hg : Gl X "tuple" := by rfl) (hg2 : Gl X "range" := by rfl) (hs : starEach [a, b] X.env = (false, eval a X.env) :: starEach [b] X.env := by rfl) (hsb : starEach [b] X.env = (false, eval b X.env) :: starEach [] X.env := by rfl) (hpl : (backTo p3 (starEach [b] X.env)).any (·.1) = false := by rfl)
    (hs2 : starEach [.Call (.Name "range" p2) [a, b] [] p3] X.env = (false, eval (.Call (.Name "range" p2) [a, b] [] p3) X.env) :: starEach [] X.env := by rfl) : PE X (.Call (.Name "tuple" p) [.Call (.Name "range" p2) [a, b] [] p3] [] pos) (tD T (eC2 f g oTR2)) :=
  PE.weak (pe_tupRg hc hg hm (prg_2 hg2 hm2 ha hb hs hsb hpl) hs2) fun σ H Q z => eC2_le (r := fun x y H1 Q => ∃ m n, x = .int m ∧ y = .int n ∧ (RgOk m n ∧ ∀ q, H1 q = none → Q (.ref q) (upd H1 q (.tup (rgV m n))))) (fun gh0 gh H0 H σ w v u d d' Q s k c c' z => by
    unfold oTR2 at z
    split at z
    · split at z
      · rename_i h
        exact ⟨_, _, c.int, c'.int, rgOk_ok h, fun q hq => z.tup s k (rgD_rp _ _) hq⟩
      · exact z.none
    · exact z.none) σ H Q z
/-! ### repr -/
def oRepr (d : PD) : Option R := if flatD d = true ∧ d.showable = true ∧ d.shown.length < lim then some (.fz (.str d.shown)) else none
mutual
theorem noDict_plain : ∀ d : PD, d.plain = true → d.hasDict = false
  | .none, _ => rfl
  | .bool _, _ => rfl
  | .int _, _ => rfl
  | .str _, _ => rfl
  | .list ds, h => noDict_plainAll ds (by simpa [PyData.plain] using h)
  | .tuple ds, h => noDict_plainAll ds (by simpa [PyData.plain] using h)
  | .dict _, h => by simp [PyData.plain] at h
theorem noDict_plainAll : ∀ ds : List PD, PyData.plainAll ds = true → PyData.hasDictAll ds = false
  | [], _ => rfl
  | d :: ds, h => by
    simp only [PyData.plainAll, Bool.and_eq_true] at h
    simp only [PyData.hasDictAll, noDict_plain d h.1, noDict_plainAll ds h.2, Bool.or_false]
end
theorem d_repr {kk : Nat} (rm : Rm kk X.A) (hm : X.mg "repr" = none) (ha : PE X a (tD T f)) (hK : T.K = X.K := by rfl) (hg : Gl X "repr" := by rfl) (hs : starEach [a] X.env = (false, eval a X.env) :: starEach [] X.env := by rfl) : PE X (.Call (.Name "repr" p) [a] [] pos) (tD T (eC f oRepr)) :=
  d_b1 (r := fun xs H Q => ∃ v d, xs = [v] ∧ Dp X.K H v d ∧ flatD d = true ∧ d.showable = true ∧ d.shown.length < lim ∧ Q (.str d.shown) H) (fun pins s σ H xs us Q I r h => by
    obtain ⟨v, d, rfl, dp, hf, hsh, hl, q⟩ := h
    obtain ⟨u, rfl, r1⟩ := vals1 r
    obtain ⟨as, rd⟩ := Dp.reads I d v u dp r1
    have hz : d.shown.length ≤ sizeLine := lim_le hl
    have fin : ∀ h' t tk, (∀ b o, s.heap.get? b = some o → h'.get? b = some o) → EP X pins σ Q (.str d.shown t) { s with heap := h', toks := tk } := fun h' t tk hk => ⟨.str d.shown, H, I.kept hk, ⟨_, rfl⟩, q⟩
    have hu := un180 rm
    have hd := flat_depth hf
    cases rd with
    | none => exact P.repr_of_none (fin _ _ _ fun _ _ e => e)
    | bool b => exact P.repr_of_bool (fin _ _ _ fun _ _ e => e)
    | int n t => exact P.repr_of_int (of_decide_eq_true hsh) (fin _ _ _ fun _ _ e => e)
    | str x t => exact P.repr_of_str (fin _ _ _ fun _ _ e => e) hz
    | list h1 h2 h3 h4 => exact repr_of_reads' (Reads.list h1 h2 h3 h4) hsh (PyData.noDict_hsm (noDict_plain _ (flat_plain hf))) rm.gd (by omega) (fun _ _ e => e) fin hz
    | tuple h1 h2 h3 h4 => exact repr_of_reads' (Reads.tuple h1 h2 h3 h4) hsh (PyData.noDict_hsm (noDict_plain _ (flat_plain hf))) rm.gd (by omega) (fun _ _ e => e) fin hz
    | dict h1 h2 h3 h4 h5 => exact absurd (flat_plain hf) (by simp [PyData.plain])) (fun gh0 gh H0 H σ w v d Q s k c z => by
      unfold oRepr at z
      split at z
      · rename_i h
        exact ⟨v, d, rfl, hK ▸ c.dp k.sub h.1, h.1, h.2.1, h.2.2, z.fz s k (by simp [Rp])⟩
      · exact z.none) hm ha (by first | rfl | decide +kernel) (hg := hg) (hs := hs)
/-- {} -/
def eDct0 : EF := fun w => some (.ow (.dict []), w)
theorem d_dct0 : PE X (.Dict [] [] pos) (tD T eDct0) := PE.weak pe_dnewK fun σ H Q z => by
  obtain ⟨gh, w, k, z⟩ := z
  exact fun p hp => z.dctn (Stp.refl _ _) k (by simp [RpK]) hp
/-! ### dict comprehensions -/
def putD (kvs : List (PD × PD)) (k : Key) (d : PD) : List (PD × PD) := if (kvs.any fun p => decide (keyOfD p.1 = some k)) = true then kvs.map (fun p => if keyOfD p.1 = some k then (p.1, d) else p) else kvs ++ [(kD k, d)]
theorem keyOf_kD (k : Key) : keyOfD (kD k) = some k := by cases k <;> rfl
theorem RpK.anyK {K : Fg} {H : Hp} (k : Key) : ∀ {kvs : List (PD × PD)} {es : List (Key × V)}, RpK K H kvs es → (es.any fun kv => decide (kv.1 = k)) = (kvs.any fun p => decide (keyOfD p.1 = some k))
  | [], es, r => by simp only [RpK] at r; subst r; rfl
  | (q, c) :: t, es, r => by
    simp only [RpK] at r
    obtain ⟨k', x, t', rfl, rfl, r1, r2⟩ := r
    rw [List.any_cons, List.any_cons, RpK.anyK k r2, keyOf_kD]
    simp
theorem RpK.mapK {K : Fg} {H : Hp} {k : Key} {d : PD} {v : V} (rv : Rp K H d v) : ∀ {kvs : List (PD × PD)} {es : List (Key × V)}, RpK K H kvs es → RpK K H (kvs.map (fun p => if keyOfD p.1 = some k then (p.1, d) else p)) (es.map fun kv => if kv.1 = k then (kv.1, v) else kv)
  | [], es, r => by simp only [RpK] at r; subst r; simp [RpK]
  | (q, c) :: t, es, r => by
    simp only [RpK] at r
    obtain ⟨k', x, t', rfl, rfl, r1, r2⟩ := r
    have ih := RpK.mapK (k := k) rv r2
    rw [List.map_cons, List.map_cons]
    by_cases z : k' = k
    · subst z
      rw [if_pos rfl, if_pos (keyOf_kD _)]
      simp only [RpK]
      exact ⟨_, _, _, rfl, rfl, rv, ih⟩
    · rw [if_neg z, if_neg (by rw [keyOf_kD]; exact fun y => z (Option.some.inj y))]
      simp only [RpK]
      exact ⟨_, _, _, rfl, rfl, r1, ih⟩
theorem RpK.snoc {K : Fg} {H : Hp} {k : Key} {d : PD} {v : V} (rv : Rp K H d v) : ∀ {kvs : List (PD × PD)} {es : List (Key × V)}, RpK K H kvs es → RpK K H (kvs ++ [(kD k, d)]) (es ++ [(k, v)])
  | [], es, r => by simp only [RpK] at r; subst r; simp only [List.nil_append, RpK]; exact ⟨_, _, _, rfl, rfl, rv, rfl⟩
  | (q, c) :: t, es, r => by
    simp only [RpK] at r
    obtain ⟨k', x, t', rfl, rfl, r1, r2⟩ := r
    simp only [List.cons_append, RpK]
    exact ⟨_, _, _, rfl, rfl, r1, RpK.snoc rv r2⟩
theorem RpK.putK {K : Fg} {H : Hp} {k : Key} {d : PD} {v : V} {kvs : List (PD × PD)} {es : List (Key × V)} (r : RpK K H kvs es) (rv : Rp K H d v) : RpK K H (putD kvs k d) (L2.putK es k v) := by
  unfold putD L2.putK
  rw [RpK.anyK k r]
  split
  · exact RpK.mapK rv r
  · exact RpK.snoc rv r
theorem RpK.len {K : Fg} {H : Hp} : ∀ {kvs : List (PD × PD)} {es : List (Key × V)}, RpK K H kvs es → es.length = kvs.length
  | [], es, r => by simp only [RpK] at r; subst r; rfl
  | (q, c) :: t, es, r => by
    simp only [RpK] at r
    obtain ⟨k', x, t', rfl, rfl, r1, r2⟩ := r
    rw [List.length_cons, List.length_cons, RpK.len r2]
theorem keyV {K : Fg} {H : Hp} {d : PD} {k : Key} {v : V} (e : keyOfD d = some k) (r : Rp K H d v) : v = kV k := by
  cases d <;> first | (cases e; simp only [Rp] at r; exact r) | cases e
def dcL (vs : List Nat) (tg : TgF) (tt : TFn) (fk fe : EF) : List PD → Wt → List (PD × PD) → Option (List (PD × PD) × Wt)
  | [], w, acc => some (acc, w)
  | d :: ds, w, acc => match tg d w with
    | none => none
    | some w1 => (match tt w1 with
      | some (.b true, w2) => (match eF fk w2 with
        | some (.fz kd, w3) => (match eF fe w3 with
          | some (.fz y, w4) => (match keyOfD kd with
            | some k => if plainW w4 vs = true ∧ acc.length < lim then dcL vs tg tt fk fe ds (w4.wipe vs) (putD acc k y) else none
            | none => none)
          | _ => none)
        | _ => none)
      | some (.b false, w2) => if plainW w2 vs = true then dcL vs tg tt fk fe ds (w2.wipe vs) acc else none
      | _ => none)
def eDC (vs : List Nat) (fi : IF) (tg : TgF) (tt : TFn) (fk fe : EF) : EF := fun w => match fi w with
  | some (ds, w1) => if plainW w1 vs = true then (match dcL vs tg tt fk fe ds (w1.wipe vs) [] with
    | some (acc, w2) => some (.ow (.dict acc), w1.rest w2 vs)
    | none => none) else none
  | none => none
/-- what of an untracked new object stays through later steps -/
theorem Stp.stay {g g' : Gh} {H H' : Hp} {D : Addr} {o : HO} (s : Stp g H g' H') (h : H D = some o) (nG : g.G D = none) (nM : ¬ g.M D) (hx : ∀ φ, o ≠ .ext φ := by intro φ z; cases z) : H' D = some o ∧ g'.G D = none ∧ ¬ g'.M D := by
  refine ⟨s.keep D _ h nM, ?_, fun m => ?_⟩
  · cases q : g'.G D with
    | none => rfl
    | some o =>
      rcases s.gnew D o q with z | z | z | ⟨φ, z⟩
      · rw [nG] at z; cases z
      · rw [h] at z; cases z
      · exact absurd z nM
      · rw [h] at z; cases z; exact (hx φ rfl).elim
  · rcases s.mnew D m with z | z
    · exact nM z
    · rw [h] at z; cases z
/-- an untracked new object is written -/
theorem Ok.poke {K : Fg} {g : Gh} {H : Hp} {D : Addr} {o : HO} (k : Ok K g H σ w) (nG : g.G D = none) (nM : ¬ g.M D) : Ok K g (upd H D o) σ w := by
  refine ⟨k.len, fun a o q => ?_, k.val, k.scr, fun i d q => ?_, k.onl, k.inj, k.st, fun p q => ?_, k.sap, k.dis, fun p q => (k.tab p q).mono (fun _ _ z => z) (upd_ne fun z => nM (.inr (.inr ⟨p, q, z.symm⟩))), k.tbw⟩
  · have hne : a ≠ D := fun z => by subst z; rw [nG] at q; cases q
    rw [upd_ne hne]; exact k.sub a o q
  · obtain ⟨a, q0, q1, r⟩ := k.own i d q
    have hne : a ≠ D := fun z => by subst z; exact nM (.inl ⟨i, q0⟩)
    exact ⟨a, q0, q1, r.mono (fun _ _ z => z) (upd_ne hne)⟩
  · have n1 : p.1 ≠ D := fun z => nM (.inr (.inl ⟨p, q, .inl z.symm⟩))
    have n2 : p.2 ≠ D := fun z => nM (.inr (.inl ⟨p, q, .inr z.symm⟩))
    exact (k.src p q).mono (fun _ _ z => z) (upd_ne n1) (upd_ne n2)
theorem Stp.poke {g g' : Gh} {H H' : Hp} {D : Addr} {o : HO} (s : Stp g H g' H') (hD : H D = none) : Stp g H g' (upd H' D o) := by
  refine ⟨s.sub, fun a o q n => ?_, fun a q => ?_, s.gnew, s.mnew, s.dr, s.tbk⟩
  · have hne : a ≠ D := ne_of_none q hD
    rw [upd_ne hne]; exact s.keep a o q n
  · by_cases hne : a = D
    · subst hne; exact hD
    · rw [upd_ne hne] at q; exact s.dom a q
theorem dc_le {vs ixs : List Nat} {fi : IF} {tg : TgF} {tt : TFn} {fk fe : EF} (hx : ∀ j ∈ ixs, j ∈ vs) (σ : L2.St) (H : Hp) (Q : VK) (h : tD T (eDC vs fi tg tt fk fe) σ H Q) : tDc (tI T fi) (tG T ixs tg) (tT T tt) (tD T (eF fk)) (tD T (eF fe)) vs σ H Q := by
  obtain ⟨gh, w, k, z⟩ := h
  unfold eDC at z
  cases y : fi w with
  | none => rw [y] at z; exact z.none
  | some p =>
    obtain ⟨ds, w1⟩ := p
    rw [y] at z
    dsimp only at z
    split at z
    · rename_i hp
      cases y2 : dcL vs tg tt fk fe ds (w1.wipe vs) [] with
      | none => rw [y2] at z; exact z.none
      | some q =>
        obtain ⟨acc, w2⟩ := q
        rw [y2] at z
        dsimp only at z
        obtain ⟨r', w', er, _, fin⟩ := z
        cases er
        refine ⟨gh, w, ds, w1, k, y, fun J gh' H' s k' it D hD => ?_⟩
        have kD := k'.grow hD (.dK [])
        have sD : Stp gh' H' gh' (upd H' D (.dK [])) := Stp.grow (K := T.K) hD _
        refine ⟨fun j m H2 => ∃ (g2 : Gh) (wi : Wt) (pre : List (PD × PD)) (xs : List (Key × V)), Stp gh' H' g2 H2 ∧ Ok T.K g2 H2 (L2.wipe σ vs) wi ∧ (∀ i, i ∈ vs → i < wi.sl.length → wi.sl[i]? = some .un) ∧ m = ds.length - j ∧
          H2 D = some (.dK xs) ∧ RpK T.K g2.G pre xs ∧ g2.G D = none ∧ ¬ g2.M D ∧ dcL vs tg tt fk fe (ds.drop j) wi pre = some (acc, w2),
          ⟨ds.length, gh', w1.wipe vs, [], [], sD, kD.into hp, wiped_un, by omega, upd_same, by simp [RpK], k'.nog hD, k'.nom hD, y2⟩, ?_⟩
        rintro j m H2 ⟨g2, wi, pre, xs, s2, k2, hu, em, hDl, rp, nG, nM, ev⟩
        obtain ⟨go, stop⟩ := it g2 H2 _ wi j s2.sub k2
        by_cases hj : j < ds.length
        · refine .inr ?_
          have hd : ds[j]? = some ds[j] := List.getElem?_eq_getElem hj
          rw [List.drop_eq_getElem_cons hj] at ev
          obtain ⟨g0, gy⟩ := go _ hd
          refine ⟨g0, fun H3 => ∃ (g3 : Gh) (wj : Wt) (pre : List (PD × PD)) (xs : List (Key × V)), Stp gh' H' g3 H3 ∧ Ok T.K g3 H3 (L2.wipe σ vs) wj ∧ (∀ i, i ∈ vs → i < wj.sl.length → wj.sl[i]? = some .un) ∧
            H3 D = some (.dK xs) ∧ RpK T.K g3.G pre xs ∧ g3.G D = none ∧ ¬ g3.M D ∧ dcL vs tg tt fk fe (ds.drop (j + 1)) wj pre = some (acc, w2),
            fun H3 ⟨g3, wj, pre, xs, a1, a2, a3, a4, a5, a6, a7, a8⟩ => ⟨ds.length - (j + 1), by omega, g3, wj, pre, xs, a1, a2, a3, rfl, a4, a5, a6, a7, a8⟩, fun x H3 hy => ?_⟩
          obtain ⟨g3, s3, k3, r3⟩ := gy x H3 hy
          unfold dcL at ev
          cases y1 : tg ds[j] wi with
          | none => rw [y1] at ev; cases ev
          | some w3 =>
            rw [y1] at ev
            dsimp only at ev
            refine ⟨g3, wi, ds[j], w3, k3, r3, y1, fun σ4 g4 H4 s4 k4 n1 n2 => ⟨wipe_set hx n1 n2, g4, w3, k4, ?_⟩⟩
            have hw : L2.wipe σ4 vs = L2.wipe σ vs := wipe_set hx n1 n2
            have s24 : Stp g2 H2 g4 H4 := s3.trans s4
            cases y3 : tt w3 with
            | none => rw [y3] at ev; cases ev
            | some rt =>
              obtain ⟨rt, w4⟩ := rt
              rw [y3] at ev
              cases rt with
              | ex c x => cases ev
              | b bb =>
                refine ⟨.b bb, w4, rfl, fun _ _ z => (nomatch z), fun b' z g5 H5 s5 k5 => ?_⟩
                cases z
                cases bb with
                | false =>
                  rw [if_neg Bool.false_ne_true]
                  dsimp only at ev
                  split at ev
                  · rename_i hp4
                    have s25 := s24.trans s5
                    obtain ⟨a1, a3, a4⟩ := s25.stay hDl nG nM
                    exact ⟨g5, w4.wipe vs, pre, xs, s2.trans s25, hw ▸ k5.into hp4, wiped_un, a1, RpK.mono s25.sub _ _ rp, a3, a4, ev⟩
                  · cases ev
                | true =>
                  rw [if_pos rfl]
                  dsimp only at ev
                  refine ⟨g5, w4, k5, ?_⟩
                  cases y4 : eF fk w4 with
                  | none => rw [y4] at ev; cases ev
                  | some re =>
                    obtain ⟨re, w5⟩ := re
                    rw [y4] at ev
                    cases re with
                    | ow d => cases ev
                    | pk d => cases ev
                    | ex c x => cases ev
                    | fz kd =>
                      dsimp only at ev
                      refine ⟨.fz kd, w5, rfl, fun _ _ z => (nomatch z), fun v g6 H6 s6 k6 rv => ?_⟩
                      refine ⟨g6, w5, k6, ?_⟩
                      cases y5 : eF fe w5 with
                      | none => rw [y5] at ev; cases ev
                      | some re =>
                        obtain ⟨re, w6⟩ := re
                        rw [y5] at ev
                        cases re with
                        | ow d => cases ev
                        | pk d => cases ev
                        | ex c x => cases ev
                        | fz yv =>
                          dsimp only at ev
                          refine ⟨.fz yv, w6, rfl, fun _ _ z => (nomatch z), fun v2 g7 H7 s7 k7 rv2 => ?_⟩
                          cases ek : keyOfD kd with
                          | none => rw [ek] at ev; cases ev
                          | some key =>
                            rw [ek] at ev
                            dsimp only at ev
                            split at ev
                            · rename_i hp6
                              have s27 := ((s24.trans s5).trans s6).trans s7
                              obtain ⟨a1, a3, a4⟩ := s27.stay hDl nG nM
                              have rp' := RpK.mono s27.sub _ _ rp
                              have hxl : xs.length < lim := by rw [rp.len]; exact hp6.2
                              refine ⟨xs, key, keyV ek rv, a1, Nat.lt_trans hxl lim_line, g7, w6.wipe vs, putD pre key yv, L2.putK xs key v2, (s2.trans s27).poke hD, (hw ▸ k7.into hp6.1).poke a3 a4, wiped_un, upd_same, rp'.putK rv2, a3, a4, ev⟩
                            · cases ev
        · refine .inl ⟨stop (by omega), ?_⟩
          rw [List.drop_of_length_le (by omega)] at ev
          cases ev
          exact fin (.ref D) g2 H2 (s.trans s2) (Ok.outOf k' hp k2 hu s2.sub) ⟨D, rfl, s.dom D hD, nG, nM, xs, hDl, rp⟩
    · exact z.none
theorem d_dc {kx vx tgE iter : Expr} {ifs : List Expr} {scope : Scope} {ixs : List Nat} {fi : IF} {tg : TgF} {tt : TFn} {fk fe : EF} (own : List (Str × Nat)) (hi : PI X tgE iter (tI T fi))
    (hg : ∀ (s : Shared) (H : Hp) (C : Addr) (cl : List (Str × Addr)) (fp : List Addr), PG (X.blk s H scope (compEnvC scope cl C X.env) fp) tgE (tG T ixs tg)) (ht : ∀ (s : Shared) (H : Hp) (C : Addr) (cl : List (Str × Addr)) (fp : List Addr), PTs (X.blk s H scope (compEnvC scope cl C X.env) fp) ifs (tT T tt))
    (hk : ∀ (s : Shared) (H : Hp) (C : Addr) (cl : List (Str × Addr)) (fp : List Addr), PE (X.blk s H scope (compEnvC scope cl C X.env) fp) kx (tD T fk)) (he : ∀ (s : Shared) (H : Hp) (C : Addr) (cl : List (Str × Addr)) (fp : List Addr), PE (X.blk s H scope (compEnvC scope cl C X.env) fp) vx (tD T fe))
    (ok : blkC X.N X.env.scope scope own = true := by kernel_rfl) (hx : ∀ j ∈ ixs, j ∈ own.map (·.2) := by decide) (hN : X.N.Nodup := by assumption) (hc : X.calm = true := by rfl)
    (hs : ∀ x, foldedSetIterable iter X.env x = pure x := by intro _; rfl) : PE X (.DictComp kx vx [⟨tgE, iter, ifs, 0⟩] scope pos) (tD T (eDC (own.map (·.2)) fi tg tt fk fe)) :=
  PE.weak (pe_dc hc hN hi (blkOk_by ok) hg ht (fun s H C cl fp => PE.weak (hk s H C cl fp) fun σ H Q h => eF_le σ H Q h) (fun s H C cl fp => PE.weak (he s H C cl fp) fun σ H Q h => eF_le σ H Q h) hs) (dc_le hx)
end
end DL
set_option maxHeartbeats 1000000
/-! DL12: the law's draws: the dict state as a first argument, its readings and stores. -/
namespace DL
open PySem PySem.Spec PyProof.Rows L2
variable [TbC]
/-! ### promises of functions of the draws -/
abbrev FSt := Src → List PD → Option (PD × Src)
def spS (K : Fg) (mg : Str → Option Value) (n : Nat) (F : FSt) : Sp := fun vs H Q E => ∃ (G : Hp) (p : Addr × Addr) (S : Src) (ds : List PD) (d : PD) (S' : Src) (us : List V), Same G H ∧ SrcOk G H p S ∧ G p.1 = none ∧ G p.2 = none ∧ vs = .ref p.1 :: us ∧ ds.length = n ∧ RpA K G ds us ∧ F S ds = some (d, S') ∧
  ∀ v gh' H', Stp ⟨G, fun _ => none, some p, none⟩ H gh' H' → Same gh'.G H' → SrcOk gh'.G H' p S' → gh'.G p.1 = none → gh'.G p.2 = none → Rp K gh'.G d v → Q v H'
def entryS (m : Nat) (ds : List PD) (S : Src) : Wt := ⟨(.st :: ds.map Slot.v) ++ List.replicate (m - (ds.length + 1)) Slot.un, S⟩
omit [TbC] in
theorem entryS_ok {K : Fg} {G H : Hp} {N : List Str} {ds : List PD} {vs : List V} {p : Addr × Addr} {S : Src} (s : Same G H) (so : SrcOk G H p S) (g1 : G p.1 = none) (g2 : G p.2 = none) (r : RpA K G ds vs) (hN : ds.length + 1 ≤ N.length) : @Ok ⟨none⟩ K ⟨G, fun _ => none, some p, none⟩ H (start N (.ref p.1 :: vs)) (entryS N.length ds S) := by
  have hl := r.len
  have look : ∀ (i : Nat) (x : Slot), (entryS N.length ds S).sl[i]? = some x → x ≠ .un → (i = 0 ∧ x = .st) ∨ ∃ j, i = j + 1 ∧ j < ds.length ∧ ∃ d, ds[j]? = some d ∧ x = .v d := fun i x e n => by
    have e : ((.st :: ds.map Slot.v) ++ List.replicate (N.length - (ds.length + 1)) Slot.un)[i]? = some x := e
    by_cases hi : i < ds.length + 1
    · rw [List.getElem?_append_left (by simpa using hi)] at e
      cases i with
      | zero => cases e; exact .inl ⟨rfl, rfl⟩
      | succ j =>
        rw [List.getElem?_cons_succ, List.getElem?_map, List.getElem?_eq_getElem (by omega)] at e
        cases e
        exact .inr ⟨j, rfl, by omega, _, List.getElem?_eq_getElem (by omega), rfl⟩
    · rw [List.getElem?_append_right (by simpa using hi), List.getElem?_replicate] at e
      split at e
      · cases e; exact absurd rfl n
      · cases e
  refine ⟨?_, s, fun i d e => ?_, fun i ns e => ?_, fun i d e => ?_, fun i a e => (nomatch e), fun i j a e => (nomatch e), fun i e => ?_, fun q e => ?_, fun p i a _ e => (nomatch e), fun a m => ?_, fun q e => (nomatch e), rfl⟩
  · show (start N (.ref p.1 :: vs)).length = ((.st :: ds.map Slot.v) ++ List.replicate (N.length - (ds.length + 1)) Slot.un).length
    unfold L2.start
    simp only [List.length_append, List.length_cons, List.length_map, List.length_replicate, hl]
  · rcases look i _ e (by intro z; cases z) with ⟨_, z⟩ | ⟨j, rfl, hj, d', hd, z⟩
    · cases z
    · cases z
      obtain ⟨x, hx, rx⟩ := r.get hd
      refine ⟨x, ?_, rx⟩
      unfold L2.start
      rw [List.getElem?_append_left (by simp [hl]; omega), List.map_cons, List.getElem?_cons_succ, List.getElem?_map, hx]
      rfl
  · rcases look i _ e (by intro z; cases z) with ⟨_, z⟩ | ⟨j, rfl, hj, d', hd, z⟩ <;> cases z
  · rcases look i _ e (by intro z; cases z) with ⟨_, z⟩ | ⟨j, rfl, hj, d', hd, z⟩ <;> cases z
  · rcases look i _ e (by intro z; cases z) with ⟨rfl, _⟩ | ⟨j, rfl, hj, d', hd, z⟩
    · exact ⟨p, rfl, rfl⟩
    · cases z
  · cases e; exact so
  · rcases m with ⟨i, e⟩ | ⟨q, e, z⟩ | ⟨q, e, z⟩
    · cases e
    · cases e
      rcases z with rfl | rfl
      · exact g1
      · exact g2
    · cases e
section
variable {P : Program} {w : World} {K : Fg} {mg : Str → Option Value} {base : Heap} {CX : CXT}
def outS : Option Out → Option (PD × Src)
  | some (.nx w) => some (.none, w.src)
  | some (.rt d w) => some (d, w.src)
  | _ => none
omit [TbC] in
theorem fn_st {k n : Nat} {f : Addr} {name qual : Str} {params : Arguments} {body : List Stmt} {scope : Scope} {dvs : List V} {kws : List (Str × V)} {fd : FuncData} {N ps : List Str} {F : FSt} {g : SF} (D : FunD K name qual params body scope dvs kws f fd) (S : FnScope N ps scope)
    (hn : ps.length = n + 1) (hN : n + 1 ≤ N.length) (hb : ∀ (cdv : Value) (A : Around) (outer : List Env) (s : Shared) (H : Hp) (E : XK), Rm k (cxOf CX P w K mg base N qual scope f cdv A outer s H E).A → PSs (cxOf CX P w K mg base N qual scope f cdv A outer s H E) body (@tS ⟨none⟩ ⟨K, mg, E⟩ g))
    (ev : ∀ ds S r, ds.length = n → F S ds = some r → outS (g (entryS N.length ds S)) = some r) : FnG P w K mg base CX (k + 1) f fd ps (spS K mg n F) := by
  refine FnG.of D S (fun vs H Q E h => ?_) fun cdv _ A outer s H vs Q E rm h => ?_
  · obtain ⟨G, p, S, ds, d, S', us, _, _, _, _, rfl, hl, r, _⟩ := h
    rw [List.length_cons, r.len, hl, hn]
  · obtain ⟨G, p, S, ds, d, S', us, sm, so, g1, g2, rfl, hl, r, e, q⟩ := h
    refine ⟨_, hb cdv A outer s H E rm, ⟨G, fun _ => none, some p, none⟩, entryS N.length ds S, entryS_ok sm so g1 g2 r (by rw [hl]; exact hN), ?_⟩
    have e2 := ev ds S _ hl e
    have fin : ∀ {w1 : Wt} {gh' : Gh} {H' : Hp} {σ' : L2.St} {v : V}, w1.src = S' → Stp ⟨G, fun _ => none, some p, none⟩ H gh' H' → Ok K gh' H' σ' w1 → Rp K gh'.G d v → Q v H' := fun {w1 gh' H' σ' v} es s' k' rv => by
      have hp : gh'.sa = some p := s'.dr
      exact q v gh' H' s' k'.sub (es ▸ k'.src p hp) (k'.dis _ (.inr (.inl ⟨p, hp, .inl rfl⟩))) (k'.dis _ (.inr (.inl ⟨p, hp, .inr rfl⟩))) rv
    cases y : g (entryS N.length ds S) with
    | none => rw [y] at e2; cases e2
    | some o =>
      rw [y] at e2
      refine ⟨o, rfl, ?_⟩
      cases o with
      | nx w1 =>
        cases e2
        exact fun σ' gh' H' s' k' => fin rfl s' k' (by simp [Rp])
      | rt d w1 =>
        cases e2
        exact fun σ' v gh' H' s' k' rv => fin rfl s' k' rv
      | ex c x w1 => cases e2
      | bk w1 => cases e2
      | ct w1 => cases e2
end
section
variable {X : Cx} {T : Tx} {CX : CXT} {k n : Nat} {f : Addr} {fd : FuncData} {ps ks : List Str} {F : FSt} {x y : Str} {p pos xp : Pos} {e a : Expr} {es : List Expr} {kws : List Keyword} {g : AF} {h : EF}
/-- the table lies apart from the draws' dict -/
theorem Ok.tn {K : Fg} {gh : Gh} {H : Hp} {σ : L2.St} {w : Wt} {pp : Addr × Addr} {q : Addr × Str} (k : Ok K gh H σ w) (hp : gh.sa = some pp) (e : gh.tb = some q) : q.1 ≠ pp.1 ∧ q.1 ≠ pp.2 := by
  obtain ⟨ps, h1, _⟩ := k.tab q e
  obtain ⟨c, z1, z2, _⟩ := k.src pp hp
  refine ⟨fun z => ?_, fun z => ?_⟩
  · rw [z, z1] at h1; cases h1
  · rw [z, z2] at h1; cases h1
/-- behind a call that has changed the draws' dict -/
theorem Ok.afterS {K : Fg} {gh gh' : Gh} {H H' : Hp} {σ : L2.St} {w : Wt} {pp : Addr × Addr} {S' : Src} (k : Ok K gh H σ w) (hp : gh.sa = some pp) (s : Stp ⟨gh.G, fun _ => none, some pp, none⟩ H gh' H') (sm : Same gh'.G H') (so : SrcOk gh'.G H' pp S') (g1 : gh'.G pp.1 = none) (g2 : gh'.G pp.2 = none) :
    Ok K { gh with G := gh'.G } H' σ { w with src := S' } ∧ Stp gh H { gh with G := gh'.G } H' := by
  have sg : Same gh.G gh'.G := s.sub
  have nM : ∀ {a : Addr}, a ≠ pp.1 → a ≠ pp.2 → ¬ Gh.M ⟨gh.G, fun _ => none, some pp, none⟩ a := fun {a} n1 n2 m => by
    rcases m with ⟨i, e⟩ | ⟨q, e, z⟩ | ⟨q, e, z⟩
    · cases e
    · cases e
      rcases z with z | z
      · exact n1 z
      · exact n2 z
    · cases e
  have oM : ∀ {a : Addr}, ¬ gh.M a → a ≠ pp.1 ∧ a ≠ pp.2 := fun {a} n => ⟨fun z => n (.inr (.inl ⟨pp, hp, .inl z⟩)), fun z => n (.inr (.inl ⟨pp, hp, .inr z⟩))⟩
  have tn : ∀ q, gh.tb = some q → q.1 ≠ pp.1 ∧ q.1 ≠ pp.2 := fun q e => k.tn hp e
  have tb' : ∀ q, gh.tb = some q → TabG gh'.G H' q := fun q e => by
    have h := k.tab q e
    obtain ⟨ps, h1, _⟩ := id h
    exact h.mono sg ((s.keep _ _ h1 (nM (tn q e).1 (tn q e).2)).trans h1.symm)
  refine ⟨⟨k.len, sm, fun i d e => ?_, fun i ns e => (let ⟨a, q, r⟩ := k.scr i ns e; ⟨a, q, sg.seq r⟩), fun i d e => ?_, k.onl, k.inj, k.st, fun q e => ?_, k.sap, fun a m => ?_, fun q e => tb' q e, k.tbw⟩, ⟨sg, fun a o e n => (s.keep a o e (nM (oM n).1 (oM n).2)), s.dom, fun a o e => ?_, fun a m => .inl m, rfl, rfl⟩⟩
  · obtain ⟨v, q, r⟩ := k.val i d e
    exact ⟨v, q, Rp.mono sg _ _ r⟩
  · obtain ⟨a, q0, q1, r⟩ := k.own i d e
    obtain ⟨o, ho⟩ := r.there
    obtain ⟨n1, n2⟩ := k.sap pp i a hp q0
    exact ⟨a, q0, q1, r.mono sg ((s.keep a o ho (nM n1 n2)).trans ho.symm)⟩
  · have e : gh.sa = some q := e
    rw [hp] at e
    cases e
    exact so
  · have m' : gh.M a := m
    show gh'.G a = none
    rcases m' with ⟨i, q0⟩ | ⟨q, e, z⟩ | ⟨q, e, z⟩
    · obtain ⟨n1, n2⟩ := k.sap pp i a hp q0
      have ga := k.dis a (.inl ⟨i, q0⟩)
      obtain ⟨o, ho⟩ := k.mh (.inl ⟨i, q0⟩)
      cases q : gh'.G a with
      | none => rfl
      | some o' =>
        rcases s.gnew a o' q with z | z | z | ⟨φ, z⟩
        · have z : gh.G a = some o' := z
          rw [ga] at z; cases z
        · rw [ho] at z; cases z
        · exact absurd z (nM n1 n2)
        · exact absurd z (k.mx (.inl ⟨i, q0⟩) φ)
    · rw [hp] at e
      cases e
      rcases z with rfl | rfl
      · exact g1
      · exact g2
    · have ga := k.dis a (.inr (.inr ⟨q, e, z⟩))
      obtain ⟨o, ho⟩ := k.mh (.inr (.inr ⟨q, e, z⟩))
      obtain ⟨n1, n2⟩ := tn q e
      cases q' : gh'.G a with
      | none => rfl
      | some o' =>
        rcases s.gnew a o' q' with y | y | y | ⟨φ, y⟩
        · have y : gh.G a = some o' := y
          rw [ga] at y; cases y
        · rw [ho] at y; cases y
        · exact absurd y (nM (z ▸ n1) (z ▸ n2))
        · exact absurd y (k.mx (.inr (.inr ⟨q, e, z⟩)) φ)
  · have e : gh'.G a = some o := e
    rcases s.gnew a o e with z | z | z | z
    · exact .inl z
    · exact .inr (.inl z)
    · rcases z with ⟨i, q⟩ | ⟨q, q1, q2⟩ | ⟨q, q1, q2⟩
      · cases q
      · cases q1
        exact .inr (.inr (.inl (.inr (.inl ⟨pp, hp, q2⟩))))
      · cases q1
    · exact .inr (.inr (.inr z))
/-- f(state, e, ..) -/
def eCallS (i : Nat) (F : FSt) (n : Nat) (g : AF) : EF := fun w => match w.sl[i]? with
  | some .st => eA g (fun ds w1 => if ds.length = n then (F w1.src ds).map fun r => (.fz r.1, { w1 with src := r.2 }) else none) w
  | _ => none
theorem d_callS (i : Nat) (G : FnG X.prog X.w X.K X.mg X.base CX k f fd ps (spS X.K X.mg n F)) (rm : Rm k X.A) (hm : X.mg x = some (.ref f)) (hk : PySem.W.keepIn X.K (.ref f) = true) (hb : Binds X.K fd ps []) (hx : Passes CX X T.E)
    (ha : PA X es (tA T g)) (hK : T.K = X.K := by rfl) (hM : T.mg = X.mg := by rfl) (hN : X.N[i]? = some y := by rfl) (hv : Vis X.env.scope y := by first | exact Or.inl rfl | exact Or.inr (Or.inl rfl) | exact Or.inr (Or.inr rfl)) (hg : Gl X x := by rfl) (hdb : (x == ("__debug__" : Str)) = false := by decide) (hd : (y == ("__debug__" : Str)) = false := by decide) (hcd : (y == ("__classdict__" : Str)) = false := by decide)
    (he : starEach (.Name y xp :: es) X.env = (false, eval (.Name y xp) X.env) :: starEach es X.env := by rfl) (hpl : (backTo pos (starEach es X.env)).any (·.1) = false := by rfl) :
    PE X (.Call (.Name x p) (.Name y xp :: es) [] pos) (tD T (eCallS i F n g)) := PE.weak (pg_call (dvs := []) G rm hg hm hk hb .nil hx (pa_cons (pe_var hN hv hd hcd) ha he) hdb he hpl) fun σ H Q z => by
  obtain ⟨gh, w, kk, z⟩ := z
  unfold eCallS at z
  split at z
  · rename_i e0
    obtain ⟨pp, hp, h1⟩ := kk.st i e0
    refine ⟨.ref pp.1, h1, ?_⟩
    obtain ⟨r, w1, y, q1, q2⟩ := Res.args (Stp.refl _ _) z
    refine ⟨gh, w, kk, r, w1, y, q1, fun ds' y' vs gh1 H1 s1 k1 rv => ?_⟩
    obtain ⟨g2, w2, ds, s2, k2, rv2, z2⟩ := q2 ds' y' vs gh1 H1 s1 k1 rv
    split at z2
    · rename_i hl
      cases e : F w2.src ds with
      | none => rw [e] at z2; exact z2.none
      | some r =>
        obtain ⟨d, S'⟩ := r
        rw [e] at z2
        have hp2 : g2.sa = some pp := s2.dr.trans hp
        refine ⟨g2.G, pp, w2.src, ds, d, S', vs, k2.sub, k2.src pp hp2, k2.dis _ (.inr (.inl ⟨pp, hp2, .inl rfl⟩)), k2.dis _ (.inr (.inl ⟨pp, hp2, .inr rfl⟩)), by rw [List.append_nil], hl, hK ▸ rv2, e, fun v gh' H' s' sm so g1 g2' rv => ?_⟩
        obtain ⟨k3, s3⟩ := k2.afterS hp2 s' sm so g1 g2'
        exact z2.fz (s2.trans s3) k3 (hK ▸ rv)
    · exact z2.none
  · exact z.none
/-! ### the dict's fields -/
def eStI (i : Nat) (sel : Src → Int) : EF := fun w => match w.sl[i]? with
  | some .st => some (.fz (.int (sel w.src)), w)
  | _ => none
def eStC (i : Nat) : EF := fun w => match w.sl[i]? with
  | some .st => some (.fz (.list (w.src.cells.map PyData.int)), w)
  | _ => none
theorem k_gr : ¬ (Sum.inr (Str.ofString "great") : Key) = Sum.inr (Str.ofString "rest") := by decide
theorem k_cr : ¬ (Sum.inr (Str.ofString "cells") : Key) = Sum.inr (Str.ofString "rest") := by decide
theorem k_tr : ¬ (Sum.inr (Str.ofString "turn") : Key) = Sum.inr (Str.ofString "rest") := by decide
theorem k_gt : ¬ (Sum.inr (Str.ofString "great") : Key) = Sum.inr (Str.ofString "turn") := by decide
theorem k_ct : ¬ (Sum.inr (Str.ofString "cells") : Key) = Sum.inr (Str.ofString "turn") := by decide
theorem k_rt : ¬ (Sum.inr (Str.ofString "rest") : Key) = Sum.inr (Str.ofString "turn") := by decide
theorem k_gc : ¬ (Sum.inr (Str.ofString "great") : Key) = Sum.inr (Str.ofString "cells") := by decide
theorem val_rest (g c : Addr) (S : Src) : valV (srcKeys g c S) (Sum.inr (Str.ofString "rest")) = some (.int S.rest) := by
  unfold srcKeys
  rw [valV_neg k_gr, valV_neg k_cr, valV_pos rfl]
theorem val_turn (g c : Addr) (S : Src) : valV (srcKeys g c S) (Sum.inr (Str.ofString "turn")) = some (.int S.turn) := by
  unfold srcKeys
  rw [valV_neg k_gt, valV_neg k_ct, valV_neg k_rt, valV_pos rfl]
theorem val_cells (g c : Addr) (S : Src) : valV (srcKeys g c S) (Sum.inr (Str.ofString "cells")) = some (.ref c) := by
  unfold srcKeys
  rw [valV_neg k_gc, valV_pos rfl]
theorem val_great (g c : Addr) (S : Src) : valV (srcKeys g c S) (Sum.inr (Str.ofString "great")) = some (.ref g) := by
  unfold srcKeys
  rw [valV_pos rfl]
variable {kx : Nat} {xp2 : Pos}
theorem d_stI (i : Nat) (sel : Src → Int) {key : Str} (hval : ∀ g c S, valV (srcKeys g c S) (Sum.inr key) = some (.int (sel S))) (rm : Rm kx X.A) (hN : X.N[i]? = some y := by rfl) (hv : Vis X.env.scope y := by first | exact Or.inl rfl | exact Or.inr (Or.inl rfl) | exact Or.inr (Or.inr rfl)) (hd : (y == ("__debug__" : Str)) = false := by decide) (hcd : (y == ("__classdict__" : Str)) = false := by decide) :
    PE X (.Subscript (.Name y xp) (.Constant (.str key) n xp2) pos) (tD T (eStI i sel)) := PE.weak (pe_ix (ix_kd (un1 rm)) (pe_var hN hv hd hcd) pe_str (fun _ _ => rfl)) fun σ H Q z => by
  obtain ⟨gh, w, kk, z⟩ := z
  unfold eStI at z
  split at z
  · rename_i e0
    obtain ⟨pp, hp, h1⟩ := kk.st i e0
    obtain ⟨c, q1, q2, q3, q4⟩ := kk.src pp hp
    exact ⟨.ref pp.1, h1, pp.1, _, .inr key, _, rfl, rfl, .inl q1, hval _ _ _, z.fz (Stp.refl _ _) kk (by simp [Rp])⟩
  · exact z.none
theorem d_stC (i : Nat) (rm : Rm kx X.A) (hN : X.N[i]? = some y := by rfl) (hv : Vis X.env.scope y := by first | exact Or.inl rfl | exact Or.inr (Or.inl rfl) | exact Or.inr (Or.inr rfl)) (hd : (y == ("__debug__" : Str)) = false := by decide) (hcd : (y == ("__classdict__" : Str)) = false := by decide) :
    PE X (.Subscript (.Name y xp) (.Constant (.str (Str.ofString "cells")) n xp2) pos) (tD T (eStC i)) := PE.weak (pe_ix (ix_kd (un1 rm)) (pe_var hN hv hd hcd) pe_str (fun _ _ => rfl)) fun σ H Q z => by
  obtain ⟨gh, w, kk, z⟩ := z
  unfold eStC at z
  split at z
  · rename_i e0
    obtain ⟨pp, hp, h1⟩ := kk.st i e0
    obtain ⟨c, q1, q2, q3, q4⟩ := kk.src pp hp
    refine ⟨.ref pp.1, h1, pp.1, _, .inr (Str.ofString "cells"), _, rfl, rfl, .inl q1, val_cells _ _ _, z.fz (Stp.refl _ _) kk ?_⟩
    simp only [Rp]
    exact ⟨c, _, rfl, q3, RpA.ints _⟩
  · exact z.none
/-- the draws' dict, or its list, is written -/
theorem Ok.pokeS {K : Fg} {gh : Gh} {H H' : Hp} {σ : L2.St} {w : Wt} {pp : Addr × Addr} {S' : Src} (k : Ok K gh H σ w) (hp : gh.sa = some pp) (h : ∀ a, a ≠ pp.1 → a ≠ pp.2 → H' a = H a) (hd : ∀ a, H' a = none → H a = none) (so : SrcOk gh.G H' pp S') : Ok K gh H' σ { w with src := S' } ∧ Stp gh H gh H' := by
  have oM : ∀ {a : Addr}, ¬ gh.M a → a ≠ pp.1 ∧ a ≠ pp.2 := fun {a} n => ⟨fun z => n (.inr (.inl ⟨pp, hp, .inl z⟩)), fun z => n (.inr (.inl ⟨pp, hp, .inr z⟩))⟩
  refine ⟨⟨k.len, fun a o e => ?_, k.val, k.scr, fun i d e => ?_, k.onl, k.inj, k.st, fun q e => ?_, k.sap, k.dis, fun q e => (let z := k.tab q e; z.mono (fun _ _ e => e) (h _ (k.tn hp e).1 (k.tn hp e).2)), k.tbw⟩, ⟨fun _ _ e => e, fun a o e n => (h a (oM n).1 (oM n).2).trans e, hd, fun a o e => .inl e, fun a m => .inl m, rfl, rfl⟩⟩
  · have n : ¬ gh.M a := fun m => by rw [k.dis a m] at e; cases e
    rw [h a (oM n).1 (oM n).2]
    exact k.sub a o e
  · obtain ⟨a, q0, q1, r⟩ := k.own i d e
    obtain ⟨n1, n2⟩ := k.sap pp i a hp q0
    exact ⟨a, q0, q1, r.mono (fun _ _ e => e) (h a n1 n2)⟩
  · have e : gh.sa = some q := e
    rw [hp] at e
    cases e
    exact so
/-- state['k'] = e -/
def gSt (i : Nat) (upd' : Src → Int → Src) (h : EF) : SF := fun w => match eF h w with
  | some (.fz (.int j), w1) => (match w1.sl[i]? with
    | some .st => some (.nx { w1 with src := upd' w1.src j })
    | _ => none)
  | some (.ex c x, w1) => some (.ex c x w1)
  | _ => none
theorem put_rest (g c : Addr) (S : Src) (j : Int) : putK (srcKeys g c S) (Sum.inr (Str.ofString "rest")) (.int j) = srcKeys g c { S with rest := j } := by
  unfold putK srcKeys
  rw [if_pos (by simp)]
  simp only [List.map_cons, List.map_nil]
  rw [if_neg k_gr, if_neg k_cr, if_pos trivial, if_neg k_tr]
theorem put_turn (g c : Addr) (S : Src) (j : Int) : putK (srcKeys g c S) (Sum.inr (Str.ofString "turn")) (.int j) = srcKeys g c { S with turn := j } := by
  unfold putK srcKeys
  rw [if_pos (by simp)]
  simp only [List.map_cons, List.map_nil]
  rw [if_neg k_gt, if_neg k_ct, if_neg k_rt, if_pos trivial]
theorem d_stSet (i : Nat) (up : Src → Int → Src) {key : Str} {spos : Pos} (hput : ∀ g c S j, putK (srcKeys g c S) (Sum.inr key) (.int j) = srcKeys g c (up S j)) (hg1 : ∀ S j, (up S j).great = S.great := by intro _ _; rfl) (hg2 : ∀ S j, (up S j).cells = S.cells := by intro _ _; rfl) (rm : Rm kx X.A) (he : PE X e (tD T h)) (hN : X.N[i]? = some y := by rfl) (hv : Vis X.env.scope y := by first | exact Or.inl rfl | exact Or.inr (Or.inl rfl) | exact Or.inr (Or.inr rfl)) (hd : (y == ("__debug__" : Str)) = false := by decide) (hcd : (y == ("__classdict__" : Str)) = false := by decide)
    (hs : swapsWith e (some (.Subscript (.Name y xp) (.Constant (.str key) n xp2) spos)) pos.line X.env = pure false := by rfl) :
    PS X (.Assign [.Subscript (.Name y xp) (.Constant (.str key) n xp2) spos] e pos) (tS T (gSt i up h)) := PS.weak (ps_dput (un1 rm) (pe_var hN hv hd hcd) pe_str he hs) fun D σ H z => by
  obtain ⟨gh, w, k, out, z, q⟩ := z
  refine eF_le _ _ _ ⟨gh, w, k, ?_⟩
  unfold gSt at z
  split at z
  · rename_i j w1 y1
    rw [y1]
    split at z
    · rename_i e1
      cases z
      refine ⟨_, w1, rfl, fun _ _ z => (nomatch z), fun v gh' H' s' k' rv => ?_⟩
      obtain ⟨pp, hp, h1⟩ := k'.st i e1
      obtain ⟨c, q1, q2, q3, q4⟩ := k'.src pp hp
      have rv : Rp T.K gh'.G (.int j) v := rv
      simp only [Rp] at rv
      subst rv
      refine ⟨.ref pp.1, h1, pp.1, _, rfl, .inl ⟨_, .inr key, q1, rfl, by show 4 < sizeLine; decide, rfl⟩, ?_⟩
      rw [hput]
      obtain ⟨k2, s2⟩ := k'.pokeS (S' := up w1.src j) (H' := upd H' pp.1 (.dK (srcKeys pp.2 c (up w1.src j)))) hp (fun a n1 _ => upd_ne n1) (fun a e => by
        by_cases z : a = pp.1
        · subst z; rw [upd_same] at e; cases e
        · rw [upd_ne z] at e; exact e) ⟨c, upd_same, by rw [upd_ne (Ne.symm q4), hg1]; exact q2, by rw [hg2]; exact q3, q4⟩
      exact q σ gh' _ (s'.trans s2) k2
    · cases z
  · rename_i c x w1 y1
    rw [y1]
    cases z
    exact ⟨.ex c x, _, rfl, fun c' x' z gh' H' s' k => by cases z; exact q σ gh' H' s' k, fun v gh' H' _ _ rv => rv.elim⟩
  · cases z
end
end DL
set_option maxHeartbeats 1000000
/-! DL13: the draws' list, the script, the law's beginning, the law's end. -/
namespace DL
open PySem PySem.Spec PyProof.Rows L2
variable [TbC]
theorem plain_ints : ∀ ns : List Int, PyData.plainAll (ns.map PyData.int) = true
  | [] => rfl
  | n :: ns => by
    rw [List.map_cons]
    simp only [PyData.plainAll, PyData.plain, Bool.true_and]
    exact plain_ints ns
theorem dp_ints {K : Fg} {H : Hp} : ∀ ns : List Int, DpAll K H (ns.map V.int) (ns.map PyData.int)
  | [] => .nil
  | n :: ns => .cons (.int n) (dp_ints ns)
section
variable {X : Cx} {T : Tx} {CX : CXT} {k n : Nat} {x y : Str} {p pos xp xp2 : Pos} {e a : Expr} {es : List Expr} {kx : Nat}
def rNeL (K : Fg) : R2 := fun x y H Q => ∃ (a b : Addr) (ns : List Int), x = .ref a ∧ y = .ref b ∧ H a = some (.lst (ns.map V.int)) ∧ H b = some (.lst []) ∧ Q (.bl (!ns.isEmpty)) H
theorem op_neL (hu : X.A.units + 180 < cLine) : OpR X (compareOp .NotEq) (rNeL X.K) := by
  intro pins s σ H x y v u Q I rx ry h
  obtain ⟨a, b, ns, rfl, rfl, ha, hb, q⟩ := h
  obtain ⟨as, r1⟩ := Dp.reads I (.list (ns.map PyData.int)) _ v (.lst (.of ha) (dp_ints ns)) rx
  obtain ⟨bs, r2⟩ := Dp.reads I (.list []) _ u (.lst (.of hb) .nil) ry
  have hm : min (PyData.list (ns.map PyData.int)).depth (PyData.list []).depth ≤ 100 := Nat.le_trans (Nat.min_le_right _ _) (by decide)
  refine SeqAt.ne_plain r1 r2 (by simp only [PyData.plain]; exact plain_ints ns) rfl (by omega) ⟨.bl (!ns.isEmpty), H, I, ?_, q⟩
  cases ns <;> rfl
def tGN (i : Nat) : TFn := fun w => match w.sl[i]? with
  | some .st => some (.b (!w.src.great.isEmpty), w)
  | _ => none
theorem dt_great (i : Nat) {cpos : Pos} (rm : Rm kx X.A) (hN : X.N[i]? = some y := by rfl) (hv : Vis X.env.scope y := by first | exact Or.inl rfl | exact Or.inr (Or.inl rfl) | exact Or.inr (Or.inr rfl)) (hd : (y == ("__debug__" : Str)) = false := by decide) (hcd : (y == ("__classdict__" : Str)) = false := by decide) :
    PT X (.Compare (.Subscript (.Name y xp) (.Constant (.str (Str.ofString "great")) n xp2) cpos) [.NotEq] [.List [] p] pos) (tT T (tGN i)) := PT.weak (pt_cmpR (op_neL (un180 rm)) (pe_ix (ix_kd (un1 rm)) (pe_var hN hv hd hcd) pe_str (fun _ _ => rfl)) (pe_lst pa_nil) (nomark _)) fun σ H Q z => by
  obtain ⟨gh, w, kk, z⟩ := z
  unfold tGN at z
  split at z
  · rename_i e0
    obtain ⟨pp, hp, h1⟩ := kk.st i e0
    obtain ⟨c, q1, q2, q3, q4⟩ := kk.src pp hp
    refine ⟨.ref pp.1, h1, pp.1, _, .inr (Str.ofString "great"), _, rfl, rfl, .inl q1, val_great _ _ _, ?_⟩
    refine ⟨by show 0 ≤ sizeLine; exact Nat.zero_le _, fun q hq => ?_⟩
    refine ⟨pp.2, q, w.src.great, rfl, rfl, by rw [upd_ne (ne_of_none q2 hq)]; exact q2, upd_same, _, rfl, ?_⟩
    obtain ⟨r, w', e, _, q5⟩ := z
    cases e
    exact q5 _ rfl gh _ (Stp.grow (K := T.K) hq _) (kk.grow hq _)
  · exact z.none
/-- state['great'].pop(0) -/
def eStP (i : Nat) : EF := fun w => match w.sl[i]? with
  | some .st => (match w.src.great with
    | j :: r => some (.fz (.int j), { w with src := { w.src with great := r } })
    | [] => none)
  | _ => none
theorem d_stP (i : Nat) {cpos apos : Pos} {m : Nat} {zp : Pos} (rm : Rm kx X.A) (hN : X.N[i]? = some y := by rfl) (hv : Vis X.env.scope y := by first | exact Or.inl rfl | exact Or.inr (Or.inl rfl) | exact Or.inr (Or.inr rfl)) (hd : (y == ("__debug__" : Str)) = false := by decide) (hcd : (y == ("__classdict__" : Str)) = false := by decide)
    (hbase : attributeBase (.Subscript (.Name y xp) (.Constant (.str (Str.ofString "great")) n xp2) p) "pop" X.env (eval (.Subscript (.Name y xp) (.Constant (.str (Str.ofString "great")) n xp2) p) X.env) = eval (.Subscript (.Name y xp) (.Constant (.str (Str.ofString "great")) n xp2) p) X.env := by rfl)
    (hfew : ((backTo cpos (starEach [.Constant (.int 0) m zp] X.env)).all (fun x => !x.1) && (backToKw cpos (keywordEach [] X.env)).all (fun x => x.1.isSome) && decide (([.Constant (.int 0) m zp] : List Expr).length + ([] : List Keyword).length + (if ([] : List Keyword).isEmpty then 0 else 1) < 30)) = true := by rfl)
    (hline : (apos.endLine == cpos.line) = true := by rfl) (hs : starEach [.Constant (.int 0) m zp] X.env = (false, eval (.Constant (.int 0) m zp) X.env) :: starEach [] X.env := by rfl) :
    PE X (.Call (.Attribute (.Subscript (.Name y xp) (.Constant (.str (Str.ofString "great")) n xp2) p) "pop" apos) [.Constant (.int 0) m zp] [] cpos) (tD T (eStP i)) :=
  PE.weak (pe_bm PySem.F.plainAttrs_list PySem.F.slot_list_pop PySem.F.type_list_pop mt_popAt (pe_ix (ix_kd (un1 rm)) (pe_var hN hv hd hcd) pe_str (fun _ _ => rfl)) (pa_cons pe_int pa_nil hs) hbase hfew hline hs rfl) fun σ H Q z => by
  obtain ⟨gh, w, kk, z⟩ := z
  unfold eStP at z
  split at z
  · rename_i e0
    split at z
    · rename_i j r eg
      obtain ⟨pp, hp, h1⟩ := kk.st i e0
      obtain ⟨c, q1, q2, q3, q4⟩ := kk.src pp hp
      refine ⟨.ref pp.1, h1, pp.1, _, .inr (Str.ofString "great"), _, rfl, rfl, .inl q1, val_great _ _ _, ?_⟩
      refine ⟨.inl ⟨rfl, _, .of q2⟩, pp.2, _, 0, 0, .int j, rfl, rfl, q2, by decide, by decide, ?_, by rw [eg]; rfl, ?_⟩
      · rw [eg, List.map_cons, List.length_cons]
        unfold seqIndex?
        simp
        try omega
      · obtain ⟨k2, s2⟩ := kk.pokeS (S' := { w.src with great := r }) (H' := upd H pp.2 (.lst (r.map V.int))) hp (fun a _ n2 => upd_ne n2) (fun a e => by
          by_cases z : a = pp.2
          · subst z; rw [upd_same] at e; cases e
          · rw [upd_ne z] at e; exact e) ⟨c, by rw [upd_ne q4]; exact q1, upd_same, q3, q4⟩
        have e2 : ((w.src.great.map V.int).eraseIdx 0) = r.map V.int := by rw [eg]; rfl
        rw [e2]
        exact z.fz s2 k2 (by simp [Rp])
    · exact z.none
  · exact z.none
/-! ### the script -/
def iSc (i : Nat) : IF := fun w => match w.sl[i]? with
  | some (.sc ns) => some (ns.map PyData.int, w)
  | _ => none
theorem DIt.seqL {gh0 : Gh} {H0 : Hp} {a : Addr} {xs : List V} {ds : List PD} (hq : SqL T.K gh0.G a xs) (hr : RpA T.K gh0.G ds xs) : DIt T (Itl T.K a) gh0 H0 ds := fun gh H σ w j s k => by
  have q : SqL T.K H a xs := k.sub.seq (s.seq hq)
  refine ⟨fun d hd => ?_, fun hj => ⟨xs, q, by rw [hr.len]; exact hj⟩⟩
  obtain ⟨x, hx, rx⟩ := hr.get hd
  refine ⟨⟨xs, x, q, hx⟩, fun y H' ⟨e1, e2⟩ => ?_⟩
  subst e1
  have := e2 xs q
  rw [hx] at this
  cases this
  exact ⟨gh, Stp.refl _ _, k, Rp.mono s _ _ rx⟩
theorem di_sc (i : Nat) {tg : Expr} (hN : X.N[i]? = some y := by rfl) (hv : Vis X.env.scope y := by first | exact Or.inl rfl | exact Or.inr (Or.inl rfl) | exact Or.inr (Or.inr rfl)) (hK : T.K = X.K := by rfl) (hd : (y == ("__debug__" : Str)) = false := by decide) (hcd : (y == ("__classdict__" : Str)) = false := by decide) :
    PI X tg (.Name y xp) (tI T (iSc i)) := PI.weak (pi_seq (pe_var hN hv hd hcd)) fun σ H Rr z => by
  obtain ⟨gh, w, ds, w', k, e, q⟩ := z
  unfold iSc at e
  split at e
  · rename_i ns e0
    cases e
    obtain ⟨a, h1, h2⟩ := k.scr i ns e0
    exact ⟨.ref a, h1, a, rfl, .inl ⟨⟨_, hK ▸ k.sub.seq h2⟩, hK ▸ q _ gh H (Stp.refl _ _) k (DIt.seqL h2 (RpA.ints ns))⟩⟩
  · cases e
def eScLen (i : Nat) : EF := fun w => match w.sl[i]? with
  | some (.sc ns) => some (.fz (.int ns.length), w)
  | _ => none
theorem d_scLen (i : Nat) (hm : X.mg "len" = none) (hN : X.N[i]? = some y := by rfl) (hv : Vis X.env.scope y := by first | exact Or.inl rfl | exact Or.inr (Or.inl rfl) | exact Or.inr (Or.inr rfl)) (hK : T.K = X.K := by rfl) (hd : (y == ("__debug__" : Str)) = false := by decide) (hcd : (y == ("__classdict__" : Str)) = false := by decide) (hg : Gl X "len" := by rfl)
    (hs : starEach [.Name y xp] X.env = (false, eval (.Name y xp) X.env) :: starEach [] X.env := by rfl) : PE X (.Call (.Name "len" p) [.Name y xp] [] pos) (tD T (eScLen i)) :=
  PE.weak (pe_callB call_len hg hm boot_len (pa_cons (pe_var hN hv hd hcd) pa_nil hs) (he := hs) (hpl := rfl)) fun σ H Q z => by
  obtain ⟨gh, w, k, z⟩ := z
  unfold eScLen at z
  split at z
  · rename_i ns e0
    obtain ⟨a, h1, h2⟩ := k.scr i ns e0
    refine ⟨.ref a, h1, .ref a, ns.length, rfl, .inl ⟨ns.map V.int, hK ▸ k.sub.seq h2, by simp⟩, z.fz (Stp.refl _ _) k (by simp [Rp])⟩
  · exact z.none
end
/-! ### the beginning -/
def srcOf (ns : List Int) : Src := ⟨((ns.map fun c => if c < 0 then -c else c).filter fun c => decide (1000000000000000000 ≤ c)).map fun c => c - 1000000000000000000, ns.map fun c => if c < 0 then -c else c, 0, 0⟩
def spB (K : Fg) : Sp := fun vs H Q E => ∃ (G : Hp) (a : Addr) (ns : List Int), Same G H ∧ vs = [.ref a] ∧ SqL K G a (ns.map V.int) ∧ ns.length ≤ 63 ∧
  ∀ (G' H' : Hp) (p : Addr × Addr), Stp (Gh.pure G) H (Gh.pure G') H' → Same G' H' → SrcOk G' H' p (srcOf ns) → G' p.1 = none → G' p.2 = none → Q (.ref p.1) H'
/-! ### the law -/
/-- all but the table -/
def offT (tb : Option (Addr × Str)) (H : Hp) : Hp := fun b => match tb with
  | some p => if b = p.1 then none else H b
  | none => H b
theorem offT_sub {tb : Option (Addr × Str)} {H : Hp} : Same (offT tb H) H := fun b o e => by
  unfold offT at e
  cases tb with
  | none => exact e
  | some p =>
    have e : (if b = p.1 then none else H b) = some o := e
    split at e
    · cases e
    · exact e
theorem offT_at {p : Addr × Str} {H : Hp} : offT (some p) H p.1 = none := if_pos rfl
theorem offT_ne {tb : Option (Addr × Str)} {H : Hp} {b : Addr} (h : ∀ p, tb = some p → b ≠ p.1) : offT tb H b = H b := by
  cases tb with
  | none => rfl
  | some p => exact if_neg (h p rfl)
def spLaw (K : Fg) (tb : Option (Addr × Str) := none) : Sp := fun vs H Q E => ∃ (a : Addr) (ns : List Int), vs = [.ref a] ∧ SqL K H a (ns.map V.int) ∧ ns.length ≤ 63 ∧ (∀ p, tb = some p → H p.1 = some (.tbl #[])) ∧ ∀ H', Q (.bl true) H'
section
variable {P : Program} {w : World} {K : Fg} {mg : Str → Option Value} {base : Heap}
/-- the slots behind the beginning -/
def entryL (m : Nat) (ns : List Int) : Wt := ⟨.sc ns :: .st :: List.replicate (m - 2) Slot.un, srcOf ns⟩
theorem offT_seq {tb : Option (Addr × Str)} {H : Hp} {a : Addr} {xs : List V} (ht : ∀ p, tb = some p → H p.1 = some (.tbl #[])) (h : SqL K H a xs) : SqL K (offT tb H) a xs := by
  have n : ∀ u, Rd H a u → (∀ ps, u ≠ .tbl ps) → Rd (offT tb H) a u := fun u r hu => by
    have hne : ∀ p, tb = some p → a ≠ p.1 := fun p e z => by
      have q := ht p e
      rcases r with r | ⟨o, r⟩
      · rw [z, q] at r; cases r; exact hu _ rfl
      · rw [z, q] at r; cases r
    unfold Rd at r ⊢
    rw [offT_ne hne]
    exact r
  rcases h with h | h
  · exact .inl (n _ h fun ps z => nomatch z)
  · exact .inr h
omit [TbC] in
theorem fn_law {tb : Option (Addr × Str)} {k : Nat} {f : Addr} {name qual : Str} {params : Arguments} {rest : List Stmt} {body : List Stmt} {scope : Scope} {dvs : List V} {kws : List (Str × V)} {fd : FuncData} {N ps : List Str} {g : SF} {x1 : Str} {e1 : Expr} {p1 p2 : Pos} (D : FunD K name qual params body scope dvs kws f fd) (S : FnScope N ps scope)
    (hbody : body = .Assign [.Name x1 p1] e1 p2 :: rest) (hn : ps.length = 1) (hN2 : 2 ≤ N.length) (hN1 : N[1]? = some x1) (hx1 : Loc scope x1)
    (hsw : ∀ (cdv : Value) (A : Around) (outer : List Env) (s : Shared) (H : Hp) (E : XK), swapsWith e1 (some (.Name x1 p1)) p2.line (cxOf CX0 P w K mg base N qual scope f cdv A outer s H E).env = pure false)
    (h1 : ∀ (cdv : Value) (A : Around) (outer : List Env) (s : Shared) (H : Hp) (E : XK), Rm k (cxOf CX0 P w K mg base N qual scope f cdv A outer s H E).A → PE (cxOf CX0 P w K mg base N qual scope f cdv A outer s H E) e1 (tCall (spB K) [] E (tCons (tVar 0) tNil)))
    (hb : ∀ (cdv : Value), CdAt K f qual cdv → ∀ (A : Around) (outer : List Env) (s : Shared) (H : Hp) (E : XK), Rm k (cxOf CX0 P w K mg base N qual scope f cdv A outer s H E).A → PSs (cxOf CX0 P w K mg base N qual scope f cdv A outer s H E) rest (@tS ⟨tb⟩ ⟨K, mg, E⟩ g))
    (ev : ∀ ns : List Int, ns.length ≤ 63 → ∃ w', g (entryL N.length ns) = some (.rt (.bool true) w')) : FnG P w K mg base CX0 (k + 1) f fd ps (spLaw K tb) := by
  letI tbc : TbC := ⟨tb⟩
  refine FnG.of D S (fun vs H Q E h => ?_) fun cdv cda A outer s H vs Q E rm h => ?_
  · obtain ⟨a, ns, rfl, _⟩ := h
    exact hn.symm
  · obtain ⟨a, ns, rfl, hS, hl, ht, hQ⟩ := h
    have hS := offT_seq ht hS
    subst hbody
    refine ⟨_, pss_cons (ps_set (i := 1) S.nd hN1 hx1 (h1 cdv A outer s H E rm) (hsw cdv A outer s H E) (.inl rfl)) (hb cdv cda A outer s H E rm), ?_⟩
    have h0 : (L2.start N [.ref a])[0]? = some (some (.ref a)) := rfl
    refine ⟨.ref a, h0, offT tb H, a, ns, offT_sub, rfl, hS, hl, fun G' H' p st sm so g1 g2 => ?_⟩
    obtain ⟨w', ew⟩ := ev ns hl
    refine ⟨⟨G', fun _ => none, some p, tb⟩, entryL N.length ns, ?_, _, ew, fun σ' v gh' H2 s' k' rv => ?_⟩
    · have look : ∀ (i : Nat) (x : Slot), (entryL N.length ns).sl[i]? = some x → x ≠ .un → (i = 0 ∧ x = .sc ns) ∨ (i = 1 ∧ x = .st) := fun i x e n => by
        cases i with
        | zero => cases e; exact .inl ⟨rfl, rfl⟩
        | succ i =>
          cases i with
          | zero => cases e; exact .inr ⟨rfl, rfl⟩
          | succ i =>
            have e : (List.replicate (N.length - 2) Slot.un)[i]? = some x := e
            rw [List.getElem?_replicate] at e
            split at e
            · cases e; exact absurd rfl n
            · cases e
      have ls : (L2.start N [V.ref a]).length = N.length := by
        unfold L2.start
        simp
        omega
      refine ⟨?_, sm, fun i d e => ?_, fun i ms e => ?_, fun i d e => ?_, fun i a e => (nomatch e), fun i j a e => (nomatch e), fun i e => ?_, fun q e => ?_, fun p i a _ e => (nomatch e), fun a m => ?_, fun q e => ?_, rfl⟩
      · rw [List.length_set, ls]
        show N.length = (Slot.sc ns :: Slot.st :: List.replicate (N.length - 2) Slot.un).length
        simp
        omega
      · rcases look i _ e (by intro z; cases z) with ⟨_, z⟩ | ⟨_, z⟩ <;> cases z
      · rcases look i _ e (by intro z; cases z) with ⟨rfl, z⟩ | ⟨_, z⟩
        · cases z
          exact ⟨a, by rw [List.getElem?_set_ne (by decide)]; exact h0, st.sub.seq hS⟩
        · cases z
      · rcases look i _ e (by intro z; cases z) with ⟨_, z⟩ | ⟨_, z⟩ <;> cases z
      · rcases look i _ e (by intro z; cases z) with ⟨_, z⟩ | ⟨rfl, _⟩
        · cases z
        · exact ⟨p, rfl, List.getElem?_set_self (by rw [ls]; omega)⟩
      · cases e; exact so
      · rcases m with ⟨i, e⟩ | ⟨q, e, z⟩ | ⟨q, e, z⟩
        · cases e
        · cases e
          rcases z with rfl | rfl
          · exact g1
          · exact g2
        · have e : tb = some q := e
          cases y : G' a with
          | none => exact y
          | some o =>
            rcases st.gnew a o y with x | x | x | ⟨φ, x⟩
            · have x : offT tb H a = some o := x
              rw [e, z, offT_at] at x; cases x
            · rw [z, ht q e] at x; cases x
            · exact absurd x Gh.pure_M
            · rw [z, ht q e] at x; cases x
      · have e : tb = some q := e
        refine ⟨#[], st.keep _ _ (ht q e) Gh.pure_M, True.intro, fun pos cv y => ?_⟩
        have y : codeAmong pos [] = some cv := y
        simp [codeAmong] at y
    · have rv : Rp K gh'.G (.bool true) v := rv
      simp only [Rp] at rv
      subst rv
      exact hQ H2
end
end DL
set_option maxHeartbeats 1000000
/-! DL14: the law's beginning as a def; the law's end. -/
namespace DL
open PySem PySem.Spec PyProof.Rows L2
variable [TbC]
section
variable {P : Program} {w : World} {K : Fg} {mg : Str → Option Value} {base : Heap}
def noSrc : Src := ⟨[], [], 0, 0⟩
def entryB (m : Nat) (ns : List Int) : Wt := ⟨.sc ns :: List.replicate (m - 1) Slot.un, noSrc⟩
def midB (m : Nat) (ns : List Int) : Wt := ⟨.sc ns :: .o (.list ((srcOf ns).great.map PyData.int)) :: List.replicate (m - 2) Slot.un, noSrc⟩
abbrev trB (T : Tx) (f : EF) : List (TE × TE) := [(tC (.str (Str.ofString "great")), tVar 1), (tC (.str (Str.ofString "cells")), tD T f), (tC (.str (Str.ofString "rest")), tC (.int 0)), (tC (.str (Str.ofString "turn")), tC (.int 0))]
theorem merge_src (g c : Addr) (S : Src) (h1 : S.rest = 0) (h2 : S.turn = 0) : mergeK [] [((Sum.inr (Str.ofString "great") : Key), V.ref g), (Sum.inr (Str.ofString "cells"), V.ref c), (Sum.inr (Str.ofString "rest"), V.int 0), (Sum.inr (Str.ofString "turn"), V.int 0)] = srcKeys g c S := by
  unfold srcKeys
  rw [h1, h2]
  have e1 : ∀ (a : Key) (x : V) (l : List (Key × V)), (l.any fun kv => decide (kv.1 = a)) = false → putK l a x = l ++ [(a, x)] := fun a x l h => by unfold putK; rw [h]; rfl
  unfold mergeK
  simp only [List.foldl_cons, List.foldl_nil]
  rw [e1 _ _ [] rfl, List.nil_append, e1 _ _ [_] (by simp; decide), List.singleton_append, e1 _ _ [_, _] (by simp; decide), e1 _ _ _ (by simp; decide)]
  rfl
omit [TbC] in
theorem fn_begun {k : Nat} {f : Addr} {name qual : Str} {params : Arguments} {body : List Stmt} {scope : Scope} {dvs : List V} {kws : List (Str × V)} {fd : FuncData} {N ps : List Str} {g1 : SF} {f2 : EF} (D : FunD K name qual params body scope dvs kws f fd) (S : FnScope N ps scope) (hn : ps.length = 1) (hN2 : 2 ≤ N.length)
    (hb : ∀ (cdv : Value) (A : Around) (outer : List Env) (s : Shared) (H : Hp) (E : XK), Rm k (cxOf CX0 P w K mg base N qual scope f cdv A outer s H E).A → PSs (cxOf CX0 P w K mg base N qual scope f cdv A outer s H E) body (tSeq (@tS ⟨none⟩ ⟨K, mg, E⟩ g1) (tRet (tDisp (@trB ⟨none⟩ ⟨K, mg, E⟩ f2)))))
    (ev1 : ∀ ns : List Int, ns.length ≤ 63 → g1 (entryB N.length ns) = some (.nx (midB N.length ns))) (ev2 : ∀ ns : List Int, ns.length ≤ 63 → f2 (midB N.length ns) = some (.ow (.list ((srcOf ns).cells.map PyData.int)), midB N.length ns)) : FnG P w K mg base CX0 (k + 1) f fd ps (spB K) := by
  refine FnG.of D S (fun vs H Q E h => ?_) fun cdv _ A outer s H vs Q E rm h => ?_
  · obtain ⟨G, a, ns, _, rfl, _⟩ := h
    exact hn.symm
  · obtain ⟨G, a, ns, sm, rfl, hS, hl, hQ⟩ := h
    refine ⟨_, hb cdv A outer s H E rm, ?_⟩
    have h0 : (L2.start N [.ref a])[0]? = some (some (.ref a)) := rfl
    have ls : (L2.start N [V.ref a]).length = N.length := by
      unfold L2.start
      simp
      omega
    have k0 : @Ok ⟨none⟩ K (Gh.pure G) H (L2.start N [.ref a]) (entryB N.length ns) := by
      have look : ∀ (i : Nat) (x : Slot), (entryB N.length ns).sl[i]? = some x → x ≠ .un → i = 0 ∧ x = .sc ns := fun i x e n => by
        cases i with
        | zero => cases e; exact ⟨rfl, rfl⟩
        | succ i =>
          have e : (List.replicate (N.length - 1) Slot.un)[i]? = some x := e
          rw [List.getElem?_replicate] at e
          split at e
          · cases e; exact absurd rfl n
          · cases e
      refine ⟨?_, sm, fun i d e => ?_, fun i ms e => ?_, fun i d e => ?_, fun i a e => (nomatch e), fun i j a e => (nomatch e), fun i e => ?_, fun q e => (nomatch e), fun p i a e _ => (nomatch e), fun a m => absurd m Gh.pure_M, fun q e => (nomatch e), rfl⟩
      · rw [ls]
        show N.length = (Slot.sc ns :: List.replicate (N.length - 1) Slot.un).length
        simp
        omega
      · have := (look i _ e (by intro z; cases z)).2; cases this
      · obtain ⟨rfl, z⟩ := look i _ e (by intro z; cases z)
        cases z
        exact ⟨a, h0, hS⟩
      · have := (look i _ e (by intro z; cases z)).2; cases this
      · have := (look i _ e (by intro z; cases z)).2; cases this
    refine ⟨Gh.pure G, entryB N.length ns, k0, _, ev1 ns hl, fun σ1 gh1 H1 s1 k1 => ?_⟩
    show tDisp (trB ⟨K, mg, E⟩ f2) σ1 H1 fun v H' => Q v H'
    intro p hp
    obtain ⟨ga, q0, q1, xs, hx, rx⟩ := k1.own 1 _ rfl
    have := RpA.of_ints rx
    subst this
    refine ⟨.ref ga, q1, ?_⟩
    refine ⟨gh1, midB N.length ns, k1.grow hp _, _, _, ev2 ns hl, fun _ _ z => (nomatch z), fun v gh3 H3 s3 k3 rv => ?_⟩
    obtain ⟨c, rfl, c0, cG, cM, ys, hy, ry⟩ := rv
    have := RpA.of_ints ry
    subst this
    have pG : gh1.G p = none := k1.nog hp
    have pM : ¬ gh1.M p := k1.nom hp
    obtain ⟨p3, pG3, pM3⟩ := s3.stay upd_same pG pM
    have cp : c ≠ p := fun z => by subst z; rw [upd_same] at c0; cases c0
    have c1 : H1 c = none := by rw [upd_ne cp] at c0; exact c0
    have cH : H c = none := s1.dom _ c1
    obtain ⟨ga', r0, r1, zs, hz, rz⟩ := k3.own 1 _ rfl
    rw [q1] at r1
    cases r1
    have := RpA.of_ints rz
    subst this
    have gp : ga ≠ p := fun z => by subst z; rw [hp] at hx; cases hx
    have gc : ga ≠ c := fun z => cM (z ▸ .inl ⟨1, r0⟩)
    have gG : gh3.G ga = none := k3.dis ga (.inl ⟨1, r0⟩)
    refine ⟨p3, [((Sum.inr (Str.ofString "great") : Key), V.ref ga), (Sum.inr (Str.ofString "cells"), V.ref c), (Sum.inr (Str.ofString "rest"), V.int 0), (Sum.inr (Str.ofString "turn"), V.int 0)], rfl, by show 4 ≤ 15; decide, ?_⟩
    rw [merge_src ga c (srcOf ns) rfl rfl]
    have nM1 : ∀ {b : Addr} {o : HO}, H b = some o → ¬ gh1.M b := fun {b o} e m => by
      rcases s1.mnew b m with z | z
      · exact absurd z Gh.pure_M
      · rw [e] at z; cases z
    have up1 : ∀ {b : Addr}, upd H1 p (.dK []) b = none → H b = none := fun {b} e => by
      by_cases z : b = p
      · subst z; rw [upd_same] at e; cases e
      · rw [upd_ne z] at e; exact s1.dom b e
    refine hQ (upd gh3.G c (.lst ((srcOf ns).cells.map V.int))) _ (p, ga) ⟨fun b o e => ?_, fun b o e _ => ?_, fun b e => ?_, fun b o e => ?_, fun b m => absurd m Gh.pure_M, rfl, rfl⟩ (fun b o e => ?_) ⟨c, upd_same, ?_, upd_same, Ne.symm gp⟩ ?_ ?_
    · show upd gh3.G c _ b = some o
      have e3 := s3.sub b o (s1.sub b o e)
      rw [upd_ne (fun z => by subst z; rw [cG] at e3; cases e3)]
      exact e3
    · have e1 := s1.keep b o e Gh.pure_M
      have bp : b ≠ p := fun z => by subst z; rw [hp] at e1; cases e1
      rw [upd_ne bp]
      exact s3.keep b o (by rw [upd_ne bp]; exact e1) (nM1 e)
    · by_cases z : b = p
      · subst z; rw [upd_same] at e; cases e
      · rw [upd_ne z] at e; exact up1 (s3.dom b e)
    · have e : upd gh3.G c (.lst ((srcOf ns).cells.map V.int)) b = some o := e
      by_cases z : b = c
      · subst z; exact .inr (.inl cH)
      · rw [upd_ne z] at e
        rcases s3.gnew b o e with q | q | q | ⟨φ, q⟩
        · rcases s1.gnew b o q with q | q | q | q
          · exact .inl q
          · exact .inr (.inl q)
          · exact absurd q Gh.pure_M
          · exact .inr (.inr (.inr q))
        · exact .inr (.inl (up1 q))
        · rcases s1.mnew b q with q | q
          · exact absurd q Gh.pure_M
          · exact .inr (.inl q)
        · cases y : H b with
          | none => exact .inr (.inl rfl)
          | some u =>
            have y1 := s1.keep b u y Gh.pure_M
            have bp : b ≠ p := fun z => by subst z; rw [hp] at y1; cases y1
            rw [upd_ne bp, y1] at q
            cases q
            exact .inr (.inr (.inr ⟨φ, rfl⟩))
    · by_cases z : b = c
      · subst z
        rw [upd_same] at e
        cases e
        rw [upd_ne cp]
        exact hy
      · rw [upd_ne z] at e
        have bp : b ≠ p := fun z => by subst z; rw [pG3] at e; cases e
        rw [upd_ne bp]
        exact k3.sub b o e
    · rw [upd_ne gp]; exact hz
    · show upd gh3.G c _ p = none
      rw [upd_ne (Ne.symm cp)]; exact pG3
    · show upd gh3.G c _ ga = none
      rw [upd_ne gc]; exact gG
end
/-! ### the law's end: its def is called where nothing is being shown -/
theorem law_callG {P : Program} {w : World} {K : Fg} {mg mb : Str → Option Value} {k : Nat} {fa a : Addr} {fd : FuncData} {x : Str} {sp : Sp} {s₁ : Shared} {vs : List Value} {ns : List Int}
    (KX : K.In s₁.heap) (hns : s₁.heap.Ns mainGlobals mg) (hb : s₁.heap.Ns builtinsNs mb) (hbb : ∀ x : Str, x ≠ "__name__" → mb x = bootBuiltins x) (hlim : s₁.heap.NoLimit) (hg : s₁.gens = #[])
    (ha : s₁.heap.get? a = some { cls := .type "list", data := .seq vs.toArray }) (hi : IntsAre vs ns) (hl : ns.length ≤ sizeLine) (hr : Room k callerA)
    (F : ∀ base : Heap, K.In base → base.Ns mainGlobals mg → FnG P w K mg base CX0 k fa fd [x] sp) (hbind : ∀ (s : Shared) (u : Value), BindsTo s fd ⟨[u], []⟩ [(x, u)])
    (hsp : ∀ H : Hp, Only H → SqL K H a (ns.map V.int) → sp [.ref a] H (fun v _ => v = .bl true) fun _ _ _ => False) :
    codeAny (model P w) callerA (.call (.ref fa) ⟨[.ref a], []⟩) (fun r s' => r = .ok (.ret (.bool true)) ∧ OldK s₁.heap s'.heap ∧ s'.os = s₁.os ∧ AllBare s'.gens) s₁ := by
  have rv := vals_ints hi
  have lenV := hi.length
  have core : ∀ H : Hp, Only H → SqL K H a (ns.map V.int) → HOk P w H s₁.heap → (∀ b, H b ≠ none → b = a ∧ K.lookup a = none) →
      codeAny (model P w) callerA (.call (.ref fa) ⟨[.ref a], []⟩) (fun r s' => r = .ok (.ret (.bool true)) ∧ OldK s₁.heap s'.heap ∧ s'.os = s₁.os ∧ AllBare s'.gens) s₁ := by
    intro H hO hS hok hA
    have free : ∀ {b : Addr}, (b = a → False) → H b = none := fun {b} n => by
      cases q : H b with
      | none => rfl
      | some u => exact (n (hA b (by rw [q]; simp)).1).elim
    have nsK : ∀ {b : Addr} {m : Str → Option Value}, s₁.heap.Ns b m → (hidT s₁.heap H).Ns b m := fun {b m} ⟨o, es, ep, e, d, r⟩ => ⟨o, es, ep, hidT_get e (free fun z => by
      subst z
      rw [ha] at e
      cases e
      have d' : Data.seq vs.toArray _ = Data.dict es ep := d
      cases d'), d, r⟩
    have hKb : K.In (hidT s₁.heap H) := fun b o e => hidT_get (KX b o e) (by
      cases q : H b with
      | none => rfl
      | some u =>
        obtain ⟨e1, e2⟩ := hA b (by rw [q]; simp)
        subst e1
        rw [e2] at e; cases e)
    have hM : Mod K mg (hidT s₁.heap H) := ⟨hKb, nsK hns, ⟨mb, nsK hb, hbb⟩, let ⟨mc, h1, h2⟩ := hlim; ⟨mc, nsK h1, h2⟩⟩
    have e0 : Env0 P w K mg (hidT s₁.heap H) callerA [] s₁ H := ⟨rfl, hM, fun b o e => of_hidT e, Nat.le_of_eq (hidT_size _ _), trivial, fun b hb => absurd (show b ∈ ([] : List Addr) from hb) (by simp), hok, .of_eq hg⟩
    refine codeAny_mono ((F _ hKb (nsK hns)).go callerA [] s₁ H ⟨[.ref a], []⟩ [.ref a] [.ref a] _ _ ⟨hr, rfl⟩ e0 (hbind s₁ (.ref a)) (.cons rfl .nil) (hsp H hO hS)) fun r s' h => ?_
    cases r with
    | error e => exact (show False from h).elim
    | ok fl =>
      cases fl with
      | next => exact False.elim h
      | brk => exact False.elim h
      | cont => exact False.elim h
      | ret u =>
        obtain ⟨v, H', os, bare, un, hok', r', q⟩ := h
        have q' : v = .bl true := q
        subst q'
        obtain rfl : u = Value.bool true := r'
        refine ⟨rfl, OldK.of_keep fun b o e => ?_, os, bare⟩
        rcases hO b with z | ⟨ob, xs, z⟩
        · exact un.keep b o e z (by intro z; exact absurd (show b ∈ ([] : List Addr) from z) (by simp)) (by simp)
        · have z2 := un.frzs b ob _ z
          obtain ⟨e1, _⟩ := hok b _ z
          obtain ⟨e2, _⟩ := hok' b _ z2
          rw [e] at e1; cases e1
          exact e2
  cases hk : K.lookup a with
  | some o =>
    have e := KX a o hk
    rw [ha] at e
    cases e
    exact core (fun _ => none) (fun _ => .inl rfl) (.inr ⟨_, vs.toArray, _, hk, rfl, rfl, rfl, by rw [List.size_toArray, lenV]; exact hl, by simpa using rv⟩) (fun b u z => by have z' : (none : Option HO) = some u := z; cases z') fun b z => absurd rfl z
  | none =>
    refine core (fun b => if b = a then some (.frz { cls := .type "list", data := .seq vs.toArray } (.lst (ns.map V.int))) else none) (fun b => ?_) (.inl (.inr ⟨{ cls := .type "list", data := .seq vs.toArray }, if_pos rfl⟩)) (fun b u z => ?_) (fun b z => ⟨?_, hk⟩)
    · by_cases hb : b = a
      · exact .inr ⟨_, _, if_pos hb⟩
      · exact .inl (if_neg hb)
    · by_cases hb : b = a
      · have z' := (if_pos hb).symm.trans z
        cases z'
        subst hb
        exact ⟨ha, by rw [List.length_map]; exact hl, vs, _, rv, ha⟩
      · have z' := (if_neg hb).symm.trans z
        cases z'
    · by_cases hb : b = a
      · exact hb
      · exact absurd (if_neg hb) z
theorem walkG {l : PySem.W.OpenLaw} {n k : Nat} {q : Program} {loose : List Str} {XP : (Str → Option Value) → Heap → Prop} {YP : World → Heap → Prop} {d : DefRec} {x : Str}
    (hn : l.most = some n) (hn2 : n ≤ sizeLine) (hdf : d.params.defaults = []) (hr : Room k callerA)
    (F : ∀ (w : World) (mg : Str → Option Value) (fa : Addr) (h : Heap), YP w h → h.Ns mainGlobals mg → mg d.name = some (.ref fa) →
      ∃ (K : PySem.W.Frag) (fd : FuncData) (sp : Sp), K.In h ∧ (∀ (s : Shared) (u : Value), BindsTo s fd ⟨[u], []⟩ [(x, u)]) ∧
        (∀ (H : Hp) (a : Addr) (ns : List Int), ns.length ≤ n → Only H → SqL K H a (ns.map V.int) → sp [.ref a] H (fun v _ => v = .bl true) fun _ _ _ => False) ∧
        ∀ base : Heap, K.In base → base.Ns mainGlobals mg → FnG l.prog w K mg base CX0 k fa fd [x] sp) :
    PySem.W.WalkO q loose XP YP l.row.toRowW d [] (fun f vs => PySem.call f vs) := by
  refine Att.attach_call hn hdf fun w s₀ s₁ mg mb fa o pm cd doc a vs ns G Y ho hd hcd hmg hobj hints hlen hg => ?_
  obtain ⟨K, fd, sp, KX, hb, hsp, hF⟩ := F w mg fa _ Y G.T.g hmg
  exact law_callG KX G.T.g G.T.b G.T.builtins G.T.nolimit hg hobj hints (Nat.le_trans hlen hn2) hr hF hb (fun H hO hS => hsp H a ns hlen hO hS)
end DL
set_option maxHeartbeats 1000000
/-! DL15: short words: calls of defs without defaults, constants of the module. -/
namespace DL
open PySem PySem.Spec PyProof.Rows L2
variable [TbC]
theorem passA {X : Cx} {E : XK} : Passes CX0 X E := fun _ _ _ _ _ _ _ h => h.elim
section
variable {K : Fg} {x qual : Str} {params : Arguments} {body : List Stmt} {scope : Scope} {kws : List (Str × V)} {f : Addr} {fd : FuncData} {ps : List Str}
theorem bindsK0 (F : FunD K x qual params body scope [] kws f fd)
    (h : ∀ (kV doc pm : Value) (an : Option Addr) (cdv ct : Value) (ws : List Value), ws.length = ps.length → bindArgs (PySem.W.fnOf x qual params body scope .none kV doc pm an cdv ct) ⟨[], ps.zip ws⟩ = pure (ps.zip ws)) (s : Shared) (ws : List Value) (hl : ws.length = ps.length) : BindsTo s fd ⟨[], ps.zip ws⟩ (ps.zip ws) := by
  obtain ⟨oc, od, dV, kV, doc, pm, an, cdv, ct, osl, rfl, lk, hcd, hD, hK⟩ := F.ex
  rcases hD with ⟨_, rfl⟩ | ⟨e, _⟩
  · exact BindsTo.of_eq (h kV doc pm an cdv ct ws hl)
  · exact absurd rfl e
theorem FunDkp (F : FunD K x qual params body scope [] kws f fd) : PySem.W.keepIn K (.ref f) = true := F.kp
end
section
variable {X : Cx} {T : Tx} {k n : Nat} {f : Addr} {fd : FuncData} {ps : List Str} {F : FF} {x : Str} {p pos : Pos} {e : Expr} {es : List Expr} {kws : List Keyword} {g : AF}
/-- f(e, ..), no defaults -/
theorem d_fn (G : FnG X.prog X.w X.K X.mg X.base CX0 k f fd ps (spF X.K X.mg n F)) (rm : Rm k X.A) (hm : X.mg x = some (.ref f)) (hk : PySem.W.keepIn X.K (.ref f) = true) (hb : Binds X.K fd ps [])
    (ha : PA X (e :: es) (tA T g)) (hK : T.K = X.K := by rfl) (hM : T.mg = X.mg := by rfl) (hg : Gl X x := by rfl) (hdb : (x == ("__debug__" : Str)) = false := by decide) (he : starEach (e :: es) X.env = (false, eval e X.env) :: starEach es X.env := by rfl) (hpl : (backTo pos (starEach es X.env)).any (·.1) = false := by rfl) :
    PE X (.Call (.Name x p) (e :: es) [] pos) (tD T (eCall F n [] g)) := d_call (dd := []) (dvs := []) (ds := []) G rm hm hk hb .nil (fun _ => RpA.nil) passA ha hK hM hg hdb he hpl
theorem d_fn0 (G : FnG X.prog X.w X.K X.mg X.base CX0 k f fd ps (spF X.K X.mg n F)) (rm : Rm k X.A) (hm : X.mg x = some (.ref f)) (hk : PySem.W.keepIn X.K (.ref f) = true) (hb : Binds X.K fd ps [])
    (hK : T.K = X.K := by rfl) (hM : T.mg = X.mg := by rfl) (hg : Gl X x := by rfl) (hdb : (x == ("__debug__" : Str)) = false := by decide) :
    PE X (.Call (.Name x p) [] [] pos) (tD T (eCall F n [] aNil)) := d_call0 (dd := []) (dvs := []) (ds := []) G rm hm hk hb .nil (fun _ => RpA.nil) passA hK hM hg hdb
/-- f(a = e, ..), all by keywords, in the parameters' order -/
theorem d_fnK (G : FnG X.prog X.w X.K X.mg X.base CX0 k f fd ps (spF X.K X.mg n F)) (rm : Rm k X.A) (hm : X.mg x = some (.ref f)) (hk : PySem.W.keepIn X.K (.ref f) = true) (hb : ∀ (s : Shared) (ws : List Value), ws.length = ps.length → BindsTo s fd ⟨[], ps.zip ws⟩ (ps.zip ws))
    (hkw : PK X kws (tA T g)) (hK : T.K = X.K := by rfl) (hM : T.mg = X.mg := by rfl) (hg : Gl X x := by rfl) (hall : (backToKw pos (keywordEach kws X.env)).all (·.1.isSome) = true := by rfl) (hks : (backToKw pos (keywordEach kws X.env)).filterMap (·.1) = ps := by rfl)
    (hdb : (x == ("__debug__" : Str)) = false := by decide) (hpl : ((backTo pos (starEach [] X.env)).any (·.1) || (backToKw pos (keywordEach kws X.env)).any (·.1.isNone)) = false := by rfl) :
    PE X (.Call (.Name x p) [] kws pos) (tD T (eCall F n [] g)) := PE.weak (t := fun σ H Q => (tA T g) σ H fun vs H1 => spF X.K X.mg n F vs H1 Q T.E) ⟨fun pins s σ H Q I h => by
      refine wpAny_Call_Name_kw (ld_glob I hg hm ?_ hdb)
      refine PySem.W.callWith_KW0 (h₀ := X.base) I.ok.mod.kin hk hall (thn (hkw.run pos pins s σ H _ I h) fun us s1 ⟨vs, H1, I1, r, q⟩ => ⟨I1.kIn, ?_⟩) hpl
      rw [hks]
      exact wp_of_code (FnG.call (vs := vs) G rm passA I1 (hb s1 us (by rw [← r.length]; exact G.arity _ _ _ _ q)) r q)⟩ fun σ H Q z =>
  eA_le (r := fun vs H1 Q => spF X.K X.mg n F vs H1 Q T.E) (fun gh0 gh H0 H σ w vs ds Q s kk r z => by
    rw [List.append_nil] at z
    split at z
    · rename_i hl
      rw [← hK, ← hM]
      exact call_le s kk r hl z
    · exact z.none) σ H Q z
theorem d_globI {i : Int} (hm : ∃ t, X.mg x = some (.int i t)) (hg : Gl X x := by rfl) (hd : (x == ("__debug__" : Str)) = false := by decide) : PE X (.Name x pos) (tD T (eD (.int i))) := by
  obtain ⟨t, hm⟩ := hm
  exact d_glob (v := .int i) hm ⟨t, rfl⟩ (fun _ => by simp [Rp]) hg hd
theorem d_globS {z : Str} (hm : ∃ t, X.mg x = some (.str z t)) (hg : Gl X x := by rfl) (hd : (x == ("__debug__" : Str)) = false := by decide) : PE X (.Name x pos) (tD T (eD (.str z))) := by
  obtain ⟨t, hm⟩ := hm
  exact d_glob (v := .str z) hm ⟨t, rfl⟩ (fun _ => by simp [Rp]) hg hd
theorem d_globT {a : Addr} {vs : List V} {ds : List PD} (hm : X.mg x = some (.ref a)) (hs : ∀ H, SqT T.K H a vs) (hr : ∀ H, RpA T.K H ds vs) (hg : Gl X x := by rfl) (hd : (x == ("__debug__" : Str)) = false := by decide) : PE X (.Name x pos) (tD T (eD (.tuple ds))) :=
  d_glob (v := .ref a) hm rfl (fun H => rp_tup (hs H) (hr H)) hg hd
end
section
variable {P : Program} {w : World} {K : Fg} {mg : Str → Option Value} {base : Heap}
omit [TbC] in
theorem fn_data0 {k n : Nat} {f : Addr} {name qual : Str} {params : Arguments} {body : List Stmt} {scope : Scope} {dvs : List V} {kws : List (Str × V)} {fd : FuncData} {N ps : List Str} {F : FF} {g : SF} (D : FunD K name qual params body scope dvs kws f fd) (S : FnScope N ps scope)
    (hn : ps.length = n) (hb : ∀ (cdv : Value) (A : Around) (outer : List Env) (s : Shared) (H : Hp) (E : XK), Rm k (cxOf CX0 P w K mg base N qual scope f cdv A outer s H E).nox.A → PSs (cxOf CX0 P w K mg base N qual scope f cdv A outer s H E).nox body (@tS ⟨none⟩ ⟨K, mg, E⟩ g))
    (ev : ∀ ds fr, ds.length = n → F ds = some fr → outF (g (entry N.length ds)) = some fr) : FnG P w K mg base CX0 (k + 1) f fd ps (spF K mg n F) :=
  fn_data D S hn (fun cdv A outer s H E rm => (hb cdv A outer s H E rm).nox) ev
omit [TbC] in
theorem fn_st0 {k n : Nat} {f : Addr} {name qual : Str} {params : Arguments} {body : List Stmt} {scope : Scope} {dvs : List V} {kws : List (Str × V)} {fd : FuncData} {N ps : List Str} {F : FSt} {g : SF} (D : FunD K name qual params body scope dvs kws f fd) (S : FnScope N ps scope)
    (hn : ps.length = n + 1) (hN : n + 1 ≤ N.length) (hb : ∀ (cdv : Value) (A : Around) (outer : List Env) (s : Shared) (H : Hp) (E : XK), Rm k (cxOf CX0 P w K mg base N qual scope f cdv A outer s H E).nox.A → PSs (cxOf CX0 P w K mg base N qual scope f cdv A outer s H E).nox body (@tS ⟨none⟩ ⟨K, mg, E⟩ g))
    (ev : ∀ ds S r, ds.length = n → F S ds = some r → outS (g (entryS N.length ds S)) = some r) : FnG P w K mg base CX0 (k + 1) f fd ps (spS K mg n F) :=
  fn_st D S hn hN (fun cdv A outer s H E rm => (hb cdv A outer s H E rm).nox) ev
end
/-- the interpretation as a promise -/
def FB (m : Nat) (g : SF) : FF := fun ds => outF (g (entry m ds))
def FSB (m : Nat) (g : SF) : FSt := fun S ds => outS (g (entryS m ds S))
end DL
set_option maxHeartbeats 1000000
/-! DL16: a caught error that is kept: try: .. except C as n: found = n. -/
namespace DL
open PySem PySem.Spec PyProof.Rows L2
/-- an error's object, by its class and its own dict -/
def ErrO (a : Addr) (cls : Value) (d : Option Addr) : HO := .ext fun h => ∃ oe vs, h.get? a = some oe ∧ Zc cls d oe ∧ oe.data = .fields vs
section
variable {X : Cx} {pins : List (Addr × Obj)} {σ : L2.St} {H : Hp} {s : Shared}
theorem keepErr {a : Addr} {oe : Obj} {vs : Array Value} {cls : Value} {d : Option Addr} (I : Inv X pins σ H s) (ha : s.heap.get? a = some oe) (hz : Zc cls d oe) (hd : oe.data = .fields vs) (na : H a = none)
    (nL : a ≠ X.env.locals) (h0 : X.s_0.heap.get? a = none) (hp : ∀ p ∈ X.pn ++ pins, p.1 ≠ a) : Inv X pins σ (upd H a (ErrO a cls d)) s := by
  have cne : ∀ x c, X.env.cells.lookup x = some c → c ≠ a := fun x c e z => by
    obtain ⟨v, o, q1, q2⟩ := I.cell x c e
    rw [z, ha] at q1
    cases q1
    rw [hd] at q2
    cases q2
  have b0 : ∀ b o, X.s_0.heap.get? b = some o → b ≠ a := fun b o e z => by rw [z, h0] at e; cases e
  have kp : ∀ b u, H b = some u → upd H a (ErrO a cls d) b = some u := fun b u e => by rw [upd_ne (ne_of_none e na)]; exact e
  refine ⟨I.ok, I.os, I.bare, ⟨I.base.keep, I.base.slot, fun b o e n x => by rw [upd_ne (b0 b o e)]; exact I.base.free b o e n x, I.base.there, fun b xs e => kp b _ (I.base.tups b xs e), fun b o u e => kp b _ (I.base.frzs b o u e), fun b ps e => ?_⟩,
    I.loc, I.cell, by rw [upd_ne (Ne.symm nL)]; exact I.free, fun x c e => by rw [upd_ne (cne x c e)]; exact I.freeC x c e, fun p h => ?_, fun b u e => ?_, I.len⟩
  · obtain ⟨more, q⟩ := I.base.tbls b ps e
    exact ⟨more, kp b _ q⟩
  · obtain ⟨q1, q2, q3⟩ := I.pin p h
    exact ⟨q1, by rw [upd_ne (hp p h)]; exact q2, q3⟩
  · by_cases z : b = a
    · subst z
      rw [upd_same] at e
      cases e
      exact ⟨⟨oe, vs, ha, hz, hd⟩, ⟨oe, ha⟩, fun h1 h2 ⟨o1, v1, r1, r2⟩ st => ⟨o1, v1, st _ r1, r2⟩⟩
    · rw [upd_ne z] at e
      refine (I.hok b u e).stay (fun c v hc q => q) (fun c q => kp c _ q) fun c xs q => kp c _ q
end
/-- what the clause wishes of the body's error: the suite runs through, and behind it the error's object is known -/
def wKeep (K : Fg) (c : Value) (i : Nat) (ts : Addr → Value → Option Addr → TS) (Wo : WX) (D : Ends) : WX := fun cls d σ H => ∃ b, PySem.W.exmOne K cls c = some b ∧
  (b = true → ∀ a, H a = none → ts a cls d ⟨fun σ1 H1 => D.nx (σ1.set i none) (upd H1 a (ErrO a cls d)), fun _ _ => False, fun _ _ => False, fun _ _ => False⟩ (σ.set i (some (.ref a))) H) ∧ (b = false → Wo cls d σ H)
section
variable {X : Cx} {x n : Str} {c : Value} {i : Nat} {body suite : List Stmt} {b₀ : Stmt} {p1 p2 p3 : Pos} {tb : WX → TS} {ts : Addr → Value → Option Addr → TS} {Wo : WX}
theorem ps_keep (est : X.stack = X.env :: X.outer) (efr : X.env.frame = some X.env.locals) (eex : X.ex = []) (nd : X.N.Nodup) (hi : X.N[i]? = some n) (hk : X.env.kindOf n = some .local) (hc : Names X x c) (tk : Takes X Wo)
    (hbody : ∀ (W : WX) (pn : List (Addr × Obj)) (xe : Value → Shared → Prop), Takes (X.tr pn xe) W → PassesOwn (model X.prog X.w) X.A X.env xe → PSs (X.tr pn xe) body (tb W))
    (hsuite : ∀ (a : Addr) (oe : Obj) (cls : Value) (d : Option Addr) (pn : List (Addr × Obj)), Zc cls d oe → (∃ vs, oe.data = .fields vs) → PSs (X.suite a ((a, oe) :: pn)) (b₀ :: suite) (ts a cls d)) :
    PS X (.Try body [.ExceptHandler (some (.Name x p1)) (some n) (b₀ :: suite) p2] [] [] p3) (fun D σ H => tb (wKeep X.K c i ts Wo D) D σ H) := ⟨fun pins s σ H D I h => by
  have okX := I.ok
  have frX : X.A.frames = some (X.env :: X.outer) := by rw [okX.frames, est]
  refine wpAny_Try_except (wpAny_mono ((hbody (wKeep X.K c i ts Wo D) (X.pn ++ pins) _ (fun u s1 air => ?_) PassesOwn.looking).run [] s σ H D (I.toTry (fun e s₁ => wpAny (model X.prog X.w) X.A (noteFrame e X.env) (fun _ s₂ => wpAny (model X.prog X.w) X.A (setFlight e none) (fun _ s₃ =>
    wpAny (model X.prog X.w) X.A (handleBy e X.env [.ExceptHandler (some (.Name x p1)) (some n) (b₀ :: suite) p2]) (SP X pins D) X.xe s₃) X.xe s₂) X.xe s₁)) h) (fun fl s1 q => ?_) fun _ _ q => q)
  · obtain ⟨a, B, sI, pn1, σ1, H1, cls, d, ea, IT, ground, up0, sky0, na, os1, bare1, b, eb, yes, no⟩ := air
    subst ea
    have IX : Inv X pins σ1 H1 sI := IT.ofTry okX
    have sky1 : Sky B (X.env :: X.outer) a (Zc cls d) X.env.locals s1.heap := est ▸ sky0
    show wpAny (model X.prog X.w) X.A (noteFrame (.ref a) X.env) _ _ _
    refine Sky.land Zc.steady frX efr sky1 fun h2 fly2 up2 => ?_
    have I2 : Inv X pins σ1 H1 { s1 with heap := h2 } := IX.landed ground fly2.1 (up0.trans up2) os1 bare1
    obtain ⟨oe2, vs2, get2, z2, dat2⟩ := fly2.there
    have outF : a ∉ frs (X.env :: X.outer) := fun hm => by
      obtain ⟨_, o1, g1, nf⟩ := fly2.2.2.1.mem hm
      rw [get2] at g1
      cases g1
      exact nf _ dat2
    have aL : a ≠ X.env.locals := fun z => outF (List.mem_filterMap.mpr ⟨X.env, List.mem_cons_self, by rw [efr, z]⟩)
    have aF : a ∉ X.fs := fun hm => by
      obtain ⟨e, he, q⟩ := List.mem_filterMap.mp hm
      exact outF (List.mem_filterMap.mpr ⟨e, List.mem_cons_of_mem _ he, q⟩)
    have aS : a ∉ frs X.stack := est ▸ outF
    have newI : sI.heap.get? a = none := by
      cases q : sI.heap.get? a with
      | none => rfl
      | some o =>
        have q1 := ground a o q aS
        rw [fly2.2.1] at q1
        cases q1
    have new0 : X.s_0.heap.get? a = none := by
      cases q : X.s_0.heap.get? a with
      | none => rfl
      | some o =>
        obtain ⟨o1, q1⟩ := IX.base.there a o q (by rw [eex]; exact List.not_mem_nil)
        rw [newI] at q1
        cases q1
    have pinA : ∀ p ∈ X.pn ++ pins, p.1 ≠ a := fun p hp z => by
      have q := (IX.pin p hp).1
      rw [z, newI] at q
      cases q
    have S2 := I2.suite get2 dat2 na aL aF
    refine wpAny_handleBy_cons (codeAny_handlers_test ?_) (by intro q; cases q)
    have tyA : PySem.W.Looks (model X.prog X.w) h2 (typeOf (.ref a)) cls := fun A Q E s k q => wpAny_typeOf_ref (k _ _ get2) (by rw [z2.1]; exact q)
    have isA := PySem.W.exm_one (M := model X.prog X.w) I2.kIn tyA eb
    have nameIs : ∀ {Q E : Value → Shared → Prop}, Q c { s1 with heap := h2 } → wpAny (model X.prog X.w) (X.A.mark (some (.ref a))) (eval (.Name x p1) X.env) Q E { s1 with heap := h2 } := fun {Q E} q => by
      obtain ⟨hg, hdb, hm | ⟨hm, hv, hnn⟩⟩ := hc
      · exact ld_glob (X := X.suite a ((a, oe2) :: (X.pn ++ pins))) S2 hg hm q hdb
      · exact ld_blt (X := X.suite a ((a, oe2) :: (X.pn ++ pins))) S2 hg hm hv q hnn hdb
    refine nameIs (isA.here ?_)
    cases b with
    | true =>
      refine codeAny_handlers_suite_as (HandSPX.lands_againZ fly2 fun h3 fly3 up3 => ?_)
      have I3 : Inv X pins σ1 H1 { s1 with heap := h3 } := IX.landed ground fly3.1 ((up0.trans up2).trans up3) os1 bare1
      obtain ⟨oe3, vs3, get3, z3, dat3⟩ := fly3.there
      refine store_ok (X := X.suite a ((a, oe3) :: (X.pn ++ pins))) (v := .ref a) (I3.suite get3 dat3 na aL aF) nd hi (.inl hk) rfl (fun s4 I4 => ?_) (.inr hk)
      refine wpAny_mono ((hsuite a oe3 cls d (X.pn ++ pins) z3 ⟨_, dat3⟩).run [] s4 _ H1 _ I4 (yes rfl a na)) (fun fl s5 q => ?_) fun _ _ z => z.elim
      cases fl with
      | next =>
        obtain ⟨σ5, H5, I5, q5⟩ := q
        obtain ⟨get5, na5, _⟩ := I5.pin (a, oe3) (List.mem_append.mpr (.inl List.mem_cons_self))
        have I6 : Inv X pins σ5 H5 s5 := I5.unsuite okX
        exact gone_ok (keepErr I6 get5 z3 dat3 na5 aL new0 pinA) nd hi hk fun s6 I7 => ⟨_, _, I7, q5⟩
      | brk => obtain ⟨_, _, _, q5⟩ := q; exact q5.elim
      | cont => obtain ⟨_, _, _, q5⟩ := q; exact q5.elim
      | ret u => obtain ⟨_, _, _, _, _, q5⟩ := q; exact q5.elim
    | false =>
      show wpAny _ X.A (handleBy (.ref a) X.env []) _ _ _
      refine wpAny_handleBy_nil ?_
      obtain ⟨k1, k2, k3, oe, vs, Tr, oT, tr, he, hz, hd, h1, hr⟩ := id fly2
      unfold PySem.passOn
      refine wpAny_bind (wpAny_field he hd h1 ?_)
      rw [if_neg (show ¬ ((Value.ref Tr == Value.none) = true) from by simp)]
      have away : wpAny (model X.prog X.w) X.A (setFlight (.ref a) X.env.frame) (fun _ s4 => wpAny (model X.prog X.w) X.A (throw (.ref a) : Sem Flow) (SP X pins D) X.xe s4) X.xe { s1 with heap := h2 } := by
        rw [efr]
        exact HandSPX.setFlight_upZ fly2 fun h4 held up4 => wpAny_throw (tk _ _ ⟨a, B, sI, pins, σ1, H1, cls, d, rfl, IX, ground, (up0.trans up2).trans up4, .inr (.inr (est.symm ▸ held)), na, os1, bare1, no rfl⟩)
      first
        | exact wpAny_bind (wpAny_pure (wpAny_bind away))
        | exact wpAny_bind away
  · cases fl with
    | next => obtain ⟨σ1, H1, J, q1⟩ := q; exact wpAny_execs_nil ⟨σ1, H1, J.ofTry okX, q1⟩
    | brk => obtain ⟨σ1, H1, J, q1⟩ := q; exact ⟨σ1, H1, J.ofTry okX, q1⟩
    | cont => obtain ⟨σ1, H1, J, q1⟩ := q; exact ⟨σ1, H1, J.ofTry okX, q1⟩
    | ret u => obtain ⟨v, σ1, H1, J, r1, q1⟩ := q; exact ⟨v, σ1, H1, J.ofTry okX, r1, q1⟩⟩
end
end DL
set_option maxHeartbeats 1000000
/-! DL17: a def that calls what it got and gives the error that comes, or None. -/
namespace DL
open PySem PySem.Spec PyProof.Rows L2
/-- found = None; try: a() / except C as n: found = n; return found -/
def TKept (K : Fg) (C : Addr) : (XK → Hp → VK → Prop) → Hp → VK → Prop := fun tl H Q =>
  tl (fun cls d H' => ∃ b, PySem.W.exmOne K cls (.ref C) = some b ∧ (b = true → ∀ a, H' a = none → Q (.ref a) (upd H' a (ErrO a cls d))) ∧ (b = false → False)) H fun _ H' => Q .non H'
theorem kept_gives {X : Cx} {Ng : List Str} {x a e f n q : Str} {sg : Scope} {g C : Addr} {cdg : Value} {j : Nat} {p1 p2 p3 p4 p5 p6 p7 p8 p9 p10 p11 p12 p13 p14 : Pos} (hge : sg.names.lookup e = some .globalImplicit) (hme : X.mg e = some (.ref C)) (hde : (e == ("__debug__" : Str)) = false)
    (hNg : Ng = [a, f, n]) (nd : Ng.Nodup) (hf : sg.names.lookup f = some .local) (hn : sg.names.lookup n = some .local) (df : (f == ("__debug__" : Str)) = false) (dn : (n == ("__debug__" : Str)) = false) (df2 : (f == ("__classdict__" : Str)) = false) (dn2 : (n == ("__classdict__" : Str)) = false) :
    LamX.GivesTo X Ng x sg g cdg [.Assign [.Name f p1] (.Constant .none j p2) p3, .Try [.Expr (.Call (.Name a p4) [] [] p5) p6] [.ExceptHandler (some (.Name e p7)) (some n) [.Assign [.Name f p8] (.Name n p9) p10] p11] [] [] p12, .Return (some (.Name f p13)) p14] a q (TKept X.K C) := by
  intro h c' s H Q tl act hc ht
  subst hNg
  have hgl : Gl (cxOf C8.CX0 X.prog X.w X.K X.mg X.base [a, f, n] x sg g cdg X.A X.stack s H C8.E0).nox e := hge
  refine ⟨_, pss_cons (ps_set (i := 1) nd rfl (.inl hf) pe_non (by rfl) (.inr hf)) (pss_cons (ps_keep (X := (cxOf C8.CX0 X.prog X.w X.K X.mg X.base [a, f, n] x sg g cdg X.A X.stack s H C8.E0).nox) (c := .ref C) (i := 2)
      (tb := fun W D σ H => ∃ Ech : XK, (∀ cls d σ' H', Ech cls d H' → σ'.length = 3 → W cls d σ' H') ∧ σ[0]? = some (some (.ref h)) ∧ H c' = some (LamX.CodeO c' q) ∧ tl Ech H fun _ H1 => D.nx σ H1)
      rfl rfl rfl nd rfl hn ⟨hgl, hde, .inl hme⟩ LamX.takes0 (fun W pn xe tk _ => ?_) (fun a oe cls d pn _ _ => pss_one (ps_set (i := 1) nd rfl (.inl hf) (pe_var (i := 2) rfl (.inl hn) dn dn2) (by rfl) (.inr hf)))) (pss_one (ps_ret (pe_var (i := 1) rfl (.inl hf) df df2)))), ?_⟩
  · refine ⟨fun pins s1 σ1 H1 D I z => ?_⟩
    obtain ⟨Ech, hW, h1, h2, h3⟩ := z
    have tk2 : Takes ((cxOf C8.CX0 X.prog X.w X.K X.mg X.base [a, f, n] x sg g cdg X.A X.stack s H C8.E0).nox.tr pn xe) (fun cls d σ' H' => σ'.length = 3 → W cls d σ' H') := fun u s2 y => by
      obtain ⟨b, B, sI, pn1, σ2, H2, cls, d, e1, I1, nb, up, sky, na, os, ag, w⟩ := y
      exact tk u s2 ⟨b, B, sI, pn1, σ2, H2, cls, d, e1, I1, nb, up, sky, na, os, ag, w I1.len⟩
    exact (pss_one (ps_expr (act _ pn xe Ech p4 p5 tk2 hW))).run pins s1 σ1 H1 D I ⟨h1, h2, h3⟩
  · have same : (fun (_ : V) (H' : Hp) => Q .non H') = fun (_ : V) (H1 : Hp) => ∃ v, ([some (V.ref h), some V.non, none] : L2.St)[1]? = some (some v) ∧ Q v H1 := by
      funext _ H1
      exact propext ⟨fun y => ⟨_, rfl, y⟩, fun ⟨v, e1, y⟩ => by cases e1; exact y⟩
    unfold TKept at ht
    rw [same] at ht
    refine ⟨_, fun cls d σ' H' z l => ?_, rfl, hc, ht⟩
    obtain ⟨b, e1, e2, e3⟩ := z
    obtain ⟨u0, u1, u2, rfl⟩ : ∃ u0 u1 u2, σ' = [u0, u1, u2] := by
      match σ', l with
      | [u0, u1, u2], _ => exact ⟨u0, u1, u2, rfl⟩
    exact ⟨b, e1, fun hb a' na => ⟨.ref a', rfl, .ref a', rfl, e2 hb a' na⟩, e3⟩
end DL
set_option maxHeartbeats 1000000
/-! DL18: isinstance of what `_law_caught` gives. -/
namespace DL
open PySem PySem.Spec PyProof.Rows L2
/-- isinstance(e, c), e a kept error of a class in L (its name, its place), or None -/
def rIsK (K : Fg) : List V → Hp → VK → Prop := fun xs H Q => ∃ (v c : V) (cv : Value) (b : Bool), xs = [v, c] ∧ (∀ u, RelV c u → u = cv) ∧ Q (.bl b) H ∧
  ∃ (a D : Addr), v = .ref a ∧ ExcC K D ∧ H a = some (ErrO a (.ref D) none) ∧ PySem.W.kitOne K (.ref D) cv = some b
theorem call_isK {X : Cx} : CallR X (.builtin "isinstance") (rIsK X.K) := by
  intro pins s σ H xs us Q I r h
  obtain ⟨v, c, cv, b, rfl, hcv, q, a, D, rfl, C, hH, e⟩ := h
  cases r with
  | cons rx rr =>
    cases rr with
    | cons rt rr =>
      cases rr
      cases rx
      have ec := hcv _ rt
      subst ec
      obtain ⟨⟨oe, vs, hget, hz, hv⟩, _, _⟩ := I.hok a _ hH
      have J : PySem.W.InstAt s.heap a oe D none := by
        obtain ⟨oc, od, oda, osl⟩ := oe
        obtain ⟨h1, h2⟩ := hz
        dsimp only at h1 h2 hv
        subst h1 h2 hv
        exact ⟨hget, rfl, rfl, trivial⟩
      exact PySem.W.kia_one (PySem.W.handS_kitx_exc C.hg C.hk C.hs C.hd C.ha C.hn C.ht C.hm) I.kIn J e (fun z => nomatch z) fun tk => ⟨.bl b, H, I.kept (t' := tk) fun _ _ z => z, rfl, q⟩
end DL
set_option maxHeartbeats 1000000
/-! DL19: defs that raise, calls of them; lambdas without parameters. -/
namespace DL
open PySem PySem.Spec PyProof.Rows L2
variable [TbC]
section
variable {X : Cx} {T : Tx} {CX : CXT} {k n : Nat} {f : Addr} {fd : FuncData} {ps ks : List Str} {F : FF} {x : Str} {p pos : Pos} {e : Expr} {es : List Expr} {kws : List Keyword} {g : AF}
/-- raise C('..') -/
def gRaise (c : Str) : SF := fun w => some (.ex c none w)
theorem d_raise {C : Addr} (c : Str) (tk : L2.Takes X (fun cls d _ H => T.E cls d H)) (he : L2.PMk X e (fun _ H Q => Q (.ref C) none H)) (gC : X.mg c = some (.ref C)) (hM : T.mg = X.mg := by rfl) (hc : X.calm = true := by rfl) : PS X (.Raise (some e) none pos) (tS T (gRaise c)) :=
  PS.weak (L2.ps_raise hc tk he) fun D σ H z => by
    obtain ⟨gh, w, k, o, e, q⟩ := z
    cases e
    have q1 := q σ gh H (Stp.refl _ _) k
    have q2 : ∀ C : Addr, T.mg c = some (.ref C) → T.E (.ref C) none H := q1
    exact q2 C (hM ▸ gC)
/-- what a def may let out is wished for by this context -/
theorem passX {E : XK} (tk : L2.Takes X (fun cls d _ H => E cls d H)) : Passes (L2.CX X.prog X.w) X E := L2.passes_call tk fun _ _ _ _ h => h
theorem passN : Passes (L2.CX X.prog X.w) X C8.E0 := L2.passes_call LamX.takes0 fun _ _ _ _ h => h
/-- a call where nothing may come out as an error -/
def kN (o : Option Fr) (w : Wt) : Option (R × Wt) := match o with
  | some (.ok d) => some (.fz d, w)
  | _ => none
def eCallN (F : FF) (n : Nat) (g : AF) : EF := eA g fun ds w => if ds.length = n then kN (F ds) w else none
theorem callN_le {gh0 gh : Gh} {H0 H : Hp} {σ : L2.St} {w : Wt} {vs : List V} {ds : List PD} {Q : VK} (s : Stp gh0 H0 gh H) (kk : Ok T.K gh H σ w) (r : RpA T.K gh.G ds vs) (hl : ds.length = n) (z : Res T gh0 H0 σ (kN (F ds) w) Q) : spF T.K T.mg n F vs H Q C8.E0 := by
  cases y : F ds with
  | none => rw [y] at z; exact z.none
  | some fr =>
    cases fr with
    | ex c x => rw [y] at z; exact z.none
    | ok d =>
      rw [y] at z
      refine ⟨gh.G, ds, _, kk.sub, hl, r, y, fun v gh' H' s' sm rv => ?_⟩
      obtain ⟨k2, s2⟩ := kk.after s' sm
      exact z.fz (s.trans s2) k2 rv
theorem d_fnN (G : FnG X.prog X.w X.K X.mg X.base (L2.CX X.prog X.w) k f fd ps (spF X.K X.mg n F)) (rm : Rm k X.A) (hm : X.mg x = some (.ref f)) (hk : PySem.W.keepIn X.K (.ref f) = true) (hb : Binds X.K fd ps [])
    (ha : PA X (e :: es) (tA T g)) (hK : T.K = X.K := by rfl) (hM : T.mg = X.mg := by rfl) (hg : Gl X x := by rfl) (hdb : (x == ("__debug__" : Str)) = false := by decide) (he : starEach (e :: es) X.env = (false, eval e X.env) :: starEach es X.env := by rfl) (hpl : (backTo pos (starEach es X.env)).any (·.1) = false := by rfl) :
    PE X (.Call (.Name x p) (e :: es) [] pos) (tD T (eCallN F n g)) := PE.weak (pg_call (dvs := []) G rm hg hm hk hb .nil passN ha hdb he hpl) fun σ H Q z =>
  eA_le (r := fun vs H1 Q => spF X.K X.mg n F (vs ++ []) H1 Q C8.E0) (fun gh0 gh H0 H σ w vs ds Q s kk r z => by
    rw [List.append_nil]
    split at z
    · rename_i hl
      rw [← hK, ← hM]
      exact callN_le s kk r hl z
    · exact z.none) σ H Q z
/-- f(b = e, a = e2): all by keywords, in the parameters' order backwards -/
def eCallNR (F : FF) (n : Nat) (g : AF) : EF := eA g fun ds w => if ds.length = n then kN (F ds.reverse) w else none
theorem RpA.rev {K : Fg} {H : Hp} : ∀ {ds : List PD} {xs : List V}, RpA K H ds xs → RpA K H ds.reverse xs.reverse
  | [], xs, h => by simp only [RpA] at h; subst h; simp [RpA]
  | d :: ds, xs, h => by
    simp only [RpA] at h
    obtain ⟨x, r, rfl, h1, h2⟩ := h
    rw [List.reverse_cons, List.reverse_cons]
    exact RpA.append (RpA.rev h2) (RpA.cons h1 RpA.nil)
theorem Vals.rev {vs : List V} {us : List Value} (h : Vals vs us) : Vals vs.reverse us.reverse := by
  induction h with
  | nil => exact .nil
  | cons h1 h2 ih =>
    rw [List.reverse_cons, List.reverse_cons]
    exact ih.append (.cons h1 .nil)
theorem d_fnNR (G : FnG X.prog X.w X.K X.mg X.base (L2.CX X.prog X.w) k f fd ps (spF X.K X.mg n F)) (rm : Rm k X.A) (hm : X.mg x = some (.ref f)) (hk : PySem.W.keepIn X.K (.ref f) = true) (hb : ∀ (s : Shared) (ws : List Value), ws.length = ps.length → BindsTo s fd ⟨[], ps.reverse.zip ws⟩ (ps.zip ws.reverse))
    (hkw : PK X kws (tA T g)) (hK : T.K = X.K := by rfl) (hM : T.mg = X.mg := by rfl) (hg : Gl X x := by rfl) (hall : (backToKw pos (keywordEach kws X.env)).all (·.1.isSome) = true := by rfl) (hks : (backToKw pos (keywordEach kws X.env)).filterMap (·.1) = ps.reverse := by rfl)
    (hdb : (x == ("__debug__" : Str)) = false := by decide) (hpl : ((backTo pos (starEach [] X.env)).any (·.1) || (backToKw pos (keywordEach kws X.env)).any (·.1.isNone)) = false := by rfl) :
    PE X (.Call (.Name x p) [] kws pos) (tD T (eCallNR F n g)) := PE.weak (t := fun σ H Q => (tA T g) σ H fun vs H1 => spF X.K X.mg n F vs.reverse H1 Q C8.E0) ⟨fun pins s σ H Q I h => by
      refine wpAny_Call_Name_kw (ld_glob I hg hm ?_ hdb)
      refine PySem.W.callWith_KW0 (h₀ := X.base) I.ok.mod.kin hk hall (thn (hkw.run pos pins s σ H _ I h) fun us s1 ⟨vs, H1, I1, r, q⟩ => ⟨I1.kIn, ?_⟩) hpl
      rw [hks]
      have r2 := Vals.rev r
      exact wp_of_code (FnG.call (vs := vs.reverse) G rm passN I1 (hb s1 us (by rw [← r.length, ← List.length_reverse]; exact G.arity _ _ _ _ q)) r2 q)⟩ fun σ H Q z =>
  eA_le (r := fun vs H1 Q => spF X.K X.mg n F vs.reverse H1 Q C8.E0) (fun gh0 gh H0 H σ w vs ds Q s kk r z => by
    split at z
    · rename_i hl
      rw [← hK, ← hM]
      exact callN_le s kk (RpA.rev r) (by rw [List.length_reverse]; exact hl) z
    · exact z.none) σ H Q z
/-- f(e, ..), where what comes out is let out -/
theorem d_fnX (G : FnG X.prog X.w X.K X.mg X.base (L2.CX X.prog X.w) k f fd ps (spF X.K X.mg n F)) (rm : Rm k X.A) (hm : X.mg x = some (.ref f)) (hk : PySem.W.keepIn X.K (.ref f) = true) (hb : Binds X.K fd ps []) (tk : L2.Takes X (fun cls d _ H => T.E cls d H))
    (ha : PA X (e :: es) (tA T g)) (hK : T.K = X.K := by rfl) (hM : T.mg = X.mg := by rfl) (hg : Gl X x := by rfl) (hdb : (x == ("__debug__" : Str)) = false := by decide) (he : starEach (e :: es) X.env = (false, eval e X.env) :: starEach es X.env := by rfl) (hpl : (backTo pos (starEach es X.env)).any (·.1) = false := by rfl) :
    PE X (.Call (.Name x p) (e :: es) [] pos) (tD T (eCall F n [] g)) := d_call (dd := []) (dvs := []) (ds := []) G rm hm hk hb .nil (fun _ => RpA.nil) (passX tk) ha hK hM hg hdb he hpl
end
section
variable {K : Fg} {x qual : Str} {params : Arguments} {body : List Stmt} {scope : Scope} {kws : List (Str × V)} {f : Addr} {fd : FuncData} {ps : List Str}
omit [TbC] in
theorem bindsR0 (F : FunD K x qual params body scope [] kws f fd)
    (h : ∀ (kV doc pm : Value) (an : Option Addr) (cdv ct : Value) (ws : List Value), ws.length = ps.length → bindArgs (PySem.W.fnOf x qual params body scope .none kV doc pm an cdv ct) ⟨[], ps.reverse.zip ws⟩ = pure (ps.zip ws.reverse)) (s : Shared) (ws : List Value) (hl : ws.length = ps.length) : BindsTo s fd ⟨[], ps.reverse.zip ws⟩ (ps.zip ws.reverse) := by
  obtain ⟨oc, od, dV, kV, doc, pm, an, cdv, ct, osl, rfl, lk, hcd, hD, hK⟩ := F.ex
  rcases hD with ⟨_, rfl⟩ | ⟨e, _⟩
  · exact BindsTo.of_eq (h kV doc pm an cdv ct ws hl)
  · exact absurd rfl e
end
section
variable {P : Program} {w : World} {K : Fg} {mg : Str → Option Value} {base : Heap}
omit [TbC] in
/-- a def that may raise, by its function -/
theorem fn_dataX {k n : Nat} {f : Addr} {name qual : Str} {params : Arguments} {body : List Stmt} {scope : Scope} {dvs : List V} {kws : List (Str × V)} {fd : FuncData} {N ps : List Str} {F : FF} {g : SF} (D : FunD K name qual params body scope dvs kws f fd) (S : FnScope N ps scope)
    (hn : ps.length = n) (hb : ∀ (cdv : Value) (A : Around) (outer : List Env) (s : Shared) (H : Hp) (E : XK), Rm k (cxOf (L2.CX P w) P w K mg base N qual scope f cdv A outer s H E).A → L2.Takes (cxOf (L2.CX P w) P w K mg base N qual scope f cdv A outer s H E) (fun cls d _ H => E cls d H) → PSs (cxOf (L2.CX P w) P w K mg base N qual scope f cdv A outer s H E) body (@tS ⟨none⟩ ⟨K, mg, E⟩ g))
    (ev : ∀ ds fr, ds.length = n → F ds = some fr → outF (g (entry N.length ds)) = some fr) : FnG P w K mg base (L2.CX P w) (k + 1) f fd ps (spF K mg n F) :=
  fn_data D S hn (fun cdv A outer s H E rm => hb cdv A outer s H E rm (L2.takes_of rfl rfl rfl rfl)) ev
end
end DL
set_option maxHeartbeats 1000000
/-! DL20: a lambda is made and known from then on. -/
namespace DL
open PySem PySem.Spec PyProof.Rows L2
/-- the function object of a lambda made in X -/
def LamO (X : Cx) (params : Arguments) (body : Expr) (scope : Scope) (f c1 : Addr) : HO := .ext fun h => ∃ pm ctv : Value, h.get? f = some (PySem.W.kla_obj "<lambda>" (X.env.qual ++ "<lambda>") params body scope (cloFrom X.env.cells scope.names []) pm c1 ctv)
abbrev lamQ (X : Cx) : Str := X.env.qual ++ "<lambda>"
def LamAt (X : Cx) (params : Arguments) (body : Expr) (scope : Scope) (G : Hp) (v : V) : Prop := ∃ f c1 : Addr, v = .ref f ∧ G f = some (LamO X params body scope f c1) ∧ G c1 = some (LamX.CodeO c1 (lamQ X))
theorem LamAt.mono {X : Cx} {params : Arguments} {body : Expr} {scope : Scope} {G G' : Hp} {v : V} (s : Same G G') (h : LamAt X params body scope G v) : LamAt X params body scope G' v := by
  obtain ⟨f, c1, e, h1, h2⟩ := h
  exact ⟨f, c1, e, s _ _ h1, s _ _ h2⟩
/-- the codes that a table tells are known -/
def CodesIn (G : Hp) (q : Str) (ps : Array Value) : Prop := ∀ (pos : Pos) (cv : Value), codeAmong pos ps.toList = some cv → ∃ c, cv = .ref c ∧ G c = some (LamX.CodeO c q)
section
variable {X : Cx} {pins : List (Addr × Obj)} {σ : L2.St} {H : Hp} {s : Shared}
/-- either the code object was known, or it is new and the table has grown by it -/
inductive MkHow (X : Cx) (H : Hp) (P : Addr) (ps : Array Value) (c1 : Addr) : Hp → Prop where
  | hit (h : ∃ pos : Pos, codeAmong pos ps.toList = some (.ref c1)) : MkHow X H P ps c1 H
  | new (more : Array Value) (n : H c1 = none) (t : TriplesOk (ps ++ more).toList) (a : ∀ (pos : Pos) (cv : Value), codeAmong pos (ps ++ more).toList = some cv → codeAmong pos ps.toList = some cv ∨ cv = .ref c1) :
      MkHow X H P ps c1 (upd (upd H P (.tbl (ps ++ more))) c1 (LamX.CodeO c1 (lamQ X)))
theorem lam_mk {c P : Addr} {params : Arguments} {body : Expr} {scope : Scope} {lp : Pos} {E Q : Value → Shared → Prop} {ps : Array Value} (I : Inv X pins σ H s) (B : LamX.TabB X.base X.mg c P) (ec : X.env.code = .ref c) (tP : H P = some (.tbl ps)) (ok3 : TriplesOk ps.toList)
    (ac : ∀ (pos : Pos) (cv : Value), codeAmong pos ps.toList = some cv → ∃ c, cv = .ref c) (d0 : defaultsOf params X.env = ([], [])) (fr : ∀ y ∈ scope.names, y.2 = .free → ∃ c, X.env.cells.lookup y.1 = some c)
    (go : ∀ (f c1 : Addr) (H1 : Hp) (s1 : Shared), MkHow X H P ps c1 H1 → H1 f = none → Inv X pins σ (upd H1 f (LamO X params body scope f c1)) s1 → Q (.ref f) s1) : wpAny (model X.prog X.w) X.A (eval (.Lambda params body scope lp) X.env) Q E s := by
  have hb : s.heap.BuiltinsAt X.mg P := B.bm.keeps I.bk
  have tP2 : s.heap.get? P = some { cls := .none, data := .fields ps } := I.hok P _ tP
  refine PySem.W.kla_eval d0 ?_
  cases q : codeAmong lp ps.toList with
  | some cv =>
    obtain ⟨c1, rfl⟩ := ac lp cv q
    refine PySem.W.kla_makeFunctionHit (mg := X.mg) (c := c) (P := P) (ps := ps) (closure_ok fr) I.ok.glob (I.mod.glob.keeps I.bk) ec (B.code.keeps I.bk) tP2 ok3 q hb fun ctv h1 tk kx lsz => ?_
    refine go h1.objs.size c1 H _ (.hit ⟨lp, q⟩) (I.hok.fresh lsz) (I.laid (fun b u e => Heap.get?_push_of_some _ (kx b u e)) lsz ?_)
    exact ⟨⟨_, ctv, Heap.get?_push_size _ rfl⟩, ⟨_, Heap.get?_push_size _ rfl⟩, fun h2 h3 ⟨pm, ct, r⟩ st => ⟨pm, ct, st _ r⟩⟩
  | none =>
    refine PySem.W.kla_makeFunction (mg := X.mg) (c := c) (P := P) (ps := ps) (closure_ok fr) I.ok.glob (I.mod.glob.keeps I.bk) ec (B.code.keeps I.bk) tP2 ok3 q B.gP hb fun c1 ctv h1 tk kx lge llt rec1 tab1 => ?_
    obtain ⟨c2, oc, vs, t, e2, goc, dd, dv⟩ := rec1
    cases e2
    have n1 : H c1 = none := I.hok.fresh lge
    have I1 := LamX.inv_table (t' := tk) (q := lamQ X) (h' := h1) I tP kx tab1 lge ⟨oc, vs, t, goc, dd, dv⟩
    have nf : upd (upd H P (.tbl (ps ++ #[rawInt lp.line, rawInt lp.col, .ref c1]))) c1 (LamX.CodeO c1 (lamQ X)) h1.objs.size = none := I1.hok.fresh (Nat.le_refl _)
    have el : (ps ++ #[rawInt lp.line, rawInt lp.col, .ref c1]).toList = ps.toList ++ [rawInt lp.line, rawInt lp.col, .ref c1] := by simp
    refine go h1.objs.size c1 _ _ (.new _ n1 (by rw [el]; exact PySem.TriplesOk_snoc _ _ _ _ ok3) fun p2 cv e => ?_) nf (I1.laid (fun b u e => Heap.get?_push_of_some _ e) (Nat.le_refl _) ?_)
    · rw [el] at e
      exact LamX.among_app _ ok3 e
    · exact ⟨⟨_, ctv, Heap.get?_push_size _ rfl⟩, ⟨_, Heap.get?_push_size _ rfl⟩, fun h2 h3 ⟨pm, ct, r⟩ st => ⟨pm, ct, st _ r⟩⟩
end
variable [TbC]
section
variable {X : Cx} {T : Tx} {gh : Gh} {H : Hp} {σ : L2.St} {w : Wt}
/-- the table is written -/
theorem Ok.setTab {K : Fg} {p : Addr × Str} {ps : Array Value} (k : Ok K gh H σ w) (e : gh.tb = some p) (t3 : TriplesOk ps.toList) (ci : CodesIn gh.G p.2 ps) : Ok K gh (upd H p.1 (.tbl ps)) σ w ∧ Stp gh H gh (upd H p.1 (.tbl ps)) := by
  have mP : gh.M p.1 := .inr (.inr ⟨p, e, rfl⟩)
  obtain ⟨ps0, hP, _, _⟩ := k.tab p e
  refine ⟨⟨k.len, fun a o q => ?_, k.val, k.scr, fun i d q => ?_, k.onl, k.inj, k.st, fun q y => ?_, k.sap, k.dis, fun q y => ?_, k.tbw⟩, ⟨fun _ _ h => h, fun a o q n => ?_, fun a q => ?_, fun _ _ q => .inl q, fun _ m => .inl m, rfl, rfl⟩⟩
  · have hne : a ≠ p.1 := fun z => by subst z; rw [k.dis _ mP] at q; cases q
    rw [upd_ne hne]; exact k.sub a o q
  · obtain ⟨a, q0, q1, r⟩ := k.own i d q
    have hne : a ≠ p.1 := fun z => by rw [z] at r; exact r.tbl hP
    exact ⟨a, q0, q1, r.mono (fun _ _ z => z) (upd_ne hne)⟩
  · obtain ⟨n1, n2⟩ := k.tn y e
    exact (k.src q y).mono (fun _ _ z => z) (upd_ne (Ne.symm n1)) (upd_ne (Ne.symm n2))
  · rw [e] at y
    cases y
    exact ⟨ps, upd_same, t3, ci⟩
  · have hne : a ≠ p.1 := fun z => n (z ▸ mP)
    rw [upd_ne hne]; exact q
  · by_cases z : a = p.1
    · subst z; rw [upd_same] at q; cases q
    · rw [upd_ne z] at q; exact q
theorem upd_swap {H : Hp} {a b : Addr} {o u : HO} (n : a ≠ b) : upd (upd H a o) b u = upd (upd H b u) a o := by
  funext c
  by_cases h1 : c = a
  · subst h1
    rw [upd_ne n, upd_same, upd_same]
  · by_cases h2 : c = b
    · subst h2
      rw [upd_same, upd_ne h1, upd_same]
    · rw [upd_ne h2, upd_ne h1, upd_ne h1, upd_ne h2]
theorem Ok.mkLam {K : Fg} {p : Addr × Str} {ps : Array Value} {c1 f : Addr} {H1 : Hp} {o : HO} (k : Ok K gh H σ w) (e : gh.tb = some p) (eq : p.2 = lamQ X) (hP : H p.1 = some (.tbl ps)) (ci : CodesIn gh.G p.2 ps) (m : MkHow X H p.1 ps c1 H1) (nf : H1 f = none) :
    ∃ gh1 : Gh, Stp gh H gh1 (upd H1 f o) ∧ Ok K gh1 (upd H1 f o) σ w ∧ gh1.G f = some o ∧ gh1.G c1 = some (LamX.CodeO c1 (lamQ X)) := by
  cases m with
  | hit h =>
    obtain ⟨pos, h⟩ := h
    obtain ⟨c, e1, e2⟩ := ci pos _ h
    cases e1
    have k1 := k.lay nf o
    refine ⟨_, Stp.lay k nf o, k1, upd_same, ?_⟩
    show upd gh.G f o c1 = _
    rw [upd_ne (ne_of_none e2 (k.nog nf)), ← eq]
    exact e2
  | new more n t a =>
    have np : p.1 ≠ c1 := ne_of_none hP n
    have k1 := k.lay n (LamX.CodeO c1 (lamQ X))
    have s1 := Stp.lay k n (LamX.CodeO c1 (lamQ X))
    obtain ⟨k2, s2⟩ := k1.setTab (ps := ps ++ more) (p := p) e t (fun pos cv y => by
      rcases a pos cv y with y | y
      · obtain ⟨c, z1, z2⟩ := ci pos cv y
        exact ⟨c, z1, by show upd gh.G c1 _ c = _; rw [upd_ne (ne_of_none z2 (k.nog n))]; exact z2⟩
      · exact ⟨c1, y, by show upd gh.G c1 _ c1 = _; rw [upd_same, eq]⟩)
    rw [upd_swap np] at nf ⊢
    refine ⟨_, (s1.trans s2).trans (Stp.lay k2 nf o), k2.lay nf o, upd_same, ?_⟩
    have g1 : upd gh.G c1 (LamX.CodeO c1 (lamQ X)) c1 = some (LamX.CodeO c1 (lamQ X)) := upd_same
    show upd (upd gh.G c1 (LamX.CodeO c1 (lamQ X))) f o c1 = _
    rw [upd_ne (ne_of_none g1 (k2.nog nf))]
    exact g1
/-- what the law's walk tells of its code object and its table -/
structure TbX (X : Cx) (c P : Addr) : Prop where
  tb : TbC.tb = some (P, lamQ X)
  b : LamX.TabB X.base X.mg c P
  code : X.env.code = .ref c
/-- a lambda's expression: the function object is known behind it -/
def tMk (T : Tx) (X : Cx) (params : Arguments) (body : Expr) (scope : Scope) : TE := fun σ H Q => ∃ (gh : Gh) (w : Wt), Ok T.K gh H σ w ∧ ∀ v gh1 H1, Stp gh H gh1 H1 → Ok T.K gh1 H1 σ w → LamAt X params body scope gh1.G v → Q v H1
theorem pe_mk {c P : Addr} {params : Arguments} {body : Expr} {scope : Scope} {lp : Pos} (tb : TbX X c P) (L : LamX.LamS X.env.scope scope) (d0 : defaultsOf params X.env = ([], [])) : PE X (.Lambda params body scope lp) (tMk T X params body scope) := ⟨fun pins s σ H Q I h => by
  obtain ⟨gh, w, k, q⟩ := h
  have e := k.tbw.trans tb.tb
  obtain ⟨ps, hP, t3, ci⟩ := k.tab _ e
  refine lam_mk I tb.b tb.code hP t3 (fun pos cv y => (let ⟨c, z, _⟩ := ci pos cv y; ⟨c, z⟩)) d0 (L.has I.ok) fun f c1 H1 s1 m nf I1 => ?_
  obtain ⟨gh1, s2, k2, g1, g2⟩ := k.mkLam (X := X) (o := LamO X params body scope f c1) e rfl hP ci m nf
  exact ⟨.ref f, _, I1, rfl, q _ gh1 _ s2 k2 ⟨f, c1, rfl, g1, g2⟩⟩⟩
end
end DL
set_option maxHeartbeats 1000000
/-! DL21: a known lambda is called by the def that got it. -/
namespace DL
open PySem PySem.Spec PyProof.Rows L2
section
variable {X : Cx} {pins : List (Addr × Obj)} {σ : L2.St} {H : Hp} {s : Shared}
/-- a(), within the def that got the lambda at f -/
theorem pe_actK {CXg : CXT} {Eg : XK} {Ng : List Str} {qg : Str} {sg : Scope} {g f c1 : Addr} {cdg : Value} {params : Arguments} {body : Expr} {scope : Scope} {k i : Nat} {a : Str} {pn : List (Addr × Obj)} {xe : Value → Shared → Prop} {W : WX} {E : XK} {tb : TE} {p1 p2 : Pos} (I : Inv X pins σ H s) (L : LamX.LamS X.env.scope scope)
    (bd : ∀ (pm ctv : Value), bindArgs (PySem.W.kla_fn "<lambda>" (lamQ X) params body scope (cloFrom X.env.cells scope.names []) pm (.ref c1) ctv) ⟨[], []⟩ = pure [])
    (tk : L2.Takes ((cxOf CXg X.prog X.w X.K X.mg X.base Ng qg sg g cdg X.A X.stack s H Eg).tr pn xe) W) (hW : ∀ cls d σ' H', E cls d H' → W cls d σ' H') (rm : Rm (k + 1) (X.A.deeper (envOfC qg sg s.heap.objs.size g cdg)))
    (hb : ∀ (A : Around) (outer : List Env) (s : Shared) (H : Hp), Rm k (A.deeper (LamX.lamEnv X scope s.heap.objs.size f c1)) → PE (LamX.lamCx X A outer s H E scope f c1) body tb) (hN : Ng[i]? = some a) (hv : Vis sg a) (hd : (a == ("__debug__" : Str)) = false := by decide) (hcd : (a == ("__classdict__" : Str)) = false := by decide) :
    PE ((cxOf CXg X.prog X.w X.K X.mg X.base Ng qg sg g cdg X.A X.stack s H Eg).tr pn xe) (.Call (.Name a p1) [] [] p2) (fun σZ HZ Q => σZ[i]? = some (some (.ref f)) ∧ HZ f = some (LamO X params body scope f c1) ∧ HZ c1 = some (LamX.CodeO c1 (lamQ X)) ∧ tb σ HZ Q) := by
  refine ⟨fun pinsZ sZ σZ HZ Q IZ ⟨hs, hf, hc, ht⟩ => ?_⟩
  refine wpAny_Call_Name_kw (thn ((pe_var (pos := p1) hN hv hd hcd).run pinsZ sZ σZ HZ (fun v H1 => v = .ref f ∧ H1 = HZ) IZ ⟨.ref f, hs, rfl, rfl⟩) fun u s1 ⟨v, H1, I1, r1, e1, e2⟩ => ?_)
  subst e1 e2
  cases r1
  obtain ⟨⟨pm, ctv, gf⟩, _, _⟩ := I1.hok f _ hf
  obtain ⟨⟨oc, vs, t, gc, dc, vc⟩, _, _⟩ := I1.hok c1 _ hc
  refine PySem.W.callWith_F0 ⟨_, _, _, _, gf⟩ ?_
  have un : Un (frs X.stack) [] H H1 s.heap s1.heap := I1.base
  have run : codeAny (model X.prog X.w) (X.A.deeper (envOfC qg sg s.heap.objs.size g cdg)) (.call (.ref f) ⟨[], []⟩) (CR (L2.CX X.prog X.w) (envOfC qg sg s.heap.objs.size g cdg :: X.stack) X.prog X.w H1 s1 Q E) s1 := by
    refine PySem.W.kla_callFunE rm.room.depth gf rfl L.co L.gen rfl ⟨c1, oc, vs, t, rfl, gc, dc, vc⟩ ?_
    rw [bd]
    refine wpAny_pure (wpAny_newFunctionEnv (fun y hy => (L.own y hy).2) (fun y hy => absurd hy (by simp)) (fun hh hns hsb => ⟨I1.nolimit.fresh _ hsb, ?_⟩) L.kind)
    show codeAny _ _ (.expr body (LamX.lamEnv X scope s1.heap.objs.size f c1)) _ _
    have kp : ∀ b o, s1.heap.get? b = some o → hh.get? b = some o := fun b o e => hsb.extBut b o (Nat.ne_of_lt (Heap.lt_size e)) (Heap.get?_push_of_some _ e)
    have J : Inv (LamX.lamCx X (X.A.deeper (envOfC qg sg s.heap.objs.size g cdg)) (envOfC qg sg s.heap.objs.size g cdg :: X.stack) s1 H1 E scope f c1) [] σ H1 { s1 with heap := hh, toks := s1.toks + ([] : List (Str × Value)).length } :=
      LamX.lam_start2 I L I1.env0 rm.room.hd un hns kp
    refine PySem.W.kla_codeExpr (wpAny_mono ((hb _ _ s1 H1 ⟨rm.room.deeper _, rm.gd⟩).run [] _ _ H1 Q J ht) (fun v s2 hq => ?_) fun e s2 hq => hq)
    obtain ⟨w2, H2, J2, rv, q⟩ := hq
    exact ⟨w2, H2, J2.os, J2.bare, J2.base, J2.hok, rv, q⟩
  refine wpAny_call (codeAny_mono run fun r s2 hq => ?_)
  cases r with
  | error e => exact L2.passes_call tk hW pinsZ σZ H1 s1 e s2 I1 hq
  | ok fl => cases fl with
    | ret u => exact I1.after hq
    | next => exact hq.elim
    | brk => exact hq.elim
    | cont => exact hq.elim
end
/-- what the catching def makes of the error -/
def eKept (K : Fg) (C : Addr) (Q : VK) : XK := fun cls d H => ∃ b, PySem.W.exmOne K cls (.ref C) = some b ∧ (b = true → ∀ a, H a = none → Q (.ref a) (upd H a (ErrO a cls d))) ∧ (b = false → False)
theorem PE.any {X : Cx} {e : Expr} {ι : Type} {t : ι → TE} (h : ∀ i, PE X e (t i)) : PE X e (fun σ H Q => ∃ i, t i σ H Q) := ⟨fun pins s σ H Q I ⟨i, q⟩ => (h i).run pins s σ H Q I q⟩
/-- g(e), e a known lambda, g the def that keeps the error -/
theorem pe_keptL {X : Cx} {te : TE} {t : XK → TE} {x a : Str} {g C : Addr} {fd : FuncData} {k : Nat} {pg : Arguments} {bg : List Stmt} {sg : Scope} {kws : List (Str × V)} {Ng : List Str} {params : Arguments} {body e : Expr} {scope : Scope} {p pos : Pos}
    (D : FunD X.K x x pg bg sg [] kws g fd) (hb : Binds X.K fd [a] []) (Sg : FnScope Ng [a] sg) (hNg : Ng[0]? = some a) (hva : Vis sg a) (hG : ∀ cdv, LamX.GivesTo X Ng x sg g cdv bg a (lamQ X) (TKept X.K C)) (rm : Rm (k + 2) X.A) (L : LamX.LamS X.env.scope scope)
    (bd : ∀ (q : Str) (cl : List (Str × Addr)) (pm cv ctv : Value), bindArgs (PySem.W.kla_fn "<lambda>" q params body scope cl pm cv ctv) ⟨[], []⟩ = pure [])
    (hbody : ∀ (A : Around) (outer : List Env) (s : Shared) (H : Hp) (E : XK) (f c1 : Addr), Rm k (A.deeper (LamX.lamEnv X scope s.heap.objs.size f c1)) → PE (LamX.lamCx X A outer s H E scope f c1) body (t E)) (he : PE X e te) (hg : Gl X x) (hm : X.mg x = some (.ref g)) (hs : starEach [e] X.env = (false, eval e X.env) :: starEach [] X.env := by rfl)
    (hdb : (x == ("__debug__" : Str)) = false := by decide) (hd : (a == ("__debug__" : Str)) = false := by decide) (hcd : (a == ("__classdict__" : Str)) = false := by decide) :
    PE X (.Call (.Name x p) [e] [] pos) (fun σ H Q => te σ H fun v H1 => ∃ f c1 : Addr, v = .ref f ∧ H1 f = some (LamO X params body scope f c1) ∧ H1 c1 = some (LamX.CodeO c1 (lamQ X)) ∧ t (eKept X.K C Q) σ H1 fun _ H2 => Q .non H2) := by
  refine ⟨fun pins s σ H Q I h => ?_⟩
  have hk := D.kp
  obtain ⟨oc, od, dV, kV, doc, pm, an, cdv, ct, osl, rfl, lk, hcd', _, _⟩ := D.ex
  refine wpAny_Call_Name_kw (ld_glob I hg hm ?_ hdb)
  refine PySem.W.callWith_K (h₀ := X.base) I.ok.mod.kin hk (thn ((pa_cons he pa_nil hs).run pos pins s σ H (fun vs H1 => match vs with
    | [v] => ∃ f c1 : Addr, v = .ref f ∧ H1 f = some (LamO X params body scope f c1) ∧ H1 c1 = some (LamX.CodeO c1 (lamQ X)) ∧ t (eKept X.K C Q) σ H1 fun _ H2 => Q .non H2
    | _ => False) I h) fun us s1 ⟨vs, H1, I1, r1, q1⟩ => ?_) hs rfl
  · obtain ⟨v, rfl⟩ : ∃ v, vs = [v] := by
      match vs, q1 with
      | [v], _ => exact ⟨v, rfl⟩
    obtain ⟨f, c1, rfl, hf, hc, ht⟩ := q1
    cases r1 with
    | cons ru rr =>
    cases rr
    cases ru
    refine ⟨I1.kIn, ?_⟩
    have run : codeAny (model X.prog X.w) X.A (.call (.ref g) ⟨[.ref f], []⟩) (CR C8.CX0 X.stack X.prog X.w H1 s1 Q C8.E0) s1 := by
      refine LamX.run_ofS (N := Ng) (ps := [a]) (us := [.ref f]) (vs := [.ref f]) lk hcd' Sg rm.room I1.env0 (hb s1 [.ref f] I1.kIn rfl) (.cons rfl .nil) rfl fun hr => ?_
      obtain ⟨t', ht', hq'⟩ := hG cdv f c1 s1 H1 Q (fun E H' Q' => H' f = some (LamO X params body scope f c1) ∧ t E σ H' Q') (fun W pn xe E p1 p2 tk hW =>
        PE.weak (pe_actK (i := 0) (k := k) I1 L (bd _ _ · (.ref c1) ·) tk hW ⟨hr, rm.gd⟩ (fun A outer s H hr2 => hbody A outer s H E f c1 hr2) hNg hva hd hcd) fun σZ HZ Q z => ⟨z.1, z.2.2.1, z.2.1, z.2.2.2⟩) hc ⟨hf, ht⟩
      exact ⟨t', ht'.nox, hq'⟩
    refine wpAny_call (codeAny_mono run fun r s2 hq => ?_)
    cases r with
    | error e => exact (show False from hq).elim
    | ok fl => cases fl with
      | ret u => exact I1.after hq
      | next => exact hq.elim
      | brk => exact hq.elim
      | cont => exact hq.elim
end DL
set_option maxHeartbeats 1000000
/-! DL22: isinstance of what is caught of a lambda; a row of lambdas, each one caught. -/
namespace DL
open PySem PySem.Spec PyProof.Rows L2
variable [TbC]
/-- isinstance(caught(lambda: e), C) where it is true -/
def eIsC (c0 : Str) (f : EF) : EF := fun w => match f w with
  | some (.ex c none, w1) => if c = c0 then some (.fz (.bool true), w1) else none
  | _ => none
/-- what is known of an error's class -/
structure ErrC (X : Cx) (C : Addr) (c0 : Str) (D : Addr) : Prop where
  g : X.mg c0 = some (.ref D)
  ex : PySem.W.exmOne X.K (.ref D) (.ref C) = some true
  c : ExcC X.K D
  ki : PySem.W.kitOne X.K (.ref D) (.ref D) = some true
section
variable {X : Cx} {T : Tx} {te : TE} {x a c0 : Str} {g C D : Addr} {fd : FuncData} {k : Nat} {pg : Arguments} {bg : List Stmt} {sg : Scope} {kws : List (Str × V)} {Ng : List Str} {params : Arguments} {body e : Expr} {scope : Scope} {p p2 p3 pos pos2 : Pos} {fE : EF}
theorem isC_le {Q : VK} {v : V} {gh : Gh} {H1 : Hp} {σ : L2.St} {w : Wt} (eD : ErrC X C c0 D) (hK : T.K = X.K) (hM : T.mg = X.mg) (kk : Ok T.K gh H1 σ w) (la : LamAt X params body scope gh.G v) (z : Res T gh H1 σ (eIsC c0 fE w) Q) :
    ∃ f c1 : Addr, v = .ref f ∧ H1 f = some (LamO X params body scope f c1) ∧ H1 c1 = some (LamX.CodeO c1 (lamQ X)) ∧ tD ⟨T.K, T.mg, eKept X.K C (fun v H' => rIsK X.K [v, .ref D] H' Q)⟩ fE σ H1 (fun _ H2 => rIsK X.K [.non, .ref D] H2 Q) := by
  obtain ⟨f, c1, rfl, g1, g2⟩ := la
  refine ⟨f, c1, rfl, kk.sub _ _ g1, kk.sub _ _ g2, gh, w, kk, ?_⟩
  unfold eIsC at z
  split at z
  · rename_i c w1 e1
    split at z
    · rename_i ec
      subst ec
      refine ⟨_, _, e1, fun c x y gh2 H2 s2 k2 => ?_, fun v _ _ _ _ rv => rv.elim⟩
      cases y
      intro C2 h2
      have h2 : T.mg c = some (.ref C2) := h2
      rw [hM, eD.g] at h2
      cases h2
      refine ⟨true, eD.ex, fun _ a na => ?_, fun y => nomatch y⟩
      exact ⟨.ref a, .ref D, .ref D, true, rfl, fun u r => r, z.fz (s2.trans (Stp.grow (K := T.K) na _)) (k2.grow na _) (by simp [Rp]), a, D, rfl, eD.c, upd_same, eD.ki⟩
    · exact z.none
  · exact z.none
/-- isinstance(g(e), C), e a known lambda -/
theorem pe_isCaught (mono : ∀ (σ : L2.St) (H : Hp) (Q1 Q2 : VK), (∀ v H, Q1 v H → Q2 v H) → te σ H Q1 → te σ H Q2) (F : FunD X.K x x pg bg sg [] kws g fd) (hb : Binds X.K fd [a] []) (Sg : FnScope Ng [a] sg) (hNg : Ng[0]? = some a) (hva : Vis sg a) (hG : ∀ cdv, LamX.GivesTo X Ng x sg g cdv bg a (lamQ X) (TKept X.K C)) (rm : Rm (k + 2) X.A) (L : LamX.LamS X.env.scope scope)
    (bd : ∀ (q : Str) (cl : List (Str × Addr)) (pm cv ctv : Value), bindArgs (PySem.W.kla_fn "<lambda>" q params body scope cl pm cv ctv) ⟨[], []⟩ = pure [])
    (hbody : ∀ (A : Around) (outer : List Env) (s : Shared) (H : Hp) (E : XK) (f c1 : Addr), Rm k (A.deeper (LamX.lamEnv X scope s.heap.objs.size f c1)) → PE (LamX.lamCx X A outer s H E scope f c1) body (tD ⟨T.K, T.mg, E⟩ fE)) (he : PE X e te) (hg : Gl X x) (hm : X.mg x = some (.ref g)) (eD : ErrC X C c0 D) (hmi : X.mg "isinstance" = none)
    (hgi : Gl X "isinstance") (hgc : Gl X c0) (hK : T.K = X.K) (hM : T.mg = X.mg) (hs : starEach [e] X.env = (false, eval e X.env) :: starEach [] X.env) (hdb : (x == ("__debug__" : Str)) = false) (hd : (a == ("__debug__" : Str)) = false) (hcd : (a == ("__classdict__" : Str)) = false) (hdc : (c0 == ("__debug__" : Str)) = false) :
    PE X (.Call (.Name "isinstance" p) [.Call (.Name x p2) [e] [] pos2, .Name c0 p3] [] pos) (fun σ H Q => te σ H fun v H1 => ∃ (gh : Gh) (w : Wt), Ok T.K gh H1 σ w ∧ LamAt X params body scope gh.G v ∧ Res T gh H1 σ (eIsC c0 fE w) Q) :=
  PE.weak (pe_callB call_isK hgi hmi PyProof.Rows.boot_isinstance (pa_cons (pe_keptL (t := fun E => tD ⟨T.K, T.mg, E⟩ fE) F hb Sg hNg hva hG rm L bd hbody he hg hm hs hdb hd hcd) (pa_cons (pe_glob (v := .ref D) hgc eD.g rfl hdc) pa_nil))) fun σ H Q z =>
    mono σ H _ _ (fun v H1 ⟨gh, w, kk, la, r⟩ => isC_le eD hK hM kk la r) z
theorem tMk_mono (σ : L2.St) (H : Hp) (Q1 Q2 : VK) (i : ∀ v H, Q1 v H → Q2 v H) (z : tMk T X params body scope σ H Q1) : tMk T X params body scope σ H Q2 := by
  obtain ⟨gh, w, k, q⟩ := z
  exact ⟨gh, w, k, fun v gh1 H1 s1 k1 la => i _ _ (q v gh1 H1 s1 k1 la)⟩
theorem tVar_mono {i : Nat} (σ : L2.St) (H : Hp) (Q1 Q2 : VK) (h : ∀ v H, Q1 v H → Q2 v H) (z : tVar i σ H Q1) : tVar i σ H Q2 := by
  obtain ⟨v, e, q⟩ := z
  exact ⟨v, e, h _ _ q⟩
/-- the slot i is forgotten -/
theorem Ok.setU {K : Fg} {gh : Gh} {H : Hp} {σ : L2.St} {w : Wt} {i : Nat} {x : Option V} (k : Ok K gh H σ w) :
    ∃ gh' : Gh, Stp gh H gh' H ∧ Ok K gh' H (σ.set i x) (w.at i .un) ∧ gh'.G = gh.G := by
  have out : ∀ {j : Nat} {sl : Slot}, (w.sl.set i .un)[j]? = some sl → sl ≠ .un → j ≠ i ∧ w.sl[j]? = some sl := fun {j sl} q n => by
    by_cases h : j = i
    · subst h
      by_cases hl : j < w.sl.length
      · rw [List.getElem?_set_self hl] at q; cases q; exact absurd rfl n
      · rw [List.getElem?_eq_none (by rw [List.length_set]; omega)] at q; cases q
    · rw [List.getElem?_set_ne (Ne.symm h)] at q; exact ⟨h, q⟩
  have σo : ∀ {j : Nat}, j ≠ i → (σ.set i x)[j]? = σ[j]? := fun {j} h => List.getElem?_set_ne (Ne.symm h)
  have ow : ∀ {j : Nat} {b : Addr}, (if j = i then none else gh.ow j) = some b → j ≠ i ∧ gh.ow j = some b := fun {j b} q => by
    split at q
    · cases q
    · rename_i h; exact ⟨h, q⟩
  refine ⟨⟨gh.G, fun j => if j = i then none else gh.ow j, gh.sa, gh.tb⟩, ⟨fun _ _ h => h, fun b x q _ => q, fun b q => q, fun b x q => .inl q, fun b m => ?_, rfl, rfl⟩, ⟨?_, k.sub, fun j c q => ?_, fun j ns q => ?_, fun j c q => ?_, fun j b q => ?_, fun j l b q1 q2 => ?_, fun j q => ?_, k.src, fun p j b q1 q2 => ?_, fun b m => ?_, k.tab, k.tbw⟩, rfl⟩
  · rcases m with ⟨j, q⟩ | q
    · exact .inl (.inl ⟨j, (ow q).2⟩)
    · exact .inl (.inr q)
  · show (σ.set i x).length = (w.sl.set i .un).length
    rw [List.length_set, List.length_set]; exact k.len
  · obtain ⟨h, q⟩ := out q (by intro z; cases z)
    obtain ⟨v, q1, r⟩ := k.val j c q
    exact ⟨v, (σo h).trans q1, r⟩
  · obtain ⟨h, q⟩ := out q (by intro z; cases z)
    obtain ⟨v, q1, r⟩ := k.scr j ns q
    exact ⟨v, (σo h).trans q1, r⟩
  · obtain ⟨h, q⟩ := out q (by intro z; cases z)
    obtain ⟨b, q0, q1, r⟩ := k.own j c q
    exact ⟨b, (if_neg h).trans q0, (σo h).trans q1, r⟩
  · obtain ⟨h, q⟩ := ow q
    obtain ⟨c, r⟩ := k.onl j b q
    exact ⟨c, (List.getElem?_set_ne (Ne.symm h)).trans r⟩
  · exact k.inj j l b (ow q1).2 (ow q2).2
  · obtain ⟨h, q⟩ := out q (by intro z; cases z)
    obtain ⟨p, q0, q1⟩ := k.st j q
    exact ⟨p, q0, (σo h).trans q1⟩
  · exact k.sap p j b q1 (ow q2).2
  · rcases m with ⟨j, q⟩ | q
    · exact k.dis b (.inl ⟨j, (ow q).2⟩)
    · exact k.dis b (.inr q)
end
end DL
set_option maxHeartbeats 1000000
/-! DL23: a row of lambdas, each one called and its error looked at. -/
namespace DL
open PySem PySem.Spec PyProof.Rows L2
variable [TbC]
structure LSpec where
  params : Arguments
  body : Expr
  scope : Scope
  lp : Pos
  f : EF
def LSpec.e (l : LSpec) : Expr := .Lambda l.params l.body l.scope l.lp
inductive LamsOk (X : Cx) (T : Tx) (k : Nat) : List LSpec → Prop where
  | nil : LamsOk X T k []
  | cons {l : LSpec} {ls : List LSpec} (L : LamX.LamS X.env.scope l.scope) (d0 : defaultsOf l.params X.env = ([], [])) (bd : ∀ (q : Str) (cl : List (Str × Addr)) (pm cv ctv : Value), bindArgs (PySem.W.kla_fn "<lambda>" q l.params l.body l.scope cl pm cv ctv) ⟨[], []⟩ = pure [])
      (hbody : ∀ (A : Around) (outer : List Env) (s : Shared) (H : Hp) (E : XK) (f c1 : Addr), Rm k (A.deeper (LamX.lamEnv X l.scope s.heap.objs.size f c1)) → PE (LamX.lamCx X A outer s H E l.scope f c1) l.body (tD ⟨T.K, T.mg, E⟩ l.f)) (r : LamsOk X T k ls) : LamsOk X T k (l :: ls)
def LamsAt (X : Cx) (G : Hp) : List LSpec → List V → Prop
  | [], vs => vs = []
  | l :: ls, vs => ∃ v r, vs = v :: r ∧ LamAt X l.params l.body l.scope G v ∧ LamsAt X G ls r
theorem LamsAt.mono {X : Cx} {G G' : Hp} (s : Same G G') : ∀ {ls : List LSpec} {vs : List V}, LamsAt X G ls vs → LamsAt X G' ls vs
  | [], vs, h => h
  | l :: ls, vs, h => by
    obtain ⟨v, r, e, h1, h2⟩ := h
    exact ⟨v, r, e, h1.mono s, LamsAt.mono s h2⟩
theorem LamsAt.len {X : Cx} {G : Hp} : ∀ {ls : List LSpec} {vs : List V}, LamsAt X G ls vs → vs.length = ls.length
  | [], vs, h => by
    have h : vs = [] := h
    subst h; rfl
  | l :: ls, vs, h => by
    obtain ⟨v, r, rfl, h1, h2⟩ := h
    rw [List.length_cons, List.length_cons, LamsAt.len h2]
theorem LamsAt.get {X : Cx} {G : Hp} : ∀ {ls : List LSpec} {vs : List V} {i : Nat} {l : LSpec}, LamsAt X G ls vs → ls[i]? = some l → ∃ v, vs[i]? = some v ∧ LamAt X l.params l.body l.scope G v
  | [], vs, i, l, h, e => by simp at e
  | l :: ls, vs, 0, l', h, e => by
    obtain ⟨v, r, rfl, h1, h2⟩ := h
    simp only [List.getElem?_cons_zero, Option.some.injEq] at e
    subst e
    exact ⟨v, rfl, h1⟩
  | l :: ls, vs, i + 1, l', h, e => by
    obtain ⟨v, r, rfl, h1, h2⟩ := h
    simp only [List.getElem?_cons_succ] at e ⊢
    exact LamsAt.get h2 e
section
variable {X : Cx} {T : Tx} {k : Nat}
theorem LamsOk.get : ∀ {ls : List LSpec} {i : Nat} {l : LSpec}, LamsOk X T k ls → ls[i]? = some l → LamX.LamS X.env.scope l.scope ∧ (∀ (q : Str) (cl : List (Str × Addr)) (pm cv ctv : Value), bindArgs (PySem.W.kla_fn "<lambda>" q l.params l.body l.scope cl pm cv ctv) ⟨[], []⟩ = pure []) ∧
    ∀ (A : Around) (outer : List Env) (s : Shared) (H : Hp) (E : XK) (f c1 : Addr), Rm k (A.deeper (LamX.lamEnv X l.scope s.heap.objs.size f c1)) → PE (LamX.lamCx X A outer s H E l.scope f c1) l.body (tD ⟨T.K, T.mg, E⟩ l.f) := fun {ls i l} o e => by
  induction o generalizing i with
  | nil => simp at e
  | cons L d0 bd hbody r ih =>
    cases i with
    | zero =>
      simp only [List.getElem?_cons_zero, Option.some.injEq] at e
      subst e
      exact ⟨L, bd, hbody⟩
    | succ i =>
      simp only [List.getElem?_cons_succ] at e
      exact ih e
/-- the lambdas are made, one behind another -/
def tMks (T : Tx) (X : Cx) (ls : List LSpec) : TA := fun σ H Q => ∃ (gh : Gh) (w : Wt), Ok T.K gh H σ w ∧ ∀ vs gh1 H1, Stp gh H gh1 H1 → Ok T.K gh1 H1 σ w → LamsAt X gh1.G ls vs → Q vs H1
theorem pa_mks {c P : Addr} (tb : TbX X c P) {ls : List LSpec} (o : LamsOk X T k ls) : PA X (ls.map LSpec.e) (tMks T X ls) := by
  induction o with
  | nil =>
    refine PA.weak pa_nil fun σ H Q z => ?_
    obtain ⟨gh, w, k, q⟩ := z
    exact q [] gh H (Stp.refl _ _) k rfl
  | cons L d0 bd hbody r ih =>
    refine PA.weak (pa_cons (pe_mk (T := T) tb L d0) ih) fun σ H Q z => ?_
    obtain ⟨gh, w, k, q⟩ := z
    exact ⟨gh, w, k, fun v gh1 H1 s1 k1 la => ⟨gh1, w, k1, fun vs gh2 H2 s2 k2 las => q (v :: vs) gh2 H2 (s1.trans s2) k2 ⟨v, vs, rfl, la.mono s2.sub, las⟩⟩⟩
/-- calls = [lambda: .., ..]; for call in calls: if not isinstance(caught(call), C): return False — where all are of the class -/
def fCalls (j : Nat) (c0 : Str) : List EF → Wt → Option Wt
  | [], w => some w
  | f :: fs, w => match f (w.at j .un) with
    | some (.ex c none, w1) => if c = c0 then fCalls j c0 fs w1 else none
    | _ => none
def gCalls (i j : Nat) (c0 : Str) (fs : List EF) : SF := fun w => if i < w.sl.length ∧ j < w.sl.length then (fCalls j c0 fs (w.at i .un)).map .nx else none
variable {x y z a c0 : Str} {g C D : Addr} {fd : FuncData} {pg : Arguments} {bg : List Stmt} {sg : Scope} {kws : List (Str × V)} {Ng : List Str} {c P : Addr} {ret : List Stmt} {gr : SF} {sts : List Stmt} {py pl pa pz py2 p p2 p3 pos2 pos pn pif pf pz2 : Pos}
theorem ds_calls (i j : Nat) (ls : List LSpec) (tb : TbX X c P) (o : LamsOk X T k ls) (F : FunD X.K x x pg bg sg [] kws g fd) (hb : Binds X.K fd [a] []) (Sg : FnScope Ng [a] sg) (hNg : Ng[0]? = some a) (hva : Vis sg a) (hG : ∀ cdv, LamX.GivesTo X Ng x sg g cdv bg a (lamQ X) (TKept X.K C)) (rm : Rm (k + 2) X.A)
    (hg : Gl X x) (hm : X.mg x = some (.ref g)) (eD : ErrC X C c0 D) (hmi : X.mg "isinstance" = none) (hgi : Gl X "isinstance") (hgc : Gl X c0) (hK : T.K = X.K) (hM : T.mg = X.mg) (hdb : (x == ("__debug__" : Str)) = false) (hd : (a == ("__debug__" : Str)) = false) (hcd : (a == ("__classdict__" : Str)) = false) (hdc : (c0 == ("__debug__" : Str)) = false)
    (hN : X.N.Nodup) (hi : X.N[i]? = some y) (hj : X.N[j]? = some z) (hij : i ≠ j) (hy : X.env.scope.names.lookup y = some .local) (hz : X.env.scope.names.lookup z = some .local) (hdy : (y == ("__debug__" : Str)) = false) (hcy : (y == ("__classdict__" : Str)) = false) (hdz : (z == ("__debug__" : Str)) = false) (hcz : (z == ("__classdict__" : Str)) = false)
    (hl : ls.length ≤ 100) (hc : X.calm = true) (hsw : swapsWith (.List (ls.map LSpec.e) pl) (some (.Name y py)) pa.line X.env = pure false) (hp : PassesOwn (model X.prog X.w) X.A X.env X.xe) (hr : PSs X sts (tS T gr)) :
    PSs X (.Assign [.Name y py] (.List (ls.map LSpec.e) pl) pa :: .For (.Name z pz) (.Name y py2) [.If (.UnaryOp .Not (.Call (.Name "isinstance" p) [.Call (.Name x p2) [.Name z pz2] [] pos2, .Name c0 p3] [] pos) pn) ret [] pif] [] pf :: sts) (tS T (gSq (gCalls i j c0 (ls.map LSpec.f)) gr)) := by
  have test : PE X (.Call (.Name "isinstance" p) [.Call (.Name x p2) [.Name z pz2] [] pos2, .Name c0 p3] [] pos) (fun σ H Q => ∃ q : { q : Nat × LSpec // ls[q.1]? = some q.2 }, tVar j σ H fun v H1 => ∃ (gh : Gh) (w : Wt), Ok T.K gh H1 σ w ∧ LamAt X q.1.2.params q.1.2.body q.1.2.scope gh.G v ∧ Res T gh H1 σ (eIsC c0 q.1.2.f w) Q) :=
    PE.any fun q => by
      obtain ⟨L, bd, hbody⟩ := o.get q.2
      exact pe_isCaught tVar_mono F hb Sg hNg hva hG rm L bd hbody (pe_var hj (.inl hz) hdz hcz) hg hm eD hmi hgi hgc hK hM rfl hdb hd hcd hdc
  refine PSs.weak (pss_cons (ps_set hN hi (.inl hy) (pe_lst (pa_mks tb o)) hsw (.inr hy)) (pss_cons (ps_for hp hc (pi_seq (pe_var hi (.inl hy) hdy hcy)) (pg_name hN hj (.inl hz) (.inr hz)) (pss_one (ps_if (pt_not (pt_val test)) pss_never pss_nil))) hr)) fun DE σ H zz => ?_
  obtain ⟨gh, w, kk, out, eo, qo⟩ := zz
  have eo1 : ∃ we, (i < w.sl.length ∧ j < w.sl.length) ∧ fCalls j c0 (ls.map LSpec.f) (w.at i .un) = some we ∧ gr we = some out := by
    unfold gSq gCalls at eo
    by_cases h : i < w.sl.length ∧ j < w.sl.length
    · rw [if_pos h] at eo
      cases y : fCalls j c0 (ls.map LSpec.f) (w.at i .un) with
      | none => rw [y] at eo; cases eo
      | some we => rw [y] at eo; exact ⟨we, h, rfl, eo⟩
    · rw [if_neg h] at eo; cases eo
  obtain ⟨we, ⟨h1, h2⟩, ef, eg⟩ := eo1
  refine ⟨gh, w, kk, fun vs gh1 H1 s1 k1 las => ⟨?_, fun A hA => ?_⟩⟩
  · rw [las.len]
    exact Nat.le_trans hl (by decide)
  -- the row lies at A, never changed
  have k2 := k1.lay hA (.lst vs)
  have s2 := Stp.lay k1 hA (.lst vs)
  have gA : upd gh1.G A (.lst vs) A = some (.lst vs) := upd_same
  obtain ⟨gh3, s3, k3, e3⟩ := k2.setU (i := i) (x := some (.ref A))
  have gA3 : gh3.G A = some (.lst vs) := by rw [e3]; exact gA
  have las3 : LamsAt X gh3.G ls vs := by rw [e3]; exact las.mono (same_lay (k1.nog hA))
  have l3 : (σ.set i (some (.ref A))).length = σ.length := List.length_set ..
  have lσ : σ.length = w.sl.length := kk.len
  have vi : (σ.set i (some (.ref A)))[i]? = some (some (.ref A)) := List.getElem?_set_self (by omega)
  refine ⟨.ref A, vi, A, rfl, .inl ⟨⟨vs, .of upd_same⟩, ?_⟩⟩
  refine ⟨fun t m σ2 H2 => ∃ (g2 : Gh) (w2 : Wt), Stp gh3 (upd H1 A (.lst vs)) g2 H2 ∧ Ok T.K g2 H2 σ2 w2 ∧ σ2.length = σ.length ∧ m = ls.length - t ∧ fCalls j c0 ((ls.map LSpec.f).drop t) w2 = some we, ⟨ls.length, gh3, w.at i .un, Stp.refl _ _, k3, l3, by omega, ef⟩, ?_⟩
  rintro t m σ2 H2 ⟨g2, w2, s4, k4, l4, em, e4⟩
  have q4 : SqL X.K H2 A vs := .of (k4.sub _ _ (s4.sub _ _ gA3))
  by_cases ht : t < ls.length
  · refine .inr ?_
    have hlt : ls[t]? = some ls[t] := List.getElem?_eq_getElem ht
    obtain ⟨v, hv, lv⟩ := las3.get hlt
    rw [← List.map_drop, List.drop_eq_getElem_cons ht, List.map_cons] at e4
    refine ⟨⟨vs, v, q4, hv⟩, fun σ3 H3 => ∃ (g2 : Gh) (w2 : Wt), Stp gh3 (upd H1 A (.lst vs)) g2 H3 ∧ Ok T.K g2 H3 σ3 w2 ∧ σ3.length = σ.length ∧ fCalls j c0 ((ls.map LSpec.f).drop (t + 1)) w2 = some we, fun σ3 H3 ⟨g2, w2, a1, a2, a3, a4⟩ => ⟨ls.length - (t + 1), by omega, g2, w2, a1, a2, a3, rfl, a4⟩, fun x3 H3 ⟨e5, e6⟩ => ?_⟩
    subst e5
    have e7 := e6 vs q4
    rw [hv] at e7
    cases e7
    unfold fCalls at e4
    obtain ⟨g5, s5, k5, e5⟩ := k4.setU (i := j) (x := some v)
    have vj : (σ2.set j (some v))[j]? = some (some v) := List.getElem?_set_self (by omega)
    refine ⟨⟨(t, ls[t]), hlt⟩, v, vj, g5, w2.at j .un, k5, lv.mono fun b o q => ?_, ?_⟩
    · rw [e5]; exact s4.sub b o q
    · cases y : ls[t].f (w2.at j .un) with
      | none => rw [y] at e4; cases e4
      | some r =>
        obtain ⟨r, w6⟩ := r
        rw [y] at e4
        cases r with
        | fz d => cases e4
        | ow d => cases e4
        | pk d => cases e4
        | ex c xx =>
          cases xx with
          | some xx => cases e4
          | none =>
            dsimp only at e4
            split at e4
            · rename_i ec
              refine ⟨.fz (.bool true), w6, ?_, fun _ _ z => (nomatch z), fun v7 g7 H7 s7 k7 rv => ?_⟩
              · show eIsC c0 ls[t].f (w2.at j .un) = _
                unfold eIsC
                rw [y]
                exact if_pos ec
              · have rv : Rp T.K g7.G (.bool true) v7 := rv
                simp only [Rp] at rv
                refine ⟨true, rv, ?_⟩
                show (if (!true) = true then _ else _)
                rw [if_neg (by simp)]
                exact ⟨g7, w6, (s4.trans s5).trans s7, k7, by rw [List.length_set]; exact l4, by rw [← List.map_drop]; exact e4⟩
            · cases e4
  · refine .inl ⟨⟨vs, q4, by rw [las.len]; omega⟩, ?_⟩
    rw [List.drop_of_length_le (by rw [List.length_map]; omega)] at e4
    cases e4
    exact ⟨g2, _, k4, out, eg, qo.later (((s1.trans s2).trans s3).trans s4)⟩
end
end DL
namespace DL
open PySem PySem.Spec PyProof.Rows L2
variable [TbC]
section
variable {X : Cx} {T : Tx} {x a c0 : Str} {g C D c P : Addr} {fd : FuncData} {k : Nat} {pg : Arguments} {bg : List Stmt} {sg : Scope} {kws : List (Str × V)} {Ng : List Str} {params : Arguments} {body : Expr} {scope : Scope} {p p2 p3 pos pos2 lp : Pos} {fE : EF}
/-- isinstance(caught(lambda: e), C) -/
theorem d_isCaught (tb : TbX X c P) (d0 : defaultsOf params X.env = ([], [])) (F : FunD X.K x x pg bg sg [] kws g fd) (hb : Binds X.K fd [a] []) (Sg : FnScope Ng [a] sg) (hNg : Ng[0]? = some a) (hva : Vis sg a) (hG : ∀ cdv, LamX.GivesTo X Ng x sg g cdv bg a (lamQ X) (TKept X.K C)) (rm : Rm (k + 2) X.A) (L : LamX.LamS X.env.scope scope)
    (bd : ∀ (q : Str) (cl : List (Str × Addr)) (pm cv ctv : Value), bindArgs (PySem.W.kla_fn "<lambda>" q params body scope cl pm cv ctv) ⟨[], []⟩ = pure [])
    (hbody : ∀ (A : Around) (outer : List Env) (s : Shared) (H : Hp) (E : XK) (f c1 : Addr), Rm k (A.deeper (LamX.lamEnv X scope s.heap.objs.size f c1)) → PE (LamX.lamCx X A outer s H E scope f c1) body (tD ⟨T.K, T.mg, E⟩ fE)) (hg : Gl X x) (hm : X.mg x = some (.ref g)) (eD : ErrC X C c0 D) (hmi : X.mg "isinstance" = none)
    (hgi : Gl X "isinstance") (hgc : Gl X c0) (hK : T.K = X.K) (hM : T.mg = X.mg) (hdb : (x == ("__debug__" : Str)) = false) (hd : (a == ("__debug__" : Str)) = false) (hcd : (a == ("__classdict__" : Str)) = false) (hdc : (c0 == ("__debug__" : Str)) = false) :
    PE X (.Call (.Name "isinstance" p) [.Call (.Name x p2) [.Lambda params body scope lp] [] pos2, .Name c0 p3] [] pos) (tD T (eIsC c0 fE)) :=
  PE.weak (pe_isCaught tMk_mono F hb Sg hNg hva hG rm L bd hbody (pe_mk (T := T) tb L d0) hg hm eD hmi hgi hgc hK hM rfl hdb hd hcd hdc) fun σ H Q z => by
    obtain ⟨gh, w, k, r⟩ := z
    exact ⟨gh, w, k, fun v gh1 H1 s1 k1 la => ⟨gh1, w, k1, la, r.later s1⟩⟩
end
end DL
set_option maxHeartbeats 1000000
/-! DL24: the end of a law whose walk makes lambdas: its table of code objects. -/
namespace DL
open PySem PySem.Spec PyProof.Rows L2
theorem law_callGT {P : Program} {w : World} {K : Fg} {mg mb : Str → Option Value} {k : Nat} {fa a c pt : Addr} {fd : FuncData} {x : Str} {sp : Sp} {s1 : Shared} {vs : List Value} {ns : List Int}
    (KX : K.In s1.heap) (hns : s1.heap.Ns mainGlobals mg) (hb : s1.heap.Ns builtinsNs mb) (hbb : ∀ x : Str, x ≠ "__name__" → mb x = bootBuiltins x) (hlim : s1.heap.NoLimit) (hg : s1.gens = #[])
    (tE : s1.heap.get? pt = some { cls := .none, data := .fields #[] }) (tN : K.lookup pt = none) (tC : PySem.W.codeHdIn K c pt = true)
    (hbm : ∃ (bm : Addr) (ob : Obj), mg "__builtins__" = some (.ref bm) ∧ bm ≠ builtinsNs ∧ s1.heap.get? bm = some ob ∧ ob.cls = .type "module" ∧ ob.dict = some builtinsNs ∧ ob.data = .plain)
    (ha : s1.heap.get? a = some { cls := .type "list", data := .seq vs.toArray }) (hi : IntsAre vs ns) (hl : ns.length ≤ sizeLine) (hr : Room k callerA)
    (F : ∀ base : Heap, K.In base → base.Ns mainGlobals mg → LamX.TabB base mg c pt → FnG P w K mg base CX0 k fa fd [x] sp) (hbind : ∀ (s : Shared) (u : Value), BindsTo s fd ⟨[u], []⟩ [(x, u)])
    (hsp : ∀ H : Hp, H pt = some (.tbl #[]) → SqL K H a (ns.map V.int) → sp [.ref a] H (fun v _ => v = .bl true) fun _ _ _ => False) :
    codeAny (model P w) callerA (.call (.ref fa) ⟨[.ref a], []⟩) (fun r s' => r = .ok (.ret (.bool true)) ∧ OldK s1.heap s'.heap ∧ s'.os = s1.os ∧ AllBare s'.gens) s1 := by
  have rv := vals_ints hi
  have lenV := hi.length
  have aP : a ≠ pt := fun z => by
    rw [z, tE] at ha
    cases ha
  have core : ∀ H : Hp, H pt = some (.tbl #[]) → (∀ b, H b = none ∨ b = pt ∨ ∃ o xs, H b = some (.frz o (.lst xs))) → SqL K H a (ns.map V.int) → HOk P w H s1.heap → (∀ b, H b ≠ none → b = pt ∨ (b = a ∧ K.lookup a = none)) →
      codeAny (model P w) callerA (.call (.ref fa) ⟨[.ref a], []⟩) (fun r s' => r = .ok (.ret (.bool true)) ∧ OldK s1.heap s'.heap ∧ s'.os = s1.os ∧ AllBare s'.gens) s1 := by
    intro H hH hO hS hok hA
    have free : ∀ {b : Addr}, b ≠ pt → b ≠ a → H b = none := fun {b} n1 n2 => by
      cases q : H b with
      | none => rfl
      | some u =>
        rcases hA b (by rw [q]; simp) with z | ⟨z, _⟩
        · exact absurd z n1
        · exact absurd z n2
    have put : ∀ {b : Addr} {o : Obj}, s1.heap.get? b = some o → (∀ vs n, o.data ≠ .seq vs n) → o.data ≠ .fields #[] → (hidT s1.heap H).get? b = some o := fun {b o} e h1 h2 => by
      refine hidT_get e (free (fun z => ?_) fun z => ?_)
      · rw [z, tE] at e
        cases e
        exact h2 rfl
      · rw [z, ha] at e
        cases e
        exact h1 _ _ rfl
    have nsK : ∀ {b : Addr} {m : Str → Option Value}, s1.heap.Ns b m → (hidT s1.heap H).Ns b m := fun {b m} ⟨o, es, ep, e, d, r⟩ => by
      have d0 : o.data = .dict es ep := d
      exact ⟨o, es, ep, put e (fun vs n z => by rw [d0] at z; cases z) (fun z => by rw [d0] at z; cases z), d, r⟩
    have hKb : K.In (hidT s1.heap H) := fun b o e => hidT_get (KX b o e) (by
      cases q : H b with
      | none => rfl
      | some u =>
        rcases hA b (by rw [q]; simp) with z | ⟨z, y⟩
        · rw [z, tN] at e; cases e
        · rw [z, y] at e; cases e)
    have hM : Mod K mg (hidT s1.heap H) := ⟨hKb, nsK hns, ⟨mb, nsK hb, hbb⟩, let ⟨mc, h1, h2⟩ := hlim; ⟨mc, nsK h1, h2⟩⟩
    have gP : mainGlobals ≠ pt := fun z => by
      obtain ⟨o, es, ep, e, d, _⟩ := hns
      rw [z, tE] at e
      cases e
      cases d
    have TB : LamX.TabB (hidT s1.heap H) mg c pt := by
      refine ⟨PySem.W.codeHd_of_K hKb tC, ?_, gP⟩
      obtain ⟨bm, ob, b1, b2, b3, b4, b5, b6⟩ := hbm
      have nG : bm ≠ mainGlobals := fun q => by
        obtain ⟨o, es, ep, e, hd, _⟩ := hns
        rw [q, e] at b3
        cases b3
        rw [hd] at b6
        cases b6
      have nP : bm ≠ pt := fun q => by
        rw [q, tE] at b3
        cases b3
        cases b6
      exact ⟨bm, ob, b1, b2, nG, nP, put b3 (fun vs n z => by rw [b6] at z; cases z) (fun z => by rw [b6] at z; cases z), b4, b5, b6⟩
    have e0 : Env0 P w K mg (hidT s1.heap H) callerA [] s1 H := ⟨rfl, hM, fun b o e => of_hidT e, Nat.le_of_eq (hidT_size _ _), trivial, fun b hb => absurd (show b ∈ ([] : List Addr) from hb) (by simp), hok, .of_eq hg⟩
    refine codeAny_mono ((F _ hKb (nsK hns) TB).go callerA [] s1 H ⟨[.ref a], []⟩ [.ref a] [.ref a] _ _ ⟨hr, rfl⟩ e0 (hbind s1 (.ref a)) (.cons rfl .nil) (hsp H hH hS)) fun r s' h => ?_
    cases r with
    | error e => exact (show False from h).elim
    | ok fl =>
      cases fl with
      | next => exact False.elim h
      | brk => exact False.elim h
      | cont => exact False.elim h
      | ret u =>
        obtain ⟨v, H', os, bare, un, hok', r', q⟩ := h
        have q' : v = .bl true := q
        subst q'
        obtain rfl : u = Value.bool true := r'
        have keep : ∀ b o, b ≠ pt → s1.heap.get? b = some o → s'.heap.get? b = some o := fun b o nb e => by
          rcases hO b with z | z | ⟨ob, xs, z⟩
          · exact un.keep b o e z (by intro z; exact absurd (show b ∈ ([] : List Addr) from z) (by simp)) (by simp)
          · exact absurd z nb
          · obtain ⟨e1, _⟩ := hok b _ z
            obtain ⟨e2, _⟩ := hok' b _ (un.frzs b ob _ z)
            rw [e] at e1; cases e1
            exact e2
        obtain ⟨more, z⟩ := un.tbls pt #[] hH
        have gm : s'.heap.get? pt = some { cls := .none, data := .fields (#[] ++ more) } := hok' pt _ z
        rw [Array.empty_append] at gm
        refine ⟨rfl, ⟨fun b o e => ?_, fun b o e => ?_⟩, os, bare⟩
        · by_cases hb : b = pt
          · subst hb
            rw [tE] at e
            cases e
            exact .inr (.inl ⟨((PySem.W.codeHd_of_K KX tC).tab tE).isCodeTable, rfl, #[], more, rfl, by rw [Array.empty_append]; exact gm⟩)
          · exact .inl (keep b o hb e)
        · by_cases hb : b = pt
          · exact ⟨_, hb ▸ gm⟩
          · exact ⟨o, keep b o hb e⟩
  cases hk : K.lookup a with
  | some o =>
    have e := KX a o hk
    rw [ha] at e
    cases e
    refine core (fun b => if b = pt then some (.tbl #[]) else none) (if_pos rfl) (fun b => ?_) (.inr ⟨_, vs.toArray, _, hk, rfl, rfl, rfl, by rw [List.size_toArray, lenV]; exact hl, by simpa using rv⟩) (fun b u z => ?_) fun b z => ?_
    · by_cases hb : b = pt
      · exact .inr (.inl hb)
      · exact .inl (if_neg hb)
    · by_cases hb : b = pt
      · have z' := (if_pos hb).symm.trans z
        cases z'
        subst hb
        exact tE
      · have z' := (if_neg hb).symm.trans z
        cases z'
    · by_cases hb : b = pt
      · exact .inl hb
      · exact absurd (if_neg hb) z
  | none =>
    refine core (fun b => if b = a then some (.frz { cls := .type "list", data := .seq vs.toArray } (.lst (ns.map V.int))) else if b = pt then some (.tbl #[]) else none) ((if_neg (Ne.symm aP)).trans (if_pos rfl)) (fun b => ?_) (.inl (.inr ⟨{ cls := .type "list", data := .seq vs.toArray }, if_pos rfl⟩)) (fun b u z => ?_) fun b z => ?_
    · by_cases hb : b = a
      · exact .inr (.inr ⟨_, _, if_pos hb⟩)
      · by_cases hb2 : b = pt
        · exact .inr (.inl hb2)
        · exact .inl ((if_neg hb).trans (if_neg hb2))
    · by_cases hb : b = a
      · have z' := (if_pos hb).symm.trans z
        cases z'
        subst hb
        exact ⟨ha, by rw [List.length_map]; exact hl, vs, _, rv, ha⟩
      · have z1 := (if_neg hb).symm.trans z
        by_cases hb2 : b = pt
        · have z' := (if_pos hb2).symm.trans z1
          cases z'
          subst hb2
          exact tE
        · have z' := (if_neg hb2).symm.trans z1
          cases z'
    · by_cases hb : b = a
      · exact .inr ⟨hb, hk⟩
      · by_cases hb2 : b = pt
        · exact .inl hb2
        · exact absurd ((if_neg hb).trans (if_neg hb2)) z
theorem walkGT {l : PySem.W.OpenLaw} {n k : Nat} {q : Program} {loose : List Str} {XP : (Str → Option Value) → Heap → Prop} {YP : World → Heap → Prop} {d : DefRec} {x : Str}
    (hn : l.most = some n) (hn2 : n ≤ sizeLine) (hdf : d.params.defaults = []) (hr : Room k callerA)
    (F : ∀ (w : World) (mg : Str → Option Value) (fa : Addr) (h : Heap), YP w h → h.Ns mainGlobals mg → mg d.name = some (.ref fa) →
      ∃ (K : PySem.W.Frag) (fd : FuncData) (sp : Sp) (c pt : Addr), K.In h ∧ h.get? pt = some { cls := .none, data := .fields #[] } ∧ K.lookup pt = none ∧ PySem.W.codeHdIn K c pt = true ∧ (∀ (s : Shared) (u : Value), BindsTo s fd ⟨[u], []⟩ [(x, u)]) ∧
        (∀ (H : Hp) (a : Addr) (ns : List Int), ns.length ≤ n → H pt = some (.tbl #[]) → SqL K H a (ns.map V.int) → sp [.ref a] H (fun v _ => v = .bl true) fun _ _ _ => False) ∧
        ∀ base : Heap, K.In base → base.Ns mainGlobals mg → LamX.TabB base mg c pt → FnG l.prog w K mg base CX0 k fa fd [x] sp) :
    PySem.W.WalkO q loose XP YP l.row.toRowW d [] (fun f vs => PySem.call f vs) := by
  refine Att.attach_callB hn hdf fun w s₀ s1 mg mb fa o pm cd doc a vs ns G Y ho hd hcd hmg hobj hints hlen hbits hg => ?_
  obtain ⟨K, fd, sp, c, pt, KX, t1, t2, t3, hb, hsp, hF⟩ := F w mg fa _ Y G.T.g hmg
  exact law_callGT KX G.T.g G.T.b G.T.builtins G.T.nolimit hg t1 t2 t3 G.T.bmain hobj hints (Nat.le_trans hlen hn2) hr hF hb (fun H hO hS => hsp H a ns hlen hO hS)
end DL
set_option maxHeartbeats 2000000
/-! DL25: enumerate of a tuple. -/
namespace DL
open PySem PySem.Spec PyProof.Rows L2
open AutoSeq1 (wpAny_loadPart')
abbrev tupItO (l : Addr) : Obj := { cls := .type "tuple_iterator", data := .fields #[.ref l, .int 0 0] }
abbrev enumO (i : Addr) : Obj := { cls := .type "enumerate", data := .fields #[.none, .bool false, .ref i, rawInt 0, .none, .none] }
theorem meets_enum_tup (l : Addr) (items : Array Value) (n : Nat) (dct : Option Addr) (sl : Array (Option Value)) :
    Meets (Builtin.«enumerate.__new__» ⟨[.type "enumerate", .ref l], []⟩) (fun _ R s => s.heap.get? l = some { cls := .type "tuple", dict := dct, data := .seq items n, slots := sl } ∧ R (.ok (.ret (.ref (s.heap.push (tupItO l)).objs.size))) { s with heap := (s.heap.push (tupItO l)).push (enumO s.heap.objs.size) }) :=
  .of_wp fun prog w A R s h => by
    obtain ⟨hp, g, d, tk, os⟩ := s
    obtain ⟨hl, h⟩ := h
    have hsub := sub_enumerate
    have hT : Heap.IsTuple (Shared.heap ⟨hp, g, d, tk, os⟩) l items := ⟨_, hl, rfl, n, rfl⟩
    wp_walk using wpAny_loadPart' hl
    refine wpAny_stack_any fun st => wpAny_pure ?_
    split
    · rename_i c _ _ _ _ _
      cases (c == Value.type "enumerate") <;> (wp_walk using wpAny_loadPart' hl, wpAny_pyIter_tuple hT; exact ⟨_, rfl, h⟩)
    · wp_walk using wpAny_loadPart' hl, wpAny_pyIter_tuple hT
      exact ⟨_, rfl, h⟩
theorem call_enum_tup {prog : Program} {w : World} {A : Around} {E : Value → Shared → Prop} {s : Shared} {l : Addr} {items : Array Value} {Q : Value → Shared → Prop} (hL : s.heap.IsTuple l items)
    (h : ∀ h', IsEnum h' (s.heap.objs.size + 1) s.heap.objs.size 0 .none → h'.IsTupleIter s.heap.objs.size l 0 → h'.objs.size = s.heap.objs.size + 2 → (∀ b o, s.heap.get? b = some o → h'.get? b = some o) → Q (.ref (s.heap.objs.size + 1)) { s with heap := h' }) :
    wpAny (model prog w) A (call (.type "enumerate") [.ref l]) Q E s := by
  obtain ⟨⟨c, dct, dt, sl⟩, hl, hc, n, hd⟩ := hL
  replace hc : c = .type "tuple" := hc
  replace hd : dt = .seq items n := hd
  subst hc hd
  refine callType_new F.called_enumerate (by decide) (F.typeCall_enumerate_1 _) (F.newCall_enumerate_1 _) (fun obj => F.args_object_init_2 obj _) F.entry_enumerate_new (meets_enum_tup l items n dct sl) ⟨hl, ?_⟩
  have hz : (s.heap.push (tupItO l)).objs.size = s.heap.objs.size + 1 := Heap.size_push ..
  show _ ∧ _
  rw [hz]
  have he : IsEnum ((s.heap.push (tupItO l)).push (enumO s.heap.objs.size)) (s.heap.objs.size + 1) s.heap.objs.size 0 .none := by
    have q := Heap.get?_push_size (s.heap.push (tupItO l)) (o := enumO s.heap.objs.size) rfl
    rw [hz] at q
    exact q
  exact ⟨⟨_, he, rfl⟩, h _ he ⟨_, Heap.get?_push_of_some _ (Heap.get?_push_size _ rfl), rfl, rfl⟩ (by rw [Heap.size_push, hz]) fun b o x => Heap.get?_push_of_some _ (Heap.get?_push_of_some _ x)⟩
/-- a tuple's items with their numbers, in new pairs -/
def IteT (K : PySem.W.Frag) (a : Addr) : It :=
  ⟨fun i H => ∃ (xs : List V) (x : V), SqT K H a xs ∧ xs[i]? = some x, fun i H v H' => ∃ T x, v = .ref T ∧ H T = none ∧ H' = upd H T (.tup [.int (i : Nat), x]) ∧ ∀ xs, SqT K H a xs → xs[i]? = some x, fun i H => ∃ xs : List V, SqT K H a xs ∧ xs.length ≤ i⟩
theorem enum_over_tup {P : Program} {w : World} {A : Around} {E : Value → Shared → Prop} {s : Shared} {e it l : Addr} {i : Nat} {items : Array Value} {old : Value} {Q : Option Value → Shared → Prop} (hd : A.in1.handled = none) (ee : IsEnum s.heap e it i old) (ei : s.heap.IsTupleIter it l i) (et : s.heap.IsTuple l items) (no : items[i]? = none)
    (go : ∀ h', Heap.ExtBut it s.heap h' → Q none { s with heap := h' }) : wpAny (model P w) A (pyNext (.ref e)) Q E s := by
  have ty : s.TypeIs (.ref e) "enumerate" := ⟨_, ee, rfl⟩
  unfold pyNext
  refine wpAny_bind <| wpAny_attempt <| wpAny_callSpecial?_slot (name := Str.ofString "__next__") ty F.slot_enumerate_next <| wpAny_call_entry F.slot_enumerate_next ty F.entry_enumerate_next ?_ <| F.args_enumerate_next_1 _
  show wpAny _ _ (field (.ref e) 2 >>= _) _ _ _
  refine wpAny_bind <| wpAny_field ee rfl (x := .ref it) rfl <| wpAny_bind <| wpAny_nextOf_tuple_end hd ei et no fun h1 x k1 ⟨o, ho, hc⟩ => ?_
  exact wpAny_bind <| wpAny_isInstance (T := "StopIteration") (b := true) ⟨o, ho, hc⟩ isSubtype_stop <| wpAny_pure (go h1 k1)
theorem turn_enumT {P : Program} {w : World} {K : PySem.W.Frag} {elts : List Expr} {kk : Nat} {tpos : Pos} (a e it : Addr) :
    Turn P w K (.Tuple elts kk tpos) (IteT K a) [e, it] e (fun i h => (∃ old, IsEnum h e it ((i : Nat) : Int) old) ∧ h.IsTupleIter it a i ∧ e ≠ it) where
  mem := by simp
  obj := fun i h st b hb => by
    obtain ⟨⟨old, he⟩, ⟨o, ho, hc, hd⟩, _⟩ := st
    rcases (show b = e ∨ b = it by simpa using hb) with z | z
    · rw [z]; exact ⟨_, he, fun v q => nomatch q⟩
    · rw [z]; exact ⟨o, ho, fun v q => by rw [hd] at q; cases q⟩
  keep := fun i h h' st k => let ⟨⟨old, he⟩, hi, hne⟩ := st; ⟨⟨old, k e (by simp) _ he⟩, hi.at fun o q => k it (by simp) o q, hne⟩
  item := by
    intro X hP hw hK hc i pins s σ H E I hf st hg
    subst hP hw hK
    obtain ⟨⟨old, he⟩, hit, hne⟩ := st
    obtain ⟨xs, x, hq, hx⟩ := hg
    obtain ⟨its, rv, p, hz⟩ := I.tuple hq
    obtain ⟨u, hu, ru⟩ := rv.get hx
    have hT : s.heap.IsTuple a its.toArray := p
    have hel : e < s.heap.objs.size := Heap.lt_size he
    have hil : it < s.heap.objs.size := by obtain ⟨_, q, _⟩ := hit; exact Heap.lt_size q
    have hai : a ≠ it := fun z => by
      obtain ⟨o1, q1, c1, _⟩ := hT
      obtain ⟨o2, q2, c2, _⟩ := hit
      rw [z, q2] at q1
      cases q1
      rw [c2] at c1
      exact absurd c1 (by decide)
    have hea : e ≠ a := fun z => by
      obtain ⟨o1, q1, c1, _⟩ := hT
      have he' : s.heap.get? e = _ := he
      rw [← z, he'] at q1
      cases q1
      have c2 : Value.type "enumerate" = Value.type "tuple" := c1
      exact absurd c2 (by decide)
    have D := Draws.tuple (prog := X.prog) (w := X.w) (A := X.A.in1) (by exact I.ok.hd hc) it a hai its.toArray
    refine wpAny_pyNext_enum_itemD D he ⟨hit, hT⟩ (by have := (List.getElem?_eq_some_iff.mp hu).1; simpa using this) hne (by simp [hne, hea]) fun y h' tk hy ho hst hTn hsz hk => ?_
    have ey : y = u := by
      have hy' : its.toArray[i]? = some y := hy
      rw [List.getElem?_toArray, hu] at hy'
      exact (Option.some.inj hy').symm
    subst ey
    refine ⟨_, rfl, wpAny_letOwnedTupleGo_enum (s := { s with heap := h', toks := tk + 1 }) ho fun h'' he' sb => ?_⟩
    have hT2 : h''.get? s.heap.objs.size = some { cls := .type "tuple", data := .seq #[.int i tk, y] } := (sb.2 _ (Nat.ne_of_gt hel)).trans hTn
    have new : ObjOk X.prog X.w (upd H s.heap.objs.size (.tup [.int (i : Nat), x])) h'' s.heap.objs.size (.tup [.int (i : Nat), x]) :=
      ⟨by show 2 ≤ sizeLine; decide, [.int i tk, y], .cons ⟨_, rfl⟩ (.cons ru .nil), ⟨_, hT2, rfl, _, rfl⟩⟩
    have I1 : Inv X pins σ (upd H s.heap.objs.size (.tup [.int (i : Nat), x])) { s with heap := h'', toks := tk + 1 } :=
      I.turnedNew (ch := [e, it]) (fun b ob hb q => (sb.2 b (fun z => hb (by simp [z]))).trans (hk b ob (fun z => hb (by simp [z])) (fun z => hb (by simp [z])) q)) hf (Nat.le_refl _) new
    refine ⟨.ref s.heap.objs.size, _, I1, rfl, ⟨_, x, rfl, I.hok.fresh (Nat.le_refl _), rfl, fun ys hy => by rw [I.tuple_inj hy hq]; exact hx⟩, ⟨⟨y, ?_⟩, hst.1.at fun o q => (sb.2 it (Ne.symm hne)).trans q, hne⟩, fun b hb => ?_⟩
    · have e1 : ((i + 1 : Nat) : Int) = (i : Int) + 1 := by omega
      rw [e1]; exact he'
    · have hb' : b < s.heap.objs.size := by
        rcases (show b = e ∨ b = it by simpa using hb) with z | z
        · rw [z]; exact hel
        · rw [z]; exact hil
      rw [upd_ne (Nat.ne_of_lt hb')]
      exact (hf b hb).1
  done := by
    intro X hP hw hK hc i pins s σ H E I hf st hg
    subst hP hw hK
    obtain ⟨⟨old, he⟩, hit, hne⟩ := st
    obtain ⟨xs, hq, hx⟩ := hg
    obtain ⟨its, rv, p, hz⟩ := I.tuple hq
    have hT : s.heap.IsTuple a its.toArray := p
    obtain ⟨f0, f1, f2, f3, f4, f5⟩ := hf it (by simp)
    have hl := rv.length
    exact enum_over_tup (by exact I.ok.hd hc) he hit hT (by rw [List.getElem?_toArray]; exact List.getElem?_eq_none (by omega)) fun h' eb => ⟨rfl, I.turned (t' := s.toks) (fun b o hb q => eb b o hb q) f0 f1 f3 f4 f5⟩
  self := fun A i s Q E st h => let ⟨⟨_, he⟩, _⟩ := st; wpAny_pyIter_enum he h
def iEnumT (K : PySem.W.Frag) (ta : TA) : TI := fun σ H R => ta σ H fun vs H1 => ∃ a xs, vs = [.ref a] ∧ ((SqL K H1 a xs ∧ R (Ite K a) H1) ∨ (SqT K H1 a xs ∧ R (IteT K a) H1))
theorem pi_enumA {X : Cx} {e : Expr} {ta : TA} {p pos tpos : Pos} {elts : List Expr} {kk : Nat} (hg : Gl X "enumerate") (hm : X.mg "enumerate" = none) (ha : PA X [e] ta) (hs : starEach [e] X.env = [(false, eval e X.env)] := by rfl) :
    PI X (.Tuple elts kk tpos) (.Call (.Name "enumerate" p) [e] [] pos) (iEnumT X.K ta) := by
  refine ⟨fun pins s σ H R I h => ?_⟩
  refine Call_ (ld_blt I hg hm boot_enumerate (PyProof.Rows.callWith_type1 (thn (ha.run pos pins s σ H _ I h) fun us s1 ⟨vs, H1, I1, r1, q1⟩ => ?_) hs rfl))
  obtain ⟨a, xs, ex, q⟩ := q1
  subst ex
  have eu := Vals.ref1 r1
  subst eu
  have le : ∀ b ∈ [s1.heap.objs.size + 1, s1.heap.objs.size], s1.heap.objs.size ≤ b := fun b hb => by
    rcases (show b = s1.heap.objs.size + 1 ∨ b = s1.heap.objs.size by simpa using hb) with z | z <;> omega
  rcases q with ⟨hq, q⟩ | ⟨hq, q⟩
  · obtain ⟨its, rv, p', hz⟩ := I1.list hq
    refine call_enumerate_list p'.isList fun h' he hit hsz hk => wpAny_pyIter_enum he ?_
    exact ⟨s1.heap.objs.size + 1, [s1.heap.objs.size + 1, s1.heap.objs.size], _, _, H1, rfl, I1.kept (t' := s1.toks) hk, turn_enum a (s1.heap.objs.size + 1) s1.heap.objs.size, ⟨⟨.none, he⟩, hit, Nat.succ_ne_self _⟩, fun b hb => I1.fpOk (le b hb) (I1.hok.fresh (le b hb)), q⟩
  · obtain ⟨its, rv, p', hz⟩ := I1.tuple hq
    refine call_enum_tup (show s1.heap.IsTuple a its.toArray from p') fun h' he hit hsz hk => wpAny_pyIter_enum he ?_
    exact ⟨s1.heap.objs.size + 1, [s1.heap.objs.size + 1, s1.heap.objs.size], _, _, H1, rfl, I1.kept (t' := s1.toks) hk, turn_enumT a (s1.heap.objs.size + 1) s1.heap.objs.size, ⟨⟨.none, he⟩, hit, Nat.succ_ne_self _⟩, fun b hb => I1.fpOk (le b hb) (I1.hok.fresh (le b hb)), q⟩
variable [TbC]
section
variable {T : Tx} {X : Cx} {a : Expr} {pos p tpos : Pos}
theorem DIt.enumT {gh0 : Gh} {H0 : Hp} {a : Addr} {xs : List V} {ds : List PD} (h1 : SqT T.K gh0.G a xs) (r1 : RpA T.K gh0.G ds xs) : DIt T (IteT T.K a) gh0 H0 (pairsN 0 ds) := fun gh H σ w j s k => by
  have q1 : SqT T.K H a xs := sqT_mono k.sub (sqT_mono s h1)
  refine ⟨fun d hd => ?_, fun hj => ?_⟩
  · rw [pairsN_get, Nat.zero_add] at hd
    cases hx : ds[j]? with
    | none => rw [hx] at hd; cases hd
    | some dx =>
      rw [hx] at hd
      cases hd
      obtain ⟨x, ex, rx⟩ := r1.get hx
      refine ⟨⟨xs, x, q1, ex⟩, fun v H' z => ?_⟩
      obtain ⟨t, x', rfl, ht, rfl, z1⟩ := z
      have z1 := z1 xs q1
      rw [ex] at z1
      cases z1
      exact k.laidPair ht (by simp [Rp]) (Rp.mono s _ _ rx)
  · rw [pairsN_len] at hj
    exact ⟨xs, q1, by rw [r1.len]; exact hj⟩
/-- enumerate of a list or a tuple -/
def iEA (g : AF) : IF := fun w => match g w with
  | some (.ok [.list xs], w1) => some (pairsN 0 xs, w1)
  | some (.ok [.tuple xs], w1) => some (pairsN 0 xs, w1)
  | _ => none
theorem di_enumA {elts : List Expr} {kk : Nat} {g : AF} (hm : X.mg "enumerate" = none) (ha : PA X [a] (tA T g)) (hK : T.K = X.K := by rfl) (hg : Gl X "enumerate" := by rfl) (hs : starEach [a] X.env = [(false, eval a X.env)] := by rfl) :
    PI X (.Tuple elts kk tpos) (.Call (.Name "enumerate" p) [a] [] pos) (tI T (iEA g)) := PI.weak (pi_enumA hg hm ha hs) fun σ H Rr z => by
  obtain ⟨gh, w, ds, w', k, e, q⟩ := z
  unfold iEA at e
  split at e
  · rename_i xs w1 y
    cases e
    refine tA_ok k y fun vs gh' H' s k' r => ?_
    simp only [RpA, Rp] at r
    obtain ⟨x, rr, rfl, ⟨a, vx, rfl, h1, r1⟩, rfl⟩ := r
    exact ⟨a, vx, rfl, .inl ⟨.of (k'.sub _ _ h1), hK ▸ q _ gh' H' s k' (DIt.enum h1 r1)⟩⟩
  · rename_i xs w1 y
    cases e
    refine tA_ok k y fun vs gh' H' s k' r => ?_
    simp only [RpA, Rp] at r
    obtain ⟨x, rr, rfl, ⟨a, vx, rfl, h1, r1⟩, rfl⟩ := r
    exact ⟨a, vx, rfl, .inr ⟨hK ▸ sqT_mono k'.sub h1, hK ▸ q _ gh' H' s k' (DIt.enumT h1 r1)⟩⟩
  · cases e
end
end DL
set_option maxHeartbeats 2000000
/-! DL26: list comprehensions with two fors. -/
namespace DL
open PySem PySem.Spec PyProof.Rows L2
variable [TbC]
section
variable {T : Tx} {X : Cx} {pos : Pos}
def lcL2 (vs vs1 : List Nat) (tg : TgF) (tt : TFn) (fi1 : IF) (tg1 : TgF) (tt1 : TFn) (fe : EF) : List PD → Wt → List PD → Option (List PD × Wt)
  | [], w, acc => some (acc, w)
  | d :: ds, w, acc => match tg d w with
    | none => none
    | some w1 => (match tt w1 with
      | some (.b true, w2) => (match fi1 w2 with
        | some (es, w3) => if plainW w3 vs1 = true then (match lcL vs1 tg1 tt1 fe es (w3.wipe vs1) acc with
          | some (acc1, w4) => if plainW w4 vs = true then lcL2 vs vs1 tg tt fi1 tg1 tt1 fe ds (w4.wipe vs) acc1 else none
          | none => none) else none
        | none => none)
      | some (.b false, w2) => if plainW w2 vs = true then lcL2 vs vs1 tg tt fi1 tg1 tt1 fe ds (w2.wipe vs) acc else none
      | _ => none)
def eLC2 (vs vs1 : List Nat) (fi : IF) (tg : TgF) (tt : TFn) (fi1 : IF) (tg1 : TgF) (tt1 : TFn) (fe : EF) : EF := fun w => match fi w with
  | some (ds, w1) => if plainW w1 vs = true then (match lcL2 vs vs1 tg tt fi1 tg1 tt1 fe ds (w1.wipe vs) [] with
    | some (acc, w2) => some (.ow (.list acc), w1.rest w2 vs)
    | none => none) else none
  | none => none
theorem wipe_wipe {σ : L2.St} {vs vs1 : List Nat} (h : ∀ j ∈ vs1, j ∈ vs) : L2.wipe (L2.wipe σ vs1) vs = L2.wipe σ vs := by
  apply List.ext_getElem?
  intro j
  by_cases hj : j ∈ vs
  · by_cases hlt : j < σ.length
    · rw [wipe_in hj (by rw [L2.wipe_length]; exact hlt), wipe_in hj hlt]
    · rw [List.getElem?_eq_none (by rw [L2.wipe_length, L2.wipe_length]; omega), List.getElem?_eq_none (by rw [L2.wipe_length]; omega)]
  · rw [wipe_out hj, wipe_out hj, wipe_out fun z => hj (h j z)]
/-- the row that grows at D -/
structure Row (T : Tx) (g : Gh) (H : Hp) (D : Addr) (pre : List PD) (xs : List V) : Prop where
  at_ : H D = some (.lst xs)
  rp : RpA T.K g.G pre xs
  nG : g.G D = none
  nM : ¬ g.M D
theorem Row.later {g g' : Gh} {H H' : Hp} {D : Addr} {pre : List PD} {xs : List V} (r : Row T g H D pre xs) (s : Stp g H g' H') : Row T g' H' D pre xs := by
  obtain ⟨a, b, c⟩ := s.stay r.at_ r.nG r.nM
  exact ⟨a, RpA.mono s.sub _ _ r.rp, b, c⟩
theorem Row.snoc {g : Gh} {H : Hp} {D : Addr} {pre : List PD} {xs : List V} {y : PD} {v : V} (r : Row T g H D pre xs) (rv : Rp T.K g.G y v) : Row T g (upd H D (.lst (xs ++ [v]))) D (pre ++ [y]) (xs ++ [v]) := ⟨upd_same, RpA.append r.rp (RpA.cons rv RpA.nil), r.nG, r.nM⟩
theorem lc2_le {vs vs1 ixs ixs1 : List Nat} {fi fi1 : IF} {tg tg1 : TgF} {tt tt1 : TFn} {fe : EF} (hx : ∀ j ∈ ixs, j ∈ vs) (hx1 : ∀ j ∈ ixs1, j ∈ vs1) (hv : ∀ j ∈ vs1, j ∈ vs) (σ : L2.St) (H : Hp) (Q : VK) (h : tD T (eLC2 vs vs1 fi tg tt fi1 tg1 tt1 fe) σ H Q) :
    tLc2 (tI T fi) (tG T ixs tg) (tT T tt) (tI T fi1) (tG T ixs1 tg1) (tT T tt1) (tD T (eF fe)) vs vs1 σ H Q := by
  obtain ⟨gh, w, k, r', w', er, _, fin⟩ := h
  have inv : ∃ ds w1 acc w2, fi w = some (ds, w1) ∧ plainW w1 vs = true ∧ lcL2 vs vs1 tg tt fi1 tg1 tt1 fe ds (w1.wipe vs) [] = some (acc, w2) ∧ r' = .ow (.list acc) ∧ w' = w1.rest w2 vs := by
    unfold eLC2 at er
    split at er
    · rename_i ds w1 y
      split at er
      · rename_i hp
        split at er
        · rename_i acc w2 y2
          cases er
          exact ⟨ds, w1, acc, w2, y, hp, y2, rfl, rfl⟩
        · cases er
      · cases er
    · cases er
  obtain ⟨ds, w1, acc, w2, y, hp, y2, rfl, rfl⟩ := inv
  refine ⟨gh, w, ds, w1, k, y, fun J gh' H' s k' it D hD => ?_⟩
  have row0 : Row T gh' (upd H' D (.lst [])) D [] [] := ⟨upd_same, RpA.nil, k'.nog hD, k'.nom hD⟩
  refine ⟨fun j m H2 => ∃ (g2 : Gh) (wi : Wt) (pre : List PD) (xs : List V), Stp gh' H' g2 H2 ∧ Ok T.K g2 H2 (L2.wipe σ vs) wi ∧ (∀ i, i ∈ vs → i < wi.sl.length → wi.sl[i]? = some .un) ∧ m = ds.length - j ∧ Row T g2 H2 D pre xs ∧ lcL2 vs vs1 tg tt fi1 tg1 tt1 fe (ds.drop j) wi pre = some (acc, w2),
    ⟨ds.length, gh', w1.wipe vs, [], [], Stp.grow (K := T.K) hD _, (k'.grow hD _).into hp, wiped_un, by omega, row0, y2⟩, ?_⟩
  rintro j m H2 ⟨g2, wi, pre, xs, s2, k2, hu, em, row, ev⟩
  obtain ⟨go, stop⟩ := it g2 H2 _ wi j s2.sub k2
  by_cases hj : j < ds.length
  · refine .inr ?_
    have hd : ds[j]? = some ds[j] := List.getElem?_eq_getElem hj
    rw [List.drop_eq_getElem_cons hj] at ev
    obtain ⟨g0, gy⟩ := go _ hd
    refine ⟨g0, fun H3 => ∃ (g3 : Gh) (wj : Wt) (pre : List PD) (xs : List V), Stp gh' H' g3 H3 ∧ Ok T.K g3 H3 (L2.wipe σ vs) wj ∧ (∀ i, i ∈ vs → i < wj.sl.length → wj.sl[i]? = some .un) ∧ Row T g3 H3 D pre xs ∧ lcL2 vs vs1 tg tt fi1 tg1 tt1 fe (ds.drop (j + 1)) wj pre = some (acc, w2),
      fun H3 ⟨g3, wj, pre, xs, a1, a2, a3, a4, a8⟩ => ⟨ds.length - (j + 1), by omega, g3, wj, pre, xs, a1, a2, a3, rfl, a4, a8⟩, fun x H3 hy => ?_⟩
    obtain ⟨g3, s3, k3, r3⟩ := gy x H3 hy
    unfold lcL2 at ev
    cases y1 : tg ds[j] wi with
    | none => rw [y1] at ev; cases ev
    | some w3 =>
      rw [y1] at ev
      dsimp only at ev
      refine ⟨g3, wi, ds[j], w3, k3, r3, y1, fun σ4 g4 H4 s4 k4 n1 n2 => ⟨wipe_set hx n1 n2, g4, w3, k4, ?_⟩⟩
      have hw : L2.wipe σ4 vs = L2.wipe σ vs := wipe_set hx n1 n2
      have s24 : Stp g2 H2 g4 H4 := s3.trans s4
      cases y3 : tt w3 with
      | none => rw [y3] at ev; cases ev
      | some rt =>
        obtain ⟨rt, w4⟩ := rt
        rw [y3] at ev
        cases rt with
        | ex c x => cases ev
        | b bb =>
          refine ⟨.b bb, w4, rfl, fun _ _ z => (nomatch z), fun b' z g5 H5 s5 k5 => ?_⟩
          cases z
          have s25 := s24.trans s5
          cases bb with
          | false =>
            rw [if_neg Bool.false_ne_true]
            dsimp only at ev
            split at ev
            · rename_i hp4
              exact ⟨g5, w4.wipe vs, pre, xs, s2.trans s25, hw ▸ k5.into hp4, wiped_un, row.later s25, ev⟩
            · cases ev
          | true =>
            rw [if_pos rfl]
            dsimp only at ev
            cases y4 : fi1 w4 with
            | none => rw [y4] at ev; cases ev
            | some p4 =>
              obtain ⟨es, w5⟩ := p4
              rw [y4] at ev
              dsimp only at ev
              split at ev
              · rename_i hp5
                cases y5 : lcL vs1 tg1 tt1 fe es (w5.wipe vs1) pre with
                | none => rw [y5] at ev; cases ev
                | some p5 =>
                  obtain ⟨acc1, w6⟩ := p5
                  rw [y5] at ev
                  dsimp only at ev
                  split at ev
                  · rename_i hp6
                    refine ⟨g5, w4, es, w5, k5, y4, fun J1 g6 H6 s6 k6 it1 => ?_⟩
                    refine ⟨fun t n H7 => ∃ (g7 : Gh) (wt : Wt) (pre1 : List PD) (xs1 : List V), (Same g6.G g7.G ∧ Stp gh' H' g7 H7) ∧ Ok T.K g7 H7 (L2.wipe σ4 vs1) wt ∧ n = es.length - t ∧ Row T g7 H7 D pre1 xs1 ∧ lcL vs1 tg1 tt1 fe (es.drop t) wt pre1 = some (acc1, w6),
                      ⟨es.length, g6, w5.wipe vs1, pre, xs, ⟨fun _ _ z => z, s2.trans (s25.trans s6)⟩, k6.into hp5, by omega, row.later (s25.trans s6), y5⟩, ?_⟩
                    rintro t n H7 ⟨g7, wt, pre1, xs1, s7, k7, en, row7, ev7⟩
                    obtain ⟨go1, stop1⟩ := it1 g7 H7 _ wt t s7.1 k7
                    by_cases ht : t < es.length
                    · refine .inr ?_
                      have hd1 : es[t]? = some es[t] := List.getElem?_eq_getElem ht
                      rw [List.drop_eq_getElem_cons ht] at ev7
                      obtain ⟨g01, gy1⟩ := go1 _ hd1
                      refine ⟨g01, fun H8 => ∃ (g8 : Gh) (wt : Wt) (pre1 : List PD) (xs1 : List V), (Same g6.G g8.G ∧ Stp gh' H' g8 H8) ∧ Ok T.K g8 H8 (L2.wipe σ4 vs1) wt ∧ Row T g8 H8 D pre1 xs1 ∧ lcL vs1 tg1 tt1 fe (es.drop (t + 1)) wt pre1 = some (acc1, w6),
                        fun H8 ⟨g8, wt, pre1, xs1, a1, a2, a3, a4⟩ => ⟨es.length - (t + 1), by omega, g8, wt, pre1, xs1, a1, a2, rfl, a3, a4⟩, fun x1 H8 hy1 => ?_⟩
                      obtain ⟨g8, s8, k8, r8⟩ := gy1 x1 H8 hy1
                      unfold lcL at ev7
                      cases z1 : tg1 es[t] wt with
                      | none => rw [z1] at ev7; cases ev7
                      | some w8 =>
                        rw [z1] at ev7
                        dsimp only at ev7
                        refine ⟨g8, wt, es[t], w8, k8, r8, z1, fun σ9 g9 H9 s9 k9 m1 m2 => ⟨wipe_set hx1 m1 m2, g9, w8, k9, ?_⟩⟩
                        have hw9 : L2.wipe σ9 vs1 = L2.wipe σ4 vs1 := wipe_set hx1 m1 m2
                        have s79 : Stp g7 H7 g9 H9 := s8.trans s9
                        cases z3 : tt1 w8 with
                        | none => rw [z3] at ev7; cases ev7
                        | some rt1 =>
                          obtain ⟨rt1, w9⟩ := rt1
                          rw [z3] at ev7
                          cases rt1 with
                          | ex c x => cases ev7
                          | b b1 =>
                            refine ⟨.b b1, w9, rfl, fun _ _ z => (nomatch z), fun b' z ga Ha sa ka => ?_⟩
                            cases z
                            have s7a := s79.trans sa
                            cases b1 with
                            | false =>
                              rw [if_neg Bool.false_ne_true]
                              dsimp only at ev7
                              split at ev7
                              · rename_i hp9
                                exact ⟨ga, w9.wipe vs1, pre1, xs1, ⟨fun b o z => s7a.sub b o (s7.1 b o z), s7.2.trans s7a⟩, hw9 ▸ ka.into hp9, row7.later s7a, ev7⟩
                              · cases ev7
                            | true =>
                              rw [if_pos rfl]
                              dsimp only at ev7
                              refine ⟨ga, w9, ka, ?_⟩
                              cases z4 : eF fe w9 with
                              | none => rw [z4] at ev7; cases ev7
                              | some re =>
                                obtain ⟨re, wb⟩ := re
                                rw [z4] at ev7
                                cases re with
                                | ow d => cases ev7
                                | pk d => cases ev7
                                | ex c x => cases ev7
                                | fz yv =>
                                  dsimp only at ev7
                                  split at ev7
                                  · rename_i hpb
                                    refine ⟨.fz yv, wb, rfl, fun _ _ z => (nomatch z), fun v gb Hb sb kb rv => ?_⟩
                                    have s7b := s7a.trans sb
                                    have rowb := row7.later s7b
                                    have hxl : xs1.length < lim := by rw [row7.rp.len]; exact hpb.2
                                    refine ⟨xs1, rowb.at_, Nat.lt_trans hxl lim_line, gb, wb.wipe vs1, pre1 ++ [yv], xs1 ++ [v], ⟨fun b o z => s7b.sub b o (s7.1 b o z), (s7.2.trans s7b).poke hD⟩, (hw9 ▸ kb.into hpb.1).poke rowb.nG rowb.nM, rowb.snoc rv, ev7⟩
                                  · cases ev7
                    · refine .inl ⟨stop1 (by omega), ?_⟩
                      rw [List.drop_of_length_le (by omega)] at ev7
                      cases ev7
                      refine ⟨g7, w6.wipe vs, _, xs1, s7.2, ?_, wiped_un, row7, ev⟩
                      have kk := k7.into hp6
                      rw [wipe_wipe hv, hw] at kk
                      exact kk
                  · cases ev
              · cases ev
  · refine .inl ⟨stop (by omega), ?_⟩
    rw [List.drop_of_length_le (by omega)] at ev
    cases ev
    exact fin (.ref D) g2 H2 (s.trans s2) (Ok.outOf k' hp k2 hu s2.sub) ⟨D, rfl, s.dom D hD, row.nG, row.nM, xs, row.at_, row.rp⟩
variable {elt tgE iter tgE1 iter1 : Expr} {ifs ifs1 : List Expr} {scope : Scope} {ixs ixs1 : List Nat} {fi fi1 : IF} {tg tg1 : TgF} {tt tt1 : TFn} {fe : EF}
theorem d_lc2 (own : List (Str × Nat)) (vs1 : List Nat) (hi : PI X tgE iter (tI T fi))
    (hg : ∀ (s : Shared) (H : Hp) (C : Addr) (cl : List (Str × Addr)) (fp : List Addr), PG (X.blk s H scope (compEnvC scope cl C X.env) fp) tgE (tG T ixs tg)) (ht : ∀ (s : Shared) (H : Hp) (C : Addr) (cl : List (Str × Addr)) (fp : List Addr), PTs (X.blk s H scope (compEnvC scope cl C X.env) fp) ifs (tT T tt))
    (hi1 : ∀ (s : Shared) (H : Hp) (C : Addr) (cl : List (Str × Addr)) (fp : List Addr), PI (X.blk s H scope (compEnvC scope cl C X.env) fp) tgE1 iter1 (tI T fi1))
    (hg1 : ∀ (s : Shared) (H : Hp) (C : Addr) (cl : List (Str × Addr)) (fp : List Addr), PG (X.blk s H scope (compEnvC scope cl C X.env) fp) tgE1 (tG T ixs1 tg1)) (ht1 : ∀ (s : Shared) (H : Hp) (C : Addr) (cl : List (Str × Addr)) (fp : List Addr), PTs (X.blk s H scope (compEnvC scope cl C X.env) fp) ifs1 (tT T tt1))
    (he : ∀ (s : Shared) (H : Hp) (C : Addr) (cl : List (Str × Addr)) (fp : List Addr), PE (X.blk s H scope (compEnvC scope cl C X.env) fp) elt (tD T fe)) (ok : blkC X.N X.env.scope scope own = true := by kernel_rfl) (hx : ∀ j ∈ ixs, j ∈ own.map (·.2) := by decide) (hx1 : ∀ j ∈ ixs1, j ∈ vs1 := by decide) (hv : ∀ j ∈ vs1, j ∈ own.map (·.2) := by decide)
    (hN : X.N.Nodup := by assumption) (hc : X.calm = true := by rfl) (hs : ∀ x, foldedSetIterable iter X.env x = pure x := by intro _; rfl) (hs1 : ∀ env x, foldedSetIterable iter1 env x = pure x := by intro _ _; rfl) :
    PE X (.ListComp elt [⟨tgE, iter, ifs, 0⟩, ⟨tgE1, iter1, ifs1, 0⟩] scope pos) (tD T (eLC2 (own.map (·.2)) vs1 fi tg tt fi1 tg1 tt1 fe)) :=
  PE.weak (pe_lc2 hc hN hi (blkOk_by ok) hv hg ht hi1 hg1 ht1 (fun s H C cl fp => PE.weak (he s H C cl fp) fun σ H Q h => eF_le σ H Q h) hs hs1) (lc2_le hx hx1 hv)
theorem d_setLc2 (i : Nat) (own : List (Str × Nat)) (vs1 : List Nat) {y : Str} {py spos : Pos} (hi : PI X tgE iter (tI T fi))
    (hg : ∀ (s : Shared) (H : Hp) (C : Addr) (cl : List (Str × Addr)) (fp : List Addr), PG (X.blk s H scope (compEnvC scope cl C X.env) fp) tgE (tG T ixs tg)) (ht : ∀ (s : Shared) (H : Hp) (C : Addr) (cl : List (Str × Addr)) (fp : List Addr), PTs (X.blk s H scope (compEnvC scope cl C X.env) fp) ifs (tT T tt))
    (hi1 : ∀ (s : Shared) (H : Hp) (C : Addr) (cl : List (Str × Addr)) (fp : List Addr), PI (X.blk s H scope (compEnvC scope cl C X.env) fp) tgE1 iter1 (tI T fi1))
    (hg1 : ∀ (s : Shared) (H : Hp) (C : Addr) (cl : List (Str × Addr)) (fp : List Addr), PG (X.blk s H scope (compEnvC scope cl C X.env) fp) tgE1 (tG T ixs1 tg1)) (ht1 : ∀ (s : Shared) (H : Hp) (C : Addr) (cl : List (Str × Addr)) (fp : List Addr), PTs (X.blk s H scope (compEnvC scope cl C X.env) fp) ifs1 (tT T tt1))
    (he : ∀ (s : Shared) (H : Hp) (C : Addr) (cl : List (Str × Addr)) (fp : List Addr), PE (X.blk s H scope (compEnvC scope cl C X.env) fp) elt (tD T fe)) (ok : blkC X.N X.env.scope scope own = true := by kernel_rfl) (hx : ∀ j ∈ ixs, j ∈ own.map (·.2) := by decide) (hx1 : ∀ j ∈ ixs1, j ∈ vs1 := by decide) (hv : ∀ j ∈ vs1, j ∈ own.map (·.2) := by decide)
    (hsw : swapsWith (.ListComp elt [⟨tgE, iter, ifs, 0⟩, ⟨tgE1, iter1, ifs1, 0⟩] scope pos) (some (.Name y py)) spos.line X.env = pure true := by exact sw_true rfl rfl rfl (by kernel_rfl)) (hy : X.N[i]? = some y := by rfl) (hyl : X.env.scope.names.lookup y = some .local := by rfl)
    (hN : X.N.Nodup := by assumption) (hc : X.calm = true := by rfl) (hs : ∀ x, foldedSetIterable iter X.env x = pure x := by intro _; rfl) (hs1 : ∀ env x, foldedSetIterable iter1 env x = pure x := by intro _ _; rfl) :
    PS X (.Assign [.Name y py] (.ListComp elt [⟨tgE, iter, ifs, 0⟩, ⟨tgE1, iter1, ifs1, 0⟩] scope pos) spos) (tS T (gAsg i (eLC2 (own.map (·.2)) vs1 fi tg tt fi1 tg1 tt1 fe))) :=
  PS.weak (ps_setLc2 hc hN hy hyl hsw hi (blkOk_by ok) hv hg ht hi1 hg1 ht1 (fun s H C cl fp => PE.weak (he s H C cl fp) fun σ H Q h => eF_le σ H Q h) hs hs1) (gAsg_le i (lc2_le hx hx1 hv))
end
end DL
set_option maxHeartbeats 2000000
/-! DL27: is None, a list's items stored, list.index, tuples repeated. -/
namespace DL
open PySem PySem.Spec PyProof.Rows L2
open AutoSeq1 (wpAny_loadPart')
theorem tuple_mul1 (l : Addr) (items : Array Value) (n : Nat) (dd : Option Addr) (sl : Array (Option Value)) (u : Tok) : Meets (Builtin.«tuple.__mul__» ⟨[.ref l, .int 1 u], []⟩) (fun _ R s => s.heap.get? l = some { cls := .type "tuple", dict := dd, data := .seq items n, slots := sl } ∧ R (.ok (.ret (.ref l))) { s with toks := s.toks }) :=
  .of_wp fun prog w A R s h => by
    obtain ⟨hp, g, d, tk, os⟩ := s
    obtain ⟨hl, h⟩ := h
    have f1 := AutoSeq1.idx_int
    wp_walk using wpAny_loadPart' hl
    all_goals exact ⟨_, rfl, h⟩
variable [TbC]
section
variable {T : Tx} {X : Cx} {a b e : Expr} {f g : EF} {pos p : Pos}
def isNoneD : PD → Bool
  | .none => true
  | _ => false
theorem isNone_v {K : Fg} {gh : Gh} {H : Hp} {d : PD} {v : V} (c : Cv K gh H d v) : decide (v = .non) = isNoneD d := by
  rcases c with c | ⟨a, rfl, c⟩
  · cases d with
    | none => simp only [Rp] at c; subst c; rfl
    | bool b => simp only [Rp] at c; subst c; rfl
    | int i => simp only [Rp] at c; subst c; rfl
    | str s => simp only [Rp] at c; subst c; rfl
    | list ds => simp only [Rp] at c; obtain ⟨a, xs, rfl, _⟩ := c; rfl
    | tuple ds => simp only [Rp] at c; obtain ⟨a, xs, rfl, _⟩ := c; rfl
    | dict ds => simp only [Rp] at c; obtain ⟨a, xs, rfl, _⟩ := c; rfl
  · cases d <;> first | rfl | exact c.elim
def oIsN (d : PD) : Option R := some (.fz (.bool (isNoneD d)))
def oIsNn (d : PD) : Option R := some (.fz (.bool (!isNoneD d)))
theorem d_isN {j : Nat} {p2 : Pos} (ha : PE X a (tD T f)) : PE X (.Compare a [.Is] [.Constant .none j p2] pos) (tD T (eC f oIsN)) := PE.weak (pe_cmp (pc_isN ha)) fun σ H Q z => eC_le (r := fun x H1 Q => Q (.bl (decide (x = .non))) H1) (fun gh0 gh H0 H σ w v d Q s k c z => by
  show Q (.bl (decide (v = .non))) H
  rw [isNone_v c]; exact z.fz s k (by simp [Rp])) σ H Q z
theorem d_isNn {j : Nat} {p2 : Pos} (ha : PE X a (tD T f)) : PE X (.Compare a [.IsNot] [.Constant .none j p2] pos) (tD T (eC f oIsNn)) := PE.weak (pe_cmp (pc_notN ha)) fun σ H Q z => eC_le (r := fun x H1 Q => Q (.bl (!decide (x = .non))) H1) (fun gh0 gh H0 H σ w v d Q s k c z => by
  show Q (.bl (!decide (v = .non))) H
  rw [isNone_v c]; exact z.fz s k (by simp [Rp])) σ H Q z
theorem dt_isN {j : Nat} {p2 : Pos} (ha : PE X a (tD T f)) : PT X (.Compare a [.Is] [.Constant .none j p2] pos) (tT T (tE (eC f oIsN))) := PT.weak (pt_cmp (pc_isN ha)) fun σ H Q z => tE_le (f := eC f oIsN) σ H Q z |> fun y => eC_le (r := fun x H1 Q => Q (.bl (decide (x = .non))) H1) (fun gh0 gh H0 H σ w v d Q s k c z => by
  show Q (.bl (decide (v = .non))) H
  rw [isNone_v c]; exact z.fz s k (by simp [Rp])) σ H _ y
theorem dt_isNn {j : Nat} {p2 : Pos} (ha : PE X a (tD T f)) : PT X (.Compare a [.IsNot] [.Constant .none j p2] pos) (tT T (tE (eC f oIsNn))) := PT.weak (pt_cmp (pc_notN ha)) fun σ H Q z => tE_le (f := eC f oIsNn) σ H Q z |> fun y => eC_le (r := fun x H1 Q => Q (.bl (!decide (x = .non))) H1) (fun gh0 gh H0 H σ w v d Q s k c z => by
  show Q (.bl (!decide (v = .non))) H
  rw [isNone_v c]; exact z.fz s k (by simp [Rp])) σ H _ y
/-- an own list is written -/
theorem Ok.rewr {K : Fg} {gh : Gh} {H : Hp} {σ : L2.St} {w : Wt} {i : Nat} {ds ds' : List PD} {a : Addr} {xs ys : List V} (k : Ok K gh H σ w) (e : w.sl[i]? = some (.o (.list ds))) (e0 : gh.ow i = some a) (hx : H a = some (.lst xs)) (ry : RpA K gh.G ds' ys) :
    Stp gh H gh (upd H a (.lst ys)) ∧ Ok K gh (upd H a (.lst ys)) σ (w.at i (.o (.list ds'))) := by
  have hM : gh.M a := .inl ⟨i, e0⟩
  have hi : i < w.sl.length := (List.getElem?_eq_some_iff.mp e).1
  have ga := k.dis a hM
  have look : ∀ {j : Nat} {sl : Slot}, (w.sl.set i (.o (.list ds')))[j]? = some sl → (j = i ∧ sl = .o (.list ds')) ∨ (j ≠ i ∧ w.sl[j]? = some sl) := fun {j sl} q => by
    by_cases z : i = j
    · subst z; rw [List.getElem?_set_self hi] at q; cases q; exact .inl ⟨rfl, rfl⟩
    · rw [List.getElem?_set_ne z] at q; exact .inr ⟨Ne.symm z, q⟩
  refine ⟨⟨fun _ _ h => h, fun b o q n => ?_, fun b q => ?_, fun b o q => .inl q, fun b m => .inl m, rfl, rfl⟩, ⟨?_, fun b o q => ?_, fun j d q => ?_, fun j ns q => ?_, fun j d q => ?_, fun j b q => ?_, k.inj, fun j q => ?_, fun p q => ?_, k.sap, k.dis, fun p q => ?_, k.tbw⟩⟩
  · rw [upd_ne (show b ≠ a from fun z => n (by rw [z]; exact hM))]; exact q
  · by_cases z : b = a
    · subst z; rw [upd_same] at q; cases q
    · rw [upd_ne z] at q; exact q
  · show σ.length = (w.sl.set i _).length
    rw [List.length_set]; exact k.len
  · have z : b ≠ a := fun z => by subst z; rw [ga] at q; cases q
    rw [upd_ne z]; exact k.sub b o q
  · rcases look q with ⟨_, z⟩ | ⟨_, z⟩
    · cases z
    · exact k.val j d z
  · rcases look q with ⟨_, z⟩ | ⟨_, z⟩
    · cases z
    · exact k.scr j ns z
  · rcases look q with ⟨rfl, z⟩ | ⟨n, z⟩
    · cases z
      obtain ⟨b, q0, q1, _⟩ := k.own j _ e
      rw [e0] at q0
      cases q0
      exact ⟨a, e0, q1, _, upd_same, ry⟩
    · obtain ⟨b, q0, q1, r⟩ := k.own j d z
      have hne : b ≠ a := fun y => n (k.inj j i a (y ▸ q0) e0)
      exact ⟨b, q0, q1, r.mono (fun _ _ h => h) (upd_ne hne)⟩
  · obtain ⟨d, r⟩ := k.onl j b q
    by_cases z : i = j
    · subst z; exact ⟨_, List.getElem?_set_self hi⟩
    · exact ⟨d, by show (w.sl.set i _)[j]? = _; rw [List.getElem?_set_ne z]; exact r⟩
  · rcases look q with ⟨_, z⟩ | ⟨_, z⟩
    · cases z
    · exact k.st j z
  · obtain ⟨n1, n2⟩ := k.sap p i a q e0
    exact (k.src p q).mono (fun _ _ h => h) (upd_ne (Ne.symm n1)) (upd_ne (Ne.symm n2))
  · have h := k.tab p q
    exact h.mono (fun _ _ h => h) (let ⟨ps, h1, _⟩ := h; upd_ne fun z => by rw [z, hx] at h1; cases h1)
theorem RpA.setAt {K : Fg} {H : Hp} {d : PD} {v : V} (rv : Rp K H d v) : ∀ {ds : List PD} {xs : List V} (j : Nat), RpA K H ds xs → RpA K H (ds.set j d) (xs.set j v)
  | [], xs, j, h => by simp only [RpA] at h; subst h; simp [RpA]
  | c :: ds, xs, 0, h => by
    simp only [RpA] at h
    obtain ⟨x, r, rfl, h1, h2⟩ := h
    exact RpA.cons rv h2
  | c :: ds, xs, j + 1, h => by
    simp only [RpA] at h
    obtain ⟨x, r, rfl, h1, h2⟩ := h
    exact RpA.cons h1 (RpA.setAt rv j h2)
/-- x[g] = f, x an own list -/
def gSetIx (i : Nat) (f g : EF) : SF := fun w => match eF f w with
  | some (.fz d, w1) => (match w1.sl[i]? with
    | some (.o _) => (match eF g w1 with
      | some (.fz (.int k), w2) => (match w2.sl[i]? with
        | some (.o (.list ds)) => (match ixN ds.length k with
          | some j => some (.nx (w2.at i (.o (.list (ds.set j d)))))
          | none => none)
        | _ => none)
      | _ => none)
    | _ => none)
  | _ => none
theorem gSetIx_inv {i : Nat} {w : Wt} {o : Out} (e : gSetIx i f g w = some o) : ∃ d w1 d0 k w2 ds j, eF f w = some (.fz d, w1) ∧ w1.sl[i]? = some (.o d0) ∧ eF g w1 = some (.fz (.int k), w2) ∧ w2.sl[i]? = some (.o (.list ds)) ∧ ixN ds.length k = some j ∧ o = .nx (w2.at i (.o (.list (ds.set j d)))) := by
  unfold gSetIx at e
  split at e
  · rename_i d w1 e1
    split at e
    · rename_i d0 e0
      split at e
      · rename_i k w2 e2
        split at e
        · rename_i ds e3
          split at e
          · rename_i j e4
            cases e
            exact ⟨d, w1, d0, k, w2, ds, j, e1, e0, e2, e3, e4, rfl⟩
          · cases e
        · cases e
      · cases e
    · cases e
  · cases e
theorem d_setIx (i : Nat) {x : Str} {xp sp : Pos} {b : Expr} (he : PE X e (tD T f)) (hb : PE X b (tD T g)) (hN : X.N[i]? = some x := by rfl) (hv : Vis X.env.scope x := by first | exact Or.inl rfl | exact Or.inr (Or.inl rfl) | exact Or.inr (Or.inr rfl)) (hd : (x == ("__debug__" : Str)) = false := by decide) (hcd : (x == ("__classdict__" : Str)) = false := by decide)
    (ha : ∀ v, assign (.Subscript (.Name x xp) b sp) X.env v = (do
      let ov ← holding [v] (eval (.Name x xp) X.env)
      let iv ← holding [v, ov] (eval b X.env)
      standAt sp
      holding [v, ov, iv] (setItem ov iv v)
      release [v, ov, iv] []) := by intro _; rfl) (hs : swapsWithSole [.Subscript (.Name x xp) b sp] e pos.line X.env = pure false := by rfl) (hw : swappedStores [.Subscript (.Name x xp) b sp] e X.env = pure none := by rfl)
    (h1 : (assignEach [.Subscript (.Name x xp) b sp] X.env).map (·.2) = [assign (.Subscript (.Name x xp) b sp) X.env] := by rfl) : PS X (.Assign [.Subscript (.Name x xp) b sp] e pos) (tS T (gSetIx i f g)) :=
  PS.weak (ps_asg he (pg_sub (pe_var hN hv hd hcd) hb set_list ha) hs hw h1) fun D σ H z => by
    obtain ⟨gh, w, k, out, z, q⟩ := z
    obtain ⟨d, w1, d0, kk, w2, ds, j, e1, e0, e2, e3, e4, rfl⟩ := gSetIx_inv z
    refine eF_le _ _ _ ⟨gh, w, k, .fz d, w1, e1, fun _ _ z => (nomatch z), fun v gh1 H1 s1 k1 rv => ?_⟩
    obtain ⟨a, _, q1, _⟩ := k1.own i _ e0
    refine ⟨.ref a, q1, eF_le _ _ _ ⟨gh1, w1, k1, .fz (.int kk), w2, e2, fun _ _ z => (nomatch z), fun u gh2 H2 s2 k2 rv2 => ?_⟩⟩
    obtain ⟨a', p0, p1, xs, hx, rx⟩ := k2.own i _ e3
    rw [q1] at p1
    cases p1
    have rv0 : Rp T.K gh1.G d v := rv
    obtain ⟨s3, k3⟩ := k2.rewr e3 p0 hx (RpA.setAt (Rp.mono s2.sub _ _ rv0) j rx)
    exact ⟨a, xs, kk, j, rfl, (Cv.int (K := T.K) (gh := gh2) (H := H2) (.inl rv2) : u = .int kk), hx, by rw [rx.len]; exact e4, q σ gh2 _ ((s1.trans s2).trans s3) k3⟩
/-- a list that stands in a slot, one's own or not -/
def lstAt (w : Wt) (i : Nat) : Option (List PD) := match w.sl[i]? with
  | some (.o (.list ds)) => some ds
  | some (.v (.list ds)) => some ds
  | _ => none
theorem Ok.lstAt {K : Fg} {gh : Gh} {H : Hp} {σ : L2.St} {w : Wt} {i : Nat} {ds : List PD} (k : Ok K gh H σ w) (e : DL.lstAt w i = some ds) : ∃ a xs, σ[i]? = some (some (.ref a)) ∧ H a = some (.lst xs) ∧ RpA K gh.G ds xs := by
  unfold DL.lstAt at e
  split at e
  · rename_i ds' h
    cases e
    obtain ⟨a, _, p1, xs, hx, rx⟩ := k.own i _ h
    exact ⟨a, xs, p1, hx, rx⟩
  · rename_i ds' h
    cases e
    obtain ⟨v, p1, r⟩ := k.val i _ h
    simp only [Rp] at r
    obtain ⟨a, xs, rfl, q, r⟩ := r
    exact ⟨a, xs, p1, k.sub _ _ q, r⟩
  · cases e
/-- x.index(g), x a list of ints -/
def eIndex (i : Nat) (g : EF) : EF := fun w => match lstAt w i with
  | some _ => (match eF g w with
    | some (.fz (.int k), w1) => (match lstAt w1 i with
      | some ds => (intsD ds).bind fun ns => (ns.findIdx? (· == k)).map fun j => (.fz (.int j), w1)
      | _ => none)
    | _ => none)
  | _ => none
theorem eIndex_inv {i : Nat} {w : Wt} {q : R × Wt} (e : eIndex i g w = some q) : ∃ d0 k w1 ds ns j, lstAt w i = some d0 ∧ eF g w = some (.fz (.int k), w1) ∧ lstAt w1 i = some ds ∧ intsD ds = some ns ∧ ns.findIdx? (· == k) = some j ∧ q = (.fz (.int j), w1) := by
  unfold eIndex at e
  split at e
  · rename_i d0 e0
    split at e
    · rename_i k w1 e1
      split at e
      · rename_i ds e2
        cases y : intsD ds with
        | none => rw [y] at e; cases e
        | some ns =>
          rw [y, Option.bind_some] at e
          cases y2 : ns.findIdx? (· == k) with
          | none => rw [y2] at e; cases e
          | some j =>
            rw [y2] at e
            cases e
            exact ⟨d0, k, w1, ds, ns, j, e0, e1, e2, y, y2, rfl⟩
      · cases e
    · cases e
  · cases e
theorem d_index (i : Nat) {x : Str} {xp apos cpos : Pos} (he : PE X e (tD T g)) (hN : X.N[i]? = some x := by rfl) (hv : Vis X.env.scope x := by first | exact Or.inl rfl | exact Or.inr (Or.inl rfl) | exact Or.inr (Or.inr rfl)) (hd : (x == ("__debug__" : Str)) = false := by decide) (hcd : (x == ("__classdict__" : Str)) = false := by decide)
    (hbase : attributeBase (.Name x xp) "index" X.env (eval (.Name x xp) X.env) = eval (.Name x xp) X.env := by rfl)
    (hfew : ((backTo cpos (starEach [e] X.env)).all (fun x => !x.1) && (backToKw cpos (keywordEach [] X.env)).all (fun x => x.1.isSome) && decide (([e] : List Expr).length + ([] : List Keyword).length + (if ([] : List Keyword).isEmpty then 0 else 1) < 30)) = true := by rfl)
    (hline : (apos.endLine == cpos.line) = true := by rfl) (hs : starEach [e] X.env = (false, eval e X.env) :: starEach [] X.env := by rfl) (hK : T.K = X.K := by rfl) : PE X (.Call (.Attribute (.Name x xp) "index" apos) [e] [] cpos) (tD T (eIndex i g)) :=
  PE.weak (pe_bm PySem.F.plainAttrs_list PySem.F.slot_list_index PySem.F.type_list_index mt_index (pe_var hN hv hd hcd) (pa_cons he pa_nil hs) hbase hfew hline hs rfl) fun σ H Q z => by
    obtain ⟨gh, w, k, r0, w0, z, _, q⟩ := z
    obtain ⟨d0, kk, w1, ds, ns, j, e0, e1, e2, e3, e4, eq⟩ := eIndex_inv z
    cases eq
    obtain ⟨a, xs0, q1, hx0, rx0⟩ := k.lstAt e0
    refine ⟨.ref a, q1, .inl ⟨rfl, xs0, .of hx0⟩, ?_⟩
    refine eF_le _ _ _ ⟨gh, w, k, .fz (.int kk), _, e1, fun _ _ z => (nomatch z), fun v gh' H' s' k' rv => ?_⟩
    obtain ⟨a', xs, p1, hx, rx⟩ := k'.lstAt e2
    rw [q1] at p1
    cases p1
    rw [intsD_map e3] at rx
    have ex := RpA.of_ints rx
    subst ex
    obtain ⟨hj, pj, nj⟩ := List.findIdx?_eq_some_iff_getElem.mp e4
    have ev : v = .int kk := Cv.int (K := T.K) (gh := gh') (H := H') (.inl rv)
    refine ⟨a, _, v, j, .int ns[j], rfl, rfl, .of hx, by rw [ev]; rfl, by simp [flatV], by rw [List.getElem?_map, List.getElem?_eq_getElem hj]; rfl, by rw [ev]; exact pj, fun m z' hm hz => ?_, q _ gh' H' s' k' (by simp [RV, Rp])⟩
    rw [List.getElem?_map] at hz
    cases y : ns[m]? with
    | none => rw [y] at hz; cases hz
    | some u =>
      rw [y] at hz
      cases hz
      rw [ev]
      have h2 := nj m hm
      obtain ⟨hm', eu⟩ := List.getElem?_eq_some_iff.mp y
      rw [eu] at h2
      show (u == kk) = false
      simpa using h2
def rRepT1 (K : Fg) : R2 := fun x y H Q => ∃ l xs, x = .ref l ∧ y = .int 1 ∧ SqT K H l xs ∧ Q (.ref l) H
theorem op_repT1 : OpR X (binaryOp .Mult) (rRepT1 X.K) := by
  intro pins s σ H x y v u Q I rx ry h
  obtain ⟨l, xs, rfl, rfl, hT, q⟩ := h
  cases rx
  obtain ⟨t, rfl⟩ := ry
  obtain ⟨its, r, ⟨⟨cls, dd, data, sl⟩, ho, hc, n, hd⟩, hs⟩ := I.tuple hT
  simp only at hc hd
  subst hc hd
  exact wpAny_binaryOp_repeat_ref (T := "tuple") (U := "int") (by decide) ⟨_, ho, rfl⟩ (fun s2 => typeIs_int s2 1 t) noFill_tuple_mul F.fills_int_mul F.slot_int_rmul repeat_tuple F.slot_int_index.lookup
    (call_meets F.slot_int_rmul (typeIs_int s 1 t) F.entry_int_rmul (F.args_int_rmul_2 _ _) (int_rmul_tuple 1 t l its.toArray n dd sl)
      ⟨ho, rfl, ⟨_, ho, rfl⟩, call_meets F.slot_tuple_mul ⟨_, ho, rfl⟩ F.entry_tuple_mul (F.args_tuple_mul_2 _ _) (tuple_mul1 l its.toArray n dd sl t) ⟨ho, ⟨.ref l, H, I, rfl, q⟩⟩⟩)
/-- a tuple repeated -/
def oRepT : PD → PD → Option R
  | .tuple ds, .int k => if (!ds.isEmpty && decide (1 ≤ k) && decide (k ≤ 1000) && decide (ds.length ≤ 1000)) = true then some (.fz (.tuple (List.replicate k.toNat ds).flatten)) else none
  | _, _ => none
theorem RpA.rep {K : Fg} {H : Hp} {ds : List PD} {xs : List V} (r : RpA K H ds xs) : ∀ n, RpA K H (List.replicate n ds).flatten (List.replicate n xs).flatten
  | 0 => RpA.nil
  | n + 1 => by
    rw [List.replicate_succ, List.replicate_succ, List.flatten_cons, List.flatten_cons]
    exact RpA.append r (RpA.rep r n)
theorem oRepT_ok : OpC2 T oRepT (fun x y H Q => rRepT1 T.K x y H Q ∨ rRepT T.K x y H Q) := fun gh0 gh H0 H σ w x y d d' Q s k c1 c2 z => by
  unfold oRepT at z
  split at z
  · rename_i ds j
    split at z
    · rename_i hc
      simp only [Bool.and_eq_true, decide_eq_true_eq, Bool.not_eq_true', List.isEmpty_eq_false_iff] at hc
      obtain ⟨⟨⟨h1, h2⟩, h3⟩, h4⟩ := hc
      obtain ⟨a, xs, rfl, q1, r1⟩ := c1.tupG
      have q2 := sqT_mono k.sub q1
      by_cases e : j = 1
      · subst e
        refine .inl ⟨a, xs, rfl, c2.int, q2, z.fz s k ?_⟩
        have e1 : (List.replicate (1 : Int).toNat ds).flatten = ds := by simp
        rw [e1]
        exact rp_tup q1 r1
      · refine .inr ⟨a, j, xs, rfl, c2.int, q2, fun z => h1 (r1.nil_of.mp z), by omega, h3, by rw [r1.len]; exact h4, fun p hp => ?_⟩
        exact z.tup s k (r1.rep _) hp
    · exact z.none
  · exact z.none
theorem d_mulT (ha : PE X a (tD T f)) (hb : PE X b (tD T g)) (hK : T.K = X.K := by rfl) : PE X (.BinOp a .Mult b pos) (tD T (eC2 f g oRepT)) :=
  PE.weak (pe_op (op_repT1.or op_repT) ha hb) fun σ H Q z => eC2_le (r := fun x y H Q => rRepT1 X.K x y H Q ∨ rRepT X.K x y H Q) (hK ▸ oRepT_ok) σ H Q z
end
end DL
set_option maxHeartbeats 1000000
/-! DLE: what the functions come to. -/
namespace DL
open PySem PySem.Spec PyProof.Rows L2
/-- a data equality that a machine can look at -/
def peqN : PD → PD → Bool
  | .none, .none => true
  | .bool a, .bool b => a == b
  | .int i, .int j => decide (i = j)
  | .str x, .str y => decide (x = y)
  | .list xs, .list ys => go xs ys
  | .tuple xs, .tuple ys => go xs ys
  | _, _ => false
where go : List PD → List PD → Bool
  | [], [] => true
  | x :: xs, y :: ys => peqN x y && go xs ys
  | _, _ => false
mutual
theorem peqN_ok : ∀ (a b : PD), peqN a b = true → a = b
  | .none, b, h => by cases b <;> first | rfl | (simp [peqN] at h)
  | .bool a, b, h => by cases b <;> first | (simp [peqN] at h; rw [h]) | (simp [peqN] at h)
  | .int a, b, h => by cases b <;> first | (simp [peqN] at h; rw [h]) | (simp [peqN] at h)
  | .str a, b, h => by cases b <;> first | (simp [peqN] at h; rw [h]) | (simp [peqN] at h)
  | .list xs, b, h => by
    cases b with
    | list ys => rw [peqN] at h; rw [peqN_go xs ys h]
    | _ => simp [peqN] at h
  | .tuple xs, b, h => by
    cases b with
    | tuple ys => rw [peqN] at h; rw [peqN_go xs ys h]
    | _ => simp [peqN] at h
  | .dict xs, b, h => by cases b <;> simp [peqN] at h
theorem peqN_go : ∀ (xs ys : List PD), peqN.go xs ys = true → xs = ys
  | [], ys, h => by cases ys <;> first | rfl | (simp [peqN.go] at h)
  | x :: xs, ys, h => by
    cases ys with
    | nil => simp [peqN.go] at h
    | cons y ys =>
      rw [peqN.go, Bool.and_eq_true] at h
      rw [peqN_ok x y h.1, peqN_go xs ys h.2]
end
mutual
theorem peqN_refl : ∀ (a : PD), a.plain = true → peqN a a = true
  | .none, _ => rfl
  | .bool a, _ => by simp [peqN]
  | .int a, _ => by simp [peqN]
  | .str a, _ => by simp [peqN]
  | .list xs, h => by rw [peqN]; exact peqN_goRefl xs (by simpa [PyData.plain] using h)
  | .tuple xs, h => by rw [peqN]; exact peqN_goRefl xs (by simpa [PyData.plain] using h)
  | .dict xs, h => by simp [PyData.plain] at h
theorem peqN_goRefl : ∀ (xs : List PD), PyData.plainAll xs = true → peqN.go xs xs = true
  | [], _ => rfl
  | x :: xs, h => by
    simp only [PyData.plainAll, Bool.and_eq_true] at h
    rw [peqN.go, peqN_refl x h.1, peqN_goRefl xs h.2, Bool.and_self]
end
/-- a result, looked at -/
def fEq (o : Option Fr) (d : PD) : Bool := match o with
  | some (.ok e) => peqN e d
  | _ => false
theorem fEq_ok {o : Option Fr} {d : PD} (h : fEq o d = true) : o = some (.ok d) := by
  unfold fEq at h
  split at h
  · rw [peqN_ok _ _ h]
  · cases h
/-- a comprehension that only reads -/
theorem lcL_ev {vs : List Nat} {tg : TgF} {tt : TFn} {fe : EF} {w : Wt} (p : PD → Bool) (h : PD → PD) : ∀ (ds acc : List PD), (∀ d ∈ ds, ∃ w2, tg d w = some w2 ∧ tt w2 = some (.b (p d), w2) ∧ (p d = true → eF fe w2 = some (.fz (h d), w2)) ∧ plainW w2 vs = true ∧ w2.wipe vs = w) →
    acc.length + ds.length < lim → lcL vs tg tt fe ds w acc = some (acc ++ (ds.filter p).map h, w)
  | [], acc, _, _ => by simp [lcL]
  | d :: ds, acc, hs, hl => by
    obtain ⟨w2, h1, h2, h3, h4, h5⟩ := hs d List.mem_cons_self
    have hl' : acc.length + 1 + ds.length < lim := by rw [List.length_cons] at hl; omega
    unfold lcL
    rw [h1]
    dsimp only
    rw [h2]
    cases q : p d with
    | true =>
      dsimp only
      rw [h3 q]
      dsimp only
      rw [if_pos ⟨h4, by omega⟩, h5, lcL_ev p h ds (acc ++ [h d]) (fun d hd => hs d (List.mem_cons_of_mem _ hd)) (by rw [List.length_append]; exact hl'), List.filter_cons_of_pos q, List.map_cons, List.append_assoc]
      rfl
    | false =>
      dsimp only
      rw [if_pos h4, h5, lcL_ev p h ds acc (fun d hd => hs d (List.mem_cons_of_mem _ hd)) (by omega), List.filter_cons_of_neg (by rw [q]; decide)]
theorem eLC_ev {vs : List Nat} {fi : IF} {tg : TgF} {tt : TFn} {fe : EF} {w w1 : Wt} {ds : List PD} (p : PD → Bool) (h : PD → PD) (hfi : fi w = some (ds, w1)) (hp : plainW w1 vs = true) (hr : w1.rest (w1.wipe vs) vs = w1)
    (hs : ∀ d ∈ ds, ∃ w2, tg d (w1.wipe vs) = some w2 ∧ tt w2 = some (.b (p d), w2) ∧ (p d = true → eF fe w2 = some (.fz (h d), w2)) ∧ plainW w2 vs = true ∧ w2.wipe vs = w1.wipe vs) (hl : ds.length < lim) :
    eLC vs fi tg tt fe w = some (.ow (.list ((ds.filter p).map h)), w1) := by
  unfold eLC
  rw [hfi]
  dsimp only
  rw [if_pos hp, lcL_ev p h ds [] hs (by simpa using hl)]
  dsimp only
  rw [hr, List.nil_append]
/-! ### data of ints -/
theorem depthAll_ints : ∀ ns : List Int, PyData.depthAll (ns.map PyData.int) ≤ 1
  | [] => by simp [PyData.depthAll]
  | n :: ns => by
    rw [List.map_cons]
    have := depthAll_ints ns
    simp only [PyData.depthAll, PyData.depth]
    omega
theorem flatA_ints (ns : List Int) : flatA (ns.map PyData.int) = true := by
  unfold flatA
  rw [plain_ints, Bool.true_and, decide_eq_true_eq]
  have := depthAll_ints ns
  omega
theorem flatD_tup (ns : List Int) : flatD (.tuple (ns.map PyData.int)) = true := by
  unfold flatD
  have := depthAll_ints ns
  rw [Bool.and_eq_true, decide_eq_true_eq]
  refine ⟨by simp only [PyData.plain, plain_ints], ?_⟩
  show PyData.depthAll (ns.map PyData.int) + 1 ≤ 100
  omega
theorem flatD_lst (ns : List Int) : flatD (.list (ns.map PyData.int)) = true := by
  unfold flatD
  have := depthAll_ints ns
  rw [Bool.and_eq_true, decide_eq_true_eq]
  refine ⟨by simp only [PyData.plain, plain_ints], ?_⟩
  show PyData.depthAll (ns.map PyData.int) + 1 ≤ 100
  omega
@[simp] theorem flatD_int (i : Int) : flatD (.int i) = true := rfl
@[simp] theorem flatD_str (i : Str) : flatD (.str i) = true := rfl
@[simp] theorem flatD_bool (i : Bool) : flatD (.bool i) = true := rfl
theorem eqvAll_ints : ∀ a b : List Int, PyData.eqvAll (a.map PyData.int) (b.map PyData.int) = decide (a = b)
  | [], [] => rfl
  | [], y :: b => rfl
  | x :: a, [] => rfl
  | x :: a, y :: b => by
    rw [List.map_cons, List.map_cons]
    simp only [PyData.eqvAll, PyData.eqv, eqvAll_ints a b]
    by_cases h : x = y
    · subst h; simp
    · simp [h]
theorem eqv_tup (a b : List Int) : PyData.eqv (.tuple (a.map PyData.int)) (.tuple (b.map PyData.int)) = decide (a = b) := eqvAll_ints a b
theorem eqv_lst (a b : List Int) : PyData.eqv (.list (a.map PyData.int)) (.list (b.map PyData.int)) = decide (a = b) := eqvAll_ints a b
theorem inD_ints (ns : List Int) (k : Int) : inD (ns.map PyData.int) (.int k) = decide (k ∈ ns) := by
  unfold inD
  induction ns with
  | nil => rfl
  | cons x r ih =>
    rw [List.map_cons, List.any_cons, ih]
    simp only [PyData.eqv]
    by_cases h : x = k
    · subst h; simp
    · have : ¬ k = x := fun e => h e.symm
      simp [h, this]
theorem oEq_tup (a b : List Int) : oEq (.tuple (a.map PyData.int)) (.tuple (b.map PyData.int)) = some (.fz (.bool (decide (a = b)))) := by
  unfold oEq
  simp only [flatD_tup, Bool.and_self, if_true, eqv_tup]
theorem oEq_lst (a b : List Int) : oEq (.list (a.map PyData.int)) (.list (b.map PyData.int)) = some (.fz (.bool (decide (a = b)))) := by
  unfold oEq
  simp only [flatD_lst, Bool.and_self, if_true, eqv_lst]
theorem oEq_int (a b : Int) : oEq (.int a) (.int b) = some (.fz (.bool (decide (a = b)))) := by
  unfold oEq
  simp [PyData.eqv]
  rfl
theorem oNe_int (a b : Int) : oNe (.int a) (.int b) = some (.fz (.bool (!decide (a = b)))) := by
  unfold oNe
  simp [PyData.eqv]
  rfl
theorem oEq_str (a b : Str) : oEq (.str a) (.str b) = some (.fz (.bool (decide (a = b)))) := by
  unfold oEq
  simp [PyData.eqv]
  rfl
theorem oEq_is (a : Int) (b : Str) : oEq (.int a) (.str b) = some (.fz (.bool false)) := by
  unfold oEq
  simp [PyData.eqv]
theorem oAdd_int (a b : Int) : oAdd (.int a) (.int b) = some (.fz (.int (a + b))) := rfl
theorem oIn_tup (ns : List Int) (k : Int) : oIn (.int k) (.tuple (ns.map PyData.int)) = some (.fz (.bool (decide (k ∈ ns)))) := by
  unfold oIn inO
  simp only [flatD_int, flatA_ints, Bool.and_self, if_true, inD_ints, Option.map_some]
theorem oIn_lst (ns : List Int) (k : Int) : oIn (.int k) (.list (ns.map PyData.int)) = some (.fz (.bool (decide (k ∈ ns)))) := by
  unfold oIn inO
  simp only [flatD_int, flatA_ints, Bool.and_self, if_true, inD_ints, Option.map_some]
theorem oNin_tup (ns : List Int) (k : Int) : oNin (.int k) (.tuple (ns.map PyData.int)) = some (.fz (.bool (!decide (k ∈ ns)))) := by
  unfold oNin inO
  simp only [flatD_int, flatA_ints, Bool.and_self, if_true, inD_ints, Option.map_some]
theorem oNin_lst (ns : List Int) (k : Int) : oNin (.int k) (.list (ns.map PyData.int)) = some (.fz (.bool (!decide (k ∈ ns)))) := by
  unfold oNin inO
  simp only [flatD_int, flatA_ints, Bool.and_self, if_true, inD_ints, Option.map_some]
theorem oSrt_lst {ns : List Int} (h : ns.length < 4000) : oSrtSet (.list (ns.map PyData.int)) = some (.ow (.list ((sortU ns).map PyData.int))) := by
  unfold oSrtSet
  simp only [List.length_map, h, if_true, intsD_of_map, Option.map_some]
theorem oSrt_tup {ns : List Int} (h : ns.length < 4000) : oSrtSet (.tuple (ns.map PyData.int)) = some (.ow (.list ((sortU ns).map PyData.int))) := by
  unfold oSrtSet
  simp only [List.length_map, h, if_true, intsD_of_map, Option.map_some]
theorem sortU_snoc (l : List Int) (x : Int) : sortU (l ++ [x]) = insU x (sortU l) :=
  asc_eq (sortU_lt _) (insU_lt x _ (sortU_lt l)) fun k => by rw [mem_sortU, mem_insU, mem_sortU, List.mem_append, List.mem_singleton, or_comm]
theorem atI_last' {α : Type} (xs : List α) : L2.atI xs (-1) = xs.getLast? := by
  cases h : xs.getLast? with
  | none =>
    rw [List.getLast?_eq_none_iff] at h
    subst h
    rfl
  | some v =>
    obtain ⟨ys, rfl⟩ := List.getLast?_eq_some_iff.mp h
    exact atI_last ys v
/-! ### statements, one behind another -/
theorem gSq_ok {g1 g2 : SF} {w w1 : Wt} {o : Option Out} (h1 : g1 w = some (.nx w1)) (h2 : g2 w1 = o) : gSq g1 g2 w = o := by
  unfold gSq
  rw [h1]
  exact h2
theorem gFor_ok {fi : IF} {tg : TgF} {b : SF} {w w1 : Wt} {ds : List PD} {o : Option Out} (h1 : fi w = some (ds, w1)) (h2 : fFor tg b ds w1 = o) : gFor fi tg b w = o := by
  unfold gFor
  rw [h1]
  exact h2
theorem fFor_nil {tg : TgF} {b : SF} {w : Wt} : fFor tg b [] w = some (.nx w) := rfl
theorem fFor_cons {tg : TgF} {b : SF} {w w1 w2 : Wt} {d : PD} {ds : List PD} {o : Option Out} (h1 : tg d w = some w1) (h2 : b w1 = some (.nx w2)) (h3 : fFor tg b ds w2 = o) : fFor tg b (d :: ds) w = o := by
  unfold fFor
  rw [h1]
  dsimp only
  rw [h2]
  exact h3
theorem gIf_t {p : TFn} {a b : SF} {w w1 : Wt} {o : Option Out} (h1 : p w = some (.b true, w1)) (h2 : a w1 = o) : gIf p a b w = o := by
  unfold gIf tS2
  rw [h1]
  exact h2
theorem gIf_f {p : TFn} {a b : SF} {w w1 : Wt} {o : Option Out} (h1 : p w = some (.b false, w1)) (h2 : b w1 = o) : gIf p a b w = o := by
  unfold gIf tS2
  rw [h1]
  exact h2
/-- a loop that keeps a shape, one datum after another: I says what stands behind the first j -/
theorem fFor_inv {tg : TgF} {b : SF} (I : Nat → Wt → Prop) : ∀ (ds : List PD) (j : Nat) (w : Wt), I j w → (∀ (i : Nat) (d : PD) (w : Wt), ds[i]? = some d → I (j + i) w → ∃ w1 w2, tg d w = some w1 ∧ b w1 = some (.nx w2) ∧ I (j + i + 1) w2) → ∃ w', fFor tg b ds w = some (.nx w') ∧ I (j + ds.length) w'
  | [], j, w, h, _ => ⟨w, rfl, h⟩
  | d :: ds, j, w, h, hs => by
    obtain ⟨w1, w2, h1, h2, h3⟩ := hs 0 d w rfl h
    obtain ⟨w', e, q⟩ := fFor_inv I ds (j + 1) w2 h3 fun i d' w hd hI => by
      obtain ⟨w1, w2, h1, h2, h3⟩ := hs (i + 1) d' w (by simpa using hd) (by rw [show j + (i + 1) = j + 1 + i by omega]; exact hI)
      exact ⟨w1, w2, h1, h2, by rw [show j + 1 + i + 1 = j + (i + 1) + 1 by omega]; exact h3⟩
    exact ⟨w', fFor_cons h1 h2 e, by rw [List.length_cons, show j + (ds.length + 1) = j + 1 + ds.length by omega]; exact q⟩
/-! ### dicts of ints -/
def dctI (y : PD) (acc : List (PD × PD)) (l : List Int) : List (PD × PD) := l.foldl (fun acc k => putD acc (.inl k) y) acc
def keyI (kvs : List (PD × PD)) (k : Int) : Bool := kvs.any fun p => match p.1 with
  | .int j => decide (j = k)
  | _ => false
theorem keyI_any (kvs : List (PD × PD)) (k : Int) : (kvs.any fun p => decide (keyOfD p.1 = some (Sum.inl k))) = keyI kvs k := by
  unfold keyI
  congr 1
  funext p
  obtain ⟨a, b⟩ := p
  cases a <;> simp [keyOfD]
theorem putD_len (kvs : List (PD × PD)) (k : Key) (d : PD) : (putD kvs k d).length ≤ kvs.length + 1 := by
  unfold putD
  split
  · rw [List.length_map]; omega
  · rw [List.length_append]; simp
theorem putD_ne (kvs : List (PD × PD)) (k : Key) (d : PD) : (putD kvs k d).isEmpty = false := by
  unfold putD
  split
  · rename_i h
    cases kvs with
    | nil => cases h
    | cons p r => rfl
  · cases kvs <;> rfl
theorem putD_key (kvs : List (PD × PD)) (j k : Int) (d : PD) : keyI (putD kvs (.inl j) d) k = (keyI kvs k || decide (j = k)) := by
  have hj := keyI_any kvs j
  unfold putD
  split
  · rename_i h
    rw [hj] at h
    have e : keyI (kvs.map fun p => if keyOfD p.1 = some (Sum.inl j) then (p.1, d) else p) k = keyI kvs k := by
      unfold keyI
      rw [List.any_map]
      congr 1
      funext p
      simp only [Function.comp]
      by_cases hp : keyOfD p.1 = some (Sum.inl j)
      · rw [if_pos hp]
      · rw [if_neg hp]
    rw [e]
    by_cases z : j = k
    · subst z; rw [h]; rfl
    · simp [z]
  · unfold keyI
    rw [List.any_append]
    simp [kD]
theorem dctI_key (y : PD) : ∀ (l : List Int) (acc : List (PD × PD)) (k : Int), keyI (dctI y acc l) k = (keyI acc k || decide (k ∈ l))
  | [], acc, k => by simp [dctI]
  | x :: l, acc, k => by
    show keyI (dctI y (putD acc (.inl x) y) l) k = _
    rw [dctI_key y l, putD_key, Bool.or_assoc]
    congr 1
    by_cases h : x = k
    · subst h; simp
    · have : ¬ k = x := fun e => h e.symm
      simp [h, this]
theorem dctI_empty (y : PD) : ∀ (l : List Int), (dctI y [] l).isEmpty = l.isEmpty := fun l => by
  have ne : ∀ (l : List Int) (acc : List (PD × PD)), acc.isEmpty = false → (dctI y acc l).isEmpty = false := fun l => by
    induction l with
    | nil => intro acc h; exact h
    | cons x r ih => intro acc _; exact ih _ (putD_ne ..)
  cases l with
  | nil => rfl
  | cons x r => exact ne r _ (putD_ne ..)
theorem dctI_len (y : PD) : ∀ (l : List Int) (acc : List (PD × PD)), (dctI y acc l).length ≤ acc.length + l.length
  | [], acc => by simp [dctI]
  | x :: l, acc => by
    have := dctI_len y l (putD acc (.inl x) y)
    have h2 := putD_len acc (.inl x) y
    show (dctI y (putD acc (.inl x) y) l).length ≤ _
    rw [List.length_cons]; omega
theorem oNin_dct (y : PD) (l : List Int) (k : Int) : oNin (.int k) (.dict (dctI y [] l)) = some (.fz (.bool (!decide (k ∈ l)))) := by
  show some (R.fz (PyData.bool (!keyI (dctI y [] l) k))) = _
  rw [dctI_key]
  rfl
theorem oIn_dct (y : PD) (l : List Int) (k : Int) : oIn (.int k) (.dict (dctI y [] l)) = some (.fz (.bool (decide (k ∈ l)))) := by
  show some (R.fz (PyData.bool (keyI (dctI y [] l) k))) = _
  rw [dctI_key]
  rfl
theorem dcL_ints {vs : List Nat} {tg : TgF} {tt : TFn} {fk fe : EF} {w : Wt} {y : PD} (p : Int → Bool) : ∀ (a : List Int) (acc : List (PD × PD)), (∀ i ∈ a, ∃ w2, tg (.int i) w = some w2 ∧ tt w2 = some (.b (p i), w2) ∧ (p i = true → eF fk w2 = some (.fz (.int i), w2) ∧ eF fe w2 = some (.fz y, w2)) ∧ plainW w2 vs = true ∧ w2.wipe vs = w) →
    acc.length + a.length < lim → dcL vs tg tt fk fe (a.map PyData.int) w acc = some (dctI y acc (a.filter p), w)
  | [], acc, _, _ => by simp [dcL, dctI]
  | i :: a, acc, hs, hl => by
    obtain ⟨w2, h1, h2, h3, h4, h5⟩ := hs i List.mem_cons_self
    rw [List.length_cons] at hl
    rw [List.map_cons]
    unfold dcL
    rw [h1]
    dsimp only
    rw [h2]
    cases q : p i with
    | true =>
      obtain ⟨q1, q2⟩ := h3 q
      dsimp only
      rw [q1]
      dsimp only
      rw [q2]
      dsimp only [keyOfD]
      have := putD_len acc (.inl i) y
      rw [if_pos ⟨h4, by omega⟩, h5, dcL_ints p a _ (fun d hd => hs d (List.mem_cons_of_mem _ hd)) (by omega), List.filter_cons_of_pos q]
      rfl
    | false =>
      dsimp only
      rw [if_pos h4, h5, dcL_ints p a acc (fun d hd => hs d (List.mem_cons_of_mem _ hd)) (by omega), List.filter_cons_of_neg (by rw [q]; decide)]
theorem eDC_ints {vs : List Nat} {fi : IF} {tg : TgF} {tt : TFn} {fk fe : EF} {w w1 : Wt} {y : PD} {a : List Int} (p : Int → Bool) (hfi : fi w = some (a.map PyData.int, w1)) (hp : plainW w1 vs = true) (hr : w1.rest (w1.wipe vs) vs = w1)
    (hs : ∀ i ∈ a, ∃ w2, tg (.int i) (w1.wipe vs) = some w2 ∧ tt w2 = some (.b (p i), w2) ∧ (p i = true → eF fk w2 = some (.fz (.int i), w2) ∧ eF fe w2 = some (.fz y, w2)) ∧ plainW w2 vs = true ∧ w2.wipe vs = w1.wipe vs) (hl : a.length < lim) :
    eDC vs fi tg tt fk fe w = some (.ow (.dict (dctI y [] (a.filter p))), w1) := by
  unfold eDC
  rw [hfi]
  dsimp only
  rw [if_pos hp, dcL_ints p a [] hs (by simpa using hl)]
  dsimp only
  rw [hr]
theorem oEq_dct0 (xs : List (PD × PD)) : oEq (.dict xs) (.dict []) = some (.fz (.bool xs.isEmpty)) := rfl
/-! ### slots looked at -/
theorem at_same {w : Wt} {v : Nat} {x : Slot} (h : v < w.sl.length) : (w.at v x).sl[v]? = some x := List.getElem?_set_self h
theorem at_other {w : Wt} {v j : Nat} {x : Slot} (h : j ≠ v) : (w.at v x).sl[j]? = w.sl[j]? := List.getElem?_set_ne (Ne.symm h)
theorem at_len {w : Wt} {v : Nat} {x : Slot} : (w.at v x).sl.length = w.sl.length := List.length_set ..
theorem at_src {w : Wt} {v : Nat} {x : Slot} : (w.at v x).src = w.src := rfl
theorem eV_v {w : Wt} {i : Nat} {d : PD} (h : w.sl[i]? = some (.v d)) : eV i w = some (.fz d, w) := by unfold eV; rw [h]
theorem eV_o {w : Wt} {i : Nat} {d : PD} (h : w.sl[i]? = some (.o d)) : eV i w = some (.pk i, w) := by unfold eV; rw [h]
theorem eF_fz {f : EF} {w w1 : Wt} {d : PD} (h : f w = some (.fz d, w1)) : eF f w = some (.fz d, w1) := by unfold eF eB; rw [h]; rfl
theorem eF_ow {f : EF} {w w1 : Wt} {d : PD} (h : f w = some (.ow d, w1)) : eF f w = some (.fz d, w1) := by unfold eF eB; rw [h]; rfl
theorem aCons_ok {f : EF} {g : AF} {w w1 w2 : Wt} {d : PD} {ds : List PD} (h1 : eF f w = some (.fz d, w1)) (h2 : g w1 = some (.ok ds, w2)) : aCons f g w = some (.ok (d :: ds), w2) := by unfold aCons; rw [h1]; dsimp only; rw [h2]
theorem aNil_ok {w : Wt} : aNil w = some (.ok [], w) := rfl
theorem eCall_ok {F : FF} {n : Nat} {g : AF} {w w1 : Wt} {ds : List PD} {d : PD} (h : g w = some (.ok ds, w1)) (hn : ds.length = n) (hF : F ds = some (.ok d)) : eCall F n [] g w = some (.fz d, w1) := by
  unfold eCall eA
  rw [h]
  dsimp only
  rw [List.append_nil, if_pos hn, hF]
  rfl
theorem eC_fz {f : EF} {op : PD → Option R} {w w1 : Wt} {d : PD} {r : R} (h : f w = some (.fz d, w1)) (ho : op d = some r) : eC f op w = some (r, w1) := by
  unfold eC eB
  rw [h]
  show (op d).map (fun q => (q, w1)) = _
  rw [ho]; rfl
theorem eC_ow {f : EF} {op : PD → Option R} {w w1 : Wt} {d : PD} {r : R} (h : f w = some (.ow d, w1)) (ho : op d = some r) : eC f op w = some (r, w1) := by
  unfold eC eB
  rw [h]
  show (op d).map (fun q => (q, w1)) = _
  rw [ho]; rfl
theorem eC_pk {f : EF} {op : PD → Option R} {w w1 : Wt} {i : Nat} {d : PD} {r : R} (h : f w = some (.pk i, w1)) (hd : w1.sl[i]? = some (.o d)) (ho : op d = some r) : eC f op w = some (r, w1) := by
  unfold eC eB
  rw [h]
  show (w1.cont (.pk i)).bind (fun d => (op d).map fun q => (q, w1)) = _
  unfold Wt.cont
  simp only [hd, Option.bind_some, ho, Option.map_some]
/-- what an expression is seen to be: a datum, whosever it is -/
def Sees (f : EF) (w : Wt) (d : PD) (w1 : Wt) : Prop := f w = some (.fz d, w1) ∨ f w = some (.ow d, w1) ∨ ∃ i, f w = some (.pk i, w1) ∧ w1.sl[i]? = some (.o d)
theorem Sees.op {f : EF} {op : PD → Option R} {w w1 : Wt} {d : PD} {r : R} (h : Sees f w d w1) (ho : op d = some r) : eC f op w = some (r, w1) := by
  rcases h with h | h | ⟨i, h, hd⟩
  · exact eC_fz h ho
  · exact eC_ow h ho
  · exact eC_pk h hd ho
theorem sees_v {w : Wt} {i : Nat} {d : PD} (h : w.sl[i]? = some (.v d)) : Sees (eV i) w d w := .inl (eV_v h)
theorem sees_o {w : Wt} {i : Nat} {d : PD} (h : w.sl[i]? = some (.o d)) : Sees (eV i) w d w := .inr (.inr ⟨i, eV_o h, h⟩)
theorem eC2_ok {f g : EF} {op : PD → PD → Option R} {w w1 : Wt} {d e : PD} {r : R} (h1 : Sees f w d w1) (h2 : Sees g w1 e w1) (ho : op d e = some r) : eC2 f g op w = some (r, w1) := by
  have c2 : ∀ (r1 : R), w1.cont r1 = some d → eK (g w1) (fun r' => kC2 op r1 r') = some (r, w1) := fun r1 hr => by
    rcases h2 with h | h | ⟨i, h, hd⟩
    · rw [h]; show (w1.cont r1).bind (fun d => (op d e).map fun q => (q, w1)) = _; rw [hr]; show (op d e).map (fun q => (q, w1)) = _; rw [ho]; rfl
    · rw [h]; show (w1.cont r1).bind (fun d => (op d e).map fun q => (q, w1)) = _; rw [hr]; show (op d e).map (fun q => (q, w1)) = _; rw [ho]; rfl
    · rw [h]; show (w1.cont r1).bind (fun d => (w1.cont (.pk i)).bind fun d' => (op d d').map fun q => (q, w1)) = _; rw [hr]; show (w1.cont (.pk i)).bind (fun d' => (op d d').map fun q => (q, w1)) = _; unfold Wt.cont; simp only [hd, Option.bind_some, ho, Option.map_some]
  unfold eC2 eB
  rcases h1 with h | h | ⟨i, h, hd⟩
  · rw [h]; exact c2 _ rfl
  · rw [h]; exact c2 _ rfl
  · rw [h]; exact c2 _ (by unfold Wt.cont; simp only [hd])
/-- the second one's state differs -/
theorem eC2_ok' {f g : EF} {op : PD → PD → Option R} {w w1 w2 : Wt} {d e : PD} {r : R} (h1 : f w = some (.fz d, w1) ∨ f w = some (.ow d, w1)) (h2 : Sees g w1 e w2) (ho : op d e = some r) : eC2 f g op w = some (r, w2) := by
  have c2 : ∀ (r1 : R), w2.cont r1 = some d → eK (g w1) (fun r' => kC2 op r1 r') = some (r, w2) := fun r1 hr => by
    rcases h2 with h | h | ⟨i, h, hd⟩
    · rw [h]; show (w2.cont r1).bind (fun d => (op d e).map fun q => (q, w2)) = _; rw [hr]; show (op d e).map (fun q => (q, w2)) = _; rw [ho]; rfl
    · rw [h]; show (w2.cont r1).bind (fun d => (op d e).map fun q => (q, w2)) = _; rw [hr]; show (op d e).map (fun q => (q, w2)) = _; rw [ho]; rfl
    · rw [h]; show (w2.cont r1).bind (fun d => (w2.cont (.pk i)).bind fun d' => (op d d').map fun q => (q, w2)) = _; rw [hr]; show (w2.cont (.pk i)).bind (fun d' => (op d d').map fun q => (q, w2)) = _; unfold Wt.cont; simp only [hd, Option.bind_some, ho, Option.map_some]
  unfold eC2 eB
  rcases h1 with h | h
  · rw [h]; exact c2 _ rfl
  · rw [h]; exact c2 _ rfl
theorem tE_ok {f : EF} {w w1 : Wt} {b : Bool} (h : f w = some (.fz (.bool b), w1)) : tE f w = some (.b b, w1) := by unfold tE; rw [h]
theorem tNt_ok {f : TFn} {w w1 : Wt} {b : Bool} (h : f w = some (.b b, w1)) : tNt f w = some (.b (!b), w1) := by unfold tNt tK; rw [h]
theorem tAn_ok {f g : TFn} {w w1 w2 : Wt} {a b : Bool} (h1 : f w = some (.b a, w1)) (h2 : a = true → g w1 = some (.b b, w2)) (hw : a = false → w2 = w1) : tAn f g w = some (.b (a && b), w2) := by
  unfold tAn tK
  rw [h1]
  dsimp only
  cases a with
  | true => rw [if_pos rfl, h2 rfl, Bool.true_and]
  | false => rw [if_neg Bool.false_ne_true, hw rfl, Bool.false_and]
theorem tOo_ok {f g : TFn} {w w1 w2 : Wt} {a b : Bool} (h1 : f w = some (.b a, w1)) (h2 : a = false → g w1 = some (.b b, w2)) (hw : a = true → w2 = w1) : tOo f g w = some (.b (a || b), w2) := by
  unfold tOo tK
  rw [h1]
  dsimp only
  cases a with
  | true => rw [if_pos rfl, hw rfl, Bool.true_or]
  | false => rw [if_neg Bool.false_ne_true, h2 rfl, Bool.false_or]
theorem iS_lst {f : EF} {w w1 : Wt} {ds : List PD} (h : eF f w = some (.fz (.list ds), w1)) : iS f w = some (ds, w1) := by unfold iS; rw [h]
theorem iS_tup {f : EF} {w w1 : Wt} {ds : List PD} (h : eF f w = some (.fz (.tuple ds), w1)) : iS f w = some (ds, w1) := by unfold iS; rw [h]
/-- a slot of one's own is given up where it is walked -/
theorem eF_own {w : Wt} {i : Nat} {d : PD} (h : w.sl[i]? = some (.o d)) : eF (eV i) w = some (.fz d, w.at i (.v d)) := by
  unfold eF eB
  rw [eV_o h]
  show kF (.pk i) w = _
  unfold kF Wt.freeze
  simp only [h, Option.map_some]
  rfl
theorem wipe1 {w : Wt} {v : Nat} : w.wipe [v] = w.at v .un := rfl
theorem at_at {w : Wt} {v : Nat} {x y : Slot} : (w.at v x).at v y = w.at v y := by
  unfold Wt.at
  simp only [List.set_set]
theorem plain1 {w : Wt} {v : Nat} (h : plainS w.sl[v]? = true) : plainW w [v] = true := by
  unfold plainW
  simp [h]
theorem rest1 {w : Wt} {v : Nat} : w.rest (w.wipe [v]) [v] = w := by
  show ({ w with sl := restS w.sl (w.at v .un).sl [v] } : Wt) = w
  have e : restS w.sl (w.at v .un).sl [v] = w.sl := by
    unfold restS restS
    cases q : w.sl[v]? with
    | none =>
      dsimp only
      exact List.set_eq_of_length_le (List.getElem?_eq_none_iff.mp q)
    | some s =>
      dsimp only
      unfold Wt.at
      rw [List.set_set]
      apply List.ext_getElem?
      intro j
      by_cases z : v = j
      · subst z; rw [List.getElem?_set_self (List.getElem?_eq_some_iff.mp q).1, q]
      · rw [List.getElem?_set_ne z]
  rw [e]
/-- a comprehension by one name that only reads -/
theorem eLC1 {v : Nat} {fi : IF} {tt : TFn} {fe : EF} {w w1 : Wt} {ds : List PD} (p : PD → Bool) (h : PD → PD) (hfi : fi w = some (ds, w1)) (hv : plainS w1.sl[v]? = true) (hl : v < w1.sl.length)
    (hs : ∀ d ∈ ds, tt (w1.at v (.v d)) = some (.b (p d), w1.at v (.v d)) ∧ (p d = true → eF fe (w1.at v (.v d)) = some (.fz (h d), w1.at v (.v d)))) (hn : ds.length < lim) :
    eLC [v] fi (gN v) tt fe w = some (.ow (.list ((ds.filter p).map h)), w1) :=
  eLC_ev p h hfi (plain1 hv) rest1 (fun d hd => by
    obtain ⟨h1, h2⟩ := hs d hd
    refine ⟨w1.at v (.v d), ?_, h1, h2, plain1 (by rw [at_same hl]; rfl), ?_⟩
    · unfold gN
      rw [if_pos (by rw [wipe1, at_len]; exact hl), wipe1, at_at]
    · rw [wipe1, wipe1, at_at]) hn
theorem gAsg_fz {i : Nat} {f : EF} {w w1 : Wt} {d : PD} (h : f w = some (.fz d, w1)) (hl : i < w1.sl.length) : gAsg i f w = some (.nx (w1.at i (.v d))) := by
  unfold gAsg
  rw [h]
  show ((w1.put i (.fz d)).map _) = _
  unfold Wt.put
  simp only [if_pos hl, Option.map_some]
theorem gAsg_ow {i : Nat} {f : EF} {w w1 : Wt} {d : PD} (h : f w = some (.ow d, w1)) (hl : i < w1.sl.length) : gAsg i f w = some (.nx (w1.at i (.o d))) := by
  unfold gAsg
  rw [h]
  show ((w1.put i (.ow d)).map _) = _
  unfold Wt.put
  simp only [if_pos hl, Option.map_some]
theorem gApp_ok {i : Nat} {f : EF} {w w1 : Wt} {ds es : List PD} {y : PD} (h0 : w.sl[i]? = some (.o (.list ds))) (h : eF f w = some (.fz y, w1)) (h1 : w1.sl[i]? = some (.o (.list es))) (hl : es.length < lim) : gApp i f w = some (.nx (w1.at i (.o (.list (es ++ [y]))))) := by
  unfold gApp
  rw [h0]
  dsimp only
  rw [h]
  dsimp only
  rw [h1]
  dsimp only
  rw [if_pos hl]
theorem gN_ok {i : Nat} {w : Wt} {d : PD} (hl : i < w.sl.length) : gN i d w = some (w.at i (.v d)) := by unfold gN; rw [if_pos hl]
theorem eLst_nil {w : Wt} : eLst aNil w = some (.ow (.list []), w) := rfl
theorem gRet_fz {f : EF} {w w1 : Wt} {d : PD} (h : f w = some (.fz d, w1)) : gRet f w = some (.rt d w1) := by unfold gRet; rw [h]; rfl
end DL
set_option maxHeartbeats 4000000
/-! DLR: the law's draws. -/
namespace DL
open PySem PySem.Spec PyProof.Rows L2
def gMixed : SF := gSq (gPar 1 2 (eC2 (eStI 0 (fun S => S.turn)) (eD (.int 1)) oAdd) (eD (.int 0)))
  (gSq (gSt 0 (fun S j => { S with turn := j }) (eV 1))
  (gSq (gFor (iS (eLst (aCons (eD (.int 2147483549)) (aCons (eD (.int 2147483543)) (aCons (eD (.int 2147483497)) (aCons (eD (.int 2147483489)) (aNil))))))) (gN 3) (gSq (gAsg 4 (eC2 (eC2 (eD (.int 69621)) (eV 1) oMul) (eC2 (eV 3) (eD (.int 41)) oFdiv) oAdd))
  (gSq (gFor (iS (eStC 0)) (gN 5) (gAsg 4 (eC2 (eC (eC2 (eC2 (eC2 (eV 4) (eD (.int 48271)) oMul) (eV 5) oAdd) (eV 1) oAdd) oInt) (eV 3) oMod)))
  (gAsg 2 (eC2 (eC2 (eV 2) (eD (.int 2147483659)) oMul) (eC2 (eC (eC2 (eV 4) (eD (.int 5)) oPow) oInt) (eV 3) oMod) oAdd)))))
  (gRet (eV 2))))
def FMixed : FSt := FSB 6 gMixed
def gDraw : SF := gSq (gIf (tE (eC2 (eStI 0 (fun S => S.rest)) (eD (.int 0)) oEq)) (gSt 0 (fun S j => { S with rest := j }) (eIf (tGN 0) (eStP 0) (eCallS 0 FMixed 0 (aNil)))) (gNx))
  (gSq (gAsg 2 (eC2 (eC (eStI 0 (fun S => S.rest)) oInt) (eV 1) oMod))
  (gSq (gSt 0 (fun S j => { S with rest := j }) (eC2 (eStI 0 (fun S => S.rest)) (eV 1) oFdiv))
  (gRet (eV 2))))
def FDraw : FSt := FSB 3 gDraw
def gPick : SF := gRet (eC2 (eV 1) (eCallS 0 FDraw 1 (aCons (eC (eV 1) oLen) (aNil))) oIx)
def FPick : FSt := FSB 2 gPick
theorem eCallS_ok {i n : Nat} {F : FSt} {g : AF} {w w1 : Wt} {ds : List PD} {d : PD} {S' : Src} (h0 : w.sl[i]? = some .st) (h : g w = some (.ok ds, w1)) (hn : ds.length = n) (hF : F w1.src ds = some (d, S')) : eCallS i F n g w = some (.fz d, { w1 with src := S' }) := by
  unfold eCallS eA
  rw [h0]
  dsimp only
  rw [h]
  dsimp only
  rw [if_pos hn, hF]
  rfl
theorem oMul_l (a b : Int) (h : -18446744073709551616 < a ∧ a < 18446744073709551616) : oMul (.int a) (.int b) = some (.fz (.int (a * b))) := by
  unfold oMul oI2 cMul
  simp [h.1, h.2]
theorem oMul_r (a b : Int) (h : -18446744073709551616 < b ∧ b < 18446744073709551616) : oMul (.int a) (.int b) = some (.fz (.int (a * b))) := by
  unfold oMul oI2 cMul
  simp [h.1, h.2]
theorem oMod_ok (a b : Int) (h : 0 < b) : oMod (.int a) (.int b) = some (.fz (.int (a % b))) := by
  unfold oMod oI2 cMod
  simp [h]
theorem oFdiv_ok (a b : Int) (h : 0 < b ∧ b < 1073741824) : oFdiv (.int a) (.int b) = some (.fz (.int (a / b))) := by
  unfold oFdiv oI2 cDiv
  simp [h.1, h.2]
theorem oPow5 (a : Int) (h : a.natAbs < 18446744073709551616) : oPow (.int a) (.int 5) = some (.fz (.int (a ^ 5))) := by
  unfold oPow oI2 cPow
  simp [h]
theorem cell_loop {S : Src} {tn fd pr : Int} (hp : 0 < pr ∧ pr < 4000000000) : ∀ (cs : List Int) (bl : Int) (s5 : Slot), bl.natAbs < 18446744073709551616 → ∃ (bl' : Int) (s5' : Slot), bl'.natAbs < 18446744073709551616 ∧
    fFor (gN 5) (gAsg 4 (eC2 (eC (eC2 (eC2 (eC2 (eV 4) (eD (.int 48271)) oMul) (eV 5) oAdd) (eV 1) oAdd) oInt) (eV 3) oMod)) (cs.map .int) ⟨[.st, .v (.int tn), .v (.int fd), .v (.int pr), .v (.int bl), s5], S⟩ = some (.nx ⟨[.st, .v (.int tn), .v (.int fd), .v (.int pr), .v (.int bl'), s5'], S⟩)
  | [], bl, s5, h => ⟨bl, s5, h, rfl⟩
  | c :: cs, bl, s5, h => by
    have h1 : ((bl * 48271 + c + tn) % pr).natAbs < 18446744073709551616 := by
      have a := Int.emod_nonneg (bl * 48271 + c + tn) (show pr ≠ 0 by omega)
      have b := Int.emod_lt_of_pos (bl * 48271 + c + tn) hp.1
      omega
    obtain ⟨bl', s5', h2, e⟩ := cell_loop hp cs ((bl * 48271 + c + tn) % pr) (.v (.int c)) h1
    refine ⟨bl', s5', h2, ?_⟩
    rw [List.map_cons]
    refine fFor_cons (w1 := ⟨[.st, .v (.int tn), .v (.int fd), .v (.int pr), .v (.int bl), .v (.int c)], S⟩) rfl ?_ e
    have m1 := oMul_r bl 48271 (by decide)
    have m2 := oMod_ok (bl * 48271 + c + tn) pr hp.1
    simp [eK, eB, eC, eC2, kC, kC2, Wt.cont, Wt.freeze, kF, eF, eV, eD, aNil, aCons, eA, eTup, eLst, tK, tE, tNt, tAn, tOo, eIf, eAnd, eOr, eNot, gNx, gSq, kS, gDrop, gRet, gRetN, tS2, gIf, Wt.at, Wt.put, gAsg, gN, gsNil, gsCons, gT, gUnp, iS, iR1, iR2, gFor, tYs, kF', eCall, gNo, eDct0, outF, outS, entry, entryS, oI2, oCmp, oSub, oTupOf, oLstOf, oLen, iZ, iE, gApp, gPar, kPk, Option.bind_some, Option.map_some, Option.bind_none, Option.map_none, List.getElem?_cons_zero, List.getElem?_cons_succ, List.set_cons_zero, List.set_cons_succ, List.length_cons, List.length_nil, List.map_cons, List.map_nil, List.cons_append, List.nil_append, cond_true, cond_false, m1, m2, oAdd_int, oInt]
def gPrime : SF := gSq (gAsg 4 (eC2 (eC2 (eD (.int 69621)) (eV 1) oMul) (eC2 (eV 3) (eD (.int 41)) oFdiv) oAdd))
  (gSq (gFor (iS (eStC 0)) (gN 5) (gAsg 4 (eC2 (eC (eC2 (eC2 (eC2 (eV 4) (eD (.int 48271)) oMul) (eV 5) oAdd) (eV 1) oAdd) oInt) (eV 3) oMod)))
  (gAsg 2 (eC2 (eC2 (eV 2) (eD (.int 2147483659)) oMul) (eC2 (eC (eC2 (eV 4) (eD (.int 5)) oPow) oInt) (eV 3) oMod) oAdd)))
theorem prime_step {S : Src} {tn fd pr : Int} {s4 s5 : Slot} (hp : 0 < pr ∧ pr < 4000000000) (ht : 0 ≤ tn ∧ tn ≤ 1000000000) : ∃ (fd' : Int) (s4' s5' : Slot), gPrime ⟨[.st, .v (.int tn), .v (.int fd), .v (.int pr), s4, s5], S⟩ = some (.nx ⟨[.st, .v (.int tn), .v (.int fd'), .v (.int pr), s4', s5'], S⟩) := by
  have h0 : (69621 * tn + pr / 41).natAbs < 18446744073709551616 := by omega
  obtain ⟨bl, s5', hb, e⟩ := cell_loop (S := S) (tn := tn) (fd := fd) hp S.cells (69621 * tn + pr / 41) s5 h0
  refine ⟨fd * 2147483659 + bl ^ 5 % pr, .v (.int bl), s5', gSq_ok (w1 := ⟨[.st, .v (.int tn), .v (.int fd), .v (.int pr), .v (.int (69621 * tn + pr / 41)), s5], S⟩) ?_ (gSq_ok (gFor_ok (w1 := ⟨[.st, .v (.int tn), .v (.int fd), .v (.int pr), .v (.int (69621 * tn + pr / 41)), s5], S⟩) (ds := S.cells.map .int) rfl e) ?_)⟩
  · have m1 := oMul_l 69621 tn (by decide)
    have m2 := oFdiv_ok pr 41 (by decide)
    simp [eK, eB, eC, eC2, kC, kC2, Wt.cont, Wt.freeze, kF, eF, eV, eD, aNil, aCons, eA, eTup, eLst, tK, tE, tNt, tAn, tOo, eIf, eAnd, eOr, eNot, gNx, gSq, kS, gDrop, gRet, gRetN, tS2, gIf, Wt.at, Wt.put, gAsg, gN, gsNil, gsCons, gT, gUnp, iS, iR1, iR2, gFor, tYs, kF', eCall, gNo, eDct0, outF, outS, entry, entryS, oI2, oCmp, oSub, oTupOf, oLstOf, oLen, iZ, iE, gApp, gPar, kPk, Option.bind_some, Option.map_some, Option.bind_none, Option.map_none, List.getElem?_cons_zero, List.getElem?_cons_succ, List.set_cons_zero, List.set_cons_succ, List.length_cons, List.length_nil, List.map_cons, List.map_nil, List.cons_append, List.nil_append, cond_true, cond_false, m1, m2, oAdd_int]
  · have m1 := oMul_r fd 2147483659 (by decide)
    have m2 := oPow5 bl hb
    have m3 := oMod_ok (bl ^ 5) pr hp.1
    simp [eK, eB, eC, eC2, kC, kC2, Wt.cont, Wt.freeze, kF, eF, eV, eD, aNil, aCons, eA, eTup, eLst, tK, tE, tNt, tAn, tOo, eIf, eAnd, eOr, eNot, gNx, gSq, kS, gDrop, gRet, gRetN, tS2, gIf, Wt.at, Wt.put, gAsg, gN, gsNil, gsCons, gT, gUnp, iS, iR1, iR2, gFor, tYs, kF', eCall, gNo, eDct0, outF, outS, entry, entryS, oI2, oCmp, oSub, oTupOf, oLstOf, oLen, iZ, iE, gApp, gPar, kPk, Option.bind_some, Option.map_some, Option.bind_none, Option.map_none, List.getElem?_cons_zero, List.getElem?_cons_succ, List.set_cons_zero, List.set_cons_succ, List.length_cons, List.length_nil, List.map_cons, List.map_nil, List.cons_append, List.nil_append, cond_true, cond_false, m1, m2, m3, oAdd_int, oInt]
theorem mixed_ok (S : Src) (h : 0 ≤ S.turn ∧ S.turn < 1000000000) : ∃ v : Int, FMixed S [] = some (.int v, { S with turn := S.turn + 1 }) := by
  have ht : 0 ≤ S.turn + 1 ∧ S.turn + 1 ≤ 1000000000 := by omega
  obtain ⟨f1, a1, b1, e1⟩ := prime_step (S := { S with turn := S.turn + 1 }) (tn := S.turn + 1) (fd := 0) (pr := 2147483549) (s4 := .un) (s5 := .un) (by decide) ht
  obtain ⟨f2, a2, b2, e2⟩ := prime_step (S := { S with turn := S.turn + 1 }) (tn := S.turn + 1) (fd := f1) (pr := 2147483543) (s4 := a1) (s5 := b1) (by decide) ht
  obtain ⟨f3, a3, b3, e3⟩ := prime_step (S := { S with turn := S.turn + 1 }) (tn := S.turn + 1) (fd := f2) (pr := 2147483497) (s4 := a2) (s5 := b2) (by decide) ht
  obtain ⟨f4, a4, b4, e4⟩ := prime_step (S := { S with turn := S.turn + 1 }) (tn := S.turn + 1) (fd := f3) (pr := 2147483489) (s4 := a3) (s5 := b3) (by decide) ht
  refine ⟨f4, ?_⟩
  have e : gMixed (entryS 6 [] S) = some (.rt (.int f4) ⟨[.st, .v (.int (S.turn + 1)), .v (.int f4), .v (.int 2147483489), a4, b4], { S with turn := S.turn + 1 }⟩) := by
    refine gSq_ok (w1 := ⟨[.st, .v (.int (S.turn + 1)), .v (.int 0), .un, .un, .un], S⟩) rfl (gSq_ok (w1 := ⟨[.st, .v (.int (S.turn + 1)), .v (.int 0), .un, .un, .un], { S with turn := S.turn + 1 }⟩) rfl (gSq_ok (gFor_ok (ds := [.int 2147483549, .int 2147483543, .int 2147483497, .int 2147483489]) (w1 := ⟨[.st, .v (.int (S.turn + 1)), .v (.int 0), .un, .un, .un], { S with turn := S.turn + 1 }⟩) rfl (fFor_cons rfl e1 (fFor_cons rfl e2 (fFor_cons rfl e3 (fFor_cons rfl e4 fFor_nil))))) rfl))
  unfold FMixed FSB
  rw [e]
  rfl
/-- a draw -/
theorem draw_ok (S : Src) (room : Int) (h : 0 ≤ S.turn ∧ S.turn < 1000000000) (hr : 0 < room ∧ room < 1073741824) : ∃ (v : Int) (S' : Src), FDraw S [.int room] = some (.int v, S') ∧ 0 ≤ v ∧ v < room ∧ 0 ≤ S'.turn ∧ S'.turn ≤ S.turn + 1 := by
  have core : ∀ S1 : Src, ∃ v : Int, 0 ≤ v ∧ v < room ∧ gSq (gAsg 2 (eC2 (eC (eStI 0 (fun S => S.rest)) oInt) (eV 1) oMod))
      (gSq (gSt 0 (fun S j => { S with rest := j }) (eC2 (eStI 0 (fun S => S.rest)) (eV 1) oFdiv)) (gRet (eV 2))) ⟨[.st, .v (.int room), .un], S1⟩ = some (.rt (.int v) ⟨[.st, .v (.int room), .v (.int v)], { S1 with rest := S1.rest / room }⟩) := fun S1 => by
    refine ⟨S1.rest % room, Int.emod_nonneg _ (by omega), Int.emod_lt_of_pos _ hr.1, gSq_ok (w1 := ⟨[.st, .v (.int room), .v (.int (S1.rest % room))], S1⟩) ?_ (gSq_ok (w1 := ⟨[.st, .v (.int room), .v (.int (S1.rest % room))], { S1 with rest := S1.rest / room }⟩) ?_ rfl)⟩
    · have m := oMod_ok S1.rest room hr.1
      simp [eK, eB, eC, eC2, kC, kC2, Wt.cont, Wt.freeze, kF, eF, eV, eD, aNil, aCons, eA, eTup, eLst, tK, tE, tNt, tAn, tOo, eIf, eAnd, eOr, eNot, gNx, gSq, kS, gDrop, gRet, gRetN, tS2, gIf, Wt.at, Wt.put, gAsg, gN, gsNil, gsCons, gT, gUnp, iS, iR1, iR2, gFor, tYs, kF', eCall, gNo, eDct0, outF, outS, entry, entryS, oI2, oCmp, oSub, oTupOf, oLstOf, oLen, iZ, iE, gApp, gPar, kPk, Option.bind_some, Option.map_some, Option.bind_none, Option.map_none, List.getElem?_cons_zero, List.getElem?_cons_succ, List.set_cons_zero, List.set_cons_succ, List.length_cons, List.length_nil, List.map_cons, List.map_nil, List.cons_append, List.nil_append, cond_true, cond_false, eStI, oInt, m]
    · have m := oFdiv_ok S1.rest room hr
      simp [eK, eB, eC, eC2, kC, kC2, Wt.cont, Wt.freeze, kF, eF, eV, eD, aNil, aCons, eA, eTup, eLst, tK, tE, tNt, tAn, tOo, eIf, eAnd, eOr, eNot, gNx, gSq, kS, gDrop, gRet, gRetN, tS2, gIf, Wt.at, Wt.put, gAsg, gN, gsNil, gsCons, gT, gUnp, iS, iR1, iR2, gFor, tYs, kF', eCall, gNo, eDct0, outF, outS, entry, entryS, oI2, oCmp, oSub, oTupOf, oLstOf, oLen, iZ, iE, gApp, gPar, kPk, Option.bind_some, Option.map_some, Option.bind_none, Option.map_none, List.getElem?_cons_zero, List.getElem?_cons_succ, List.set_cons_zero, List.set_cons_succ, List.length_cons, List.length_nil, List.map_cons, List.map_nil, List.cons_append, List.nil_append, cond_true, cond_false, eStI, gSt, m]
  have hE : entryS 3 [.int room] S = ⟨[.st, .v (.int room), .un], S⟩ := rfl
  unfold FDraw FSB
  rw [hE]
  by_cases hz : S.rest = 0
  · have t1 : tE (eC2 (eStI 0 (fun S => S.rest)) (eD (.int 0)) oEq) ⟨[.st, .v (.int room), .un], S⟩ = some (.b true, ⟨[.st, .v (.int room), .un], S⟩) := by
      simp [eK, eB, eC, eC2, kC, kC2, Wt.cont, Wt.freeze, kF, eF, eV, eD, aNil, aCons, eA, eTup, eLst, tK, tE, tNt, tAn, tOo, eIf, eAnd, eOr, eNot, gNx, gSq, kS, gDrop, gRet, gRetN, tS2, gIf, Wt.at, Wt.put, gAsg, gN, gsNil, gsCons, gT, gUnp, iS, iR1, iR2, gFor, tYs, kF', eCall, gNo, eDct0, outF, outS, entry, entryS, oI2, oCmp, oSub, oTupOf, oLstOf, oLen, iZ, iE, gApp, gPar, kPk, Option.bind_some, Option.map_some, Option.bind_none, Option.map_none, List.getElem?_cons_zero, List.getElem?_cons_succ, List.set_cons_zero, List.set_cons_succ, List.length_cons, List.length_nil, List.map_cons, List.map_nil, List.cons_append, List.nil_append, cond_true, cond_false, eStI, oEq_int, hz]
    cases hg : S.great with
    | cons j r =>
      obtain ⟨v, h0, h1, e⟩ := core { S with great := r, rest := j }
      have e1 : gSt 0 (fun S j => { S with rest := j }) (eIf (tGN 0) (eStP 0) (eCallS 0 FMixed 0 (aNil))) ⟨[.st, .v (.int room), .un], S⟩ = some (.nx ⟨[.st, .v (.int room), .un], { S with great := r, rest := j }⟩) := by
        simp [eK, eB, eC, eC2, kC, kC2, Wt.cont, Wt.freeze, kF, eF, eV, eD, aNil, aCons, eA, eTup, eLst, tK, tE, tNt, tAn, tOo, eIf, eAnd, eOr, eNot, gNx, gSq, kS, gDrop, gRet, gRetN, tS2, gIf, Wt.at, Wt.put, gAsg, gN, gsNil, gsCons, gT, gUnp, iS, iR1, iR2, gFor, tYs, kF', eCall, gNo, eDct0, outF, outS, entry, entryS, oI2, oCmp, oSub, oTupOf, oLstOf, oLen, iZ, iE, gApp, gPar, kPk, Option.bind_some, Option.map_some, Option.bind_none, Option.map_none, List.getElem?_cons_zero, List.getElem?_cons_succ, List.set_cons_zero, List.set_cons_succ, List.length_cons, List.length_nil, List.map_cons, List.map_nil, List.cons_append, List.nil_append, cond_true, cond_false, tGN, eStP, gSt, hg]
      refine ⟨v, { S with great := r, rest := j / room }, by unfold gDraw; rw [gSq_ok (gIf_t t1 e1) e]; rfl, h0, h1, h.1, ?_⟩
      show S.turn ≤ S.turn + 1
      omega
    | nil =>
      obtain ⟨m, em⟩ := mixed_ok S h
      obtain ⟨v, h0, h1, e⟩ := core { S with turn := S.turn + 1, rest := m }
      have e1 : gSt 0 (fun S j => { S with rest := j }) (eIf (tGN 0) (eStP 0) (eCallS 0 FMixed 0 (aNil))) ⟨[.st, .v (.int room), .un], S⟩ = some (.nx ⟨[.st, .v (.int room), .un], { S with turn := S.turn + 1, rest := m }⟩) := by
        simp [eK, eB, eC, eC2, kC, kC2, Wt.cont, Wt.freeze, kF, eF, eV, eD, aNil, aCons, eA, eTup, eLst, tK, tE, tNt, tAn, tOo, eIf, eAnd, eOr, eNot, gNx, gSq, kS, gDrop, gRet, gRetN, tS2, gIf, Wt.at, Wt.put, gAsg, gN, gsNil, gsCons, gT, gUnp, iS, iR1, iR2, gFor, tYs, kF', eCall, gNo, eDct0, outF, outS, entry, entryS, oI2, oCmp, oSub, oTupOf, oLstOf, oLen, iZ, iE, gApp, gPar, kPk, Option.bind_some, Option.map_some, Option.bind_none, Option.map_none, List.getElem?_cons_zero, List.getElem?_cons_succ, List.set_cons_zero, List.set_cons_succ, List.length_cons, List.length_nil, List.map_cons, List.map_nil, List.cons_append, List.nil_append, cond_true, cond_false, tGN, eStP, gSt, hg, eCallS, em]
      refine ⟨v, { S with turn := S.turn + 1, rest := m / room }, by unfold gDraw; rw [gSq_ok (gIf_t t1 e1) e]; rfl, h0, h1, ?_, ?_⟩
      · show 0 ≤ S.turn + 1
        omega
      · exact Int.le_refl _
  · have t1 : tE (eC2 (eStI 0 (fun S => S.rest)) (eD (.int 0)) oEq) ⟨[.st, .v (.int room), .un], S⟩ = some (.b false, ⟨[.st, .v (.int room), .un], S⟩) := by
      simp [eK, eB, eC, eC2, kC, kC2, Wt.cont, Wt.freeze, kF, eF, eV, eD, aNil, aCons, eA, eTup, eLst, tK, tE, tNt, tAn, tOo, eIf, eAnd, eOr, eNot, gNx, gSq, kS, gDrop, gRet, gRetN, tS2, gIf, Wt.at, Wt.put, gAsg, gN, gsNil, gsCons, gT, gUnp, iS, iR1, iR2, gFor, tYs, kF', eCall, gNo, eDct0, outF, outS, entry, entryS, oI2, oCmp, oSub, oTupOf, oLstOf, oLen, iZ, iE, gApp, gPar, kPk, Option.bind_some, Option.map_some, Option.bind_none, Option.map_none, List.getElem?_cons_zero, List.getElem?_cons_succ, List.set_cons_zero, List.set_cons_succ, List.length_cons, List.length_nil, List.map_cons, List.map_nil, List.cons_append, List.nil_append, cond_true, cond_false, eStI, oEq_int, hz]
    obtain ⟨v, h0, h1, e⟩ := core S
    refine ⟨v, { S with rest := S.rest / room }, by unfold gDraw; rw [gSq_ok (gIf_f t1 rfl) e]; rfl, h0, h1, h.1, ?_⟩
    show S.turn ≤ S.turn + 1
    omega
/-- one of a list -/
theorem pick_ok (S : Src) (ds : List PD) (h : 0 ≤ S.turn ∧ S.turn < 1000000000) (hr : ds ≠ [] ∧ ds.length < 1000000) : ∃ (d : PD) (S' : Src), FPick S [.list ds] = some (d, S') ∧ d ∈ ds ∧ 0 ≤ S'.turn ∧ S'.turn ≤ S.turn + 1 := by
  have hpos : 0 < ds.length := List.length_pos_iff.mpr hr.1
  obtain ⟨v, S', e, v0, v1, t0, t1⟩ := draw_ok S ds.length h (by omega)
  have hv : v.toNat < ds.length := by omega
  have hat : L2.atI ds v = some ds[v.toNat] := by
    have := atI_nat (List.getElem?_eq_getElem hv)
    rwa [show ((v.toNat : Nat) : Int) = v by omega] at this
  refine ⟨ds[v.toNat], S', ?_, List.getElem_mem hv, t0, t1⟩
  have e1 : eCallS 0 FDraw 1 (aCons (eC (eV 1) oLen) (aNil)) ⟨[.st, .v (.list ds)], S⟩ = some (.fz (.int v), ⟨[.st, .v (.list ds)], S'⟩) := eCallS_ok (w1 := ⟨[.st, .v (.list ds)], S⟩) rfl rfl rfl e
  have e2 : eC2 (eV 1) (eCallS 0 FDraw 1 (aCons (eC (eV 1) oLen) (aNil))) oIx ⟨[.st, .v (.list ds)], S⟩ = some (.fz ds[v.toNat], ⟨[.st, .v (.list ds)], S'⟩) := eC2_ok' (w1 := ⟨[.st, .v (.list ds)], S⟩) (.inl rfl) (.inl e1) (by
    show (L2.atI ds v).map R.fz = _
    rw [hat]; rfl)
  unfold FPick FSB
  show outS (gRet _ ⟨[.st, .v (.list ds)], S⟩) = _
  rw [gRet_fz e2]
  rfl
/-! ### the beginning -/
def gBegin : SF := gAsg 1 (eLC [2] (iSc 0) (gN 2) (tE (eC2 (eC (eV 2) oAbs) (eC2 (eD (.int 10)) (eD (.int 18)) oPow) oGe)) (eC2 (eC (eV 2) oAbs) (eC2 (eD (.int 10)) (eD (.int 18)) oPow) oSub))
def fBegin : EF := eLC [2] (iSc 0) (gN 2) (tYs) (eC (eV 2) oAbs)
def absD : PD → PD
  | .int c => .int (if c < 0 then -c else c)
  | _ => .none
def bigD : PD → Bool
  | .int c => decide (1000000000000000000 ≤ (if c < 0 then -c else c))
  | _ => false
def cutBig : PD → PD
  | .int c => .int ((if c < 0 then -c else c) - 1000000000000000000)
  | _ => .none
theorem pow18 : oPow (.int 10) (.int 18) = some (.fz (.int 1000000000000000000)) := rfl
theorem ev1_begin (ns : List Int) (hn : ns.length ≤ 63) : gBegin (entryB 3 ns) = some (.nx (midB 3 ns)) := by
  have e := eLC1 (v := 2) (fi := iSc 0) (tt := tE (eC2 (eC (eV 2) oAbs) (eC2 (eD (.int 10)) (eD (.int 18)) oPow) oGe)) (fe := eC2 (eC (eV 2) oAbs) (eC2 (eD (.int 10)) (eD (.int 18)) oPow) oSub) (w := ⟨[.sc ns, .un, .un], noSrc⟩) (w1 := ⟨[.sc ns, .un, .un], noSrc⟩) (ds := ns.map .int) bigD cutBig rfl rfl (by show 2 < 3; decide) (fun d hd => by
    obtain ⟨c, _, rfl⟩ := List.mem_map.mp hd
    refine ⟨?_, fun _ => ?_⟩
    · simp [eK, eB, eC, eC2, kC, kC2, Wt.cont, Wt.freeze, kF, eF, eV, eD, aNil, aCons, eA, eTup, eLst, tK, tE, tNt, tAn, tOo, eIf, eAnd, eOr, eNot, gNx, gSq, kS, gDrop, gRet, gRetN, tS2, gIf, Wt.at, Wt.put, gAsg, gN, gsNil, gsCons, gT, gUnp, iS, iR1, iR2, gFor, tYs, kF', eCall, gNo, eDct0, outF, outS, entry, entryS, oI2, oCmp, oSub, oTupOf, oLstOf, oLen, iZ, iE, gApp, gPar, kPk, Option.bind_some, Option.map_some, Option.bind_none, Option.map_none, List.getElem?_cons_zero, List.getElem?_cons_succ, List.set_cons_zero, List.set_cons_succ, List.length_cons, List.length_nil, List.map_cons, List.map_nil, List.cons_append, List.nil_append, cond_true, cond_false, oAbs, pow18, oCmp, bigD]
    · simp [eK, eB, eC, eC2, kC, kC2, Wt.cont, Wt.freeze, kF, eF, eV, eD, aNil, aCons, eA, eTup, eLst, tK, tE, tNt, tAn, tOo, eIf, eAnd, eOr, eNot, gNx, gSq, kS, gDrop, gRet, gRetN, tS2, gIf, Wt.at, Wt.put, gAsg, gN, gsNil, gsCons, gT, gUnp, iS, iR1, iR2, gFor, tYs, kF', eCall, gNo, eDct0, outF, outS, entry, entryS, oI2, oCmp, oSub, oTupOf, oLstOf, oLen, iZ, iE, gApp, gPar, kPk, Option.bind_some, Option.map_some, Option.bind_none, Option.map_none, List.getElem?_cons_zero, List.getElem?_cons_succ, List.set_cons_zero, List.set_cons_succ, List.length_cons, List.length_nil, List.map_cons, List.map_nil, List.cons_append, List.nil_append, cond_true, cond_false, oAbs, pow18, cutBig]) (by rw [List.length_map]; unfold lim; omega)
  show gAsg 1 _ ⟨[.sc ns, .un, .un], noSrc⟩ = _
  rw [gAsg_ow e (by show 1 < 3; decide)]
  have q : ((ns.map PyData.int).filter bigD).map cutBig = (srcOf ns).great.map PyData.int := by
    unfold srcOf
    dsimp only
    clear e hn
    induction ns with
    | nil => rfl
    | cons c r ih =>
      rw [List.map_cons, List.map_cons]
      have p1 : bigD (.int c) = decide (1000000000000000000 ≤ (if c < 0 then -c else c)) := rfl
      rw [List.filter_cons, List.filter_cons, p1]
      cases decide (1000000000000000000 ≤ (if c < 0 then -c else c)) with
      | true => rw [if_pos rfl, if_pos rfl, List.map_cons, List.map_cons, List.map_cons, ih]; rfl
      | false => rw [if_neg Bool.false_ne_true, if_neg Bool.false_ne_true, ih]
  rw [q]
  rfl
theorem ev2_begin (ns : List Int) (hn : ns.length ≤ 63) : fBegin (midB 3 ns) = some (.ow (.list ((srcOf ns).cells.map PyData.int)), midB 3 ns) := by
  have e := eLC1 (v := 2) (fi := iSc 0) (tt := tYs) (fe := eC (eV 2) oAbs) (w := midB 3 ns) (w1 := midB 3 ns) (ds := ns.map .int) (fun _ => true) absD rfl rfl (by show 2 < 3; decide) (fun d hd => by
    obtain ⟨c, _, rfl⟩ := List.mem_map.mp hd
    exact ⟨rfl, fun _ => rfl⟩) (by rw [List.length_map]; unfold lim; omega)
  rw [List.filter_eq_self.mpr (fun _ _ => rfl), List.map_map] at e
  refine e.trans ?_
  unfold srcOf
  dsimp only
  rw [List.map_map]
  rfl
end DL
set_option maxHeartbeats 1000000
/-! DL28: short words: the code object, the room, defs that show sets. -/
namespace DL
open PySem PySem.Spec PyProof.Rows L2
theorem kds_of {K : Fg} {cd : Value} {q : Str} (h : PySem.W.codeIn K cd q = true) : PySem.W.kdsCode K cd = true := by
  cases cd with
  | ref c =>
    unfold PySem.W.codeIn at h
    unfold PySem.W.kdsCode
    cases e : K.lookup c with
    | none => simp only [e] at h; cases h
    | some o =>
      obtain ⟨oc, od, dt, sl⟩ := o
      simp only [e] at h ⊢
      cases dt <;> first | rfl | (simp at h)
  | _ => cases h
theorem CdAt.kds {K : Fg} {f : Addr} {q : Str} {cdv : Value} (h : CdAt K f q cdv) : PySem.W.kdsCode K cdv = true := by
  obtain ⟨_, _, _, _, _, _, h⟩ := h
  exact kds_of h
theorem CdAt.code {K : Fg} {p : He.Defn} {q : Str} {cdv : Value} (h : CdAt K (He.fAd K p) q cdv) : cdv = .ref (He.codeOf K p) := by
  obtain ⟨oc, od, osl, fd, lk, e, h⟩ := h
  obtain ⟨c, rfl⟩ := He.codeIn_ref h
  rw [He.codeOf_eq lk e]
theorem Rm.mono {j k : Nat} {A : Around} (r : Rm k A) (h : j ≤ k) : Rm j A := ⟨r.room.mono h, r.gd⟩
section
variable {P : Program} {w : World} {K : Fg} {mg : Str → Option Value} {base : Heap}
/-- a def that shows a set -/
theorem fn_data0C {k n : Nat} {f : Addr} {name qual : Str} {params : Arguments} {body : List Stmt} {scope : Scope} {dvs : List V} {kws : List (Str × V)} {fd : FuncData} {N ps : List Str} {F : FF} {g : SF} (D : FunD K name qual params body scope dvs kws f fd) (S : FnScope N ps scope)
    (hn : ps.length = n) (hb : ∀ (cdv : Value), PySem.W.kdsCode K cdv = true → ∀ (A : Around) (outer : List Env) (s : Shared) (H : Hp) (E : XK), Rm k (cxOf CX0 P w K mg base N qual scope f cdv A outer s H E).nox.A → PSs (cxOf CX0 P w K mg base N qual scope f cdv A outer s H E).nox body (@tS ⟨none⟩ ⟨K, mg, E⟩ g))
    (ev : ∀ ds fr, ds.length = n → F ds = some fr → outF (g (entry N.length ds)) = some fr) : FnG P w K mg base CX0 (k + 1) f fd ps (spF K mg n F) := by
  refine FnG.of D S (fun vs H Q E h => ?_) fun cdv cda A outer s H vs Q E rm h => ?_
  · obtain ⟨G, ds, fr, _, hl, r, _⟩ := h
    rw [r.len, hl, hn]
  · obtain ⟨G, ds, fr, sm, hl, r, e, q⟩ := h
    refine ⟨_, (hb cdv cda.kds A outer s H E rm).nox, Gh.pure G, entry N.length ds, entry_ok sm r, ?_⟩
    have e2 := ev ds fr hl e
    cases y : g (entry N.length ds) with
    | none => rw [y] at e2; cases e2
    | some o =>
      rw [y] at e2
      refine ⟨o, rfl, ?_⟩
      cases o with
      | nx w1 =>
        cases e2
        exact fun σ' gh' H' s' k' => q .non gh' H' s' k'.sub (by simp [Rp])
      | rt d w1 =>
        cases e2
        exact fun σ' v gh' H' s' k' rv => q v gh' H' s' k'.sub rv
      | ex c x w1 =>
        cases e2
        exact fun σ' gh' H' s' k' => q gh' H' s' k'.sub
      | bk w1 => cases e2
      | ct w1 => cases e2
end
end DL
namespace DL
open PySem PySem.Spec PyProof.Rows L2
variable [TbC]
section
variable {T : Tx} {X : Cx} {a : Expr} {f : EF} {pos p : Pos}
/-- sorted(x), x a short list of ints -/
def oSrt (d : PD) : Option R := match d with
  | .list ds => if ds.length < 64 then (intsD ds).map fun ns => .ow (.list ((sortS ns).map PyData.int)) else none
  | _ => none
theorem oSrt_ok : OpC T oSrt (fun v H Q => rSorted T.K [v] H Q) := fun gh0 gh H0 H σ w v d Q s k c z => by
  unfold oSrt at z
  split at z
  · split at z
    · rename_i ds hl
      cases e : intsD ds with
      | none => rw [e] at z; exact z.none
      | some ns =>
        rw [e] at z
        obtain ⟨a, rfl, q1⟩ := c.intsL k.sub e
        refine ⟨a, ns, rfl, .of q1, by rw [intsD_map e, List.length_map] at hl; exact hl, fun ms q h1 h2 hq => ?_⟩
        have e1 : ms = sortS ns := le_eq h2 (sortS_le ns) (h1.trans (sortS_perm ns).symm)
        subst e1
        exact z.lst s k (RpA.ints _) hq
    · exact z.none
  · exact z.none
theorem d_srt (hm : X.mg "sorted" = none) (ha : PE X a (tD T f)) (hK : T.K = X.K := by rfl) (hg : Gl X "sorted" := by rfl) (hs : starEach [a] X.env = (false, eval a X.env) :: starEach [] X.env := by rfl) : PE X (.Call (.Name "sorted" p) [a] [] pos) (tD T (eC f oSrt)) :=
  d_b1 cr_sorted (hK ▸ oSrt_ok) hm ha (by first | rfl | decide +kernel) (hg := hg) (hs := hs)
end
end DL
namespace DL
open PySem PySem.Spec PyProof.Rows L2
theorem qual_cx {P : Program} {w : World} {K : Fg} {mg : Str → Option Value} {base : Heap} {N : List Str} {qual : Str} {scope : Scope} {f : Addr} {cdv : Value} {A : Around} {outer : List Env} {s : Shared} {H : Hp} {E : XK} : (cxOf CX0 P w K mg base N qual scope f cdv A outer s H E).nox.env.qual = qual ++ ".<locals>." := rfl
theorem tbx_of {P : Program} {w : World} {K : Fg} {mg : Str → Option Value} {base : Heap} {N : List Str} {qual : Str} {scope : Scope} {f : Addr} {cdv : Value} {A : Around} {outer : List Env} {s : Shared} {H : Hp} {E : XK} {c pt : Addr} (tab : LamX.TabB base mg c pt) (e : cdv = .ref c) :
    @TbX ⟨some (pt, (qual ++ ".<locals>.") ++ "<lambda>")⟩ (cxOf CX0 P w K mg base N qual scope f cdv A outer s H E).nox c pt := by
  refine @TbX.mk ⟨some (pt, (qual ++ ".<locals>.") ++ "<lambda>")⟩ _ _ _ ?_ tab e
  show some (pt, (qual ++ ".<locals>.") ++ "<lambda>") = some (pt, lamQ _)
  unfold lamQ
  rw [qual_cx]
end DL
/-! DL29: what is looked at of a class of errors. -/
namespace DL
open PySem PySem.Spec PyProof.Rows L2
def eqV2 (a b : Option (Option Value)) : Bool := decide (a = b)
def clsB (K : PySem.W.Frag) (D : Addr) : Bool :=
  eqV2 (PySem.W.findIn K (.ref D) "__getattribute__") (some (some (.builtin "BaseException.__getattribute__"))) && (eqV2 (PySem.W.findIn K (.ref D) "__getattr__") (some none) && (decide (PySem.W.subIn K (.ref D) (.type "BaseException") = some true) && (PySem.W.hasDictIn K D && (
  eqV2 (PySem.W.findIn K (.ref D) "__class__") (some (some (.builtin "object.__class__"))) && (eqV2 (PySem.W.specialIn K (.builtin "object.__class__") "__get__") (some (some (.builtin "getset_descriptor.__get__"))) && (decide (PySem.W.takesIn K (.builtin "object.__class__") = some true) && (decide (PySem.W.mroIn K D (.type "object") = some true) &&
  decide (PySem.W.kitOne K (.ref D) (.ref D) = some true))))))))
theorem clsB_ok {K : PySem.W.Frag} {D : Addr} (h : clsB K D = true) : ExcC K D ∧ PySem.W.kitOne K (.ref D) (.ref D) = some true := by
  unfold clsB eqV2 at h
  simp only [Bool.and_eq_true, decide_eq_true_eq] at h
  obtain ⟨h1, h2, h3, h4, h5, h6, h7, h8, h9⟩ := h
  exact ⟨⟨h1, h2, h3, h4, h5, h6, h7, h8⟩, h9⟩
end DL
set_option maxHeartbeats 4000000
/-! DL30: sorted of a list of tuples of ints whose first is the empty one. -/
namespace DL
open PySem PySem.Spec PySem.W PySem.Calls PyProof.Rows L2
/-- v is a tuple of these ints -/
def IsTI (h : Heap) (v : Value) (ns : List Int) : Prop := ∃ (a : Addr) (dd : Option Addr) (items : Array Value) (n : Nat) (sl : Array (Option Value)), v = .ref a ∧ h.get? a = some { cls := .type "tuple", dict := dd, data := .seq items n, slots := sl } ∧ IntsAre items.toList ns
theorem IsTI.keeps {h h' : Heap} {v : Value} {ns : List Int} (x : IsTI h v ns) (k : ∀ b o, v = .ref b → h.get? b = some o → h'.get? b = some o) : IsTI h' v ns := by
  obtain ⟨a, dd, items, n, sl, e, g, i⟩ := x
  exact ⟨a, dd, items, n, sl, e, k _ _ e g, i⟩
theorem IsTI.type {M : Model} {h : Heap} {v : Value} {ns : List Int} (x : IsTI h v ns) : Looks M h (typeOf v) (.type "tuple") := by
  obtain ⟨a, dd, items, n, sl, rfl, g, i⟩ := x
  exact (Looks.ld g).andThen .now
section
variable {prog : Program} {w : World} {A : Around} {E : Value → Shared → Prop} {s : Shared}
theorem lt_ti {v u : Value} {ns ms : List Int} {Q : Bool → Shared → Prop} (hu : A.units < cLine) (hv : IsTI s.heap v ns) (hw : IsTI s.heap u ms) (h : Q (HT.lexLt ns ms) s) : wpAny (model prog w) A (keyLt' oneType' v u) Q E s := by
  have tv : Looks (model prog w) s.heap (typeOf v) (.type "tuple") := hv.type
  have sp : Looks (model prog w) s.heap (specialOf v "__lt__") (some (.builtin "tuple.__lt__")) := tv.andThen (Looks.of_pure PySem.F.slot_tuple_lt.lookup)
  have iv : Looks (model prog w) s.heap (isInstance v (.type "tuple")) true := tv.andThen (Looks.of_pure isSubtype_tuple_tuple)
  have iu : ∀ M : Model, Looks M s.heap (isInstance u (.type "tuple")) true := fun M => (hw.type (M := M)).andThen (Looks.of_pure isSubtype_tuple_tuple)
  obtain ⟨a, dd, items, n, sl, rfl, ga, ia⟩ := hv
  obtain ⟨b, dd2, items2, n2, sl2, rfl, gb, ib⟩ := hw
  have cl : ∀ {E' : Value → Shared → Prop} {A' : Around} {Q' : Value → Shared → Prop}, Q' (.bool (HT.lexLt ns ms)) s → wpAny (model prog w) A' (call (.builtin "tuple.__lt__") [.ref a, .ref b]) Q' E' s := fun {E' A' Q'} q =>
    wpAny_call (codeAny_call_builtin PySem.F.slot_tuple_lt.plain PySem.F.entry_tuple_lt (PySem.F.slot_tuple_lt.check (model prog w) _ _ _ (.ref a) [.ref b] [] _ ⟨_, ga, rfl⟩ (PySem.F.args_tuple_lt_2 _ _) (by
      refine wpAny_mono (NtL.nt_lt_ints a b (.type "tuple") (.type "tuple") items items2 n n2 dd dd2 sl sl2 ns ms ia ib prog w _ (wants Q' E') s ⟨ga, gb, iu, q⟩) (fun fin s' q => ?_) fun _ _ z => z
      cases fin with
      | done f => exact q
      | again c => exact q)))
  rw [keyLt'_oneType, oneLt'_eq]
  simp only [if_true]
  refine wpAny_bind (wpAny_cRoomFor hu ?_)
  refine wpAny_bind (NtL.csib (E := E) sp (PySem.F.slot_tuple_lt.bind _) (cl ?_))
  exact wpAny_truthy_bool h
end
section
variable {M : Model} {A : Around} {E : Value → Shared → Prop} {s : Shared}
theorem first_ti {v : Value} {ns : List Int} {Q : Option Value → Shared → Prop} (x : IsTI s.heap v ns) (h : ∀ r, (ns = [] → r = none) → Q r s) : wpAny M A (firstOfTuple' v) Q E s := by
  have t := x.type (M := M)
  obtain ⟨a, dd, items, n, sl, rfl, g, i⟩ := x
  rw [kas_first_eq]
  refine wpAny_bind (Looks.here t ?_)
  rw [if_neg (by first | decide | simp)]
  refine wpAny_bind (listItems_at g rfl (wpAny_pure (h _ fun e => ?_)))
  subst e
  have hl : items.toList = [] := by
    cases hh : items.toList with
    | nil => rfl
    | cons y r => rw [hh] at i; cases i
  rw [← Array.getElem?_toList, hl]
  rfl
theorem firsts_ti : ∀ (vs : List Value) {Q : List (Option Value) → Shared → Prop}, (∀ v ∈ vs, ∃ ns, IsTI s.heap v ns) → (∀ rs, Q rs s) → wpAny M A (vs.mapM firstOfTuple') Q E s
  | [], _, _, h => by rw [List.mapM_nil]; exact wpAny_pure (h _)
  | v :: vs, Q, t, h => by
    obtain ⟨ns, x⟩ := t v List.mem_cons_self
    rw [List.mapM_cons]
    refine wpAny_bind (first_ti x fun r _ => wpAny_bind (firsts_ti vs (Q := fun bs s' => wpAny M A (pure (r :: bs)) Q E s') (fun v hv => t v (List.mem_cons_of_mem _ hv)) fun rs => wpAny_pure (h _)))
theorem kind_ti {v0 : Value} {rest : List Value} {Q : SortKind → Shared → Prop} (h0 : IsTI s.heap v0 []) (t : ∀ v ∈ v0 :: rest, ∃ ns, IsTI s.heap v ns) (h : Q oneType' s) : wpAny M A (keyKind' (v0 :: rest).toArray) Q E s := by
  rw [keyKind'_eq, List.mapM_toArray, map_eq_pure_bind]
  refine wpAny_bind (wpAny_bind ?_)
  rw [List.mapM_cons]
  refine wpAny_bind (first_ti h0 fun r hr => wpAny_bind (firsts_ti rest (fun v hv => t v (List.mem_cons_of_mem _ hv)) fun rs => wpAny_pure (wpAny_pure ?_)))
  rw [hr rfl]
  rw [if_neg (by simp), if_neg (by simp)]
  rw [oneTypeOnly'_eq, List.mapM_toArray, map_eq_pure_bind]
  refine wpAny_bind (wpAny_bind (wpAny_bind (kas_mapM (r := Value.type "tuple") _ (fun v hv Q' hq => by
    obtain ⟨ns, x⟩ := t v hv
    exact x.type.here hq) (wpAny_pure ?_))))
  have hall : ((List.map (fun _ => Value.type "tuple") (v0 :: rest)).toArray.all fun x => x == Value.type "tuple") = true := by
    simp only [List.all_toArray, List.all_map, List.all_eq_true]
    intro _ _
    rfl
  have e0 : (List.map (fun _ => Value.type "tuple") (v0 :: rest)).toArray[0]? = some (Value.type "tuple") := by simp
  rw [e0]
  simp only [hall, if_true]
  exact wpAny_pure (wpAny_pure h)
end
section
variable {prog : Program} {w : World} {A : Around} {s : Shared}
theorem ti_sortable {a : Addr} {v0 : Value} {rest : List Value} {k : Value → List Int} (hu : A.units < cLine) (hk0 : k v0 = []) (hv : ∀ v ∈ v0 :: rest, IsTI s.heap v (k v)) (ha : ∀ v ∈ v0 :: rest, v ≠ .ref a) :
    SrtO.SortableO prog w A s a (v0 :: rest) fun v u => HT.lexLt (k v) (k u) := by
  intro h' keep
  have hv' : ∀ v ∈ v0 :: rest, IsTI h' v (k v) := fun v hm => (hv v hm).keeps fun b o e g => keep b o (fun z => ha v hm (by rw [e, z])) g
  refine ⟨oneType', fun Q E hq => ?_, fun p q hp hq => ?_⟩
  · have z := hv' v0 List.mem_cons_self
    rw [hk0] at z
    exact kind_ti (s := { s with heap := h' }) z (fun v hm => ⟨_, hv' v hm⟩) hq
  · exact lt_ti (s := { s with heap := h' }) (Q := fun r s' => s' = { s with heap := h' } ∧ r = HT.lexLt (k p.1) (k q.1)) (E := fun _ _ => False) hu (hv' p.1 hp) (hv' q.1 hq) ⟨rfl, rfl⟩
end
end DL
namespace DL
open PySem PySem.Spec PyProof.Rows L2
/-- sorted(xs), xs tuples of ints, the first one empty -/
def rSortedT (K : Fg) : List V → Hp → VK → Prop := fun vs H Q => ∃ (a t0 : Addr) (ts : List Addr) (k : Addr → List Int), vs = [V.ref a] ∧ SqL K H a ((t0 :: ts).map V.ref) ∧ k t0 = [] ∧ (∀ t ∈ t0 :: ts, SqT K H t ((k t).map V.int)) ∧
  ∀ (ts' : List Addr) (p : Addr), ts'.Perm (t0 :: ts) → ts'.Pairwise (fun x y => HT.lexLt (k y) (k x) = false) → H p = none → Q (.ref p) (upd H p (.lst (ts'.map V.ref)))
section
variable {X : Cx}
theorem cr_sortedT (hu : X.A.units + 64 < cLine) : CallR X (.builtin "sorted") (rSortedT X.K) := by
  intro pins s σ H vs us Q I r h
  obtain ⟨a, t0, ts, k, rfl, hs, hk0, ht, q⟩ := h
  obtain ⟨its, rv, hl, hz⟩ := I.list hs
  have ei := nts_of rv
  rw [Vals.ref1 r]
  have hv : ∀ u ∈ its, IsTI s.heap u (k (adO u)) := fun u hm => by
    rw [ei] at hm
    obtain ⟨t, htm, rfl⟩ := List.mem_map.mp hm
    obtain ⟨its2, rv2, ⟨o, ho, hc, n, hd⟩, _⟩ := I.tuple (ht t htm)
    obtain ⟨cls, dict, data, slots⟩ := o
    simp only at hc hd
    subst hc hd
    exact ⟨t, dict, its2.toArray, n, slots, rfl, ho, by show IntsAre _ (k t); simpa using rv2.ints⟩
  have hk0' : k (adO (Value.ref t0)) = [] := hk0
  rw [List.map_cons] at ei
  subst ei
  refine SrtO.sorted_ord (NtL.swo_lexL fun u => k (adO u)) hl.isList (by rw [← rv.length]; exact hz) (fun h2 h₁ a' ho' hkeep => ti_sortable (s := { s with heap := h₁ }) (by show X.A.units + _ + _ < cLine; omega) hk0' (fun v hm => (hv v hm).keeps fun b o e g => (hkeep b o g).2) (fun v hm z => by
    obtain ⟨b, dd, items, n, sl, e, g, i⟩ := hv v hm
    exact (hkeep b _ g).1 (by rw [e] at z; exact Value.ref.inj z))) fun out h1 h2 => ?_
  obtain ⟨ep, he'⟩ := PyProof.Rows.sortedAll_at s.heap (Value.ref t0 :: ts.map Value.ref) out.toArray
  have hm : ∀ u ∈ out, ∃ t, u = Value.ref t := fun u hu' => by
    have hu2 := h2.perm.mem_iff.mp hu'
    obtain ⟨b, dd, items, n, sl, e, g, i⟩ := hv u hu2
    exact ⟨b, e⟩
  have eo : out = (out.map adO).map Value.ref := ref_map hm
  have hp : (out.map adO).Perm (t0 :: ts) := by
    have p1 := h2.perm.map adO
    rw [List.map_cons, ad_map] at p1
    exact p1
  have hs' : (out.map adO).Pairwise (fun x y => HT.lexLt (k y) (k x) = false) := List.pairwise_map.mpr (h1.imp fun {x y} z => z)
  have hlen : ((out.map adO).map V.ref).length ≤ sizeLine := by
    rw [List.length_map, hp.length_eq]
    rw [List.length_map] at hz
    exact hz
  have rvo : Vals ((out.map adO).map V.ref) out := by
    have z := of_nts (out.map adO)
    rw [← eo] at z
    exact z
  exact ⟨.ref _, upd H (s.heap.objs.size + 1) (.lst ((out.map adO).map V.ref)), I.laid (t' := s.toks) (fun _ _ => PyProof.Rows.sortedAll_old) (Nat.le_succ _) ⟨hlen, out, ep, rvo, he'⟩, rfl, q _ _ hp hs' (I.hok.fresh (Nat.le_succ _))⟩
end
end DL
set_option maxHeartbeats 4000000
/-! DL31: sorted of tuples of ints, as data. -/
namespace DL
open PySem PySem.Spec PyProof.Rows L2
/-! ### the order of tuples -/
theorem lex_anti : ∀ xs ys : List Int, HT.lexLt ys xs = false → HT.lexLt xs ys = false → xs = ys
  | [], [], _, _ => rfl
  | [], y :: ys, _, h => by rw [HT.lexLt_nil_cons] at h; cases h
  | x :: xs, [], h, _ => by rw [HT.lexLt_nil_cons] at h; cases h
  | x :: xs, y :: ys, h1, h2 => by
    rw [HT.lexLt_cons] at h1 h2
    by_cases e : x = y
    · subst e
      rw [if_pos rfl] at h1 h2
      rw [lex_anti xs ys h1 h2]
    · rw [if_neg (fun z => e z.symm)] at h1
      rw [if_neg e] at h2
      have a := of_decide_eq_false h1
      have b := of_decide_eq_false h2
      omega
def insT (k : List Int) : List (List Int) → List (List Int)
  | [] => [k]
  | x :: r => if HT.lexLt x k = true then x :: insT k r else k :: x :: r
def sortT (fs : List (List Int)) : List (List Int) := fs.foldr insT []
theorem insT_perm (k : List Int) : ∀ l, (insT k l).Perm (k :: l)
  | [] => List.Perm.refl _
  | x :: r => by
    unfold insT
    split
    · exact ((insT_perm k r).cons x).trans (List.Perm.swap k x r)
    · exact List.Perm.refl _
theorem sortT_perm : ∀ l, (sortT l).Perm l
  | [] => List.Perm.refl _
  | x :: r => (insT_perm x (sortT r)).trans ((sortT_perm r).cons x)
abbrev LeT (x y : List Int) : Prop := HT.lexLt y x = false
theorem lex_flip {x y : List Int} (h : HT.lexLt x y = true) : HT.lexLt y x = false := NtL.lex_asym x y h
theorem insT_le (k : List Int) : ∀ l, l.Pairwise LeT → (insT k l).Pairwise LeT
  | [], _ => List.pairwise_singleton _ _
  | x :: r, h => by
    obtain ⟨h1, h2⟩ := List.pairwise_cons.mp h
    unfold insT
    split
    · rename_i q
      refine List.pairwise_cons.mpr ⟨fun y hy => ?_, insT_le k r h2⟩
      rcases List.mem_cons.mp ((insT_perm k r).mem_iff.mp hy) with e | e
      · subst e; exact lex_flip q
      · exact h1 y e
    · rename_i q
      have q : HT.lexLt x k = false := by simpa using q
      refine List.pairwise_cons.mpr ⟨fun y hy => ?_, h⟩
      rcases List.mem_cons.mp hy with e | e
      · subst e; exact q
      · exact NtL.lex_tr k x y q (h1 y e)
theorem sortT_le : ∀ l, (sortT l).Pairwise LeT
  | [] => List.Pairwise.nil
  | x :: r => insT_le x _ (sortT_le r)
theorem sortT_uniq {l m : List (List Int)} (h : l.Pairwise LeT) (p : l.Perm m) : l = sortT m :=
  (p.trans (sortT_perm m).symm).eq_of_pairwise (fun x y _ _ h1 h2 => lex_anti x y h1 h2) h (sortT_le m)
/-! ### by pairs of an address and its ints -/
def rSortedP (K : Fg) : List V → Hp → VK → Prop := fun vs H Q => ∃ (a : Addr) (p0 : Addr) (ps : List (Addr × List Int)), vs = [V.ref a] ∧ SqL K H a (((p0, []) :: ps).map fun p => V.ref p.1) ∧ (∀ p ∈ (p0, []) :: ps, SqT K H p.1 (p.2.map V.int)) ∧
  ∀ (ps' : List (Addr × List Int)) (q : Addr), ps'.Perm ((p0, []) :: ps) → ps'.Pairwise (fun x y => LeT x.2 y.2) → H q = none → Q (.ref q) (upd H q (.lst (ps'.map fun p => V.ref p.1)))
theorem vint_inj {ns ms : List Int} (h : ns.map V.int = ms.map V.int) : ns = ms := (List.map_inj_right (fun _ _ e => V.int.inj e)).mp h
noncomputable def kOf (K : Fg) (H : Hp) (t : Addr) : List Int := @dite _ (∃ ns : List Int, SqT K H t (ns.map V.int)) (Classical.propDecidable _) (fun h => Classical.choose h) fun _ => []
section
variable {X : Cx}
theorem kOf_eq {pins : List (Addr × Obj)} {σ : L2.St} {H : Hp} {s : Shared} {t : Addr} {ns : List Int} (I : L2.Inv X pins σ H s) (h : SqT X.K H t (ns.map V.int)) : kOf X.K H t = ns := by
  have hx : ∃ ns : List Int, SqT X.K H t (ns.map V.int) := ⟨ns, h⟩
  unfold kOf
  rw [dif_pos hx]
  exact vint_inj (I.tuple_inj (Classical.choose_spec hx) h)
theorem cr_sortedP (hu : X.A.units + 64 < cLine) : CallR X (.builtin "sorted") (rSortedP X.K) := by
  intro pins s σ H vs us Q I r h
  obtain ⟨a, p0, ps, rfl, hs, ht, q⟩ := h
  have hk : ∀ p ∈ (p0, []) :: ps, kOf X.K H p.1 = p.2 := fun p hp => kOf_eq I (ht p hp)
  have hm : ∀ l : List (Addr × List Int), (∀ p ∈ l, kOf X.K H p.1 = p.2) → (l.map fun p => p.1).map (fun t => (t, kOf X.K H t)) = l := fun l hl => by
    rw [List.map_map]
    refine (List.map_congr_left fun p hp => ?_).trans (List.map_id l)
    show (p.1, kOf X.K H p.1) = p
    rw [hl p hp]
  refine cr_sortedT hu pins s σ H _ us Q I r ⟨a, p0, ps.map fun p => p.1, kOf X.K H, rfl, ?_, hk (p0, []) List.mem_cons_self, fun t htm => ?_, fun ts' q' h1 h2 h3 => ?_⟩
  · have e : ((p0 :: ps.map fun p => p.1).map V.ref) = (((p0, []) :: ps).map fun p => V.ref p.1) := by
      rw [List.map_cons, List.map_map, List.map_cons]
      rfl
    rw [e]
    exact hs
  · have htm : t ∈ ((p0, ([] : List Int)) :: ps).map fun p => p.1 := htm
    obtain ⟨p, hp, rfl⟩ := List.mem_map.mp htm
    rw [hk p hp]
    exact ht p hp
  · have e : ts'.map V.ref = (ts'.map fun t => (t, kOf X.K H t)).map fun p => V.ref p.1 := by
      rw [List.map_map]
      rfl
    rw [e]
    refine q _ q' ?_ (List.pairwise_map.mpr (h2.imp fun {x y} z => z)) h3
    have p1 := h1.map fun t => (t, kOf X.K H t)
    have e2 := hm ((p0, []) :: ps) hk
    rw [List.map_cons] at e2
    rw [e2] at p1
    exact p1
end
/-! ### as data -/
def tupI (f : List Int) : PD := .tuple (f.map PyData.int)
def tupsD : List PD → Option (List (List Int))
  | [] => some []
  | .tuple ds :: r => (intsD ds).bind fun ns => (tupsD r).map fun fs => ns :: fs
  | _ => none
theorem tupsD_map : ∀ {ds : List PD} {fs : List (List Int)}, tupsD ds = some fs → ds = fs.map tupI
  | [], fs, e => by cases e; rfl
  | d :: r, fs, e => by
    cases d with
    | tuple xs =>
      have e : ((intsD xs).bind fun ns => (tupsD r).map fun fs => ns :: fs) = some fs := e
      cases e1 : intsD xs with
      | none => rw [e1] at e; cases e
      | some ns =>
        rw [e1, Option.bind_some] at e
        cases e2 : tupsD r with
        | none => rw [e2] at e; cases e
        | some gs =>
          rw [e2] at e
          cases e
          rw [tupsD_map e2, intsD_map e1]
          rfl
    | _ => cases e
theorem tupsD_of : ∀ fs : List (List Int), tupsD (fs.map tupI) = some fs
  | [] => rfl
  | f :: fs => by
    show ((intsD (f.map PyData.int)).bind fun ns => (tupsD (fs.map tupI)).map fun fs => ns :: fs) = _
    rw [intsD_of_map, tupsD_of fs]
    rfl
variable [TbC]
section
variable {T : Tx} {X : Cx} {a : Expr} {f : EF} {pos p : Pos}
/-- sorted(x), x a list of tuples of ints, the empty one ahead -/
def oSrtT (d : PD) : Option R := match d with
  | .list ds => (match tupsD ds with
    | some ([] :: fs) => some (.ow (.list ((sortT ([] :: fs)).map tupI)))
    | _ => none)
  | _ => none
theorem pairs_of {K : Fg} {G : Hp} : ∀ {fs : List (List Int)} {xs : List V}, RpA K G (fs.map tupI) xs → ∃ ps : List (Addr × List Int), xs = (ps.map fun p => V.ref p.1) ∧ fs = (ps.map fun p => p.2) ∧ ∀ p ∈ ps, SqT K G p.1 (p.2.map V.int)
  | [], xs, h => by
    simp only [List.map_nil, RpA] at h
    exact ⟨[], h, rfl, fun _ z => nomatch z⟩
  | f :: fs, xs, h => by
    rw [List.map_cons] at h
    simp only [RpA] at h
    obtain ⟨x, r, rfl, h1, h2⟩ := h
    obtain ⟨ps, rfl, rfl, h3⟩ := pairs_of h2
    unfold tupI at h1
    simp only [Rp] at h1
    obtain ⟨t, ys, rfl, q1, q2⟩ := h1
    have e := RpA.of_ints q2
    subst e
    refine ⟨(t, f) :: ps, rfl, rfl, fun p hp => ?_⟩
    rcases List.mem_cons.mp hp with z | z
    · subst z; exact q1
    · exact h3 p z
theorem of_pairs {K : Fg} {G : Hp} : ∀ {ps : List (Addr × List Int)}, (∀ p ∈ ps, SqT K G p.1 (p.2.map V.int)) → RpA K G ((ps.map fun p => p.2).map tupI) (ps.map fun p => V.ref p.1)
  | [], _ => RpA.nil
  | p :: ps, h => by
    rw [List.map_cons, List.map_cons, List.map_cons]
    exact RpA.cons (rp_tup (h p List.mem_cons_self) (RpA.ints _)) (of_pairs fun q hq => h q (List.mem_cons_of_mem _ hq))
theorem oSrtT_ok : OpC T oSrtT (fun v H Q => rSortedP T.K [v] H Q) := fun gh0 gh H0 H σ w v d Q s k c z => by
  unfold oSrtT at z
  split at z
  · rename_i ds
    split at z
    · rename_i fs e
      obtain ⟨a, xs, rfl, q1, r1⟩ := c.list k.sub
      rw [tupsD_map e] at r1
      obtain ⟨ps, rfl, e2, h3⟩ := pairs_of r1
      cases ps with
      | nil => cases e2
      | cons p0 ps =>
        obtain ⟨t0, f0⟩ := p0
        rw [List.map_cons] at e2
        injection e2 with e3 e4
        have e3 : f0 = [] := e3.symm
        subst e3 e4
        refine ⟨a, t0, ps, rfl, .inl (.of q1), fun p hp => sqT_mono k.sub (h3 p hp), fun ps' q h1 h2 hq => ?_⟩
        have e5 : (ps'.map fun p => p.2) = sortT ([] :: ps.map fun p => p.2) := sortT_uniq (List.pairwise_map.mpr h2) (h1.map fun p => p.2)
        have r2 := of_pairs (ps := ps') fun p hp => h3 p (h1.mem_iff.mp hp)
        rw [e5] at r2
        exact z.lst s k r2 hq
    · exact z.none
  · exact z.none
theorem d_srtT {k : Nat} (rm : Rm k X.A) (hm : X.mg "sorted" = none) (ha : PE X a (tD T f)) (hK : T.K = X.K := by rfl) (hg : Gl X "sorted" := by rfl) (hs : starEach [a] X.env = (false, eval a X.env) :: starEach [] X.env := by rfl) : PE X (.Call (.Name "sorted" p) [a] [] pos) (tD T (eC f oSrtT)) :=
  d_b1 (cr_sortedP (by have := un180 rm; omega)) (hK ▸ oSrtT_ok) hm ha (by first | rfl | decide +kernel) (hg := hg) (hs := hs)
end
end DL
set_option maxHeartbeats 4000000
/-! DL32: a comprehension over an own list that stays one's own; +=; pop. -/
namespace DL
open PySem PySem.Spec PyProof.Rows L2
variable [TbC]
section
variable {T : Tx} {X : Cx} {gh gh0 : Gh} {H H0 : Hp} {σ : L2.St} {w : Wt}
def ownIs (w : Wt) (j : Nat) (ds : List PD) : Bool := match w.sl[j]? with
  | some (.o d) => peqN d (.list ds)
  | _ => false
omit [TbC] in
theorem ownIs_ok {w : Wt} {j : Nat} {ds : List PD} (h : ownIs w j ds = true) : ∃ d, w.sl[j]? = some (.o d) ∧ d = .list ds := by
  unfold ownIs at h
  split at h
  · rename_i d e
    exact ⟨d, e, peqN_ok _ _ h⟩
  · cases h
def tgO (j : Nat) (ds : List PD) (tg : TgF) : TgF := fun d w => if ownIs w j ds = true then tg d w else none
def eLCo (vs : List Nat) (j : Nat) (tg : TgF) (tt : TFn) (fe : EF) : EF := fun w => match w.sl[j]? with
  | some (.o (.list ds)) => if plainW w vs = true then (match lcL vs (tgO j ds tg) tt fe ds (w.wipe vs) [] with
    | some (acc, w2) => if ownIs w2 j ds = true then some (.ow (.list acc), w.rest w2 vs) else none
    | none => none) else none
  | _ => none
theorem lcO_le {vs ixs : List Nat} {jj : Nat} {tg : TgF} {tt : TFn} {fe : EF} (hx : ∀ j ∈ ixs, j ∈ vs) (σ : L2.St) (H : Hp) (Q : VK) (h : tD T (eLCo vs jj tg tt fe) σ H Q) : tLc (iSeq T.K (tVar jj)) (tG T ixs tg) (tT T tt) (tD T (eF fe)) vs σ H Q := by
  obtain ⟨gh, w, k, z⟩ := h
  unfold eLCo at z
  split at z
  · rename_i ds y
    split at z
    · rename_i hp
      cases y2 : lcL vs (tgO jj ds tg) tt fe ds (w.wipe vs) [] with
      | none => rw [y2] at z; exact z.none
      | some q =>
        obtain ⟨acc, w2⟩ := q
        rw [y2] at z
        dsimp only at z
        split at z
        case isFalse => exact z.none
        rename_i how
        obtain ⟨r', w', er, _, fin⟩ := z
        cases er
        obtain ⟨la, ow0, sg, xs0, hx0, rx0⟩ := k.own jj _ y
        have hjv : jj ∉ vs := fun hj => by
          have := List.all_eq_true.mp hp jj hj
          rw [y] at this
          cases this
        have own : ∀ {g2 : Gh} {H2 : Hp} {wi : Wt}, Ok T.K g2 H2 (L2.wipe σ vs) wi → ownIs wi jj ds = true → ∃ xs, H2 la = some (.lst xs) ∧ RpA T.K g2.G ds xs := fun {g2 H2 wi} k2 ho => by
          obtain ⟨d, e1, e2⟩ := ownIs_ok ho
          subst e2
          obtain ⟨a', p0, p1, xs, hx1, rx1⟩ := k2.own jj _ e1
          rw [wipe_out hjv, sg] at p1
          cases p1
          exact ⟨xs, hx1, rx1⟩
        refine ⟨.ref la, sg, la, rfl, .inl ⟨⟨xs0, .of hx0⟩, ?_⟩⟩
        have s : Stp gh H gh H := Stp.refl _ _
        have k' := k
        intro D hD
        have kD := k'.grow hD (.lst [])
        have sD : Stp gh H gh (upd H D (.lst [])) := Stp.grow (K := T.K) hD _
        refine ⟨fun j m H2 => ∃ (g2 : Gh) (wi : Wt) (pre : List PD) (xs : List V), Stp gh H g2 H2 ∧ Ok T.K g2 H2 (L2.wipe σ vs) wi ∧ (∀ i, i ∈ vs → i < wi.sl.length → wi.sl[i]? = some .un) ∧ m = ds.length - j ∧
          H2 D = some (.lst xs) ∧ RpA T.K g2.G pre xs ∧ g2.G D = none ∧ ¬ g2.M D ∧ lcL vs (tgO jj ds tg) tt fe (ds.drop j) wi pre = some (acc, w2),
          ⟨ds.length, gh, w.wipe vs, [], [], sD, kD.into hp, wiped_un, by omega, upd_same, RpA.nil, k'.nog hD, k'.nom hD, y2⟩, ?_⟩
        rintro j m H2 ⟨g2, wi, pre, xs, s2, k2, hu, em, hDl, rp, nG, nM, ev⟩
        by_cases hj : j < ds.length
        · refine .inr ?_
          have hd : ds[j]? = some ds[j] := List.getElem?_eq_getElem hj
          rw [List.drop_eq_getElem_cons hj] at ev
          have hoi : ownIs wi jj ds = true := by
            cases q : ownIs wi jj ds with
            | true => rfl
            | false =>
              unfold lcL tgO at ev
              rw [q] at ev
              cases ev
          obtain ⟨ys, hys, rys⟩ := own k2 hoi
          obtain ⟨x1, hx1, rx1⟩ := rys.get hd
          have g0 : (Itl T.K la).go j H2 := ⟨ys, x1, .of hys, hx1⟩
          have gy : ∀ x H', (Itl T.K la).yld j H2 x H' → ∃ g3 : Gh, Stp g2 H2 g3 H' ∧ Ok T.K g3 H' (L2.wipe σ vs) wi ∧ Rp T.K g3.G ds[j] x := fun x H' ⟨e1, e2⟩ => by
            subst e1
            have := e2 ys (.of hys)
            rw [hx1] at this
            cases this
            exact ⟨g2, Stp.refl _ _, k2, rx1⟩
          refine ⟨g0, fun H3 => ∃ (g3 : Gh) (wj : Wt) (pre : List PD) (xs : List V), Stp gh H g3 H3 ∧ Ok T.K g3 H3 (L2.wipe σ vs) wj ∧ (∀ i, i ∈ vs → i < wj.sl.length → wj.sl[i]? = some .un) ∧
            H3 D = some (.lst xs) ∧ RpA T.K g3.G pre xs ∧ g3.G D = none ∧ ¬ g3.M D ∧ lcL vs (tgO jj ds tg) tt fe (ds.drop (j + 1)) wj pre = some (acc, w2),
            fun H3 ⟨g3, wj, pre, xs, a1, a2, a3, a4, a5, a6, a7, a8⟩ => ⟨ds.length - (j + 1), by omega, g3, wj, pre, xs, a1, a2, a3, rfl, a4, a5, a6, a7, a8⟩, fun x H3 hy => ?_⟩
          obtain ⟨g3, s3, k3, r3⟩ := gy x H3 hy
          unfold lcL at ev
          have eT : tgO jj ds tg ds[j] wi = tg ds[j] wi := by unfold tgO; rw [hoi]; rfl
          rw [eT] at ev
          cases y1 : tg ds[j] wi with
          | none => rw [y1] at ev; cases ev
          | some w3 =>
            rw [y1] at ev
            dsimp only at ev
            refine ⟨g3, wi, ds[j], w3, k3, r3, y1, fun σ4 g4 H4 s4 k4 n1 n2 => ⟨wipe_set hx n1 n2, g4, w3, k4, ?_⟩⟩
            have hw : L2.wipe σ4 vs = L2.wipe σ vs := wipe_set hx n1 n2
            have s24 : Stp g2 H2 g4 H4 := s3.trans s4
            cases y3 : tt w3 with
            | none => rw [y3] at ev; cases ev
            | some rt =>
              obtain ⟨rt, w4⟩ := rt
              rw [y3] at ev
              -- what of the list at D stays through later steps
              have stay : ∀ {g5 : Gh} {H5 : Hp}, Stp g2 H2 g5 H5 → H5 D = some (.lst xs) ∧ RpA T.K g5.G pre xs ∧ g5.G D = none ∧ ¬ g5.M D := fun {g5 H5} s5 => by
                refine ⟨s5.keep D _ hDl nM, RpA.mono s5.sub _ _ rp, ?_, fun m => ?_⟩
                · cases q : g5.G D with
                  | none => rfl
                  | some o =>
                    rcases s5.gnew D o q with z | z | z | ⟨φ, z⟩
                    · rw [nG] at z; cases z
                    · rw [hDl] at z; cases z
                    · exact absurd z nM
                    · rw [hDl] at z; cases z
                · rcases s5.mnew D m with z | z
                  · exact nM z
                  · rw [hDl] at z; cases z
              cases rt with
              | ex c x => cases ev
              | b bb =>
                refine ⟨.b bb, w4, rfl, fun _ _ z => (nomatch z), fun b' z g5 H5 s5 k5 => ?_⟩
                cases z
                cases bb with
                | false =>
                  rw [if_neg Bool.false_ne_true]
                  dsimp only at ev
                  split at ev
                  · rename_i hp4
                    obtain ⟨a1, a2, a3, a4⟩ := stay (s24.trans s5)
                    exact ⟨g5, w4.wipe vs, pre, xs, s2.trans (s24.trans s5), hw ▸ k5.into hp4, wiped_un, a1, a2, a3, a4, ev⟩
                  · cases ev
                | true =>
                  rw [if_pos rfl]
                  dsimp only at ev
                  refine ⟨g5, w4, k5, ?_⟩
                  cases y4 : eF fe w4 with
                  | none => rw [y4] at ev; cases ev
                  | some re =>
                    obtain ⟨re, w5⟩ := re
                    rw [y4] at ev
                    cases re with
                    | ow d => cases ev
                    | pk d => cases ev
                    | ex c x => cases ev
                    | fz yv =>
                      dsimp only at ev
                      split at ev
                      · rename_i hp5
                        refine ⟨.fz yv, w5, rfl, fun _ _ z => (nomatch z), fun v g6 H6 s6 k6 rv => ?_⟩
                        have s26 := (s24.trans s5).trans s6
                        obtain ⟨a1, a2, a3, a4⟩ := stay s26
                        have hxl : xs.length < lim := by rw [rp.len]; exact hp5.2
                        have k7 : Ok T.K g6 (upd H6 D (.lst (xs ++ [v]))) (L2.wipe σ vs) (w5.wipe vs) := by
                          have k6' := hw ▸ k6.into hp5.1
                          refine ⟨k6'.len, fun a o q => ?_, k6'.val, k6'.scr, fun i d q => ?_, k6'.onl, k6'.inj, k6'.st, fun p q => ?_, k6'.sap, k6'.dis, fun p q => (k6'.tab p q).mono (fun _ _ z => z) (upd_ne fun z => a4 (.inr (.inr ⟨p, q, z.symm⟩))), k6'.tbw⟩
                          · have hne : a ≠ D := fun z => by subst z; rw [a3] at q; cases q
                            rw [upd_ne hne]; exact k6'.sub a o q
                          · obtain ⟨a, q0, q1, r⟩ := k6'.own i d q
                            have hne : a ≠ D := fun z => by subst z; exact a4 (.inl ⟨i, q0⟩)
                            exact ⟨a, q0, q1, r.mono (fun _ _ z => z) (upd_ne hne)⟩
                          · have n1 : p.1 ≠ D := fun z => a4 (.inr (.inl ⟨p, q, .inl z.symm⟩))
                            have n2 : p.2 ≠ D := fun z => a4 (.inr (.inl ⟨p, q, .inr z.symm⟩))
                            exact (k6'.src p q).mono (fun _ _ z => z) (upd_ne n1) (upd_ne n2)
                        refine ⟨xs, a1, Nat.lt_trans hxl lim_line, g6, w5.wipe vs, pre ++ [yv], xs ++ [v], ?_, k7, wiped_un, upd_same, RpA.append a2 (RpA.cons rv RpA.nil), a3, a4, ev⟩
                        have s06 := s2.trans s26
                        refine ⟨s06.sub, fun a o q n => ?_, fun a q => ?_, s06.gnew, s06.mnew, s06.dr, s06.tbk⟩
                        · have hne : a ≠ D := ne_of_none q hD
                          rw [upd_ne hne]; exact s06.keep a o q n
                        · by_cases hne : a = D
                          · subst hne; exact hD
                          · rw [upd_ne hne] at q; exact s06.dom a q
                      · cases ev
        · rw [List.drop_of_length_le (by omega)] at ev
          cases ev
          obtain ⟨ys, hys, rys⟩ := own k2 how
          refine .inl ⟨⟨ys, .of hys, by rw [rys.len]; omega⟩, ?_⟩
          refine fin (.ref D) g2 H2 (s.trans s2) (Ok.outOf k' hp k2 hu s2.sub) ⟨D, rfl, hD, nG, nM, xs, hDl, rp⟩
    · exact z.none
  · exact z.none
end
end DL
set_option maxHeartbeats 4000000
/-! DL33: += on ints and own lists, pop of an own list. -/
namespace DL
open PySem PySem.Spec PyProof.Rows L2
variable [TbC]
section
variable {T : Tx} {X : Cx} {gh gh0 : Gh} {H H0 : Hp} {σ : L2.St} {w : Wt} {f : EF} {e : Expr} {pos : Pos}
variable {elt tgE : Expr} {ifs : List Expr} {scope : Scope} {ixs : List Nat} {tg : TgF} {tt : TFn} {fe : EF}
theorem d_lcO (i : Nat) (own : List (Str × Nat)) {x : Str} {xp : Pos}
    (hg : ∀ (s : Shared) (H : Hp) (C : Addr) (cl : List (Str × Addr)) (fp : List Addr), PG (X.blk s H scope (compEnvC scope cl C X.env) fp) tgE (tG T ixs tg)) (ht : ∀ (s : Shared) (H : Hp) (C : Addr) (cl : List (Str × Addr)) (fp : List Addr), PTs (X.blk s H scope (compEnvC scope cl C X.env) fp) ifs (tT T tt))
    (he : ∀ (s : Shared) (H : Hp) (C : Addr) (cl : List (Str × Addr)) (fp : List Addr), PE (X.blk s H scope (compEnvC scope cl C X.env) fp) elt (tD T fe)) (ok : blkC X.N X.env.scope scope own = true := by kernel_rfl) (hx : ∀ j ∈ ixs, j ∈ own.map (·.2) := by decide) (hN : X.N.Nodup := by assumption)
    (hi : X.N[i]? = some x := by rfl) (hv : Vis X.env.scope x := by first | exact Or.inl rfl | exact Or.inr (Or.inl rfl) | exact Or.inr (Or.inr rfl)) (hd : (x == ("__debug__" : Str)) = false := by decide) (hcd : (x == ("__classdict__" : Str)) = false := by decide) (hK : T.K = X.K := by rfl) (hc : X.calm = true := by rfl)
    (hs : ∀ v, foldedSetIterable (.Name x xp) X.env v = pure v := by intro _; rfl) : PE X (.ListComp elt [⟨tgE, .Name x xp, ifs, 0⟩] scope pos) (tD T (eLCo (own.map (·.2)) i tg tt fe)) :=
  PE.weak (pe_lc hc hN (pi_seq (pe_var hi hv hd hcd)) (blkOk_by ok) hg ht (fun s H C cl fp => PE.weak (he s H C cl fp) fun σ H Q h => eF_le σ H Q h) hs) fun σ H Q h => hK ▸ lcO_le hx σ H Q h
/-- x += f, ints -/
def gAugI (i : Nat) (f : EF) : SF := fun w => match w.sl[i]? with
  | some (.v (.int a)) => (match eF f w with
    | some (.fz (.int b), w1) => if i < w1.sl.length then some (.nx (w1.at i (.v (.int (a + b))))) else none
    | _ => none)
  | _ => none
theorem d_augI (i : Nat) {x : Str} {xp : Pos} (he : PE X e (tD T f)) (hN : X.N.Nodup := by assumption) (hi : X.N[i]? = some x := by rfl) (hx : Loc X.env.scope x := by first | exact Or.inl rfl | exact Or.inr rfl)
    (hf : X.fn x = true ∨ X.env.scope.names.lookup x = some .local := by first | exact .inl rfl | exact .inr rfl | assumption) : PS X (.AugAssign (.Name x xp) .Add e pos) (tS T (gAugI i f)) :=
  PS.weak (ps_aug hN hi hx he (fun pins s σ H x y v u Q I rx ry h => augR iop_add I rx ry h) hf) fun D σ H z => by
    obtain ⟨gh, w, k, out, z, q⟩ := z
    unfold gAugI at z
    split at z
    · rename_i a e0
      split at z
      · rename_i b w1 e1
        split at z
        · rename_i hl
          cases z
          obtain ⟨v, p1, r1⟩ := k.val i _ e0
          simp only [Rp] at r1
          subst r1
          refine ⟨.int a, p1, eF_le _ _ _ ⟨gh, w, k, .fz (.int b), w1, e1, fun _ _ z => (nomatch z), fun v gh1 H1 s1 k1 rv => ?_⟩⟩
          have rv : Rp T.K gh1.G (.int b) v := rv
          simp only [Rp] at rv
          subst rv
          refine ⟨a, b, rfl, rfl, ?_⟩
          obtain ⟨g2, s2, k2, _⟩ := k1.setV (v := .int (a + b)) (d := .int (a + b)) hl (by simp only [Rp])
          exact q _ g2 H1 (s1.trans s2) k2
        · cases z
      · cases z
    · cases z
/-- x += f, own lists -/
def gAugL (i : Nat) (f : EF) : SF := fun w => match w.sl[i]? with
  | some (.o _) => (match eF f w with
    | some (.fz (.list es), w1) => (match w1.sl[i]? with
      | some (.o (.list ds)) => if ds.length < lim ∧ es.length < lim then some (.nx (w1.at i (.o (.list (ds ++ es))))) else none
      | _ => none)
    | _ => none)
  | _ => none
theorem d_augL (i : Nat) {x : Str} {xp : Pos} (he : PE X e (tD T f)) (hN : X.N.Nodup := by assumption) (hi : X.N[i]? = some x := by rfl) (hx : Loc X.env.scope x := by first | exact Or.inl rfl | exact Or.inr rfl)
    (hf : X.fn x = true ∨ X.env.scope.names.lookup x = some .local := by first | exact .inl rfl | exact .inr rfl | assumption) : PS X (.AugAssign (.Name x xp) .Add e pos) (tS T (gAugL i f)) :=
  PS.weak (ps_aug hN hi hx he (fun pins s σ H x y v u Q I rx ry h => augR iop_ext I rx ry h) hf) fun D σ H z => by
    obtain ⟨gh, w, k, out, z, q⟩ := z
    unfold gAugL at z
    split at z
    · rename_i d0 e0
      split at z
      · rename_i es w1 e1
        split at z
        · rename_i ds e2
          split at z
          · rename_i hl
            cases z
            obtain ⟨a, q0, p1, _⟩ := k.own i _ e0
            refine ⟨.ref a, p1, eF_le _ _ _ ⟨gh, w, k, .fz (.list es), w1, e1, fun _ _ z => (nomatch z), fun v gh1 H1 s1 k1 rv => ?_⟩⟩
            have rv : Rp T.K gh1.G (.list es) v := rv
            simp only [Rp] at rv
            obtain ⟨b, ys, rfl, hb, ry⟩ := rv
            obtain ⟨a', p0', p1', xs, hx', rx'⟩ := k1.own i _ e2
            rw [p1] at p1'
            cases p1'
            have hlen : xs.length + ys.length ≤ sizeLine := by
              rw [rx'.len, ry.len]
              have hll : 2 * lim ≤ sizeLine := by decide
              omega
            refine ⟨a, b, xs, ys, rfl, rfl, hx', k1.sub _ _ hb, hlen, ?_⟩
            obtain ⟨s3, k3⟩ := k1.rewr e2 p0' hx' (RpA.append rx' ry)
            rw [set_same p1]
            exact q _ gh1 _ (s1.trans s3) k3
          · cases z
        · cases z
      · cases z
    · cases z
/-- x.pop(), an own list -/
def ePop (i : Nat) : EF := fun w => match w.sl[i]? with
  | some (.o (.list ds)) => (match ds.getLast? with
    | some d => some (.fz d, w.at i (.o (.list ds.dropLast)))
    | none => none)
  | _ => none
omit [TbC] in
theorem RpA.dropLast {K : Fg} {H : Hp} {ds : List PD} {xs : List V} (r : RpA K H ds xs) : RpA K H ds.dropLast xs.dropLast := by
  rw [List.dropLast_eq_take, List.dropLast_eq_take, r.len]
  exact r.take _
theorem d_pop (i : Nat) {x : Str} {xp apos cpos : Pos} (hN : X.N[i]? = some x := by rfl) (hv : Vis X.env.scope x := by first | exact Or.inl rfl | exact Or.inr (Or.inl rfl) | exact Or.inr (Or.inr rfl)) (hd : (x == ("__debug__" : Str)) = false := by decide) (hcd : (x == ("__classdict__" : Str)) = false := by decide)
    (hbase : attributeBase (.Name x xp) "pop" X.env (eval (.Name x xp) X.env) = eval (.Name x xp) X.env := by rfl) (hline : (apos.endLine == cpos.line) = true := by rfl) : PE X (.Call (.Attribute (.Name x xp) "pop" apos) [] [] cpos) (tD T (ePop i)) :=
  PE.weak (pe_bm0 PySem.F.plainAttrs_list PySem.F.slot_list_pop PySem.F.type_list_pop mt_pop (pe_var hN hv hd hcd) hbase hline) fun σ H Q z => by
    obtain ⟨gh, w, k, z⟩ := z
    unfold ePop at z
    split at z
    · rename_i ds e0
      split at z
      · rename_i d e1
        obtain ⟨a, q0, q1, xs, hx, rx⟩ := k.own i _ e0
        have hd1 : ds[ds.length - 1]? = some d := by rw [← List.getLast?_eq_getElem?]; exact e1
        obtain ⟨y, hy, ry⟩ := rx.get hd1
        refine ⟨.ref a, q1, .inl ⟨rfl, xs, .of hx⟩, a, xs, y, rfl, rfl, hx, by rw [rx.len]; exact hy, ?_⟩
        obtain ⟨s2, k2⟩ := k.rewr e0 q0 hx rx.dropLast
        exact z.fz s2 k2 ry
      · exact z.none
    · exact z.none
end
end DL
set_option maxHeartbeats 4000000
/-! DL34: a tuple backwards. -/
namespace DL
open PySem PySem.Spec PyProof.Rows L2 HT
section
variable {prog : Program} {w : World} {A : Around} {E : Value → Shared → Prop} {s : Shared}
theorem back_applied {sl : Addr} {sv : Value} {n : Nat} {Q : Int × Int × Nat → Shared → Prop} (hs : s.heap.IsSliceOf sl .none .none sv) (ps : IsPart sv (some (-1))) (h : Q ((n : Int) - 1, -1, n) s) : wpAny (model prog w) A (Builtin.Slice.sliceApplied (.ref sl) (pure (n : Int))) Q E s := by
  obtain ⟨os, hos, _, hds⟩ := id hs
  unfold Builtin.Slice.sliceApplied; unfold Builtin.Slice.sliceFields
  refine wpAny_bind (wpAny_bind (wpAny_field hos hds (x := .none) rfl (wpAny_bind (wpAny_field hos hds (x := .none) rfl (wpAny_bind (wpAny_field hos hds (x := sv) rfl (wpAny_pure ?_)))))))
  refine wpAny_bind (slicePart_ ps ?_)
  show wpAny _ _ (if ((-1 : Int) == 0) = true then _ else _) _ _ s
  rw [if_neg (by decide)]
  refine wpAny_bind (slicePart_none (wpAny_bind (slicePart_none (wpAny_bind (wpAny_pure ?_)))))
  have e1 : Builtin.Slice.sliceAdjust none none (-1) (n : Int) = ((n : Int) - 1, -1) := by
    simp [Builtin.Slice.sliceAdjust]
  have e2 : Builtin.Slice.slicePlaces ((n : Int) - 1) (-1) (-1) = n := by
    unfold Builtin.Slice.slicePlaces
    simp
    try omega
  show wpAny _ _ (match Builtin.Slice.sliceAdjust none none (-1) (n : Int) with | (a, b) => pure (a, (-1 : Int), Builtin.Slice.slicePlaces a b (-1))) _ _ s
  rw [e1]
  show wpAny _ _ (pure ((n : Int) - 1, (-1 : Int), Builtin.Slice.slicePlaces ((n : Int) - 1) (-1) (-1))) _ _ s
  rw [e2]
  exact wpAny_pure h
theorem fm_congr {α β : Type} {f g : α → Option β} : ∀ l : List α, (∀ x ∈ l, f x = g x) → l.filterMap f = l.filterMap g
  | [], _ => rfl
  | x :: l, h => by
    rw [List.filterMap_cons, List.filterMap_cons, h x List.mem_cons_self, fm_congr l fun y hy => h y (List.mem_cons_of_mem _ hy)]
theorem pick_back (xs : Array Value) : ((List.range xs.size).filterMap fun (m : Nat) => xs[((xs.size : Int) - 1 + (m : Int) * (-1)).toNat]?).toArray = xs.toList.reverse.toArray := by
  have e : (List.range xs.size).filterMap (fun (m : Nat) => xs[((xs.size : Int) - 1 + (m : Int) * (-1)).toNat]?) = ((List.range xs.size).map fun k => xs.size - 1 - k).filterMap (xs[·]?) := by
    rw [List.filterMap_map]
    refine fm_congr _ fun m hm => ?_
    have := List.mem_range.mp hm
    show xs[((xs.size : Int) - 1 + (m : Int) * (-1)).toNat]? = xs[xs.size - 1 - m]?
    rw [show ((xs.size : Int) - 1 + (m : Int) * (-1)).toNat = xs.size - 1 - m by omega]
  rw [e, PySem.W.krv_range, List.filterMap_reverse, PySem.W.krv_all]
theorem get_back {t sl : Addr} {items : Array Value} {sv : Value} {Q : Value → Shared → Prop} (ht : IsTup s.heap t items) (hs : s.heap.IsSliceOf sl .none .none sv) (ps : IsPart sv (some (-1)))
    (h : Q (.ref s.heap.objs.size) { s with heap := s.heap.push { cls := .type "tuple", data := .seq items.toList.reverse.toArray } }) (hz : items.size ≤ sizeLine) : wpAny (model prog w) A (getItem (.ref t) (.ref sl)) Q E s := by
  have hok : sizeOk (.seq items.toList.reverse.toArray) := by
    show items.toList.reverse.toArray.size ≤ sizeLine
    rw [List.size_toArray, List.length_reverse, Array.length_toList]; exact hz
  have ts : s.TypeIs (.ref sl) "slice" := by obtain ⟨os, hos, hcs, _⟩ := id hs; exact ⟨os, hos, hcs⟩
  unfold getItem
  (try with_reducible refine wpAny_holding ?_); (first | refine wpAny_bind (wpAny_pure ?_) | skip)
  refine wpAny_bind (wpAny_sequenceKey ht.typeIs (by decide) (wpAny_bind (wpAny_callSpecial?_slot (name := Str.ofString "__getitem__") ht.typeIs PyProof.Rows.slot_tuple_getitem (wpAny_call_entry PyProof.Rows.slot_tuple_getitem ht.typeIs entry_tuple_getitem ?_ (args_tuple_getitem _ _)))))
  show wpAny _ _ (Builtin.Tuple.tupleItemsOf (.ref t) >>= _) _ _ _
  refine wpAny_bind (tupleItemsOf_ ht (wpAny_bind (wpAny_typeOf ts ?_)))
  rw [if_pos (by decide)]
  refine wpAny_bind (back_applied hs ps ?_)
  have no : ¬ ((((items.size : Int) - 1 == 0) && ((-1 : Int) == 1) && (items.size == items.size)) = true) := by simp
  show wpAny _ _ (if (((items.size : Int) - 1 == 0) && ((-1 : Int) == 1) && (items.size == items.size)) = true then _ else _) _ _ s
  rw [if_neg no, pick_back]
  first
    | exact wpAny_bind (m := Builtin.Tuple.tupleExact _) (wpAny_newObj_type (wpAny_pure ⟨_, rfl, wpAny_pure h⟩) hok)
    | exact wpAny_bind (m := Builtin.Tuple.tupleExact _) (wpAny_newObj_type (wpAny_bind (wpAny_pure (wpAny_pure ⟨_, rfl, wpAny_pure h⟩))) hok)
    | exact wpAny_bind (wpAny_bind (m := Builtin.Tuple.tupleExact _) (wpAny_newObj_type (wpAny_pure (wpAny_pure ⟨_, rfl, wpAny_pure h⟩)) hok))
    | exact wpAny_bind (wpAny_bind (m := Builtin.Tuple.tupleExact _) (wpAny_newObj_type (wpAny_pure ⟨_, rfl, wpAny_pure h⟩) hok))
end
section
variable {X : Cx} {T : Tx} [TbC]
def tBack (K : Fg) (te : TE) : TE := fun σ H Q => te σ H fun x H1 => ∃ a xs, x = .ref a ∧ SqT K H1 a xs ∧ ∀ p, H1 p = none → Q (.ref p) (upd H1 p (.tup xs.reverse))
theorem pe_back {e : Expr} {te : TE} {k : Nat} {p1 p2 p3 pos : Pos} (he : PE X e te) : PE X (.Subscript e (.Slice none none (some (.UnaryOp .USub (.Constant (.int 1) k p1) p2)) p3) pos) (tBack X.K te) := by
  constructor
  intro pins s σ H Q I h
  refine Subscript_ (thn (he.run pins s σ H _ I h) fun v s1 ⟨x, H1, I1, r1, q1⟩ => ?_)
  obtain ⟨a, xs, rfl, hx, q⟩ := q1
  cases r1
  have hst : PO X (some (.UnaryOp .USub (.Constant (.int 1) k p1) p2)) (tPart (tUn (rU fun i => .int (-i)) (tC (.int 1)))) := po_some (pe_un un_neg pe_int)
  refine wpAny_Slice (thn (po_none.run pins s1 σ H1 (fun o G => o = none ∧ G = H1) I1 ⟨rfl, rfl⟩) fun vl s2 ⟨l, H2, I2, pl, el, e2⟩ => ?_)
  subst el; subst e2
  refine thn (po_none.run pins s2 σ H2 (fun o G => o = none ∧ G = H2) I2 ⟨rfl, rfl⟩) fun vu s3 ⟨u, H3, I3, pu, eu, e3⟩ => ?_
  subst eu; subst e3
  refine thn (hst.run pins s3 σ H3 (fun o G => o = some (-1) ∧ G = H3) I3 ⟨1, rfl, -1, rfl, rfl, rfl⟩) fun vs s4 ⟨o, H4, I4, ps, eo, e4⟩ => ?_
  subst eo; subst e4
  have I5 : Inv X pins σ H4 { s4 with heap := s4.heap.push { cls := .type "slice", data := .fields #[vl, vu, vs] } } := I4.kept (t' := s4.toks) fun b ob z => Heap.get?_push_of_some _ z
  cases pl
  cases pu
  obtain ⟨its, r, ht, hz⟩ := I5.tuple hx
  have hlen := r.length
  show wpAny (model X.prog X.w) X.A (subscriptTail e (.Slice none none (some (.UnaryOp .USub (.Constant (.int 1) k p1) p2)) p3) (.ref a) (.ref s4.heap.objs.size)) (EP X pins σ Q) X.xe { s4 with heap := s4.heap.push { cls := .type "slice", data := .fields #[.none, .none, vs] } }
  refine tail_any (ops := [.ref a, .ref s4.heap.objs.size]) ht.typeIs (PyProof.Rows.slot_tuple_getitem.lookup) ?_ (by with_unfolding_all rfl)
  refine get_back ht (Heap.IsSliceOf.new _ .none .none vs) ps ?_ (by rw [List.size_toArray]; omega)
  refine ⟨.ref _, _, I5.laid (t' := s4.toks) (o := .tup xs.reverse) (fun b ob z => Heap.get?_push_of_some _ z) (Nat.le_refl _) ?_, rfl, q _ (I5.hok.fresh (Nat.le_refl _))⟩
  exact ⟨by rw [List.length_reverse]; exact hz, its.reverse, r.reverse, IsTup.new _ _⟩
/-- x[::-1], a tuple -/
def oBack (d : PD) : Option R := match d with
  | .tuple ds => some (.fz (.tuple ds.reverse))
  | _ => none
theorem d_back {e : Expr} {f : EF} {k : Nat} {p1 p2 p3 pos : Pos} (he : PE X e (tD T f)) (hK : T.K = X.K := by rfl) : PE X (.Subscript e (.Slice none none (some (.UnaryOp .USub (.Constant (.int 1) k p1) p2)) p3) pos) (tD T (eC f oBack)) :=
  PE.weak (pe_back he) fun σ H Q z => eC_le (r := fun v H Q => ∃ a xs, v = .ref a ∧ SqT X.K H a xs ∧ ∀ p, H p = none → Q (.ref p) (upd H p (.tup xs.reverse))) (fun gh0 gh H0 H σ w v d Q s k c z => by
    unfold oBack at z
    split at z
    · obtain ⟨a, xs, rfl, q1, r1⟩ := c.tupG
      exact ⟨a, xs, rfl, hK ▸ sqT_mono k.sub q1, fun p hp => z.tup s k r1.rev hp⟩
    · exact z.none) σ H Q z
end
end DL
set_option maxHeartbeats 4000000
/-! DL35: for work in [f, g]: if not isinstance(caught(lambda: work(..)), C): return False. -/
namespace DL
open PySem PySem.Spec PyProof.Rows L2
section
variable {X : Cx} {CX : CXT} {k i : Nat} {f : Addr} {fd : FuncData} {ps : List Str} {sp : Sp} {E : XK} {x : Str} {p pos : Pos} {e : Expr} {es : List Expr} {t : TA}
theorem pe_callLG (F : FnG X.prog X.w X.K X.mg X.base CX k f fd ps sp) (rm : Rm k X.A) (hN : X.N[i]? = some x) (hv : Vis X.env.scope x) (hk : PySem.W.keepIn X.K (.ref f) = true) (hb : Binds X.K fd ps []) (hx : Passes CX X E) (ha : PA X (e :: es) t)
    (hdb : (x == ("__debug__" : Str)) = false) (hcd : (x == ("__classdict__" : Str)) = false) (he : starEach (e :: es) X.env = (false, eval e X.env) :: starEach es X.env) (hpl : (backTo pos (starEach es X.env)).any (·.1) = false) :
    PE X (.Call (.Name x p) (e :: es) [] pos) (fun σ H Q => σ[i]? = some (some (.ref f)) ∧ t σ H fun vs H1 => sp vs H1 Q E) := by
  constructor
  intro pins s σ H Q I h
  obtain ⟨hs, ht⟩ := h
  refine wpAny_Call_Name_kw (thn ((pe_var (pos := p) hN hv hdb hcd).run pins s σ H (fun v G => v = .ref f ∧ G = H) I ⟨_, hs, rfl, rfl⟩) fun u s1 ⟨v, H1, I1, r1, q1⟩ => ?_)
  obtain ⟨rfl, rfl⟩ := q1
  cases r1
  refine PySem.W.callWith_K (h₀ := X.base) I.ok.mod.kin hk (thn (ha.run pos pins s1 σ _ _ I1 ht) fun us s2 ⟨vs, H2, I2, r, q⟩ => ⟨I2.kIn, ?_⟩) he hpl
  have e0 := F.call rm hx I2 (hb s2 us I2.kIn (by rw [List.append_nil, ← r.length]; exact F.arity _ _ _ _ q)) (by rw [List.append_nil]; exact r) q
  exact wp_of_code e0
end
variable [TbC]
section
variable {X : Cx} {T : Tx} {k n i : Nat} {f : Addr} {fd : FuncData} {ps : List Str} {F : FF} {x : Str} {p pos : Pos} {e : Expr} {es : List Expr} {g : AF}
/-- a call of the def in a slot, where what comes out is let out -/
theorem d_callLX (i : Nat) (G : FnG X.prog X.w X.K X.mg X.base (L2.CX X.prog X.w) k f fd ps (spF X.K X.mg n F)) (rm : Rm k X.A) (hk : PySem.W.keepIn X.K (.ref f) = true) (hb : Binds X.K fd ps []) (tk : L2.Takes X (fun cls d _ H => T.E cls d H))
    (ha : PA X (e :: es) (tA T g)) (hK : T.K = X.K := by rfl) (hM : T.mg = X.mg := by rfl) (hN : X.N[i]? = some x := by rfl) (hv : Vis X.env.scope x := by first | exact Or.inl rfl | exact Or.inr (Or.inl rfl) | exact Or.inr (Or.inr rfl)) (hdb : (x == ("__debug__" : Str)) = false := by decide) (hcd : (x == ("__classdict__" : Str)) = false := by decide)
    (he : starEach (e :: es) X.env = (false, eval e X.env) :: starEach es X.env := by rfl) (hpl : (backTo pos (starEach es X.env)).any (·.1) = false := by rfl) :
    PE X (.Call (.Name x p) (e :: es) [] pos) (fun σ H Q => σ[i]? = some (some (.ref f)) ∧ tD T (eCall F n [] g) σ H Q) :=
  PE.weak (pe_callLG G rm hN hv hk hb (passX tk) ha hdb hcd he hpl) fun σ H Q z => ⟨z.1, eA_le (r := fun vs H1 Q => spF X.K X.mg n F vs H1 Q T.E) (fun gh0 gh H0 H σ w vs ds Q s kk r z => by
    split at z
    · rename_i hl
      rw [List.append_nil] at hl z
      rw [← hK, ← hM]
      exact call_le s kk r hl z
    · exact z.none) σ H Q z.2⟩
end
structure WSpec where
  fa : Addr
  f : EF
section
variable {X : Cx} {T : Tx} {x a c0 : Str} {g C D : Addr} {fd : FuncData} {k : Nat} {pg : Arguments} {bg : List Stmt} {sg : Scope} {kws : List (Str × V)} {Ng : List Str} {c P : Addr} {params : Arguments} {body : Expr} {scope : Scope} {lp p p2 p3 pos2 pos : Pos}
theorem pe_isCaughtW (j : Nat) (q : WSpec) (tb : TbX X c P) (d0 : defaultsOf params X.env = ([], [])) (F : FunD X.K x x pg bg sg [] kws g fd) (hb : Binds X.K fd [a] []) (Sg : FnScope Ng [a] sg) (hNg : Ng[0]? = some a) (hva : Vis sg a) (hG : ∀ cdv, LamX.GivesTo X Ng x sg g cdv bg a (lamQ X) (TKept X.K C)) (rm : Rm (k + 2) X.A) (L : LamX.LamS X.env.scope scope)
    (bd : ∀ (q : Str) (cl : List (Str × Addr)) (pm cv ctv : Value), bindArgs (PySem.W.kla_fn "<lambda>" q params body scope cl pm cv ctv) ⟨[], []⟩ = pure [])
    (hbody : ∀ (A : Around) (outer : List Env) (s : Shared) (H : Hp) (E : XK) (f c1 : Addr), Rm k (A.deeper (LamX.lamEnv X scope s.heap.objs.size f c1)) → PE (LamX.lamCx X A outer s H E scope f c1) body (fun σ H Q => σ[j]? = some (some (.ref q.fa)) ∧ tD ⟨T.K, T.mg, E⟩ q.f σ H Q)) (hg : Gl X x) (hm : X.mg x = some (.ref g)) (eD : ErrC X C c0 D) (hmi : X.mg "isinstance" = none)
    (hgi : Gl X "isinstance") (hgc : Gl X c0) (hK : T.K = X.K) (hM : T.mg = X.mg) (hdb : (x == ("__debug__" : Str)) = false) (hd : (a == ("__debug__" : Str)) = false) (hcd : (a == ("__classdict__" : Str)) = false) (hdc : (c0 == ("__debug__" : Str)) = false) :
    PE X (.Call (.Name "isinstance" p) [.Call (.Name x p2) [.Lambda params body scope lp] [] pos2, .Name c0 p3] [] pos) (fun σ H Q => σ[j]? = some (some (.ref q.fa)) ∧ tD T (eIsC c0 q.f) σ H Q) :=
  PE.weak (pe_callB call_isK hgi hmi PyProof.Rows.boot_isinstance (pa_cons (pe_keptL (t := fun E σ H Q => σ[j]? = some (some (.ref q.fa)) ∧ tD ⟨T.K, T.mg, E⟩ q.f σ H Q) F hb Sg hNg hva hG rm L bd hbody (pe_mk (T := T) tb L d0) hg hm rfl hdb hd hcd) (pa_cons (pe_glob (v := .ref D) hgc eD.g rfl hdc) pa_nil))) fun σ H Q z => by
    obtain ⟨z1, gh, w, kk, r⟩ := z
    refine ⟨gh, w, kk, fun v gh1 H1 s1 k1 la => ?_⟩
    obtain ⟨f, c1, e1, e2, e3, e4⟩ := isC_le eD hK hM k1 la (r.later s1)
    exact ⟨f, c1, e1, e2, e3, z1, e4⟩
def gWorks (j : Nat) (c0 : Str) (fs : List EF) : SF := fun w => if j < w.sl.length then (fCalls j c0 fs w).map .nx else none
theorem all2 {α : Type} {P : α → Prop} {a b : α} (h1 : P a) (h2 : P b) : ∀ q ∈ [a, b], P q := fun q hq => by
  rcases List.mem_cons.mp hq with e | e
  · rw [e]; exact h1
  · rw [List.mem_singleton.mp e]; exact h2
/-- the loop over a list of defs -/
theorem d_works (j : Nat) (ws : List WSpec) {z : Str} {es : List Expr} {pl pz pn pif pf : Pos} {ret : List Stmt} (hpa : PA X es (fun _ H Q => Q (ws.map fun q => V.ref q.fa) H)) (ht : ∀ q ∈ ws, PE X (.Call (.Name "isinstance" p) [.Call (.Name x p2) [.Lambda params body scope lp] [] pos2, .Name c0 p3] [] pos) (fun σ H Q => σ[j]? = some (some (.ref q.fa)) ∧ tD T (eIsC c0 q.f) σ H Q))
    (hN : X.N.Nodup) (hj : X.N[j]? = some z) (hz : X.env.scope.names.lookup z = some .local ∨ X.env.scope.names.lookup z = some .cell) (hfz : X.fn z = true ∨ X.env.scope.names.lookup z = some .local) (hl : ws.length ≤ 100) (hc : X.calm = true) (hK : T.K = X.K) (hp : PassesOwn (model X.prog X.w) X.A X.env X.xe) :
    PS X (.For (.Name z pz) (.List es pl) [.If (.UnaryOp .Not (.Call (.Name "isinstance" p) [.Call (.Name x p2) [.Lambda params body scope lp] [] pos2, .Name c0 p3] [] pos) pn) ret [] pif] [] pf) (tS T (gWorks j c0 (ws.map WSpec.f))) := by
  have tst : PE X (.Call (.Name "isinstance" p) [.Call (.Name x p2) [.Lambda params body scope lp] [] pos2, .Name c0 p3] [] pos) (fun σ H Q => ∃ q : { q : Nat × WSpec // ws[q.1]? = some q.2 }, σ[j]? = some (some (.ref q.1.2.fa)) ∧ tD T (eIsC c0 q.1.2.f) σ H Q) := PE.any fun q => ht _ (List.mem_of_getElem? q.2)
  refine PS.weak (ps_for hp hc (pi_seq (pe_lst hpa)) (pg_name hN hj hz hfz) (pss_one (ps_if (pt_not (pt_val tst)) pss_never pss_nil))) fun DE σ H zz => ?_
  obtain ⟨gh, w, kk, out, eo, qo⟩ := zz
  have eo1 : ∃ we, j < w.sl.length ∧ fCalls j c0 (ws.map WSpec.f) w = some we ∧ out = .nx we := by
    unfold gWorks at eo
    by_cases h : j < w.sl.length
    · rw [if_pos h] at eo
      cases y : fCalls j c0 (ws.map WSpec.f) w with
      | none => rw [y] at eo; cases eo
      | some we => rw [y] at eo; cases eo; exact ⟨we, h, rfl, rfl⟩
    · rw [if_neg h] at eo; cases eo
  obtain ⟨we, h2, ef, eg⟩ := eo1
  subst eg
  refine ⟨by rw [List.length_map]; exact Nat.le_trans hl (by decide), fun A hA => ?_⟩
  have k2 := kk.lay hA (.lst (ws.map fun q => V.ref q.fa))
  have s2 := Stp.lay kk hA (.lst (ws.map fun q => V.ref q.fa))
  have lσ : σ.length = w.sl.length := kk.len
  have gA : upd gh.G A (.lst (ws.map fun q => V.ref q.fa)) A = some (.lst (ws.map fun q => V.ref q.fa)) := upd_same
  generalize hgh : ({ gh with G := upd gh.G A (.lst (ws.map fun q => V.ref q.fa)) } : Gh) = gh3 at k2 s2
  have gA3 : gh3.G A = some (.lst (ws.map fun q => V.ref q.fa)) := by rw [← hgh]; exact gA
  refine ⟨A, rfl, .inl ⟨⟨_, .of upd_same⟩, ?_⟩⟩
  refine ⟨fun t m σ2 H2 => ∃ (g2 : Gh) (w2 : Wt), Stp gh3 (upd H A (.lst (ws.map fun q => V.ref q.fa))) g2 H2 ∧ Ok T.K g2 H2 σ2 w2 ∧ σ2.length = σ.length ∧ m = ws.length - t ∧ fCalls j c0 ((ws.map WSpec.f).drop t) w2 = some we, ⟨ws.length, gh3, w, Stp.refl _ _, k2, rfl, by omega, ef⟩, ?_⟩
  rintro t m σ2 H2 ⟨g2, w2, s4, k4, l4, em, e4⟩
  have q4 : SqL X.K H2 A (ws.map fun q => V.ref q.fa) := .of (k4.sub _ _ (s4.sub _ _ gA3))
  by_cases ht : t < ws.length
  · refine .inr ?_
    have hlt : ws[t]? = some ws[t] := List.getElem?_eq_getElem ht
    have hv : (ws.map fun q => V.ref q.fa)[t]? = some (V.ref ws[t].fa) := by rw [List.getElem?_map, hlt]; rfl
    rw [← List.map_drop, List.drop_eq_getElem_cons ht, List.map_cons] at e4
    refine ⟨⟨_, _, q4, hv⟩, fun σ3 H3 => ∃ (g2 : Gh) (w2 : Wt), Stp gh3 (upd H A (.lst (ws.map fun q => V.ref q.fa))) g2 H3 ∧ Ok T.K g2 H3 σ3 w2 ∧ σ3.length = σ.length ∧ fCalls j c0 ((ws.map WSpec.f).drop (t + 1)) w2 = some we, fun σ3 H3 ⟨g2, w2, a1, a2, a3, a4⟩ => ⟨ws.length - (t + 1), by omega, g2, w2, a1, a2, a3, rfl, a4⟩, fun x3 H3 ⟨e5, e6⟩ => ?_⟩
    subst e5
    have e7 := e6 _ q4
    rw [hv] at e7
    cases e7
    unfold fCalls at e4
    obtain ⟨g5, s5, k5, e5⟩ := k4.setU (i := j) (x := some (V.ref ws[t].fa))
    have vj : (σ2.set j (some (V.ref ws[t].fa)))[j]? = some (some (V.ref ws[t].fa)) := List.getElem?_set_self (by omega)
    refine ⟨⟨(t, ws[t]), hlt⟩, vj, g5, w2.at j .un, k5, ?_⟩
    cases y : ws[t].f (w2.at j .un) with
    | none => rw [y] at e4; cases e4
    | some r =>
      obtain ⟨r, w6⟩ := r
      rw [y] at e4
      cases r with
      | fz d => cases e4
      | ow d => cases e4
      | pk d => cases e4
      | ex c xx =>
        cases xx with
        | some xx => cases e4
        | none =>
          dsimp only at e4
          split at e4
          · rename_i ec
            refine ⟨.fz (.bool true), w6, ?_, fun _ _ z => (nomatch z), fun v7 g7 H7 s7 k7 rv => ?_⟩
            · show eIsC c0 ws[t].f (w2.at j .un) = _
              unfold eIsC
              rw [y]
              exact if_pos ec
            · have rv : Rp T.K g7.G (.bool true) v7 := rv
              simp only [Rp] at rv
              refine ⟨true, rv, ?_⟩
              show (if (!true) = true then _ else _)
              rw [if_neg (by simp)]
              exact ⟨g7, w6, (s4.trans s5).trans s7, k7, by rw [List.length_set]; exact l4, by rw [← List.map_drop]; exact e4⟩
          · cases e4
  · refine .inl ⟨⟨_, q4, by rw [List.length_map]; omega⟩, ?_⟩
    rw [List.drop_of_length_le (by rw [List.length_map]; omega)] at e4
    cases e4
    exact qo.later (s2.trans s4) _ _ _ (Stp.refl _ _) k4
end
end DL
set_option maxHeartbeats 0
namespace K67
open PySem PySem.Spec PyProof.Rows L2
abbrev PW : Program := PySem.Challenge.pw_rulesadded_k67_orders_and_their_parts
def top (i : Nat) : Stmt := PW.main.body.getD i (.Pass ⟨0, 0, 0, 0⟩)
abbrev s_is_letter : Stmt := top 11
abbrev s_is_statement : Stmt := top 12
abbrev s_need_statement : Stmt := top 13
abbrev s_inner : Stmt := top 14
abbrev s_parts_in : Stmt := top 15
abbrev s_size_in : Stmt := top 16
abbrev s_letters_in : Stmt := top 17
abbrev s_is_whole : Stmt := top 19
abbrev s_is_rising : Stmt := top 20
abbrev s_are_worlds : Stmt := top 21
abbrev s_is_shut : Stmt := top 22
abbrev s_truths_in : Stmt := top 23
abbrev s_is_order : Stmt := top 27
abbrev s_need_order : Stmt := top 28
abbrev s_part_in : Stmt := top 29
abbrev s_order_part : Stmt := top 30
abbrev s_has_root : Stmt := top 31
abbrev s_is_one : Stmt := top 32
abbrev s_up_lots : Stmt := top 33
abbrev s_lots_up : Stmt := top 34
abbrev s_how_many_markings : Stmt := top 35
abbrev s_marks_by : Stmt := top 36
abbrev s_all_marks : Stmt := top 37
abbrev s_truths_by : Stmt := top 38
abbrev s_first_fail : Stmt := top 39
abbrev s_speaks : Stmt := top 40
abbrev s_holds_on : Stmt := top 41
abbrev s__law_begun : Stmt := top 43
abbrev s__law_mixed : Stmt := top 44
abbrev s__law_draw : Stmt := top 45
abbrev s__law_pick : Stmt := top 46
abbrev s__law_shuffled : Stmt := top 47
abbrev s__law_is : Stmt := top 48
abbrev s__law_caught : Stmt := top 49
abbrev s__law_order : Stmt := top 50
abbrev s__law_lots : Stmt := top 51
abbrev s__law_part : Stmt := top 52
abbrev s__law_no_statement : Stmt := top 53
abbrev s__law_no_order : Stmt := top 54
abbrev s__law_is_order : Stmt := top 55
abbrev s__law_bent : Stmt := top 56
abbrev s_law : Stmt := top 57
def d_is_letter : He.DefD := ⟨("is_letter", none), "is_letter", "is_letter", defArgs s_is_letter, defBody s_is_letter, defScope s_is_letter, [], []⟩
def d_is_statement : He.DefD := ⟨("is_statement", none), "is_statement", "is_statement", defArgs s_is_statement, defBody s_is_statement, defScope s_is_statement, [], []⟩
def d_need_statement : He.DefD := ⟨("need_statement", none), "need_statement", "need_statement", defArgs s_need_statement, defBody s_need_statement, defScope s_need_statement, [], []⟩
def d_inner : He.DefD := ⟨("inner", none), "inner", "inner", defArgs s_inner, defBody s_inner, defScope s_inner, [], []⟩
def d_parts_in : He.DefD := ⟨("parts_in", none), "parts_in", "parts_in", defArgs s_parts_in, defBody s_parts_in, defScope s_parts_in, [], []⟩
def d_size_in : He.DefD := ⟨("size_in", none), "size_in", "size_in", defArgs s_size_in, defBody s_size_in, defScope s_size_in, [], []⟩
def d_letters_in : He.DefD := ⟨("letters_in", none), "letters_in", "letters_in", defArgs s_letters_in, defBody s_letters_in, defScope s_letters_in, [], []⟩
def d_is_whole : He.DefD := ⟨("is_whole", none), "is_whole", "is_whole", defArgs s_is_whole, defBody s_is_whole, defScope s_is_whole, [], []⟩
def d_is_rising : He.DefD := ⟨("is_rising", none), "is_rising", "is_rising", defArgs s_is_rising, defBody s_is_rising, defScope s_is_rising, [], []⟩
def d_are_worlds : He.DefD := ⟨("are_worlds", none), "are_worlds", "are_worlds", defArgs s_are_worlds, defBody s_are_worlds, defScope s_are_worlds, [], []⟩
def d_is_shut : He.DefD := ⟨("is_shut", none), "is_shut", "is_shut", defArgs s_is_shut, defBody s_is_shut, defScope s_is_shut, [], []⟩
def d_truths_in : He.DefD := ⟨("truths_in", none), "truths_in", "truths_in", defArgs s_truths_in, defBody s_truths_in, defScope s_truths_in, [], []⟩
def d_is_order : He.DefD := ⟨("is_order", none), "is_order", "is_order", defArgs s_is_order, defBody s_is_order, defScope s_is_order, [], []⟩
def d_need_order : He.DefD := ⟨("need_order", none), "need_order", "need_order", defArgs s_need_order, defBody s_need_order, defScope s_need_order, [], []⟩
def d_part_in : He.DefD := ⟨("part_in", none), "part_in", "part_in", defArgs s_part_in, defBody s_part_in, defScope s_part_in, [], []⟩
def d_order_part : He.DefD := ⟨("order_part", none), "order_part", "order_part", defArgs s_order_part, defBody s_order_part, defScope s_order_part, [], []⟩
def d_has_root : He.DefD := ⟨("has_root", none), "has_root", "has_root", defArgs s_has_root, defBody s_has_root, defScope s_has_root, [], []⟩
def d_is_one : He.DefD := ⟨("is_one", none), "is_one", "is_one", defArgs s_is_one, defBody s_is_one, defScope s_is_one, [], []⟩
def d_up_lots : He.DefD := ⟨("up_lots", none), "up_lots", "up_lots", defArgs s_up_lots, defBody s_up_lots, defScope s_up_lots, [], []⟩
def d_lots_up : He.DefD := ⟨("lots_up", none), "lots_up", "lots_up", defArgs s_lots_up, defBody s_lots_up, defScope s_lots_up, [], []⟩
def d_how_many_markings : He.DefD := ⟨("how_many_markings", none), "how_many_markings", "how_many_markings", defArgs s_how_many_markings, defBody s_how_many_markings, defScope s_how_many_markings, [], []⟩
def d_marks_by : He.DefD := ⟨("marks_by", none), "marks_by", "marks_by", defArgs s_marks_by, defBody s_marks_by, defScope s_marks_by, [], []⟩
def d_all_marks : He.DefD := ⟨("all_marks", none), "all_marks", "all_marks", defArgs s_all_marks, defBody s_all_marks, defScope s_all_marks, [], []⟩
def d_truths_by : He.DefD := ⟨("truths_by", none), "truths_by", "truths_by", defArgs s_truths_by, defBody s_truths_by, defScope s_truths_by, [], []⟩
def d_first_fail : He.DefD := ⟨("first_fail", none), "first_fail", "first_fail", defArgs s_first_fail, defBody s_first_fail, defScope s_first_fail, [], []⟩
def d_speaks : He.DefD := ⟨("speaks", none), "speaks", "speaks", defArgs s_speaks, defBody s_speaks, defScope s_speaks, [], []⟩
def d_holds_on : He.DefD := ⟨("holds_on", none), "holds_on", "holds_on", defArgs s_holds_on, defBody s_holds_on, defScope s_holds_on, [], []⟩
def d__law_begun : He.DefD := ⟨("_law_begun", none), "_law_begun", "_law_begun", defArgs s__law_begun, defBody s__law_begun, defScope s__law_begun, [], []⟩
def d__law_mixed : He.DefD := ⟨("_law_mixed", none), "_law_mixed", "_law_mixed", defArgs s__law_mixed, defBody s__law_mixed, defScope s__law_mixed, [], []⟩
def d__law_draw : He.DefD := ⟨("_law_draw", none), "_law_draw", "_law_draw", defArgs s__law_draw, defBody s__law_draw, defScope s__law_draw, [], []⟩
def d__law_pick : He.DefD := ⟨("_law_pick", none), "_law_pick", "_law_pick", defArgs s__law_pick, defBody s__law_pick, defScope s__law_pick, [], []⟩
def d__law_shuffled : He.DefD := ⟨("_law_shuffled", none), "_law_shuffled", "_law_shuffled", defArgs s__law_shuffled, defBody s__law_shuffled, defScope s__law_shuffled, [], []⟩
def d__law_is : He.DefD := ⟨("_law_is", none), "_law_is", "_law_is", defArgs s__law_is, defBody s__law_is, defScope s__law_is, [], []⟩
def d__law_caught : He.DefD := ⟨("_law_caught", none), "_law_caught", "_law_caught", defArgs s__law_caught, defBody s__law_caught, defScope s__law_caught, [], []⟩
def d__law_order : He.DefD := ⟨("_law_order", none), "_law_order", "_law_order", defArgs s__law_order, defBody s__law_order, defScope s__law_order, [], []⟩
def d__law_lots : He.DefD := ⟨("_law_lots", none), "_law_lots", "_law_lots", defArgs s__law_lots, defBody s__law_lots, defScope s__law_lots, [], []⟩
def d__law_part : He.DefD := ⟨("_law_part", none), "_law_part", "_law_part", defArgs s__law_part, defBody s__law_part, defScope s__law_part, [], []⟩
def d__law_no_statement : He.DefD := ⟨("_law_no_statement", none), "_law_no_statement", "_law_no_statement", defArgs s__law_no_statement, defBody s__law_no_statement, defScope s__law_no_statement, [], []⟩
def d__law_no_order : He.DefD := ⟨("_law_no_order", none), "_law_no_order", "_law_no_order", defArgs s__law_no_order, defBody s__law_no_order, defScope s__law_no_order, [], []⟩
def d__law_is_order : He.DefD := ⟨("_law_is_order", none), "_law_is_order", "_law_is_order", defArgs s__law_is_order, defBody s__law_is_order, defScope s__law_is_order, [], []⟩
def d__law_bent : He.DefD := ⟨("_law_bent", none), "_law_bent", "_law_bent", defArgs s__law_bent, defBody s__law_bent, defScope s__law_bent, [], []⟩
def d_law : He.DefD := ⟨("law", none), "law", "law", defArgs s_law, defBody s_law, defScope s_law, [], []⟩
def fn : List He.DefD := [d_is_letter, d_is_statement, d_need_statement, d_inner, d_parts_in, d_size_in, d_letters_in, d_is_whole, d_is_rising, d_are_worlds, d_is_shut, d_truths_in, d_is_order, d_need_order, d_part_in, d_order_part, d_has_root, d_is_one, d_up_lots, d_lots_up, d_how_many_markings, d_marks_by, d_all_marks, d_truths_by, d_first_fail, d_speaks, d_holds_on, d__law_begun, d__law_mixed, d__law_draw, d__law_pick, d__law_shuffled, d__law_is, d__law_caught, d__law_order, d__law_lots, d__law_part, d__law_no_statement, d__law_no_order, d__law_is_order, d__law_bent, d_law]
def fa : List He.Fa := [.glo "RuleError", .exc "RuleError", .glo "BadStatement", .exc "BadStatement", .exm "BadStatement" "RuleError" true, .glo "BadWorld", .exc "BadWorld", .exm "BadWorld" "RuleError" true, .glo "BadOrder", .exc "BadOrder", .exm "BadOrder" "RuleError" true, .glo "TooMany", .glo "LETTERS", .glo "WORDS", .int "MOST_SIZE" 80, .int "MOST_DEEP" 24, .glo "is_letter", .glo "is_statement", .glo "need_statement", .glo "inner"] ++ [.glo "parts_in", .glo "size_in", .glo "letters_in", .glo "is_whole", .glo "is_rising", .glo "are_worlds", .glo "is_shut", .glo "truths_in", .int "MOST_WORLDS" 7, .int "MOST_MARKINGS" 20000, .glo "is_order", .glo "need_order", .glo "part_in", .glo "order_part", .glo "has_root", .glo "is_one", .glo "up_lots", .glo "lots_up", .glo "how_many_markings", .glo "marks_by"] ++ [.glo "all_marks", .glo "truths_by", .glo "first_fail", .glo "speaks", .glo "holds_on", .glo "_law_begun", .glo "_law_mixed", .glo "_law_draw", .glo "_law_pick", .glo "_law_shuffled", .glo "_law_is", .glo "_law_caught", .glo "_law_order", .glo "_law_lots", .glo "_law_part", .glo "_law_no_statement", .glo "_law_no_order", .glo "_law_is_order", .glo "_law_bent", .glo "law"] ++ [.free "ValueError", .free "abs", .free "all", .free "bool", .free "enumerate", .free "int", .free "isinstance", .free "len", .free "list", .free "min", .free "range", .free "repr", .free "set", .free "sorted", .free "str", .free "super", .free "tuple", .free "zip"]
def ex (K : PySem.W.Frag) : Bool := He.tupB K "LETTERS" [.str "p", .str "q", .str "r", .str "s"] && He.tupB K "WORDS" [.str "both", .str "either", .str "gives"] && DL.clsB K (He.ga K "BadStatement") && DL.clsB K (He.ga K "BadWorld") && DL.clsB K (He.ga K "BadOrder")
def tf : List He.Defn := [("law", none)]
def loose0 : List Str := ["RuleError", "BadStatement", "BadWorld", "BadOrder", "TooMany", "LETTERS", "WORDS", "MOST_SIZE", "MOST_DEEP", "is_letter", "is_statement", "need_statement", "inner", "parts_in", "size_in", "letters_in", "is_whole", "is_rising", "are_worlds", "is_shut"]
def loose1 : List Str := ["truths_in", "MOST_WORLDS", "MOST_MARKINGS", "is_order", "need_order", "part_in", "order_part", "has_root", "is_one", "up_lots", "lots_up", "how_many_markings", "marks_by", "all_marks", "truths_by", "first_fail", "speaks", "holds_on", "_law_begun", "_law_mixed"]
def loose2 : List Str := ["_law_draw", "_law_pick", "_law_shuffled", "_law_is", "_law_caught", "_law_order", "_law_lots", "_law_part", "_law_no_statement", "_law_no_order", "_law_is_order", "_law_bent"]
def loose : List Str := loose0 ++ loose1 ++ loose2
abbrev R : PySem.W.OpenRow := PySem.W.OpenLaw.row PySem.Challenge.rw_rulesadded_k67_orders_and_their_parts
abbrev hk : PySem.W.Hook := He.hookX 4 fa fn [] tf ex
def ob (s : PySem.W.SharedT) : He.AlX := He.obsX 4 fa fn [] tf ex (HandSHeadRun.getT s)
theorem ob_eq (s : PySem.W.SharedT) : ob s = hk.obs s.abs := He.obsX_eq (HandSHeadRun.getT_eq s)
theorem run (w : World) : HandSHeadRun.RunEq R (PySem.W.view R.prog [57]) hk ob 20000 loose w := by
  intro os
  kernel_rfl
end K67
set_option maxHeartbeats 4000000
namespace K67
open PySem PySem.Spec PyProof.Rows L2 DL
def V_LETTERS : List V := [.str "p", .str "q", .str "r", .str "s"]
def D_LETTERS : List PD := [.str "p", .str "q", .str "r", .str "s"]
def V_WORDS : List V := [.str "both", .str "either", .str "gives"]
def D_WORDS : List PD := [.str "both", .str "either", .str "gives"]
structure Fx (K : Fg) (mg : Str → Option Value) where
  fd_is_letter : FuncData
  D_is_letter : FunD K "is_letter" "is_letter" (defArgs s_is_letter) (defBody s_is_letter) (defScope s_is_letter) [] [] (He.ga K "is_letter") fd_is_letter
  g_is_letter : mg "is_letter" = some (.ref (He.ga K "is_letter"))
  fd_is_statement : FuncData
  D_is_statement : FunD K "is_statement" "is_statement" (defArgs s_is_statement) (defBody s_is_statement) (defScope s_is_statement) [] [] (He.ga K "is_statement") fd_is_statement
  g_is_statement : mg "is_statement" = some (.ref (He.ga K "is_statement"))
  fd_need_statement : FuncData
  D_need_statement : FunD K "need_statement" "need_statement" (defArgs s_need_statement) (defBody s_need_statement) (defScope s_need_statement) [] [] (He.ga K "need_statement") fd_need_statement
  g_need_statement : mg "need_statement" = some (.ref (He.ga K "need_statement"))
  fd_inner : FuncData
  D_inner : FunD K "inner" "inner" (defArgs s_inner) (defBody s_inner) (defScope s_inner) [] [] (He.ga K "inner") fd_inner
  g_inner : mg "inner" = some (.ref (He.ga K "inner"))
  fd_parts_in : FuncData
  D_parts_in : FunD K "parts_in" "parts_in" (defArgs s_parts_in) (defBody s_parts_in) (defScope s_parts_in) [] [] (He.ga K "parts_in") fd_parts_in
  g_parts_in : mg "parts_in" = some (.ref (He.ga K "parts_in"))
  fd_size_in : FuncData
  D_size_in : FunD K "size_in" "size_in" (defArgs s_size_in) (defBody s_size_in) (defScope s_size_in) [] [] (He.ga K "size_in") fd_size_in
  g_size_in : mg "size_in" = some (.ref (He.ga K "size_in"))
  fd_letters_in : FuncData
  D_letters_in : FunD K "letters_in" "letters_in" (defArgs s_letters_in) (defBody s_letters_in) (defScope s_letters_in) [] [] (He.ga K "letters_in") fd_letters_in
  g_letters_in : mg "letters_in" = some (.ref (He.ga K "letters_in"))
  fd_is_whole : FuncData
  D_is_whole : FunD K "is_whole" "is_whole" (defArgs s_is_whole) (defBody s_is_whole) (defScope s_is_whole) [] [] (He.ga K "is_whole") fd_is_whole
  g_is_whole : mg "is_whole" = some (.ref (He.ga K "is_whole"))
  fd_is_rising : FuncData
  D_is_rising : FunD K "is_rising" "is_rising" (defArgs s_is_rising) (defBody s_is_rising) (defScope s_is_rising) [] [] (He.ga K "is_rising") fd_is_rising
  g_is_rising : mg "is_rising" = some (.ref (He.ga K "is_rising"))
  fd_are_worlds : FuncData
  D_are_worlds : FunD K "are_worlds" "are_worlds" (defArgs s_are_worlds) (defBody s_are_worlds) (defScope s_are_worlds) [] [] (He.ga K "are_worlds") fd_are_worlds
  g_are_worlds : mg "are_worlds" = some (.ref (He.ga K "are_worlds"))
  fd_is_shut : FuncData
  D_is_shut : FunD K "is_shut" "is_shut" (defArgs s_is_shut) (defBody s_is_shut) (defScope s_is_shut) [] [] (He.ga K "is_shut") fd_is_shut
  g_is_shut : mg "is_shut" = some (.ref (He.ga K "is_shut"))
  fd_truths_in : FuncData
  D_truths_in : FunD K "truths_in" "truths_in" (defArgs s_truths_in) (defBody s_truths_in) (defScope s_truths_in) [] [] (He.ga K "truths_in") fd_truths_in
  g_truths_in : mg "truths_in" = some (.ref (He.ga K "truths_in"))
  fd_is_order : FuncData
  D_is_order : FunD K "is_order" "is_order" (defArgs s_is_order) (defBody s_is_order) (defScope s_is_order) [] [] (He.ga K "is_order") fd_is_order
  g_is_order : mg "is_order" = some (.ref (He.ga K "is_order"))
  fd_need_order : FuncData
  D_need_order : FunD K "need_order" "need_order" (defArgs s_need_order) (defBody s_need_order) (defScope s_need_order) [] [] (He.ga K "need_order") fd_need_order
  g_need_order : mg "need_order" = some (.ref (He.ga K "need_order"))
  fd_part_in : FuncData
  D_part_in : FunD K "part_in" "part_in" (defArgs s_part_in) (defBody s_part_in) (defScope s_part_in) [] [] (He.ga K "part_in") fd_part_in
  g_part_in : mg "part_in" = some (.ref (He.ga K "part_in"))
  fd_order_part : FuncData
  D_order_part : FunD K "order_part" "order_part" (defArgs s_order_part) (defBody s_order_part) (defScope s_order_part) [] [] (He.ga K "order_part") fd_order_part
  g_order_part : mg "order_part" = some (.ref (He.ga K "order_part"))
  fd_has_root : FuncData
  D_has_root : FunD K "has_root" "has_root" (defArgs s_has_root) (defBody s_has_root) (defScope s_has_root) [] [] (He.ga K "has_root") fd_has_root
  g_has_root : mg "has_root" = some (.ref (He.ga K "has_root"))
  fd_is_one : FuncData
  D_is_one : FunD K "is_one" "is_one" (defArgs s_is_one) (defBody s_is_one) (defScope s_is_one) [] [] (He.ga K "is_one") fd_is_one
  g_is_one : mg "is_one" = some (.ref (He.ga K "is_one"))
  fd_up_lots : FuncData
  D_up_lots : FunD K "up_lots" "up_lots" (defArgs s_up_lots) (defBody s_up_lots) (defScope s_up_lots) [] [] (He.ga K "up_lots") fd_up_lots
  g_up_lots : mg "up_lots" = some (.ref (He.ga K "up_lots"))
  fd_lots_up : FuncData
  D_lots_up : FunD K "lots_up" "lots_up" (defArgs s_lots_up) (defBody s_lots_up) (defScope s_lots_up) [] [] (He.ga K "lots_up") fd_lots_up
  g_lots_up : mg "lots_up" = some (.ref (He.ga K "lots_up"))
  fd_how_many_markings : FuncData
  D_how_many_markings : FunD K "how_many_markings" "how_many_markings" (defArgs s_how_many_markings) (defBody s_how_many_markings) (defScope s_how_many_markings) [] [] (He.ga K "how_many_markings") fd_how_many_markings
  g_how_many_markings : mg "how_many_markings" = some (.ref (He.ga K "how_many_markings"))
  fd_marks_by : FuncData
  D_marks_by : FunD K "marks_by" "marks_by" (defArgs s_marks_by) (defBody s_marks_by) (defScope s_marks_by) [] [] (He.ga K "marks_by") fd_marks_by
  g_marks_by : mg "marks_by" = some (.ref (He.ga K "marks_by"))
  fd_all_marks : FuncData
  D_all_marks : FunD K "all_marks" "all_marks" (defArgs s_all_marks) (defBody s_all_marks) (defScope s_all_marks) [] [] (He.ga K "all_marks") fd_all_marks
  g_all_marks : mg "all_marks" = some (.ref (He.ga K "all_marks"))
  fd_truths_by : FuncData
  D_truths_by : FunD K "truths_by" "truths_by" (defArgs s_truths_by) (defBody s_truths_by) (defScope s_truths_by) [] [] (He.ga K "truths_by") fd_truths_by
  g_truths_by : mg "truths_by" = some (.ref (He.ga K "truths_by"))
  fd_first_fail : FuncData
  D_first_fail : FunD K "first_fail" "first_fail" (defArgs s_first_fail) (defBody s_first_fail) (defScope s_first_fail) [] [] (He.ga K "first_fail") fd_first_fail
  g_first_fail : mg "first_fail" = some (.ref (He.ga K "first_fail"))
  fd_speaks : FuncData
  D_speaks : FunD K "speaks" "speaks" (defArgs s_speaks) (defBody s_speaks) (defScope s_speaks) [] [] (He.ga K "speaks") fd_speaks
  g_speaks : mg "speaks" = some (.ref (He.ga K "speaks"))
  fd_holds_on : FuncData
  D_holds_on : FunD K "holds_on" "holds_on" (defArgs s_holds_on) (defBody s_holds_on) (defScope s_holds_on) [] [] (He.ga K "holds_on") fd_holds_on
  g_holds_on : mg "holds_on" = some (.ref (He.ga K "holds_on"))
  fd__law_begun : FuncData
  D__law_begun : FunD K "_law_begun" "_law_begun" (defArgs s__law_begun) (defBody s__law_begun) (defScope s__law_begun) [] [] (He.ga K "_law_begun") fd__law_begun
  g__law_begun : mg "_law_begun" = some (.ref (He.ga K "_law_begun"))
  fd__law_mixed : FuncData
  D__law_mixed : FunD K "_law_mixed" "_law_mixed" (defArgs s__law_mixed) (defBody s__law_mixed) (defScope s__law_mixed) [] [] (He.ga K "_law_mixed") fd__law_mixed
  g__law_mixed : mg "_law_mixed" = some (.ref (He.ga K "_law_mixed"))
  fd__law_draw : FuncData
  D__law_draw : FunD K "_law_draw" "_law_draw" (defArgs s__law_draw) (defBody s__law_draw) (defScope s__law_draw) [] [] (He.ga K "_law_draw") fd__law_draw
  g__law_draw : mg "_law_draw" = some (.ref (He.ga K "_law_draw"))
  fd__law_pick : FuncData
  D__law_pick : FunD K "_law_pick" "_law_pick" (defArgs s__law_pick) (defBody s__law_pick) (defScope s__law_pick) [] [] (He.ga K "_law_pick") fd__law_pick
  g__law_pick : mg "_law_pick" = some (.ref (He.ga K "_law_pick"))
  fd__law_shuffled : FuncData
  D__law_shuffled : FunD K "_law_shuffled" "_law_shuffled" (defArgs s__law_shuffled) (defBody s__law_shuffled) (defScope s__law_shuffled) [] [] (He.ga K "_law_shuffled") fd__law_shuffled
  g__law_shuffled : mg "_law_shuffled" = some (.ref (He.ga K "_law_shuffled"))
  fd__law_is : FuncData
  D__law_is : FunD K "_law_is" "_law_is" (defArgs s__law_is) (defBody s__law_is) (defScope s__law_is) [] [] (He.ga K "_law_is") fd__law_is
  g__law_is : mg "_law_is" = some (.ref (He.ga K "_law_is"))
  fd__law_caught : FuncData
  D__law_caught : FunD K "_law_caught" "_law_caught" (defArgs s__law_caught) (defBody s__law_caught) (defScope s__law_caught) [] [] (He.ga K "_law_caught") fd__law_caught
  g__law_caught : mg "_law_caught" = some (.ref (He.ga K "_law_caught"))
  fd__law_order : FuncData
  D__law_order : FunD K "_law_order" "_law_order" (defArgs s__law_order) (defBody s__law_order) (defScope s__law_order) [] [] (He.ga K "_law_order") fd__law_order
  g__law_order : mg "_law_order" = some (.ref (He.ga K "_law_order"))
  fd__law_lots : FuncData
  D__law_lots : FunD K "_law_lots" "_law_lots" (defArgs s__law_lots) (defBody s__law_lots) (defScope s__law_lots) [] [] (He.ga K "_law_lots") fd__law_lots
  g__law_lots : mg "_law_lots" = some (.ref (He.ga K "_law_lots"))
  fd__law_part : FuncData
  D__law_part : FunD K "_law_part" "_law_part" (defArgs s__law_part) (defBody s__law_part) (defScope s__law_part) [] [] (He.ga K "_law_part") fd__law_part
  g__law_part : mg "_law_part" = some (.ref (He.ga K "_law_part"))
  fd__law_no_statement : FuncData
  D__law_no_statement : FunD K "_law_no_statement" "_law_no_statement" (defArgs s__law_no_statement) (defBody s__law_no_statement) (defScope s__law_no_statement) [] [] (He.ga K "_law_no_statement") fd__law_no_statement
  g__law_no_statement : mg "_law_no_statement" = some (.ref (He.ga K "_law_no_statement"))
  fd__law_no_order : FuncData
  D__law_no_order : FunD K "_law_no_order" "_law_no_order" (defArgs s__law_no_order) (defBody s__law_no_order) (defScope s__law_no_order) [] [] (He.ga K "_law_no_order") fd__law_no_order
  g__law_no_order : mg "_law_no_order" = some (.ref (He.ga K "_law_no_order"))
  fd__law_is_order : FuncData
  D__law_is_order : FunD K "_law_is_order" "_law_is_order" (defArgs s__law_is_order) (defBody s__law_is_order) (defScope s__law_is_order) [] [] (He.ga K "_law_is_order") fd__law_is_order
  g__law_is_order : mg "_law_is_order" = some (.ref (He.ga K "_law_is_order"))
  fd__law_bent : FuncData
  D__law_bent : FunD K "_law_bent" "_law_bent" (defArgs s__law_bent) (defBody s__law_bent) (defScope s__law_bent) [] [] (He.ga K "_law_bent") fd__law_bent
  g__law_bent : mg "_law_bent" = some (.ref (He.ga K "_law_bent"))
  fd_law : FuncData
  D_law : FunD K "law" "law" (defArgs s_law) (defBody s_law) (defScope s_law) [] [] (He.ga K "law") fd_law
  g_law : mg "law" = some (.ref (He.ga K "law"))
  g_LETTERS : mg "LETTERS" = some (.ref (He.ga K "LETTERS"))
  t_LETTERS : ∀ H, SqT K H (He.ga K "LETTERS") V_LETTERS
  r_LETTERS : ∀ H, RpA K H D_LETTERS V_LETTERS
  g_WORDS : mg "WORDS" = some (.ref (He.ga K "WORDS"))
  t_WORDS : ∀ H, SqT K H (He.ga K "WORDS") V_WORDS
  r_WORDS : ∀ H, RpA K H D_WORDS V_WORDS
  k_MOST_SIZE : ∃ t, mg "MOST_SIZE" = some (.int 80 t)
  k_MOST_DEEP : ∃ t, mg "MOST_DEEP" = some (.int 24 t)
  k_MOST_WORLDS : ∃ t, mg "MOST_WORLDS" = some (.int 7 t)
  k_MOST_MARKINGS : ∃ t, mg "MOST_MARKINGS" = some (.int 20000 t)
  g_RuleError : mg "RuleError" = some (.ref (He.ga K "RuleError"))
  x_RuleError : PySem.W.excIn K (He.ga K "RuleError") He.veBase "ValueError.__new__" = true ∧ PySem.W.keepIn K (.ref (He.ga K "RuleError")) = true ∧ PySem.W.subIn K (.ref (He.ga K "RuleError")) (.type "BaseException") = some true ∧ PySem.W.typeIn K (.ref (He.ga K "RuleError")) = some (.type "type")
  g_BadStatement : mg "BadStatement" = some (.ref (He.ga K "BadStatement"))
  x_BadStatement : PySem.W.excIn K (He.ga K "BadStatement") He.veBase "ValueError.__new__" = true ∧ PySem.W.keepIn K (.ref (He.ga K "BadStatement")) = true ∧ PySem.W.subIn K (.ref (He.ga K "BadStatement")) (.type "BaseException") = some true ∧ PySem.W.typeIn K (.ref (He.ga K "BadStatement")) = some (.type "type")
  e_BadStatement : PySem.W.exmOne K (.ref (He.ga K "BadStatement")) (.ref (He.ga K "RuleError")) = some true
  i_BadStatement : ExcC K (He.ga K "BadStatement") ∧ PySem.W.kitOne K (.ref (He.ga K "BadStatement")) (.ref (He.ga K "BadStatement")) = some true
  g_BadWorld : mg "BadWorld" = some (.ref (He.ga K "BadWorld"))
  x_BadWorld : PySem.W.excIn K (He.ga K "BadWorld") He.veBase "ValueError.__new__" = true ∧ PySem.W.keepIn K (.ref (He.ga K "BadWorld")) = true ∧ PySem.W.subIn K (.ref (He.ga K "BadWorld")) (.type "BaseException") = some true ∧ PySem.W.typeIn K (.ref (He.ga K "BadWorld")) = some (.type "type")
  e_BadWorld : PySem.W.exmOne K (.ref (He.ga K "BadWorld")) (.ref (He.ga K "RuleError")) = some true
  i_BadWorld : ExcC K (He.ga K "BadWorld") ∧ PySem.W.kitOne K (.ref (He.ga K "BadWorld")) (.ref (He.ga K "BadWorld")) = some true
  g_BadOrder : mg "BadOrder" = some (.ref (He.ga K "BadOrder"))
  x_BadOrder : PySem.W.excIn K (He.ga K "BadOrder") He.veBase "ValueError.__new__" = true ∧ PySem.W.keepIn K (.ref (He.ga K "BadOrder")) = true ∧ PySem.W.subIn K (.ref (He.ga K "BadOrder")) (.type "BaseException") = some true ∧ PySem.W.typeIn K (.ref (He.ga K "BadOrder")) = some (.type "type")
  e_BadOrder : PySem.W.exmOne K (.ref (He.ga K "BadOrder")) (.ref (He.ga K "RuleError")) = some true
  i_BadOrder : ExcC K (He.ga K "BadOrder") ∧ PySem.W.kitOne K (.ref (He.ga K "BadOrder")) (.ref (He.ga K "BadOrder")) = some true
  m_abs : mg "abs" = none
  m_all : mg "all" = none
  m_bool : mg "bool" = none
  m_enumerate : mg "enumerate" = none
  m_int : mg "int" = none
  m_isinstance : mg "isinstance" = none
  m_len : mg "len" = none
  m_list : mg "list" = none
  m_min : mg "min" = none
  m_range : mg "range" = none
  m_repr : mg "repr" = none
  m_set : mg "set" = none
  m_sorted : mg "sorted" = none
  m_str : mg "str" = none
  m_tuple : mg "tuple" = none
  m_zip : mg "zip" = none
theorem b_is_letter {K : Fg} {mg : Str → Option Value} (c : Fx K mg) : Binds K c.fd_is_letter ["value"] [] := c.D_is_letter.bindsN fun _ _ _ _ _ _ us hl => match us, hl with | [_], _ => rfl
theorem b_is_statement {K : Fg} {mg : Str → Option Value} (c : Fx K mg) : Binds K c.fd_is_statement ["value"] [] := c.D_is_statement.bindsN fun _ _ _ _ _ _ us hl => match us, hl with | [_], _ => rfl
theorem b_need_statement {K : Fg} {mg : Str → Option Value} (c : Fx K mg) : Binds K c.fd_need_statement ["value"] [] := c.D_need_statement.bindsN fun _ _ _ _ _ _ us hl => match us, hl with | [_], _ => rfl
theorem b_inner {K : Fg} {mg : Str → Option Value} (c : Fx K mg) : Binds K c.fd_inner ["statement"] [] := c.D_inner.bindsN fun _ _ _ _ _ _ us hl => match us, hl with | [_], _ => rfl
theorem b_parts_in {K : Fg} {mg : Str → Option Value} (c : Fx K mg) : Binds K c.fd_parts_in ["statements"] [] := c.D_parts_in.bindsN fun _ _ _ _ _ _ us hl => match us, hl with | [_], _ => rfl
theorem b_size_in {K : Fg} {mg : Str → Option Value} (c : Fx K mg) : Binds K c.fd_size_in ["statement"] [] := c.D_size_in.bindsN fun _ _ _ _ _ _ us hl => match us, hl with | [_], _ => rfl
theorem b_letters_in {K : Fg} {mg : Str → Option Value} (c : Fx K mg) : Binds K c.fd_letters_in ["statements"] [] := c.D_letters_in.bindsN fun _ _ _ _ _ _ us hl => match us, hl with | [_], _ => rfl
theorem b_is_whole {K : Fg} {mg : Str → Option Value} (c : Fx K mg) : Binds K c.fd_is_whole ["value"] [] := c.D_is_whole.bindsN fun _ _ _ _ _ _ us hl => match us, hl with | [_], _ => rfl
theorem b_is_rising {K : Fg} {mg : Str → Option Value} (c : Fx K mg) : Binds K c.fd_is_rising ["value"] [] := c.D_is_rising.bindsN fun _ _ _ _ _ _ us hl => match us, hl with | [_], _ => rfl
theorem b_are_worlds {K : Fg} {mg : Str → Option Value} (c : Fx K mg) : Binds K c.fd_are_worlds ["value", "bound"] [] := c.D_are_worlds.bindsN fun _ _ _ _ _ _ us hl => match us, hl with | [_, _], _ => rfl
theorem b_is_shut {K : Fg} {mg : Str → Option Value} (c : Fx K mg) : Binds K c.fd_is_shut ["above"] [] := c.D_is_shut.bindsN fun _ _ _ _ _ _ us hl => match us, hl with | [_], _ => rfl
theorem b_truths_in {K : Fg} {mg : Str → Option Value} (c : Fx K mg) : Binds K c.fd_truths_in ["book", "parts"] [] := c.D_truths_in.bindsN fun _ _ _ _ _ _ us hl => match us, hl with | [_, _], _ => rfl
theorem b_is_order {K : Fg} {mg : Str → Option Value} (c : Fx K mg) : Binds K c.fd_is_order ["value"] [] := c.D_is_order.bindsN fun _ _ _ _ _ _ us hl => match us, hl with | [_], _ => rfl
theorem b_need_order {K : Fg} {mg : Str → Option Value} (c : Fx K mg) : Binds K c.fd_need_order ["value"] [] := c.D_need_order.bindsN fun _ _ _ _ _ _ us hl => match us, hl with | [_], _ => rfl
theorem b_part_in {K : Fg} {mg : Str → Option Value} (c : Fx K mg) : Binds K c.fd_part_in ["order", "world"] [] := c.D_part_in.bindsN fun _ _ _ _ _ _ us hl => match us, hl with | [_, _], _ => rfl
theorem b_order_part {K : Fg} {mg : Str → Option Value} (c : Fx K mg) : Binds K c.fd_order_part ["order", "world"] [] := c.D_order_part.bindsN fun _ _ _ _ _ _ us hl => match us, hl with | [_, _], _ => rfl
theorem b_has_root {K : Fg} {mg : Str → Option Value} (c : Fx K mg) : Binds K c.fd_has_root ["order"] [] := c.D_has_root.bindsN fun _ _ _ _ _ _ us hl => match us, hl with | [_], _ => rfl
theorem b_is_one {K : Fg} {mg : Str → Option Value} (c : Fx K mg) : Binds K c.fd_is_one ["order"] [] := c.D_is_one.bindsN fun _ _ _ _ _ _ us hl => match us, hl with | [_], _ => rfl
theorem b_up_lots {K : Fg} {mg : Str → Option Value} (c : Fx K mg) : Binds K c.fd_up_lots ["order"] [] := c.D_up_lots.bindsN fun _ _ _ _ _ _ us hl => match us, hl with | [_], _ => rfl
theorem b_lots_up {K : Fg} {mg : Str → Option Value} (c : Fx K mg) : Binds K c.fd_lots_up ["order"] [] := c.D_lots_up.bindsN fun _ _ _ _ _ _ us hl => match us, hl with | [_], _ => rfl
theorem b_how_many_markings {K : Fg} {mg : Str → Option Value} (c : Fx K mg) : Binds K c.fd_how_many_markings ["order", "letters"] [] := c.D_how_many_markings.bindsN fun _ _ _ _ _ _ us hl => match us, hl with | [_, _], _ => rfl
theorem b_marks_by {K : Fg} {mg : Str → Option Value} (c : Fx K mg) : Binds K c.fd_marks_by ["order", "lots", "letters", "number"] [] := c.D_marks_by.bindsN fun _ _ _ _ _ _ us hl => match us, hl with | [_, _, _, _], _ => rfl
theorem b_all_marks {K : Fg} {mg : Str → Option Value} (c : Fx K mg) : Binds K c.fd_all_marks ["order", "letters"] [] := c.D_all_marks.bindsN fun _ _ _ _ _ _ us hl => match us, hl with | [_, _], _ => rfl
theorem b_truths_by {K : Fg} {mg : Str → Option Value} (c : Fx K mg) : Binds K c.fd_truths_by ["order", "marks", "statement"] [] := c.D_truths_by.bindsN fun _ _ _ _ _ _ us hl => match us, hl with | [_, _, _], _ => rfl
theorem b_first_fail {K : Fg} {mg : Str → Option Value} (c : Fx K mg) : Binds K c.fd_first_fail ["order", "statement"] [] := c.D_first_fail.bindsN fun _ _ _ _ _ _ us hl => match us, hl with | [_, _], _ => rfl
theorem b_speaks {K : Fg} {mg : Str → Option Value} (c : Fx K mg) : Binds K c.fd_speaks ["order", "statement"] [] := c.D_speaks.bindsN fun _ _ _ _ _ _ us hl => match us, hl with | [_, _], _ => rfl
theorem b_holds_on {K : Fg} {mg : Str → Option Value} (c : Fx K mg) : Binds K c.fd_holds_on ["order", "statement"] [] := c.D_holds_on.bindsN fun _ _ _ _ _ _ us hl => match us, hl with | [_, _], _ => rfl
theorem b__law_begun {K : Fg} {mg : Str → Option Value} (c : Fx K mg) : Binds K c.fd__law_begun ["script"] [] := c.D__law_begun.bindsN fun _ _ _ _ _ _ us hl => match us, hl with | [_], _ => rfl
theorem b__law_mixed {K : Fg} {mg : Str → Option Value} (c : Fx K mg) : Binds K c.fd__law_mixed ["state"] [] := c.D__law_mixed.bindsN fun _ _ _ _ _ _ us hl => match us, hl with | [_], _ => rfl
theorem b__law_draw {K : Fg} {mg : Str → Option Value} (c : Fx K mg) : Binds K c.fd__law_draw ["state", "room"] [] := c.D__law_draw.bindsN fun _ _ _ _ _ _ us hl => match us, hl with | [_, _], _ => rfl
theorem b__law_pick {K : Fg} {mg : Str → Option Value} (c : Fx K mg) : Binds K c.fd__law_pick ["state", "some"] [] := c.D__law_pick.bindsN fun _ _ _ _ _ _ us hl => match us, hl with | [_, _], _ => rfl
theorem b__law_shuffled {K : Fg} {mg : Str → Option Value} (c : Fx K mg) : Binds K c.fd__law_shuffled ["state", "some"] [] := c.D__law_shuffled.bindsN fun _ _ _ _ _ _ us hl => match us, hl with | [_, _], _ => rfl
theorem b__law_is {K : Fg} {mg : Str → Option Value} (c : Fx K mg) : Binds K c.fd__law_is ["found", "due"] [] := c.D__law_is.bindsN fun _ _ _ _ _ _ us hl => match us, hl with | [_, _], _ => rfl
theorem b__law_caught {K : Fg} {mg : Str → Option Value} (c : Fx K mg) : Binds K c.fd__law_caught ["action"] [] := c.D__law_caught.bindsN fun _ _ _ _ _ _ us hl => match us, hl with | [_], _ => rfl
theorem b__law_order {K : Fg} {mg : Str → Option Value} (c : Fx K mg) : Binds K c.fd__law_order ["state", "most"] [] := c.D__law_order.bindsN fun _ _ _ _ _ _ us hl => match us, hl with | [_, _], _ => rfl
theorem b__law_lots {K : Fg} {mg : Str → Option Value} (c : Fx K mg) : Binds K c.fd__law_lots ["order"] [] := c.D__law_lots.bindsN fun _ _ _ _ _ _ us hl => match us, hl with | [_], _ => rfl
theorem b__law_part {K : Fg} {mg : Str → Option Value} (c : Fx K mg) : Binds K c.fd__law_part ["order", "world"] [] := c.D__law_part.bindsN fun _ _ _ _ _ _ us hl => match us, hl with | [_, _], _ => rfl
theorem b__law_no_statement {K : Fg} {mg : Str → Option Value} (c : Fx K mg) : Binds K c.fd__law_no_statement ["state"] [] := c.D__law_no_statement.bindsN fun _ _ _ _ _ _ us hl => match us, hl with | [_], _ => rfl
theorem b__law_no_order {K : Fg} {mg : Str → Option Value} (c : Fx K mg) : Binds K c.fd__law_no_order ["state"] [] := c.D__law_no_order.bindsN fun _ _ _ _ _ _ us hl => match us, hl with | [_], _ => rfl
theorem b__law_is_order {K : Fg} {mg : Str → Option Value} (c : Fx K mg) : Binds K c.fd__law_is_order ["value"] [] := c.D__law_is_order.bindsN fun _ _ _ _ _ _ us hl => match us, hl with | [_], _ => rfl
theorem b__law_bent {K : Fg} {mg : Str → Option Value} (c : Fx K mg) : Binds K c.fd__law_bent ["state", "order"] [] := c.D__law_bent.bindsN fun _ _ _ _ _ _ us hl => match us, hl with | [_, _], _ => rfl
theorem ec_BadStatement {X : Cx} (c : Fx X.K X.mg) : ErrC X (He.ga X.K "RuleError") "BadStatement" (He.ga X.K "BadStatement") := ⟨c.g_BadStatement, c.e_BadStatement, c.i_BadStatement.1, c.i_BadStatement.2⟩
theorem ec_BadWorld {X : Cx} (c : Fx X.K X.mg) : ErrC X (He.ga X.K "RuleError") "BadWorld" (He.ga X.K "BadWorld") := ⟨c.g_BadWorld, c.e_BadWorld, c.i_BadWorld.1, c.i_BadWorld.2⟩
theorem ec_BadOrder {X : Cx} (c : Fx X.K X.mg) : ErrC X (He.ga X.K "RuleError") "BadOrder" (He.ga X.K "BadOrder") := ⟨c.g_BadOrder, c.e_BadOrder, c.i_BadOrder.1, c.i_BadOrder.2⟩
theorem br_lots_up {K : Fg} {mg : Str → Option Value} (c : Fx K mg) (s : Shared) (ws : List Value) (hl : ws.length = (["order"] : List Str).length) : BindsTo s c.fd_lots_up ⟨[], (["order"] : List Str).reverse.zip ws⟩ ((["order"] : List Str).zip ws.reverse) := bindsR0 c.D_lots_up (fun _ _ _ _ _ _ ws hl => match ws, hl with | [_], _ => rfl) s ws hl
theorem br_order_part {K : Fg} {mg : Str → Option Value} (c : Fx K mg) (s : Shared) (ws : List Value) (hl : ws.length = (["order", "world"] : List Str).length) : BindsTo s c.fd_order_part ⟨[], (["order", "world"] : List Str).reverse.zip ws⟩ ((["order", "world"] : List Str).zip ws.reverse) := bindsR0 c.D_order_part (fun _ _ _ _ _ _ ws hl => match ws, hl with | [_, _], _ => rfl) s ws hl
theorem bk_is_order {K : Fg} {mg : Str → Option Value} (c : Fx K mg) (s : Shared) (ws : List Value) (hl : ws.length = (["value"] : List Str).length) : BindsTo s c.fd_is_order ⟨[], (["value"] : List Str).zip ws⟩ ((["value"] : List Str).zip ws) := bindsK0 c.D_is_order (fun _ _ _ _ _ _ ws hl => match ws, hl with | [_], _ => rfl) s ws hl
end K67
set_option maxHeartbeats 4000000
namespace K67
open PySem PySem.Spec PyProof.Rows L2 DL
abbrev N_is_letter : List Str := ["value"]
def g_is_letter : SF := gRet (eAnd (eC (eV 0) (oIsa PyData.isStr)) (eC2 (eV 0) (eD (.tuple D_LETTERS)) oIn))
def F_is_letter : FF := FB 1 g_is_letter
abbrev N_is_statement : List Str := ["value", "waiting", "many", "here", "deep"]
def g_is_statement : SF := gSq (gPar 1 2 (eLst (aCons (eTup (aCons (eV 0) (aCons (eD (.int 1)) (aNil)))) (aNil))) (eD (.int 0)))
  (gSq (fWhile (tE (eC2 (eV 1) (eLst (aNil)) oNe)) (gSq (gUnp (ePop 1) (gT 2 (gsCons (gN 3) (gsCons (gN 4) (gsNil)))))
  (gSq (gAugI 2 (eD (.int 1)))
  (gSq (gIf (tOo (tE (eC2 (eV 2) (eD (.int 80)) oGt)) (tOo (tE (eC2 (eV 4) (eD (.int 24)) oGt)) (tOo (tNt (tE (eC (eV 3) (oIsa PyData.isTuple)))) (tE (eC2 (eC (eV 3) oLen) (eD (.int 0)) oEq))))) (gRet (eD (.bool false))) (gNx))
  (gSq (gIf (tNt (tE (eC (eC2 (eV 3) (eD (.int 0)) oIx) (oIsa PyData.isStr)))) (gRet (eD (.bool false))) (gNx))
  (gIf (tE (eC2 (eC2 (eV 3) (eD (.int 0)) oIx) (eD (.tuple D_WORDS)) oIn)) (gSq (gIf (tE (eC2 (eC (eV 3) oLen) (eD (.int 3)) oNe)) (gRet (eD (.bool false))) (gNx))
  (gAugL 1 (eLst (aCons (eTup (aCons (eC2 (eV 3) (eD (.int 1)) oIx) (aCons (eC2 (eV 4) (eD (.int 1)) oAdd) (aNil)))) (aCons (eTup (aCons (eC2 (eV 3) (eD (.int 2)) oIx) (aCons (eC2 (eV 4) (eD (.int 1)) oAdd) (aNil)))) (aNil)))))) (gIf (tE (eC2 (eC2 (eV 3) (eD (.int 0)) oIx) (eD (.str "letter")) oEq)) (gIf (tOo (tE (eC2 (eC (eV 3) oLen) (eD (.int 2)) oNe)) (tNt (tE (eCall F_is_letter 1 [] (aCons (eC2 (eV 3) (eD (.int 1)) oIx) (aNil)))))) (gRet (eD (.bool false))) (gNx)) (gIf (tE (eC2 (eV 3) (eTup (aCons (eD (.str "never")) (aNil))) oNe)) (gRet (eD (.bool false))) (gNx)))))))) 200)
  (gRet (eD (.bool true))))
def F_is_statement : FF := FB 5 g_is_statement
abbrev N_need_statement : List Str := ["value"]
def g_need_statement : SF := gIf (tNt (tE (eCall F_is_statement 1 [] (aCons (eV 0) (aNil))))) (gRaise "BadStatement") (gNx)
def F_need_statement : FF := FB 1 g_need_statement
abbrev N_is_whole : List Str := ["value"]
def g_is_whole : SF := gRet (eAnd (eC (eV 0) (oIsa PyData.isInt)) (eNot (eC (eV 0) (oIsa PyData.isBool))))
def F_is_whole : FF := FB 1 g_is_whole
abbrev N_is_rising : List Str := ["value", "one", "other"]
def g_is_rising : SF := gRet (eAnd (eC (eV 0) (oIsa PyData.isTuple)) (eC (eLC [1, 2] (iZ (aCons (eV 0) (aCons (eC2 (eV 0) (eD (.int 1)) oCutL) (aNil)))) (gT 2 (gsCons (gN 1) (gsCons (gN 2) (gsNil)))) (tYs) (eC2 (eV 1) (eV 2) oLt)) oAll))
def F_is_rising : FF := FB 3 g_is_rising
abbrev N_are_worlds : List Str := ["value", "bound", "one"]
def g_are_worlds : SF := gRet (eAnd (eC (eV 0) (oIsa PyData.isTuple)) (eAnd (eC (eLC [2] (iS (eV 0)) (gN 2) (tYs) (eAnd (eCall F_is_whole 1 [] (aCons (eV 2) (aNil))) (eChn (fun i j => decide (i ≤ j)) (fun i j => decide (i < j)) (eD (.int 0)) (eV 2) (eV 1)))) oAll) (eCall F_is_rising 1 [] (aCons (eV 0) (aNil)))))
def F_are_worlds : FF := FB 3 g_are_worlds
abbrev N_is_shut : List Str := ["above", "row", "some", "one", "other"]
def g_is_shut : SF := gSq (gFor (iS (eV 0)) (gN 1) (gSq (gAsg 2 (eDC [3] (iS (eV 1)) (gN 3) (tYs) (eV 3) (eD (.bool true))))
  (gFor (iS (eV 1)) (gN 3) (gIf (tNt (tE (eC (eLC [4] (iS (eC2 (eV 0) (eV 3) oIx)) (gN 4) (tYs) (eC2 (eV 4) (eV 2) oIn)) oAll))) (gRet (eD (.bool false))) (gNx)))))
  (gRet (eD (.bool true)))
def F_is_shut : FF := FB 5 g_is_shut
abbrev N_is_order : List Str := ["value", "at", "row"]
def g_is_order : SF := gSq (gIf (tOo (tNt (tE (eC (eV 0) (oIsa PyData.isTuple)))) (tNt (tE (eChn (fun i j => decide (i ≤ j)) (fun i j => decide (i ≤ j)) (eD (.int 1)) (eC (eV 0) oLen) (eD (.int 7)))))) (gRet (eD (.bool false))) (gNx))
  (gRet (eAnd (eC (eLC [1, 2] (iEA (aCons (eV 0) (aNil))) (gT 2 (gsCons (gN 1) (gsCons (gN 2) (gsNil)))) (tYs) (eCall F_are_worlds 2 [] (aCons (eV 2) (aCons (eV 1) (aNil))))) oAll) (eCall F_is_shut 1 [] (aCons (eV 0) (aNil)))))
def F_is_order : FF := FB 3 g_is_order
abbrev N_need_order : List Str := ["value"]
def g_need_order : SF := gIf (tNt (tE (eCall F_is_order 1 [] (aCons (eV 0) (aNil))))) (gRaise "BadOrder") (gNx)
def F_need_order : FF := FB 1 g_need_order
abbrev N_part_in : List Str := ["order", "world", "some", "numbers", "at", "one", "other"]
def g_part_in : SF := gSq (gAsg 2 (eC2 (eC2 (eV 0) (eV 1) oIx) (eTup (aCons (eV 1) (aNil))) oAdd))
  (gSq (gAsg 3 (eDC [4, 5] (iEA (aCons (eV 2) (aNil))) (gT 2 (gsCons (gN 4) (gsCons (gN 5) (gsNil)))) (tYs) (eV 5) (eV 4)))
  (gRet (eC (eLC [5] (iS (eV 2)) (gN 5) (tYs) (eC (eLC [6] (iS (eC2 (eV 0) (eV 5) oIx)) (gN 6) (tYs) (eC2 (eV 3) (eV 6) oIx)) oTupOf)) oTupOf)))
def F_part_in : FF := FB 7 g_part_in
abbrev N_order_part : List Str := ["order", "world"]
def g_order_part : SF := gSq (gDrop (eCall F_need_order 1 [] (aCons (eV 0) (aNil))))
  (gSq (gIf (tOo (tNt (tE (eCall F_is_whole 1 [] (aCons (eV 1) (aNil))))) (tNt (tE (eChn (fun i j => decide (i ≤ j)) (fun i j => decide (i < j)) (eD (.int 0)) (eV 1) (eC (eV 0) oLen))))) (gRaise "BadWorld") (gNx))
  (gRet (eCall F_part_in 2 [] (aCons (eV 0) (aCons (eV 1) (aNil))))))
def F_order_part : FF := FB 2 g_order_part
abbrev N_has_root : List Str := ["order"]
def g_has_root : SF := gRet (eC2 (eC2 (eV 0) (eC (eD (.int 1)) oNeg) oIx) (eC (eC2 (eC (eV 0) oLen) (eD (.int 1)) oSub) oTR1) oEq)
def F_has_root : FF := FB 1 g_has_root
abbrev N_is_one : List Str := ["order"]
def g_is_one : SF := gSq (gDrop (eCall F_need_order 1 [] (aCons (eV 0) (aNil))))
  (gRet (eCall F_has_root 1 [] (aCons (eV 0) (aNil))))
def F_is_one : FF := FB 1 g_is_one
abbrev N_up_lots : List Str := ["order", "found", "world", "row", "lot", "one"]
def g_up_lots : SF := gSq (gAsg 1 (eLst (aCons (eTup (aNil)) (aNil))))
  (gSq (gFor (iEA (aCons (eV 0) (aNil))) (gT 2 (gsCons (gN 2) (gsCons (gN 3) (gsNil)))) (gAugL 1 (eLCo [4] 1 (gN 4) (tE (eC (eLC [5] (iS (eV 3)) (gN 5) (tYs) (eC2 (eV 5) (eV 4) oIn)) oAll)) (eC2 (eV 4) (eTup (aCons (eV 2) (aNil))) oAdd))))
  (gRet (eC (eV 1) oSrtT)))
def F_up_lots : FF := FB 6 g_up_lots
abbrev N_lots_up : List Str := ["order"]
def g_lots_up : SF := gSq (gDrop (eCall F_need_order 1 [] (aCons (eV 0) (aNil))))
  (gRet (eCall F_up_lots 1 [] (aCons (eV 0) (aNil))))
def F_lots_up : FF := FB 1 g_lots_up
abbrev N_speaks : List Str := ["order", "statement"]
def g_speaks : SF := gSq (gDrop (eCall F_need_order 1 [] (aCons (eV 0) (aNil))))
  (gSq (gDrop (eCall F_need_statement 1 [] (aCons (eV 1) (aNil))))
  (gNo))
def F_speaks : FF := FB 2 g_speaks
abbrev N_holds_on : List Str := ["order", "statement"]
def g_holds_on : SF := gRet (eC (eCall F_speaks 2 [] (aCons (eV 0) (aCons (eV 1) (aNil)))) oIsN)
def F_holds_on : FF := FB 2 g_holds_on
abbrev N__law_mixed : List Str := ["state", "turn", "found", "prime", "blend", "cell"]
def g__law_mixed : SF := gSq (gPar 1 2 (eC2 (eStI 0 (fun S => S.turn)) (eD (.int 1)) oAdd) (eD (.int 0)))
  (gSq (gSt 0 (fun S j => { S with turn := j }) (eV 1))
  (gSq (gFor (iS (eLst (aCons (eD (.int 2147483549)) (aCons (eD (.int 2147483543)) (aCons (eD (.int 2147483497)) (aCons (eD (.int 2147483489)) (aNil))))))) (gN 3) (gSq (gAsg 4 (eC2 (eC2 (eD (.int 69621)) (eV 1) oMul) (eC2 (eV 3) (eD (.int 41)) oFdiv) oAdd))
  (gSq (gFor (iS (eStC 0)) (gN 5) (gAsg 4 (eC2 (eC (eC2 (eC2 (eC2 (eV 4) (eD (.int 48271)) oMul) (eV 5) oAdd) (eV 1) oAdd) oInt) (eV 3) oMod)))
  (gAsg 2 (eC2 (eC2 (eV 2) (eD (.int 2147483659)) oMul) (eC2 (eC (eC2 (eV 4) (eD (.int 5)) oPow) oInt) (eV 3) oMod) oAdd)))))
  (gRet (eV 2))))
def F__law_mixed : FSt := FSB 6 g__law_mixed
abbrev N__law_draw : List Str := ["state", "room", "found"]
def g__law_draw : SF := gSq (gIf (tE (eC2 (eStI 0 (fun S => S.rest)) (eD (.int 0)) oEq)) (gSt 0 (fun S j => { S with rest := j }) (eIf (tGN 0) (eStP 0) (eCallS 0 F__law_mixed 0 (aNil)))) (gNx))
  (gSq (gAsg 2 (eC2 (eC (eStI 0 (fun S => S.rest)) oInt) (eV 1) oMod))
  (gSq (gSt 0 (fun S j => { S with rest := j }) (eC2 (eStI 0 (fun S => S.rest)) (eV 1) oFdiv))
  (gRet (eV 2))))
def F__law_draw : FSt := FSB 3 g__law_draw
abbrev N__law_pick : List Str := ["state", "some"]
def g__law_pick : SF := gRet (eC2 (eV 1) (eCallS 0 F__law_draw 1 (aCons (eC (eV 1) oLen) (aNil))) oIx)
def F__law_pick : FSt := FSB 2 g__law_pick
abbrev N__law_is : List Str := ["found", "due"]
def g__law_is : SF := gRet (eAnd (eC2 (eV 0) (eV 1) oEq) (eAnd (eC2 (eV 1) (eV 0) oEq) (eC2 (eC (eV 0) oRepr) (eC (eV 1) oRepr) oEq)))
def F__law_is : FF := FB 2 g__law_is
abbrev N__law_order : List Str := ["state", "most", "found", "many", "world", "row", "there"]
def g__law_order : SF := gSq (gAsg 2 (eLst (aNil)))
  (gSq (gAsg 3 (eC2 (eD (.int 1)) (eCallS 0 F__law_draw 1 (aCons (eV 1) (aNil))) oAdd))
  (gSq (gFor (iR1 (aCons (eV 3) (aNil))) (gN 4) (gSq (gAsg 5 (eLst (aNil)))
  (gSq (gFor (iR1 (aCons (eV 4) (aNil))) (gN 6) (gIf (tOo (tE (eC2 (eCallS 0 F__law_draw 1 (aCons (eD (.int 3)) (aNil))) (eD (.int 0)) oEq)) (tAn (tE (eC2 (eV 4) (eC2 (eV 3) (eD (.int 1)) oSub) oEq)) (tE (eC2 (eCallS 0 F__law_draw 1 (aCons (eD (.int 2)) (aNil))) (eD (.int 0)) oEq)))) (gAsg 5 (eC2 (eC2 (eV 5) (eLst (aCons (eV 6) (aNil))) oAdd) (eC (eC2 (eV 2) (eV 6) oIx) oLstOf) oAdd)) (gNx)))
  (gApp 2 (eC (eC (eV 5) oSrtSet) oTupOf)))))
  (gSq (gIf (tE (eC2 (eCallS 0 F__law_draw 1 (aCons (eD (.int 2)) (aNil))) (eD (.int 0)) oEq)) (gSetIx 2 (eC (eC2 (eV 3) (eD (.int 1)) oSub) oTR1) (eC (eD (.int 1)) oNeg)) (gNx))
  (gRet (eC (eV 2) oTupOf)))))
def F__law_order : FSt := FSB 7 g__law_order
abbrev N__law_lots : List Str := ["order", "found", "world", "lot", "there"]
def g__law_lots : SF := gSq (gAsg 1 (eLst (aCons (eTup (aNil)) (aNil))))
  (gSq (gFor (iR1 (aCons (eC (eV 0) oLen) (aNil))) (gN 2) (gAsg 1 (eC2 (eV 1) (eLC [3] (iS (eV 1)) (gN 3) (tE (eC2 (eLC [4] (iS (eC2 (eV 0) (eV 2) oIx)) (gN 4) (tE (eC2 (eV 4) (eV 3) oNin)) (eV 4)) (eLst (aNil)) oEq)) (eC2 (eV 3) (eTup (aCons (eV 2) (aNil))) oAdd)) oAdd)))
  (gRet (eC (eV 1) oSrtT)))
def F__law_lots : FF := FB 5 g__law_lots
abbrev N__law_part : List Str := ["order", "world", "some", "one", "there"]
def g__law_part : SF := gSq (gAsg 2 (eC2 (eC (eC2 (eV 0) (eV 1) oIx) oLstOf) (eLst (aCons (eV 1) (aNil))) oAdd))
  (gRet (eC (eLC [3] (iS (eV 2)) (gN 3) (tYs) (eC (eLC [4] (iS (eC2 (eV 0) (eV 3) oIx)) (gN 4) (tYs) (eIndex 2 (eV 4))) oTupOf)) oTupOf))
def F__law_part : FF := FB 5 g__law_part
abbrev N__law_no_statement : List Str := ["state"]
def g__law_no_statement : SF := gRet (eCallS 0 F__law_pick 1 (aCons (eLst (aCons (eD .none) (aCons (eD (.int 5)) (aCons (eTup (aNil)) (aCons (eD (.str "p")) (aCons (eTup (aCons (eD (.str "letter")) (aCons (eD (.str "t")) (aNil)))) (aCons (eTup (aCons (eD (.str "letter")) (aNil))) (aCons (eLst (aCons (eD (.str "never")) (aNil))) (aCons (eTup (aCons (eD (.str "never")) (aCons (eD (.int 1)) (aNil)))) (aCons (eTup (aCons (eD (.str "both")) (aCons (eTup (aCons (eD (.str "never")) (aNil))) (aNil)))) (aCons (eTup (aCons (eD (.str "not")) (aCons (eTup (aCons (eD (.str "never")) (aNil))) (aNil)))) (aCons (eTup (aCons (eD (.str "letter")) (aCons (eD (.str "P")) (aNil)))) (aCons (eD (.bool true)) (aNil)))))))))))))) (aNil)))
def F__law_no_statement : FSt := FSB 1 g__law_no_statement
abbrev N__law_no_order : List Str := ["state"]
def g__law_no_order : SF := gRet (eCallS 0 F__law_pick 1 (aCons (eLst (aCons (eD .none) (aCons (eTup (aNil)) (aCons (eD (.int 5)) (aCons (eLst (aCons (eTup (aNil)) (aNil))) (aCons (eTup (aCons (eTup (aCons (eD (.int 0)) (aNil))) (aNil))) (aCons (eTup (aCons (eTup (aNil)) (aCons (eTup (aCons (eD (.int 1)) (aNil))) (aNil)))) (aCons (eTup (aCons (eTup (aNil)) (aCons (eTup (aCons (eD (.int 0)) (aCons (eD (.int 0)) (aNil)))) (aNil)))) (aCons (eTup (aCons (eTup (aNil)) (aCons (eLst (aCons (eD (.int 0)) (aNil))) (aNil)))) (aCons (eC2 (eTup (aCons (eTup (aNil)) (aNil))) (eD (.int 8)) oRepT) (aCons (eTup (aCons (eTup (aNil)) (aCons (eTup (aCons (eD (.int 0)) (aNil))) (aCons (eTup (aCons (eD (.int 1)) (aNil))) (aNil))))) (aCons (eTup (aCons (eTup (aNil)) (aCons (eTup (aCons (eD (.bool true)) (aNil))) (aCons (eTup (aCons (eD (.int 0)) (aCons (eD (.int 1)) (aNil)))) (aNil))))) (aCons (eD (.str "order")) (aCons (eTup (aCons (eTup (aNil)) (aCons (eTup (aCons (eD (.int 0)) (aNil))) (aCons (eTup (aCons (eD (.int 1)) (aCons (eD (.int 0)) (aNil)))) (aNil))))) (aNil))))))))))))))) (aNil)))
def F__law_no_order : FSt := FSB 1 g__law_no_order
abbrev N__law_is_order : List Str := ["value", "world", "row", "one", "there"]
def g__law_is_order : SF := gSq (gIf (tOo (tNt (tE (eC (eV 0) (oIsa PyData.isTuple)))) (tNt (tE (eChn (fun i j => decide (i ≤ j)) (fun i j => decide (i ≤ j)) (eD (.int 1)) (eC (eV 0) oLen) (eD (.int 7)))))) (gRet (eD (.bool false))) (gNx))
  (gSq (gFor (iEA (aCons (eV 0) (aNil))) (gT 2 (gsCons (gN 1) (gsCons (gN 2) (gsNil)))) (gSq (gIf (tOo (tNt (tE (eC (eV 2) (oIsa PyData.isTuple)))) (tE (eC2 (eLC [3] (iS (eV 2)) (gN 3) (tOo (tNt (tE (eC (eV 3) (oIsa PyData.isInt)))) (tOo (tE (eC (eV 3) (oIsa PyData.isBool))) (tNt (tE (eChn (fun i j => decide (i ≤ j)) (fun i j => decide (i < j)) (eD (.int 0)) (eV 3) (eV 1)))))) (eD (.int 1))) (eLst (aNil)) oNe))) (gRet (eD (.bool false))) (gNx))
  (gIf (tE (eC2 (eC (eV 2) oLstOf) (eC (eV 2) oSrtSet) oNe)) (gRet (eD (.bool false))) (gNx))))
  (gSq (gFor (iS (eV 0)) (gN 2) (gIf (tE (eC2 (eLC [3] (iS (eV 2)) (gN 3) (tE (eC2 (eLC [4] (iS (eC2 (eV 0) (eV 3) oIx)) (gN 4) (tE (eC2 (eV 4) (eV 2) oNin)) (eV 4)) (eLst (aNil)) oNe)) (eD (.int 1))) (eLst (aNil)) oNe)) (gRet (eD (.bool false))) (gNx)))
  (gRet (eD (.bool true)))))
def F__law_is_order : FF := FB 5 g__law_is_order
abbrev N__law_bent : List Str := ["state", "order", "at", "row"]
def g__law_bent : SF := gSq (gAsg 2 (eCallS 0 F__law_draw 1 (aCons (eC (eV 1) oLen) (aNil))))
  (gSq (gAsg 3 (eCallS 0 F__law_pick 1 (aCons (eLst (aCons (eC2 (eC2 (eV 1) (eV 2) oIx) (eC (eD (.int 1)) oNeg) oCutH) (aCons (eC2 (eC2 (eV 1) (eV 2) oIx) (eTup (aCons (eV 2) (aNil))) oAdd) (aCons (eC (eC2 (eV 1) (eV 2) oIx) oBack) (aCons (eTup (aCons (eD (.int 0)) (aNil))) (aCons (eC (eC2 (eV 1) (eV 2) oIx) oLstOf) (aCons (eC (eV 2) oTR1) (aCons (eD .none) (aCons (eC2 (eC2 (eV 1) (eV 2) oIx) (eD (.int 1)) oCutL) (aNil)))))))))) (aNil))))
  (gRet (eC2 (eC2 (eC2 (eV 1) (eV 2) oCutH) (eTup (aCons (eV 3) (aNil))) oAdd) (eC2 (eV 1) (eC2 (eV 2) (eD (.int 1)) oAdd) oCutL) oAdd)))
def F__law_bent : FSt := FSB 4 g__law_bent
end K67
set_option maxHeartbeats 4000000
namespace K67
open PySem PySem.Spec PyProof.Rows L2 DL
theorem sc_is_letter : FnScope N_is_letter ["value"] (defScope s_is_letter) := ⟨rfl, rfl, rfl, by decide +kernel, rfl, by decide +kernel, by decide +kernel⟩
theorem ok_is_letter {P : Program} {w : World} {K : Fg} {mg : Str → Option Value} {base : Heap} (c : Fx K mg) : FnG P w K mg base CX0 1 (He.ga K "is_letter") c.fd_is_letter ["value"] (spF K mg 1 F_is_letter) := fn_data0 (g := g_is_letter) c.D_is_letter sc_is_letter rfl (fun cdv A outer s H E rm => (have nd := sc_is_letter.nd;
    ds_one (d_ret (d_and (d_isa PySem.W.isinstance_str_data (pe_bltn rfl c.m_str (by first | rfl | decide +kernel) rfl) c.m_isinstance (d_var 0)) (d_one (d_in' rm (d_var 0) (d_globT c.g_LETTERS c.t_LETTERS c.r_LETTERS))))))) (fun _ _ _ e => e)
theorem sc_is_statement : FnScope N_is_statement ["value"] (defScope s_is_statement) := ⟨rfl, rfl, rfl, by decide +kernel, rfl, by decide +kernel, by decide +kernel⟩
theorem ok_is_statement {P : Program} {w : World} {K : Fg} {mg : Str → Option Value} {base : Heap} (c : Fx K mg) : FnG P w K mg base CX0 2 (He.ga K "is_statement") c.fd_is_statement ["value"] (spF K mg 1 F_is_statement) := fn_data0 (g := g_is_statement) c.D_is_statement sc_is_statement rfl (fun cdv A outer s H E rm => (have nd := sc_is_statement.nd;
    ds_cons (d_par 1 2 (d_lst (dA_cons (d_tup (dA_cons (d_var 0) (dA_cons (d_int) (dA_nil)))) (dA_nil))) (d_int) (hN := nd))
    (ds_cons (d_while 200 (dt_ne rm (d_var 1) (d_lst (dA_nil))) (ds_cons (d_unp (d_pop 1) (dg_tup (h := dgs_cons (dg_name 3 (hN := nd)) (dgs_cons (dg_name 4 (hN := nd)) (dgs_nil)))))
    (ds_cons (d_augI 2 (d_int) (hN := nd))
    (ds_cons (d_if (dt_pw (dw_or (dt_gt (d_var 2) (d_globI c.k_MOST_SIZE)) (dw_or (dt_gt (d_var 4) (d_globI c.k_MOST_DEEP)) (dw_or (dt_not (dt_val (d_isa PySem.W.isinstance_tuple_data (pe_bltn rfl c.m_tuple (by first | rfl | decide +kernel) rfl) c.m_isinstance (d_var 3)))) (dw_or1 (dt_eq rm (d_len c.m_len (d_var 3)) (d_int))))))) (ds_one (d_ret (d_bl))) (ds_nil))
    (ds_cons (d_if (dt_not (dt_val (d_isa PySem.W.isinstance_str_data (pe_bltn rfl c.m_str (by first | rfl | decide +kernel) rfl) c.m_isinstance (d_ix rm (d_var 3) (d_int))))) (ds_one (d_ret (d_bl))) (ds_nil))
    (ds_one (d_if (dt_in rm (d_ix rm (d_var 3) (d_int)) (d_globT c.g_WORDS c.t_WORDS c.r_WORDS)) (ds_cons (d_if (dt_ne rm (d_len c.m_len (d_var 3)) (d_int)) (ds_one (d_ret (d_bl))) (ds_nil))
    (ds_one (d_augL 1 (d_lst (dA_cons (d_tup (dA_cons (d_ix rm (d_var 3) (d_int)) (dA_cons (d_add (d_var 4) (d_int)) (dA_nil)))) (dA_cons (d_tup (dA_cons (d_ix rm (d_var 3) (d_int)) (dA_cons (d_add (d_var 4) (d_int)) (dA_nil)))) (dA_nil)))) (hN := nd)))) (ds_one (d_if (dt_eq rm (d_ix rm (d_var 3) (d_int)) (d_str)) (ds_one (d_if (dt_pw (dw_or (dt_ne rm (d_len c.m_len (d_var 3)) (d_int)) (dw_or1 (dt_not (dt_val (d_fn ((ok_is_letter c).up (by decide : 1 ≤ 1)) rm c.g_is_letter c.D_is_letter.kp (b_is_letter c) (dA_cons (d_ix rm (d_var 3) (d_int)) (dA_nil)))))))) (ds_one (d_ret (d_bl))) (ds_nil))) (ds_one (d_if (dt_ne rm (d_var 3) (d_tup (dA_cons (d_str) (dA_nil)))) (ds_one (d_ret (d_bl))) (ds_nil))))))))))))
    (ds_one (d_ret (d_bl)))))) (fun _ _ _ e => e)
theorem sc_need_statement : FnScope N_need_statement ["value"] (defScope s_need_statement) := ⟨rfl, rfl, rfl, by decide +kernel, rfl, by decide +kernel, by decide +kernel⟩
theorem ok_need_statement {P : Program} {w : World} {K : Fg} {mg : Str → Option Value} {base : Heap} (c : Fx K mg) : FnG P w K mg base (L2.CX P w) 3 (He.ga K "need_statement") c.fd_need_statement ["value"] (spF K mg 1 F_need_statement) := fn_dataX (g := g_need_statement) c.D_need_statement sc_need_statement rfl (fun cdv A outer s H E rm tk => (have nd := sc_need_statement.nd;
    ds_one (d_if (dt_not (dt_val (d_fn ((ok_is_statement c).up (by decide : 2 ≤ 2)) rm c.g_is_statement c.D_is_statement.kp (b_is_statement c) (dA_cons (d_var 0) (dA_nil))))) (ds_one (d_raise "BadStatement" tk (L2.pmk_own PySem.F.excBase_ValueError c.x_BadStatement.1 c.g_BadStatement c.x_BadStatement.2.1 (L2.raises_own c.x_BadStatement.2.2.1 c.x_BadStatement.2.2.2) rfl) c.g_BadStatement)) (ds_nil)))) (fun _ _ _ e => e)
theorem sc_is_whole : FnScope N_is_whole ["value"] (defScope s_is_whole) := ⟨rfl, rfl, rfl, by decide +kernel, rfl, by decide +kernel, by decide +kernel⟩
theorem ok_is_whole {P : Program} {w : World} {K : Fg} {mg : Str → Option Value} {base : Heap} (c : Fx K mg) : FnG P w K mg base CX0 1 (He.ga K "is_whole") c.fd_is_whole ["value"] (spF K mg 1 F_is_whole) := fn_data0 (g := g_is_whole) c.D_is_whole sc_is_whole rfl (fun cdv A outer s H E rm => (have nd := sc_is_whole.nd;
    ds_one (d_ret (d_and (d_isa PySem.W.isinstance_int_data (pe_bltn rfl c.m_int (by first | rfl | decide +kernel) rfl) c.m_isinstance (d_var 0)) (d_one (d_not (d_isa PySem.W.isinstance_bool_data (pe_bltn rfl c.m_bool (by first | rfl | decide +kernel) rfl) c.m_isinstance (d_var 0)))))))) (fun _ _ _ e => e)
theorem sc_is_rising : FnScope N_is_rising ["value"] (defScope s_is_rising) := ⟨rfl, rfl, rfl, by decide +kernel, rfl, by decide +kernel, by decide +kernel⟩
theorem ok_is_rising {P : Program} {w : World} {K : Fg} {mg : Str → Option Value} {base : Heap} (c : Fx K mg) : FnG P w K mg base CX0 1 (He.ga K "is_rising") c.fd_is_rising ["value"] (spF K mg 1 F_is_rising) := fn_data0 (g := g_is_rising) c.D_is_rising sc_is_rising rfl (fun cdv A outer s H E rm => (have nd := sc_is_rising.nd;
    ds_one (d_ret (d_and (d_isa PySem.W.isinstance_tuple_data (pe_bltn rfl c.m_tuple (by first | rfl | decide +kernel) rfl) c.m_isinstance (d_var 0)) (d_one (d_all c.m_all (d_lc [("one", 1), ("other", 2)] (di_zip c.m_zip (dA_cons (d_var 0) (dA_cons (d_cutL (d_var 0) (d_int)) (dA_nil)))) (fun _ _ _ _ _ => dg_tup (h := dgs_cons (dg_name 1 (hN := nd)) (dgs_cons (dg_name 2 (hN := nd)) (dgs_nil)))) (fun _ _ _ _ _ => dts_nil) (fun _ _ _ _ _ => d_lt (d_var 1) (d_var 2)) (hN := nd)))))))) (fun _ _ _ e => e)
theorem sc_are_worlds : FnScope N_are_worlds ["value", "bound"] (defScope s_are_worlds) := ⟨rfl, rfl, rfl, by decide +kernel, rfl, by decide +kernel, by decide +kernel⟩
theorem ok_are_worlds {P : Program} {w : World} {K : Fg} {mg : Str → Option Value} {base : Heap} (c : Fx K mg) : FnG P w K mg base CX0 2 (He.ga K "are_worlds") c.fd_are_worlds ["value", "bound"] (spF K mg 2 F_are_worlds) := fn_data0 (g := g_are_worlds) c.D_are_worlds sc_are_worlds rfl (fun cdv A outer s H E rm => (have nd := sc_are_worlds.nd;
    ds_one (d_ret (d_and (d_isa PySem.W.isinstance_tuple_data (pe_bltn rfl c.m_tuple (by first | rfl | decide +kernel) rfl) c.m_isinstance (d_var 0)) (d_and (d_all c.m_all (d_lc [("one", 2)] (di_seq (d_var 0)) (fun _ _ _ _ _ => dg_name 2 (hN := nd)) (fun _ _ _ _ _ => dts_nil) (fun _ _ _ _ _ => d_and (d_fn ((ok_is_whole c).up (by decide : 1 ≤ 1)) rm c.g_is_whole c.D_is_whole.kp (b_is_whole c) (dA_cons (d_var 2) (dA_nil))) (d_one (d_chLeLt (d_int) (d_var 2) (d_var 1)))) (hN := nd))) (d_one (d_fn ((ok_is_rising c).up (by decide : 1 ≤ 1)) rm c.g_is_rising c.D_is_rising.kp (b_is_rising c) (dA_cons (d_var 0) (dA_nil))))))))) (fun _ _ _ e => e)
theorem sc_is_shut : FnScope N_is_shut ["above"] (defScope s_is_shut) := ⟨rfl, rfl, rfl, by decide +kernel, rfl, by decide +kernel, by decide +kernel⟩
theorem ok_is_shut {P : Program} {w : World} {K : Fg} {mg : Str → Option Value} {base : Heap} (c : Fx K mg) : FnG P w K mg base CX0 1 (He.ga K "is_shut") c.fd_is_shut ["above"] (spF K mg 1 F_is_shut) := fn_data0 (g := g_is_shut) c.D_is_shut sc_is_shut rfl (fun cdv A outer s H E rm => (have nd := sc_is_shut.nd;
    ds_cons (d_for (di_seq (d_var 0)) (dg_name 1 (hN := nd)) (ds_cons (d_set 2 (d_dc [("one", 3)] (di_seq (d_var 1)) (fun _ _ _ _ _ => dg_name 3 (hN := nd)) (fun _ _ _ _ _ => dts_nil) (fun _ _ _ _ _ => d_var 3) (fun _ _ _ _ _ => d_bl) (hN := nd)) (hN := nd))
    (ds_one (d_for (di_seq (d_var 1)) (dg_name 3 (hN := nd)) (ds_one (d_if (dt_not (dt_val (d_all c.m_all (d_lc [("other", 4)] (di_seq (d_ix rm (d_var 0) (d_var 3))) (fun _ _ _ _ _ => dg_name 4 (hN := nd)) (fun _ _ _ _ _ => dts_nil) (fun _ _ _ _ _ => d_in' rm (d_var 4) (d_var 2)) (hN := nd))))) (ds_one (d_ret (d_bl))) (ds_nil)))))))
    (ds_one (d_ret (d_bl))))) (fun _ _ _ e => e)
theorem sc_is_order : FnScope N_is_order ["value"] (defScope s_is_order) := ⟨rfl, rfl, rfl, by decide +kernel, rfl, by decide +kernel, by decide +kernel⟩
theorem ok_is_order {P : Program} {w : World} {K : Fg} {mg : Str → Option Value} {base : Heap} (c : Fx K mg) : FnG P w K mg base CX0 3 (He.ga K "is_order") c.fd_is_order ["value"] (spF K mg 1 F_is_order) := fn_data0 (g := g_is_order) c.D_is_order sc_is_order rfl (fun cdv A outer s H E rm => (have nd := sc_is_order.nd;
    ds_cons (d_if (dt_pw (dw_or (dt_not (dt_val (d_isa PySem.W.isinstance_tuple_data (pe_bltn rfl c.m_tuple (by first | rfl | decide +kernel) rfl) c.m_isinstance (d_var 0)))) (dw_or1 (dt_not (dt_chLeLe (d_int) (d_len c.m_len (d_var 0)) (d_globI c.k_MOST_WORLDS)))))) (ds_one (d_ret (d_bl))) (ds_nil))
    (ds_one (d_ret (d_and (d_all c.m_all (d_lc [("at", 1), ("row", 2)] (di_enumA c.m_enumerate (dA_cons (d_var 0) (dA_nil))) (fun _ _ _ _ _ => dg_tup (h := dgs_cons (dg_name 1 (hN := nd)) (dgs_cons (dg_name 2 (hN := nd)) (dgs_nil)))) (fun _ _ _ _ _ => dts_nil) (fun _ _ _ _ _ => d_fn ((ok_are_worlds c).up (by decide : 2 ≤ 2)) rm c.g_are_worlds c.D_are_worlds.kp (b_are_worlds c) (dA_cons (d_var 2) (dA_cons (d_var 1) (dA_nil)))) (hN := nd))) (d_one (d_fn ((ok_is_shut c).up (by decide : 1 ≤ 2)) rm c.g_is_shut c.D_is_shut.kp (b_is_shut c) (dA_cons (d_var 0) (dA_nil))))))))) (fun _ _ _ e => e)
theorem sc_need_order : FnScope N_need_order ["value"] (defScope s_need_order) := ⟨rfl, rfl, rfl, by decide +kernel, rfl, by decide +kernel, by decide +kernel⟩
theorem ok_need_order {P : Program} {w : World} {K : Fg} {mg : Str → Option Value} {base : Heap} (c : Fx K mg) : FnG P w K mg base (L2.CX P w) 4 (He.ga K "need_order") c.fd_need_order ["value"] (spF K mg 1 F_need_order) := fn_dataX (g := g_need_order) c.D_need_order sc_need_order rfl (fun cdv A outer s H E rm tk => (have nd := sc_need_order.nd;
    ds_one (d_if (dt_not (dt_val (d_fn ((ok_is_order c).up (by decide : 3 ≤ 3)) rm c.g_is_order c.D_is_order.kp (b_is_order c) (dA_cons (d_var 0) (dA_nil))))) (ds_one (d_raise "BadOrder" tk (L2.pmk_own PySem.F.excBase_ValueError c.x_BadOrder.1 c.g_BadOrder c.x_BadOrder.2.1 (L2.raises_own c.x_BadOrder.2.2.1 c.x_BadOrder.2.2.2) rfl) c.g_BadOrder)) (ds_nil)))) (fun _ _ _ e => e)
theorem sc_part_in : FnScope N_part_in ["order", "world"] (defScope s_part_in) := ⟨rfl, rfl, rfl, by decide +kernel, rfl, by decide +kernel, by decide +kernel⟩
theorem ok_part_in {P : Program} {w : World} {K : Fg} {mg : Str → Option Value} {base : Heap} (c : Fx K mg) : FnG P w K mg base CX0 1 (He.ga K "part_in") c.fd_part_in ["order", "world"] (spF K mg 2 F_part_in) := fn_data0 (g := g_part_in) c.D_part_in sc_part_in rfl (fun cdv A outer s H E rm => (have nd := sc_part_in.nd;
    ds_cons (d_set 2 (d_add (d_ix rm (d_var 0) (d_var 1)) (d_tup (dA_cons (d_var 1) (dA_nil)))) (hN := nd))
    (ds_cons (d_set 3 (d_dc [("at", 4), ("one", 5)] (di_enumA c.m_enumerate (dA_cons (d_var 2) (dA_nil))) (fun _ _ _ _ _ => dg_tup (h := dgs_cons (dg_name 4 (hN := nd)) (dgs_cons (dg_name 5 (hN := nd)) (dgs_nil)))) (fun _ _ _ _ _ => dts_nil) (fun _ _ _ _ _ => d_var 5) (fun _ _ _ _ _ => d_var 4) (hN := nd)) (hN := nd))
    (ds_one (d_ret (d_tupOf c.m_tuple (d_lc [("one", 5)] (di_seq (d_var 2)) (fun _ _ _ _ _ => dg_name 5 (hN := nd)) (fun _ _ _ _ _ => dts_nil) (fun _ _ _ _ _ => d_tupOf c.m_tuple (d_lc [("other", 6)] (di_seq (d_ix rm (d_var 0) (d_var 5))) (fun _ _ _ _ _ => dg_name 6 (hN := nd)) (fun _ _ _ _ _ => dts_nil) (fun _ _ _ _ _ => d_ix rm (d_var 3) (d_var 6)) (hN := nd))) (hN := nd)))))))) (fun _ _ _ e => e)
theorem sc_order_part : FnScope N_order_part ["order", "world"] (defScope s_order_part) := ⟨rfl, rfl, rfl, by decide +kernel, rfl, by decide +kernel, by decide +kernel⟩
theorem ok_order_part {P : Program} {w : World} {K : Fg} {mg : Str → Option Value} {base : Heap} (c : Fx K mg) : FnG P w K mg base (L2.CX P w) 5 (He.ga K "order_part") c.fd_order_part ["order", "world"] (spF K mg 2 F_order_part) := fn_dataX (g := g_order_part) c.D_order_part sc_order_part rfl (fun cdv A outer s H E rm tk => (have nd := sc_order_part.nd;
    ds_cons (d_expr (d_fnX ((ok_need_order c).up (by decide : 4 ≤ 4)) rm c.g_need_order c.D_need_order.kp (b_need_order c) tk (dA_cons (d_var 0) (dA_nil))))
    (ds_cons (d_if (dt_pw (dw_or (dt_not (dt_val (d_fn ((ok_is_whole c).up (by decide : 1 ≤ 4)) rm c.g_is_whole c.D_is_whole.kp (b_is_whole c) (dA_cons (d_var 1) (dA_nil))))) (dw_or1 (dt_not (dt_chLeLt (d_int) (d_var 1) (d_len c.m_len (d_var 0))))))) (ds_one (d_raise "BadWorld" tk (L2.pmk_own PySem.F.excBase_ValueError c.x_BadWorld.1 c.g_BadWorld c.x_BadWorld.2.1 (L2.raises_own c.x_BadWorld.2.2.1 c.x_BadWorld.2.2.2) rfl) c.g_BadWorld)) (ds_nil))
    (ds_one (d_ret (d_fn ((ok_part_in c).up (by decide : 1 ≤ 4)) rm c.g_part_in c.D_part_in.kp (b_part_in c) (dA_cons (d_var 0) (dA_cons (d_var 1) (dA_nil))))))))) (fun _ _ _ e => e)
theorem sc_has_root : FnScope N_has_root ["order"] (defScope s_has_root) := ⟨rfl, rfl, rfl, by decide +kernel, rfl, by decide +kernel, by decide +kernel⟩
theorem ok_has_root {P : Program} {w : World} {K : Fg} {mg : Str → Option Value} {base : Heap} (c : Fx K mg) : FnG P w K mg base CX0 1 (He.ga K "has_root") c.fd_has_root ["order"] (spF K mg 1 F_has_root) := fn_data0 (g := g_has_root) c.D_has_root sc_has_root rfl (fun cdv A outer s H E rm => (have nd := sc_has_root.nd;
    ds_one (d_ret (d_eq rm (d_ix rm (d_var 0) (d_neg (d_int))) (d_tupR1 c.m_tuple c.m_range (d_sub (d_len c.m_len (d_var 0)) (d_int))))))) (fun _ _ _ e => e)
theorem sc_is_one : FnScope N_is_one ["order"] (defScope s_is_one) := ⟨rfl, rfl, rfl, by decide +kernel, rfl, by decide +kernel, by decide +kernel⟩
theorem ok_is_one {P : Program} {w : World} {K : Fg} {mg : Str → Option Value} {base : Heap} (c : Fx K mg) : FnG P w K mg base (L2.CX P w) 5 (He.ga K "is_one") c.fd_is_one ["order"] (spF K mg 1 F_is_one) := fn_dataX (g := g_is_one) c.D_is_one sc_is_one rfl (fun cdv A outer s H E rm tk => (have nd := sc_is_one.nd;
    ds_cons (d_expr (d_fnX ((ok_need_order c).up (by decide : 4 ≤ 4)) rm c.g_need_order c.D_need_order.kp (b_need_order c) tk (dA_cons (d_var 0) (dA_nil))))
    (ds_one (d_ret (d_fn ((ok_has_root c).up (by decide : 1 ≤ 4)) rm c.g_has_root c.D_has_root.kp (b_has_root c) (dA_cons (d_var 0) (dA_nil))))))) (fun _ _ _ e => e)
theorem sc_up_lots : FnScope N_up_lots ["order"] (defScope s_up_lots) := ⟨rfl, rfl, rfl, by decide +kernel, rfl, by decide +kernel, by decide +kernel⟩
theorem ok_up_lots {P : Program} {w : World} {K : Fg} {mg : Str → Option Value} {base : Heap} (c : Fx K mg) : FnG P w K mg base CX0 1 (He.ga K "up_lots") c.fd_up_lots ["order"] (spF K mg 1 F_up_lots) := fn_data0 (g := g_up_lots) c.D_up_lots sc_up_lots rfl (fun cdv A outer s H E rm => (have nd := sc_up_lots.nd;
    ds_cons (d_set 1 (d_lst (dA_cons (d_tup (dA_nil)) (dA_nil))) (hN := nd))
    (ds_cons (d_for (di_enumA c.m_enumerate (dA_cons (d_var 0) (dA_nil))) (dg_tup (h := dgs_cons (dg_name 2 (hN := nd)) (dgs_cons (dg_name 3 (hN := nd)) (dgs_nil)))) (ds_one (d_augL 1 (d_lcO 1 [("lot", 4)] (fun _ _ _ _ _ => dg_name 4 (hN := nd)) (fun _ _ _ _ _ => dts_one (dt_val (d_all c.m_all (d_lc [("one", 5)] (di_seq (d_var 3)) (fun _ _ _ _ _ => dg_name 5 (hN := nd)) (fun _ _ _ _ _ => dts_nil) (fun _ _ _ _ _ => d_in' rm (d_var 5) (d_var 4)) (hN := nd))))) (fun _ _ _ _ _ => d_add (d_var 4) (d_tup (dA_cons (d_var 2) (dA_nil)))) (hN := nd)) (hN := nd))))
    (ds_one (d_ret (d_srtT rm c.m_sorted (d_var 1))))))) (fun _ _ _ e => e)
theorem sc_lots_up : FnScope N_lots_up ["order"] (defScope s_lots_up) := ⟨rfl, rfl, rfl, by decide +kernel, rfl, by decide +kernel, by decide +kernel⟩
theorem ok_lots_up {P : Program} {w : World} {K : Fg} {mg : Str → Option Value} {base : Heap} (c : Fx K mg) : FnG P w K mg base (L2.CX P w) 5 (He.ga K "lots_up") c.fd_lots_up ["order"] (spF K mg 1 F_lots_up) := fn_dataX (g := g_lots_up) c.D_lots_up sc_lots_up rfl (fun cdv A outer s H E rm tk => (have nd := sc_lots_up.nd;
    ds_cons (d_expr (d_fnX ((ok_need_order c).up (by decide : 4 ≤ 4)) rm c.g_need_order c.D_need_order.kp (b_need_order c) tk (dA_cons (d_var 0) (dA_nil))))
    (ds_one (d_ret (d_fn ((ok_up_lots c).up (by decide : 1 ≤ 4)) rm c.g_up_lots c.D_up_lots.kp (b_up_lots c) (dA_cons (d_var 0) (dA_nil))))))) (fun _ _ _ e => e)
theorem sc_speaks : FnScope N_speaks ["order", "statement"] (defScope s_speaks) := ⟨rfl, rfl, rfl, by decide +kernel, rfl, by decide +kernel, by decide +kernel⟩
theorem ok_speaks {P : Program} {w : World} {K : Fg} {mg : Str → Option Value} {base : Heap} (c : Fx K mg) : FnG P w K mg base (L2.CX P w) 5 (He.ga K "speaks") c.fd_speaks ["order", "statement"] (spF K mg 2 F_speaks) := fn_dataX (g := g_speaks) c.D_speaks sc_speaks rfl (fun cdv A outer s H E rm tk => (have nd := sc_speaks.nd;
    ds_cons (d_expr (d_fnX ((ok_need_order c).up (by decide : 4 ≤ 4)) rm c.g_need_order c.D_need_order.kp (b_need_order c) tk (dA_cons (d_var 0) (dA_nil))))
    (ds_cons (d_expr (d_fnX ((ok_need_statement c).up (by decide : 3 ≤ 4)) rm c.g_need_statement c.D_need_statement.kp (b_need_statement c) tk (dA_cons (d_var 1) (dA_nil))))
    (ds_one (d_never))))) (fun _ _ _ e => e)
theorem sc_holds_on : FnScope N_holds_on ["order", "statement"] (defScope s_holds_on) := ⟨rfl, rfl, rfl, by decide +kernel, rfl, by decide +kernel, by decide +kernel⟩
theorem ok_holds_on {P : Program} {w : World} {K : Fg} {mg : Str → Option Value} {base : Heap} (c : Fx K mg) : FnG P w K mg base (L2.CX P w) 6 (He.ga K "holds_on") c.fd_holds_on ["order", "statement"] (spF K mg 2 F_holds_on) := fn_dataX (g := g_holds_on) c.D_holds_on sc_holds_on rfl (fun cdv A outer s H E rm tk => (have nd := sc_holds_on.nd;
    ds_one (d_ret (d_isN (d_fnX ((ok_speaks c).up (by decide : 5 ≤ 5)) rm c.g_speaks c.D_speaks.kp (b_speaks c) tk (dA_cons (d_var 0) (dA_cons (d_var 1) (dA_nil)))))))) (fun _ _ _ e => e)
theorem sc__law_mixed : FnScope N__law_mixed ["state"] (defScope s__law_mixed) := ⟨rfl, rfl, rfl, by decide +kernel, rfl, by decide +kernel, by decide +kernel⟩
theorem ok__law_mixed {P : Program} {w : World} {K : Fg} {mg : Str → Option Value} {base : Heap} (c : Fx K mg) : FnG P w K mg base CX0 1 (He.ga K "_law_mixed") c.fd__law_mixed ["state"] (spS K mg 0 F__law_mixed) := fn_st0 (g := g__law_mixed) c.D__law_mixed sc__law_mixed rfl (by decide) (fun cdv A outer s H E rm => (have nd := sc__law_mixed.nd;
    ds_cons (d_par 1 2 (d_add (d_stI 0 (fun S => S.turn) val_turn rm) (d_int)) (d_int) (hN := nd))
    (ds_cons (d_stSet 0 (fun S j => { S with turn := j }) put_turn (rm := rm) (he := d_var 1))
    (ds_cons (d_for (di_seq (d_lst (dA_cons (d_int) (dA_cons (d_int) (dA_cons (d_int) (dA_cons (d_int) (dA_nil))))))) (dg_name 3 (hN := nd)) (ds_cons (d_set 4 (d_add (d_mul (d_int) (d_var 1)) (d_fdiv (d_var 3) (d_int))) (hN := nd))
    (ds_cons (d_for (di_seq (d_stC 0 rm)) (dg_name 5 (hN := nd)) (ds_one (d_set 4 (d_mod (d_intOf c.m_int (d_add (d_add (d_mul (d_var 4) (d_int)) (d_var 5)) (d_var 1))) (d_var 3)) (hN := nd))))
    (ds_one (d_set 2 (d_add (d_mul (d_var 2) (d_int)) (d_mod (d_intOf c.m_int (d_pow (d_var 4) (d_int))) (d_var 3))) (hN := nd))))))
    (ds_one (d_ret (d_var 2))))))) (fun _ _ _ _ e => e)
theorem sc__law_draw : FnScope N__law_draw ["state", "room"] (defScope s__law_draw) := ⟨rfl, rfl, rfl, by decide +kernel, rfl, by decide +kernel, by decide +kernel⟩
theorem ok__law_draw {P : Program} {w : World} {K : Fg} {mg : Str → Option Value} {base : Heap} (c : Fx K mg) : FnG P w K mg base CX0 2 (He.ga K "_law_draw") c.fd__law_draw ["state", "room"] (spS K mg 1 F__law_draw) := fn_st0 (g := g__law_draw) c.D__law_draw sc__law_draw rfl (by decide) (fun cdv A outer s H E rm => (have nd := sc__law_draw.nd;
    ds_cons (d_if (dt_eq rm (d_stI 0 (fun S => S.rest) val_rest rm) (d_int)) (ds_one (d_stSet 0 (fun S j => { S with rest := j }) put_rest (rm := rm) (he := d_ifExp (dt_great 0 rm) (d_stP 0 rm) (d_callS 0 ((ok__law_mixed c).up (by decide : 1 ≤ 1)) rm c.g__law_mixed c.D__law_mixed.kp (b__law_mixed c) passA (dA_nil))))) (ds_nil))
    (ds_cons (d_set 2 (d_mod (d_intOf c.m_int (d_stI 0 (fun S => S.rest) val_rest rm)) (d_var 1)) (hN := nd))
    (ds_cons (d_stSet 0 (fun S j => { S with rest := j }) put_rest (rm := rm) (he := d_fdiv (d_stI 0 (fun S => S.rest) val_rest rm) (d_var 1)))
    (ds_one (d_ret (d_var 2))))))) (fun _ _ _ _ e => e)
theorem sc__law_pick : FnScope N__law_pick ["state", "some"] (defScope s__law_pick) := ⟨rfl, rfl, rfl, by decide +kernel, rfl, by decide +kernel, by decide +kernel⟩
theorem ok__law_pick {P : Program} {w : World} {K : Fg} {mg : Str → Option Value} {base : Heap} (c : Fx K mg) : FnG P w K mg base CX0 3 (He.ga K "_law_pick") c.fd__law_pick ["state", "some"] (spS K mg 1 F__law_pick) := fn_st0 (g := g__law_pick) c.D__law_pick sc__law_pick rfl (by decide) (fun cdv A outer s H E rm => (have nd := sc__law_pick.nd;
    ds_one (d_ret (d_ix rm (d_var 1) (d_callS 0 ((ok__law_draw c).up (by decide : 2 ≤ 2)) rm c.g__law_draw c.D__law_draw.kp (b__law_draw c) passA (dA_cons (d_len c.m_len (d_var 1)) (dA_nil))))))) (fun _ _ _ _ e => e)
theorem sc__law_is : FnScope N__law_is ["found", "due"] (defScope s__law_is) := ⟨rfl, rfl, rfl, by decide +kernel, rfl, by decide +kernel, by decide +kernel⟩
theorem ok__law_is {P : Program} {w : World} {K : Fg} {mg : Str → Option Value} {base : Heap} (c : Fx K mg) : FnG P w K mg base CX0 1 (He.ga K "_law_is") c.fd__law_is ["found", "due"] (spF K mg 2 F__law_is) := fn_data0 (g := g__law_is) c.D__law_is sc__law_is rfl (fun cdv A outer s H E rm => (have nd := sc__law_is.nd;
    ds_one (d_ret (d_and (d_eq rm (d_var 0) (d_var 1)) (d_and (d_eq rm (d_var 1) (d_var 0)) (d_one (d_eq rm (d_repr rm c.m_repr (d_var 0)) (d_repr rm c.m_repr (d_var 1))))))))) (fun _ _ _ e => e)
theorem sc__law_order : FnScope N__law_order ["state", "most"] (defScope s__law_order) := ⟨rfl, rfl, rfl, by decide +kernel, rfl, by decide +kernel, by decide +kernel⟩
theorem ok__law_order {P : Program} {w : World} {K : Fg} {mg : Str → Option Value} {base : Heap} (c : Fx K mg) : FnG P w K mg base CX0 3 (He.ga K "_law_order") c.fd__law_order ["state", "most"] (spS K mg 1 F__law_order) := fn_st0 (g := g__law_order) c.D__law_order sc__law_order rfl (by decide) (fun cdv A outer s H E rm => (have nd := sc__law_order.nd;
    ds_cons (d_set 2 (d_lst (dA_nil)) (hN := nd))
    (ds_cons (d_set 3 (d_add (d_int) (d_callS 0 ((ok__law_draw c).up (by decide : 2 ≤ 2)) rm c.g__law_draw c.D__law_draw.kp (b__law_draw c) passA (dA_cons (d_var 1) (dA_nil)))) (hN := nd))
    (ds_cons (d_for (di_range1 c.m_range (dA_cons (d_var 3) (dA_nil))) (dg_name 4 (hN := nd)) (ds_cons (d_set 5 (d_lst (dA_nil)) (hN := nd))
    (ds_cons (d_for (di_range1 c.m_range (dA_cons (d_var 4) (dA_nil))) (dg_name 6 (hN := nd)) (ds_one (d_if (dt_pw (dw_or (dt_eq rm (d_callS 0 ((ok__law_draw c).up (by decide : 2 ≤ 2)) rm c.g__law_draw c.D__law_draw.kp (b__law_draw c) passA (dA_cons (d_int) (dA_nil))) (d_int)) (dw_or1 (dt_pw (dw_and (dt_eq rm (d_var 4) (d_sub (d_var 3) (d_int))) (dw_and1 (dt_eq rm (d_callS 0 ((ok__law_draw c).up (by decide : 2 ≤ 2)) rm c.g__law_draw c.D__law_draw.kp (b__law_draw c) passA (dA_cons (d_int) (dA_nil))) (d_int)))))))) (ds_one (d_set 5 (d_add (d_add (d_var 5) (d_lst (dA_cons (d_var 6) (dA_nil)))) (d_lstOf c.m_list (d_ix rm (d_var 2) (d_var 6)))) (hN := nd))) (ds_nil))))
    (ds_one (d_app 2 (d_tupOf c.m_tuple (d_srtSet c.m_sorted c.m_set (d_var 5))))))))
    (ds_cons (d_if (dt_eq rm (d_callS 0 ((ok__law_draw c).up (by decide : 2 ≤ 2)) rm c.g__law_draw c.D__law_draw.kp (b__law_draw c) passA (dA_cons (d_int) (dA_nil))) (d_int)) (ds_one (d_setIx 2 (d_tupR1 c.m_tuple c.m_range (d_sub (d_var 3) (d_int))) (d_neg (d_int)))) (ds_nil))
    (ds_one (d_ret (d_tupOf c.m_tuple (d_var 2))))))))) (fun _ _ _ _ e => e)
theorem sc__law_lots : FnScope N__law_lots ["order"] (defScope s__law_lots) := ⟨rfl, rfl, rfl, by decide +kernel, rfl, by decide +kernel, by decide +kernel⟩
theorem ok__law_lots {P : Program} {w : World} {K : Fg} {mg : Str → Option Value} {base : Heap} (c : Fx K mg) : FnG P w K mg base CX0 1 (He.ga K "_law_lots") c.fd__law_lots ["order"] (spF K mg 1 F__law_lots) := fn_data0 (g := g__law_lots) c.D__law_lots sc__law_lots rfl (fun cdv A outer s H E rm => (have nd := sc__law_lots.nd;
    ds_cons (d_set 1 (d_lst (dA_cons (d_tup (dA_nil)) (dA_nil))) (hN := nd))
    (ds_cons (d_for (di_range1 c.m_range (dA_cons (d_len c.m_len (d_var 0)) (dA_nil))) (dg_name 2 (hN := nd)) (ds_one (d_set 1 (d_add (d_var 1) (d_lc [("lot", 3)] (di_seq (d_var 1)) (fun _ _ _ _ _ => dg_name 3 (hN := nd)) (fun _ _ _ _ _ => dts_one (dt_eq rm (d_lc [("there", 4)] (di_seq (d_ix rm (d_var 0) (d_var 2))) (fun _ _ _ _ _ => dg_name 4 (hN := nd)) (fun _ _ _ _ _ => dts_one (dt_nin rm (d_var 4) (d_var 3))) (fun _ _ _ _ _ => d_var 4) (hN := nd)) (d_lst (dA_nil)))) (fun _ _ _ _ _ => d_add (d_var 3) (d_tup (dA_cons (d_var 2) (dA_nil)))) (hN := nd))) (hN := nd))))
    (ds_one (d_ret (d_srtT rm c.m_sorted (d_var 1))))))) (fun _ _ _ e => e)
theorem sc__law_part : FnScope N__law_part ["order", "world"] (defScope s__law_part) := ⟨rfl, rfl, rfl, by decide +kernel, rfl, by decide +kernel, by decide +kernel⟩
theorem ok__law_part {P : Program} {w : World} {K : Fg} {mg : Str → Option Value} {base : Heap} (c : Fx K mg) : FnG P w K mg base CX0 1 (He.ga K "_law_part") c.fd__law_part ["order", "world"] (spF K mg 2 F__law_part) := fn_data0 (g := g__law_part) c.D__law_part sc__law_part rfl (fun cdv A outer s H E rm => (have nd := sc__law_part.nd;
    ds_cons (d_set 2 (d_add (d_lstOf c.m_list (d_ix rm (d_var 0) (d_var 1))) (d_lst (dA_cons (d_var 1) (dA_nil)))) (hN := nd))
    (ds_one (d_ret (d_tupOf c.m_tuple (d_lc [("one", 3)] (di_seq (d_var 2)) (fun _ _ _ _ _ => dg_name 3 (hN := nd)) (fun _ _ _ _ _ => dts_nil) (fun _ _ _ _ _ => d_tupOf c.m_tuple (d_lc [("there", 4)] (di_seq (d_ix rm (d_var 0) (d_var 3))) (fun _ _ _ _ _ => dg_name 4 (hN := nd)) (fun _ _ _ _ _ => dts_nil) (fun _ _ _ _ _ => d_index 2 (d_var 4)) (hN := nd))) (hN := nd))))))) (fun _ _ _ e => e)
theorem sc__law_no_statement : FnScope N__law_no_statement ["state"] (defScope s__law_no_statement) := ⟨rfl, rfl, rfl, by decide +kernel, rfl, by decide +kernel, by decide +kernel⟩
theorem ok__law_no_statement {P : Program} {w : World} {K : Fg} {mg : Str → Option Value} {base : Heap} (c : Fx K mg) : FnG P w K mg base CX0 4 (He.ga K "_law_no_statement") c.fd__law_no_statement ["state"] (spS K mg 0 F__law_no_statement) := fn_st0 (g := g__law_no_statement) c.D__law_no_statement sc__law_no_statement rfl (by decide) (fun cdv A outer s H E rm => (have nd := sc__law_no_statement.nd;
    ds_one (d_ret (d_callS 0 ((ok__law_pick c).up (by decide : 3 ≤ 3)) rm c.g__law_pick c.D__law_pick.kp (b__law_pick c) passA (dA_cons (d_lst (dA_cons (d_non) (dA_cons (d_int) (dA_cons (d_tup (dA_nil)) (dA_cons (d_str) (dA_cons (d_tup (dA_cons (d_str) (dA_cons (d_str) (dA_nil)))) (dA_cons (d_tup (dA_cons (d_str) (dA_nil))) (dA_cons (d_lst (dA_cons (d_str) (dA_nil))) (dA_cons (d_tup (dA_cons (d_str) (dA_cons (d_int) (dA_nil)))) (dA_cons (d_tup (dA_cons (d_str) (dA_cons (d_tup (dA_cons (d_str) (dA_nil))) (dA_nil)))) (dA_cons (d_tup (dA_cons (d_str) (dA_cons (d_tup (dA_cons (d_str) (dA_nil))) (dA_nil)))) (dA_cons (d_tup (dA_cons (d_str) (dA_cons (d_str) (dA_nil)))) (dA_cons (d_bl) (dA_nil)))))))))))))) (dA_nil)))))) (fun _ _ _ _ e => e)
theorem sc__law_no_order : FnScope N__law_no_order ["state"] (defScope s__law_no_order) := ⟨rfl, rfl, rfl, by decide +kernel, rfl, by decide +kernel, by decide +kernel⟩
theorem ok__law_no_order {P : Program} {w : World} {K : Fg} {mg : Str → Option Value} {base : Heap} (c : Fx K mg) : FnG P w K mg base CX0 4 (He.ga K "_law_no_order") c.fd__law_no_order ["state"] (spS K mg 0 F__law_no_order) := fn_st0 (g := g__law_no_order) c.D__law_no_order sc__law_no_order rfl (by decide) (fun cdv A outer s H E rm => (have nd := sc__law_no_order.nd;
    ds_one (d_ret (d_callS 0 ((ok__law_pick c).up (by decide : 3 ≤ 3)) rm c.g__law_pick c.D__law_pick.kp (b__law_pick c) passA (dA_cons (d_lst (dA_cons (d_non) (dA_cons (d_tup (dA_nil)) (dA_cons (d_int) (dA_cons (d_lst (dA_cons (d_tup (dA_nil)) (dA_nil))) (dA_cons (d_tup (dA_cons (d_tup (dA_cons (d_int) (dA_nil))) (dA_nil))) (dA_cons (d_tup (dA_cons (d_tup (dA_nil)) (dA_cons (d_tup (dA_cons (d_int) (dA_nil))) (dA_nil)))) (dA_cons (d_tup (dA_cons (d_tup (dA_nil)) (dA_cons (d_tup (dA_cons (d_int) (dA_cons (d_int) (dA_nil)))) (dA_nil)))) (dA_cons (d_tup (dA_cons (d_tup (dA_nil)) (dA_cons (d_lst (dA_cons (d_int) (dA_nil))) (dA_nil)))) (dA_cons (d_mulT (d_tup (dA_cons (d_tup (dA_nil)) (dA_nil))) (d_int)) (dA_cons (d_tup (dA_cons (d_tup (dA_nil)) (dA_cons (d_tup (dA_cons (d_int) (dA_nil))) (dA_cons (d_tup (dA_cons (d_int) (dA_nil))) (dA_nil))))) (dA_cons (d_tup (dA_cons (d_tup (dA_nil)) (dA_cons (d_tup (dA_cons (d_bl) (dA_nil))) (dA_cons (d_tup (dA_cons (d_int) (dA_cons (d_int) (dA_nil)))) (dA_nil))))) (dA_cons (d_str) (dA_cons (d_tup (dA_cons (d_tup (dA_nil)) (dA_cons (d_tup (dA_cons (d_int) (dA_nil))) (dA_cons (d_tup (dA_cons (d_int) (dA_cons (d_int) (dA_nil)))) (dA_nil))))) (dA_nil))))))))))))))) (dA_nil)))))) (fun _ _ _ _ e => e)
theorem sc__law_is_order : FnScope N__law_is_order ["value"] (defScope s__law_is_order) := ⟨rfl, rfl, rfl, by decide +kernel, rfl, by decide +kernel, by decide +kernel⟩
theorem ok__law_is_order {P : Program} {w : World} {K : Fg} {mg : Str → Option Value} {base : Heap} (c : Fx K mg) : FnG P w K mg base CX0 1 (He.ga K "_law_is_order") c.fd__law_is_order ["value"] (spF K mg 1 F__law_is_order) := fn_data0 (g := g__law_is_order) c.D__law_is_order sc__law_is_order rfl (fun cdv A outer s H E rm => (have nd := sc__law_is_order.nd;
    ds_cons (d_if (dt_pw (dw_or (dt_not (dt_val (d_isa PySem.W.isinstance_tuple_data (pe_bltn rfl c.m_tuple (by first | rfl | decide +kernel) rfl) c.m_isinstance (d_var 0)))) (dw_or1 (dt_not (dt_chLeLe (d_int) (d_len c.m_len (d_var 0)) (d_int)))))) (ds_one (d_ret (d_bl))) (ds_nil))
    (ds_cons (d_for (di_enumA c.m_enumerate (dA_cons (d_var 0) (dA_nil))) (dg_tup (h := dgs_cons (dg_name 1 (hN := nd)) (dgs_cons (dg_name 2 (hN := nd)) (dgs_nil)))) (ds_cons (d_if (dt_pw (dw_or (dt_not (dt_val (d_isa PySem.W.isinstance_tuple_data (pe_bltn rfl c.m_tuple (by first | rfl | decide +kernel) rfl) c.m_isinstance (d_var 2)))) (dw_or1 (dt_ne rm (d_lc [("one", 3)] (di_seq (d_var 2)) (fun _ _ _ _ _ => dg_name 3 (hN := nd)) (fun _ _ _ _ _ => dts_one (dt_pw (dw_or (dt_not (dt_val (d_isa PySem.W.isinstance_int_data (pe_bltn rfl c.m_int (by first | rfl | decide +kernel) rfl) c.m_isinstance (d_var 3)))) (dw_or (dt_val (d_isa PySem.W.isinstance_bool_data (pe_bltn rfl c.m_bool (by first | rfl | decide +kernel) rfl) c.m_isinstance (d_var 3))) (dw_or1 (dt_not (dt_chLeLt (d_int) (d_var 3) (d_var 1)))))))) (fun _ _ _ _ _ => d_int) (hN := nd)) (d_lst (dA_nil)))))) (ds_one (d_ret (d_bl))) (ds_nil))
    (ds_one (d_if (dt_ne rm (d_lstOf c.m_list (d_var 2)) (d_srtSet c.m_sorted c.m_set (d_var 2))) (ds_one (d_ret (d_bl))) (ds_nil)))))
    (ds_cons (d_for (di_seq (d_var 0)) (dg_name 2 (hN := nd)) (ds_one (d_if (dt_ne rm (d_lc [("one", 3)] (di_seq (d_var 2)) (fun _ _ _ _ _ => dg_name 3 (hN := nd)) (fun _ _ _ _ _ => dts_one (dt_ne rm (d_lc [("there", 4)] (di_seq (d_ix rm (d_var 0) (d_var 3))) (fun _ _ _ _ _ => dg_name 4 (hN := nd)) (fun _ _ _ _ _ => dts_one (dt_nin rm (d_var 4) (d_var 2))) (fun _ _ _ _ _ => d_var 4) (hN := nd)) (d_lst (dA_nil)))) (fun _ _ _ _ _ => d_int) (hN := nd)) (d_lst (dA_nil))) (ds_one (d_ret (d_bl))) (ds_nil))))
    (ds_one (d_ret (d_bl))))))) (fun _ _ _ e => e)
theorem sc__law_bent : FnScope N__law_bent ["state", "order"] (defScope s__law_bent) := ⟨rfl, rfl, rfl, by decide +kernel, rfl, by decide +kernel, by decide +kernel⟩
theorem ok__law_bent {P : Program} {w : World} {K : Fg} {mg : Str → Option Value} {base : Heap} (c : Fx K mg) : FnG P w K mg base CX0 4 (He.ga K "_law_bent") c.fd__law_bent ["state", "order"] (spS K mg 1 F__law_bent) := fn_st0 (g := g__law_bent) c.D__law_bent sc__law_bent rfl (by decide) (fun cdv A outer s H E rm => (have nd := sc__law_bent.nd;
    ds_cons (d_set 2 (d_callS 0 ((ok__law_draw c).up (by decide : 2 ≤ 3)) rm c.g__law_draw c.D__law_draw.kp (b__law_draw c) passA (dA_cons (d_len c.m_len (d_var 1)) (dA_nil))) (hN := nd))
    (ds_cons (d_set 3 (d_callS 0 ((ok__law_pick c).up (by decide : 3 ≤ 3)) rm c.g__law_pick c.D__law_pick.kp (b__law_pick c) passA (dA_cons (d_lst (dA_cons (d_cutH (d_ix rm (d_var 1) (d_var 2)) (d_neg (d_int))) (dA_cons (d_add (d_ix rm (d_var 1) (d_var 2)) (d_tup (dA_cons (d_var 2) (dA_nil)))) (dA_cons (d_back (d_ix rm (d_var 1) (d_var 2))) (dA_cons (d_tup (dA_cons (d_int) (dA_nil))) (dA_cons (d_lstOf c.m_list (d_ix rm (d_var 1) (d_var 2))) (dA_cons (d_tupR1 c.m_tuple c.m_range (d_var 2)) (dA_cons (d_non) (dA_cons (d_cutL (d_ix rm (d_var 1) (d_var 2)) (d_int)) (dA_nil)))))))))) (dA_nil))) (hN := nd))
    (ds_one (d_ret (d_add (d_add (d_cutH (d_var 1) (d_var 2)) (d_tup (dA_cons (d_var 3) (dA_nil)))) (d_cutL (d_var 1) (d_add (d_var 2) (d_int))))))))) (fun _ _ _ _ e => e)
end K67
set_option maxHeartbeats 4000000
namespace K67
open PySem PySem.Spec PyProof.Rows L2 DL
abbrev N__law_begun : List Str := ["script", "great", "cell"]
def g__law_begun : SF := gAsg 1 (eLC [2] (iSc 0) (gN 2) (tE (eC2 (eC (eV 2) oAbs) (eC2 (eD (.int 10)) (eD (.int 18)) oPow) oGe)) (eC2 (eC (eV 2) oAbs) (eC2 (eD (.int 10)) (eD (.int 18)) oPow) oSub))
def f__law_begun : EF := eLC [2] (iSc 0) (gN 2) (tYs) (eC (eV 2) oAbs)
abbrev N_law : List Str := ["script", "state", "turn", "order", "value", "world", "odd", "far", "calls", "call", "none", "work"]
-- cells: far none odd order work
def g_law : SF := gSq (gFor (iR1 (aCons (eC2 (eD (.int 5)) (eC2 (eScLen 0) (eD (.int 6)) oMin) oAdd) (aNil))) (gN 2) (gSq (gAsg 3 (eCallS 1 F__law_order 1 (aCons (eD (.int 7)) (aNil))))
  (gSq (gFor (iS (eLst (aCons (eV 3) (aCons (eCallS 1 F__law_bent 1 (aCons (eV 3) (aNil))) (aCons (eCallS 1 F__law_bent 1 (aCons (eV 3) (aNil))) (aCons (eCallS 1 F__law_no_order 0 (aNil)) (aCons (eC2 (eV 3) (eC2 (eTup (aCons (eTup (aNil)) (aNil))) (eD (.int 7)) oRepT) oAdd) (aNil)))))))) (gN 4) (gIf (tOo (tNt (tE (eCall F__law_is 2 [] (aCons (eCall F_is_order 1 [] (aCons (eV 4) (aNil))) (aCons (eCall F__law_is_order 1 [] (aCons (eV 4) (aNil))) (aNil)))))) (tNt (tE (eCall F__law_is 2 [] (aCons (eCall F_is_order 1 [] (aCons (eV 4) (aNil))) (aCons (eCall F__law_is_order 1 [] (aCons (eV 4) (aNil))) (aNil))))))) (gRet (eD (.bool false))) (gNx)))
  (gSq (gAsg 5 (eCallS 1 F__law_draw 1 (aCons (eC (eV 3) oLen) (aNil))))
  (gSq (gIf (tOo (tNt (tE (eCall F__law_is 2 [] (aCons (eCallN F_order_part 2 (aCons (eV 3) (aCons (eV 5) (aNil)))) (aCons (eCall F__law_part 2 [] (aCons (eV 3) (aCons (eV 5) (aNil)))) (aNil)))))) (tNt (tE (eCall F__law_is 2 [] (aCons (eCallNR F_order_part 2 (aCons (eV 5) (aCons (eV 3) (aNil)))) (aCons (eCall F__law_part 2 [] (aCons (eV 3) (aCons (eV 5) (aNil)))) (aNil))))))) (gRet (eD (.bool false))) (gNx))
  (gSq (gIf (tOo (tNt (tE (eCall F__law_is 2 [] (aCons (eCallN F_is_one 1 (aCons (eV 3) (aNil))) (aCons (eC2 (eC (eC2 (eV 3) (eC (eD (.int 1)) oNeg) oIx) oLen) (eC2 (eC (eV 3) oLen) (eD (.int 1)) oSub) oEq) (aNil)))))) (tNt (tE (eCall F__law_is 2 [] (aCons (eCallNR F_lots_up 1 (aCons (eV 3) (aNil))) (aCons (eCall F__law_lots 1 [] (aCons (eV 3) (aNil))) (aNil))))))) (gRet (eD (.bool false))) (gNx))
  (gSq (gPar 6 7 (eCallS 1 F__law_no_order 0 (aNil)) (eCallS 1 F__law_pick 1 (aCons (eLst (aCons (eC (eV 3) oLen) (aCons (eC2 (eD (.int 0)) (eD (.int 1)) oSub) (aCons (eD .none) (aCons (eD (.bool true)) (aCons (eD (.str "0")) (aNil))))))) (aNil))))
  (gSq (gCalls 8 9 "BadOrder" [eCall F_order_part 2 [] (aCons (eV 6) (aCons (eV 7) (aNil))), eCall F_is_one 1 [] (aCons (eV 6) (aNil)), eCall F_lots_up 1 [] (aCons (eV 6) (aNil)), eCall F_speaks 2 [] (aCons (eV 6) (aCons (eD .none) (aNil))), eCall F_holds_on 2 [] (aCons (eV 6) (aCons (eD .none) (aNil)))])
  (gSq (gIf (tNt (tE (eIsC "BadWorld" (eCall F_order_part 2 [] (aCons (eV 3) (aCons (eV 7) (aNil))))))) (gRet (eD (.bool false))) (gNx))
  (gSq (gAsg 10 (eCallS 1 F__law_no_statement 0 (aNil)))
  (gWorks 11 "BadStatement" [eCall F_speaks 2 [] (aCons (eV 3) (aCons (eV 10) (aNil))), eCall F_holds_on 2 [] (aCons (eV 3) (aCons (eV 10) (aNil)))])))))))))))
  (gRet (eD (.bool true)))
def lb_law : SF := gSq (gFor (iS (eLst (aCons (eV 3) (aCons (eCallS 1 F__law_bent 1 (aCons (eV 3) (aNil))) (aCons (eCallS 1 F__law_bent 1 (aCons (eV 3) (aNil))) (aCons (eCallS 1 F__law_no_order 0 (aNil)) (aCons (eC2 (eV 3) (eC2 (eTup (aCons (eTup (aNil)) (aNil))) (eD (.int 7)) oRepT) oAdd) (aNil)))))))) (gN 4) (gIf (tOo (tNt (tE (eCall F__law_is 2 [] (aCons (eCall F_is_order 1 [] (aCons (eV 4) (aNil))) (aCons (eCall F__law_is_order 1 [] (aCons (eV 4) (aNil))) (aNil)))))) (tNt (tE (eCall F__law_is 2 [] (aCons (eCall F_is_order 1 [] (aCons (eV 4) (aNil))) (aCons (eCall F__law_is_order 1 [] (aCons (eV 4) (aNil))) (aNil))))))) (gRet (eD (.bool false))) (gNx)))
  (gSq (gAsg 5 (eCallS 1 F__law_draw 1 (aCons (eC (eV 3) oLen) (aNil))))
  (gSq (gIf (tOo (tNt (tE (eCall F__law_is 2 [] (aCons (eCallN F_order_part 2 (aCons (eV 3) (aCons (eV 5) (aNil)))) (aCons (eCall F__law_part 2 [] (aCons (eV 3) (aCons (eV 5) (aNil)))) (aNil)))))) (tNt (tE (eCall F__law_is 2 [] (aCons (eCallNR F_order_part 2 (aCons (eV 5) (aCons (eV 3) (aNil)))) (aCons (eCall F__law_part 2 [] (aCons (eV 3) (aCons (eV 5) (aNil)))) (aNil))))))) (gRet (eD (.bool false))) (gNx))
  (gSq (gIf (tOo (tNt (tE (eCall F__law_is 2 [] (aCons (eCallN F_is_one 1 (aCons (eV 3) (aNil))) (aCons (eC2 (eC (eC2 (eV 3) (eC (eD (.int 1)) oNeg) oIx) oLen) (eC2 (eC (eV 3) oLen) (eD (.int 1)) oSub) oEq) (aNil)))))) (tNt (tE (eCall F__law_is 2 [] (aCons (eCallNR F_lots_up 1 (aCons (eV 3) (aNil))) (aCons (eCall F__law_lots 1 [] (aCons (eV 3) (aNil))) (aNil))))))) (gRet (eD (.bool false))) (gNx))
  (gSq (gPar 6 7 (eCallS 1 F__law_no_order 0 (aNil)) (eCallS 1 F__law_pick 1 (aCons (eLst (aCons (eC (eV 3) oLen) (aCons (eC2 (eD (.int 0)) (eD (.int 1)) oSub) (aCons (eD .none) (aCons (eD (.bool true)) (aCons (eD (.str "0")) (aNil))))))) (aNil))))
  (gSq (gCalls 8 9 "BadOrder" [eCall F_order_part 2 [] (aCons (eV 6) (aCons (eV 7) (aNil))), eCall F_is_one 1 [] (aCons (eV 6) (aNil)), eCall F_lots_up 1 [] (aCons (eV 6) (aNil)), eCall F_speaks 2 [] (aCons (eV 6) (aCons (eD .none) (aNil))), eCall F_holds_on 2 [] (aCons (eV 6) (aCons (eD .none) (aNil)))])
  (gSq (gIf (tNt (tE (eIsC "BadWorld" (eCall F_order_part 2 [] (aCons (eV 3) (aCons (eV 7) (aNil))))))) (gRet (eD (.bool false))) (gNx))
  (gSq (gAsg 10 (eCallS 1 F__law_no_statement 0 (aNil)))
  (gWorks 11 "BadStatement" [eCall F_speaks 2 [] (aCons (eV 3) (aCons (eV 10) (aNil))), eCall F_holds_on 2 [] (aCons (eV 3) (aCons (eV 10) (aNil)))]))))))))
end K67
set_option maxHeartbeats 1000000
/-! K67M: folds of orders, as lists of ints. -/
namespace K67
open PySem PySem.Spec PyProof.Rows L2 DL
def get (f : List Int) (k : Int) : Int := f.getD k.toNat 0
def rowS (S : List (List Int)) (t : Int) : List Int := S.getD t.toNat []
def onto (S : List (List Int)) (f : List Int) : Bool := decide (((sortU f).length : Int) = (S.length : Int))
def Low (W : List (List Int)) : Prop := ∀ (i : Nat) (r : List Int), W[i]? = some r → r.length < 8 ∧ ∀ k ∈ r, 0 ≤ k ∧ k < i
theorem get_app {f : List Int} {k : Int} (x : List Int) (h : 0 ≤ k) (hl : k < (f.length : Int)) : get (f ++ x) k = get f k := by
  unfold get
  rw [List.getD_eq_getElem?_getD, List.getD_eq_getElem?_getD, List.getElem?_append_left (by omega)]
theorem map_get_app {f x row : List Int} (h : ∀ k ∈ row, 0 ≤ k ∧ k < (f.length : Int)) : row.map (get (f ++ x)) = row.map (get f) := List.map_congr_left fun k hk => get_app x (h k hk).1 (h k hk).2
theorem get_last (f : List Int) (t : Int) : get (f ++ [t]) (f.length : Int) = t := by
  unfold get
  rw [List.getD_eq_getElem?_getD, List.getElem?_append_right (by omega)]
  simp
theorem flat_len {α β : Type} (h : α → List β) (n : Nat) (hn : ∀ a, (h a).length ≤ n) : ∀ l : List α, (l.flatMap h).length ≤ l.length * n
  | [] => by simp
  | a :: l => by
    rw [List.flatMap_cons, List.length_append, List.length_cons, Nat.succ_mul]
    have := flat_len h n hn l
    have := hn a
    omega
/-! ### fitting, as the law tells it -/
theorem filter_asc {l : List Int} (h : l.Pairwise (· < ·)) (p : Int → Bool) : (l.filter p).Pairwise (· < ·) := h.filter p
/-- the law's look at one world of a way -/
theorem sortS_asc {l : List Int} (h : l.Pairwise (· ≤ ·)) : sortS l = l := le_eq (sortS_le l) h (sortS_perm l)
/-! ### all numbers told -/
def rng (n : Nat) : List Int := (List.range n).map fun i : Nat => (i : Int)
theorem rng_lt (n : Nat) : (rng n).Pairwise (· < ·) := by
  unfold rng
  refine List.pairwise_map.mpr ((List.pairwise_lt_range (n := n)).imp fun h => ?_)
  exact Int.ofNat_lt.mpr h
theorem mem_rng {n : Nat} {k : Int} : k ∈ rng n ↔ 0 ≤ k ∧ k < n := by
  unfold rng
  rw [List.mem_map]
  constructor
  · rintro ⟨i, hi, rfl⟩
    have := List.mem_range.mp hi
    omega
  · rintro ⟨h1, h2⟩
    exact ⟨k.toNat, List.mem_range.mpr (by omega), by omega⟩
theorem rng_len (n : Nat) : (rng n).length = n := by unfold rng; rw [List.length_map, List.length_range]
theorem lt_nd {l : List Int} (h : l.Pairwise (· < ·)) : l.Nodup := h.imp fun h => Int.ne_of_lt h
theorem full_iff {l : List Int} {n : Nat} (h : l.Pairwise (· < ·)) (hs : ∀ k ∈ l, 0 ≤ k ∧ k < (n : Int)) : l.length = n ↔ l = rng n := by
  constructor
  · intro e
    have back := nd_sub_eq (lt_nd h) (lt_nd (rng_lt n)) (by rw [e, rng_len]) fun k hk => mem_rng.mpr (hs k hk)
    exact asc_eq h (rng_lt n) fun k => ⟨fun hk => mem_rng.mpr (hs k hk), back k⟩
  · intro e
    rw [e, rng_len]
theorem onto_iff {S : List (List Int)} {f : List Int} (hf : ∀ t ∈ f, 0 ≤ t ∧ t < (S.length : Int)) : onto S f = decide (sortU f = rng S.length) := by
  unfold onto
  rw [Bool.eq_iff_iff, decide_eq_true_eq, decide_eq_true_eq, ← full_iff (sortU_lt f) fun k hk => hf k ((mem_sortU f k).mp hk)]
  omega
end K67
set_option maxHeartbeats 1000000
/-! K67E1: what fits, first_fold and the law's folds come to. -/
namespace K67
open PySem PySem.Spec PyProof.Rows L2 DL
def pT (f : List Int) : PD := .tuple (f.map PyData.int)
def pO (O : List (List Int)) : PD := .tuple (O.map pT)
theorem atI_nn {α : Type} (xs : List α) {k : Int} (h : 0 ≤ k) (hl : k < (xs.length : Int)) : L2.atI xs k = xs[k.toNat]? := by
  unfold L2.atI L2.ixN
  rw [if_pos h, if_pos hl]
  rfl
theorem oIx_pT {f : List Int} {k : Int} (h : 0 ≤ k) (hl : k < (f.length : Int)) : oIx (pT f) (.int k) = some (.fz (.int (get f k))) := by
  show (L2.atI (f.map PyData.int) k).map R.fz = _
  rw [atI_nn _ h (by rw [List.length_map]; exact hl), List.getElem?_map]
  unfold get
  have e : f[k.toNat]? = some f[k.toNat] := List.getElem?_eq_getElem (by omega)
  rw [List.getD_eq_getElem?_getD, e]
  rfl
theorem oIx_pO {O : List (List Int)} {k : Int} (h : 0 ≤ k) (hl : k < (O.length : Int)) : oIx (pO O) (.int k) = some (.fz (pT (rowS O k))) := by
  show (L2.atI (O.map pT) k).map R.fz = _
  rw [atI_nn _ h (by rw [List.length_map]; exact hl), List.getElem?_map]
  unfold rowS
  have e : O[k.toNat]? = some O[k.toNat] := List.getElem?_eq_getElem (by omega)
  rw [List.getD_eq_getElem?_getD, e]
  rfl
theorem seqInts_l {ns : List Int} (h : ns.length < 4000) : seqInts (.list (ns.map PyData.int)) = some ns := by
  show (if (ns.map PyData.int).length < 4000 then intsD (ns.map PyData.int) else none) = _
  rw [List.length_map, if_pos h, intsD_of_map]
theorem seqInts_t {ns : List Int} (h : ns.length < 4000) : seqInts (pT ns) = some ns := by
  show (if (ns.map PyData.int).length < 4000 then intsD (ns.map PyData.int) else none) = _
  rw [List.length_map, if_pos h, intsD_of_map]
theorem eSD_ok {f g h : EF} {w w1 w2 w3 : Wt} {d1 d3 : PD} {i : Int} {ns ms : List Int} (h1 : eF f w = some (.fz d1, w1)) (s1 : seqInts d1 = some ns) (h2 : eF g w1 = some (.fz (.int i), w2)) (h3 : eF h w2 = some (.fz d3, w3)) (s3 : seqInts d3 = some ms) (hl : ns.length < 8) :
    eSD f g h w = some (.fz (.bool (sdEq ns i ms)), w3) := by
  unfold eSD
  rw [h1]; dsimp only
  rw [s1]; dsimp only
  rw [h2]; dsimp only
  rw [h3]; dsimp only
  rw [s3]; dsimp only
  rw [if_pos hl]
/-- a comprehension over ints that only reads, giving ints -/
theorem map_ints (g : Int → Int) (h : PD → PD) (hh : ∀ k, h (.int k) = .int (g k)) : ∀ l : List Int, (((l.map PyData.int).filter fun _ => true).map h) = (l.map g).map PyData.int
  | [] => rfl
  | k :: l => by
    rw [List.map_cons, List.filter_cons, if_pos rfl, List.map_cons, List.map_cons, List.map_cons, map_ints g h hh l, hh]
def onI (g : Int → PD) : PD → PD
  | .int k => g k
  | _ => .none
theorem map_onI (g : Int → PD) : ∀ l : List Int, (l.map PyData.int).map (onI g) = l.map g
  | [] => rfl
  | k :: l => by rw [List.map_cons, List.map_cons, map_onI g l]; rfl
/-! ### two fors -/
theorem lcL2_ev {vs vs1 : List Nat} {tg : TgF} {tt : TFn} {fi1 : IF} {tg1 : TgF} {tt1 : TFn} {fe : EF} {w : Wt} (h : PD → List PD) (n : Nat) : ∀ (ds acc : List PD), (∀ d ∈ ds, (h d).length ≤ n ∧ ∃ w2 w3 es w4, tg d w = some w2 ∧ tt w2 = some (.b true, w2) ∧ fi1 w2 = some (es, w3) ∧ plainW w3 vs1 = true ∧ (∀ acc : List PD, acc.length + n < lim → lcL vs1 tg1 tt1 fe es (w3.wipe vs1) acc = some (acc ++ h d, w4)) ∧ plainW w4 vs = true ∧ w4.wipe vs = w) →
    acc.length + ds.length * n + n < lim → lcL2 vs vs1 tg tt fi1 tg1 tt1 fe ds w acc = some (acc ++ ds.flatMap h, w)
  | [], acc, _, _ => by simp [lcL2]
  | d :: ds, acc, hs, hl => by
    obtain ⟨h0, w2, w3, es, w4, h1, h2, h3, h4, h5, h6, h7⟩ := hs d List.mem_cons_self
    rw [List.length_cons, Nat.succ_mul] at hl
    unfold lcL2
    rw [h1]; dsimp only
    rw [h2]; dsimp only
    rw [h3]; dsimp only
    rw [if_pos h4, h5 acc (by omega)]; dsimp only
    rw [if_pos h6, h7, lcL2_ev h n ds (acc ++ h d) (fun d hd => hs d (List.mem_cons_of_mem _ hd)) (by rw [List.length_append]; omega), List.flatMap_cons, List.append_assoc]
theorem filter_nat (p : Int → Bool) (g : Int → PD) : ∀ l : List Nat, ((l.map fun i : Nat => PyData.int (0 + (i : Int))).filter (fun d => match d with | .int k => p k | _ => false)).map (onI g) = (l.filter fun i : Nat => p (i : Int)).map fun i : Nat => g (i : Int)
  | [] => rfl
  | i :: l => by
    have ih := filter_nat p g l
    rw [List.map_cons, List.filter_cons, List.filter_cons]
    have e : (0 + (i : Int)) = (i : Int) := by omega
    simp only [e] at ih ⊢
    cases q : p (i : Int) with
    | true => rw [if_pos rfl, if_pos rfl, List.map_cons, List.map_cons, ih]; rfl
    | false => rw [if_neg (by simp), if_neg (by simp), ih]
def pI (p : Int → Bool) : PD → Bool := fun d => match d with | .int k => p k | _ => false
def pTi (l : List (List Int)) : List PD := l.map pT
theorem small_nat {n : Nat} (h : n < 1000) : small (n : Int) = true := by
  unfold small
  rw [Bool.and_eq_true, decide_eq_true_eq, decide_eq_true_eq]
  omega
end K67
set_option maxHeartbeats 1000000
/-! K67E2: first_fold and the law's folds. -/
namespace K67
open PySem PySem.Spec PyProof.Rows L2 DL
theorem plainAll_pT : ∀ fs : List (List Int), PyData.plainAll (fs.map pT) = true
  | [] => rfl
  | f :: fs => by
    rw [List.map_cons]
    simp only [PyData.plainAll, Bool.and_eq_true]
    exact ⟨by unfold pT; simp only [PyData.plain, plain_ints], plainAll_pT fs⟩
theorem depth_pT (f : List Int) : (pT f).depth ≤ 2 := by
  unfold pT
  have := DL.depthAll_ints f
  show PyData.depthAll (f.map PyData.int) + 1 ≤ 2
  omega
theorem depthAll_pT : ∀ fs : List (List Int), PyData.depthAll (fs.map pT) ≤ 2
  | [] => by simp [PyData.depthAll]
  | f :: fs => by
    rw [List.map_cons]
    have := depthAll_pT fs
    have := depth_pT f
    simp only [PyData.depthAll]
    omega
theorem flatD_pT (f : List Int) : flatD (pT f) = true := flatD_tup f
theorem flatD_pO (O : List (List Int)) : flatD (pO O) = true := by
  unfold flatD pO
  have := depthAll_pT O
  rw [Bool.and_eq_true, decide_eq_true_eq]
  refine ⟨by simp only [PyData.plain, plainAll_pT], ?_⟩
  show PyData.depthAll (O.map pT) + 1 ≤ 100
  omega
theorem flatD_lO (O : List (List Int)) : flatD (.list (O.map pT)) = true := by
  unfold flatD
  have := depthAll_pT O
  rw [Bool.and_eq_true, decide_eq_true_eq]
  refine ⟨by simp only [PyData.plain, plainAll_pT], ?_⟩
  show PyData.depthAll (O.map pT) + 1 ≤ 100
  omega
theorem oNe_l0 (fs : List (List Int)) : oNe (.list (fs.map pT)) (.list []) = some (.fz (.bool (!fs.isEmpty))) := by
  unfold oNe
  rw [flatD_lO, show flatD (.list []) = true from rfl]
  cases fs with
  | nil => rfl
  | cons f r => rfl
def hd : List (List Int) → PD
  | [] => .none
  | f :: _ => pT f
theorem oIx_l0 (f : List Int) (r : List (List Int)) : oIx (.list ((f :: r).map pT)) (.int 0) = some (.fz (pT f)) := by
  show (L2.atI ((f :: r).map pT) 0).map R.fz = _
  rw [atI_nn _ (by decide) (by simp)]
  rfl
def onP (S : List (List Int)) : PD → Bool
  | .tuple ds => onto S ((intsD ds).getD [])
  | _ => false
theorem onP_pT (S : List (List Int)) (f : List Int) : onP S (pT f) = onto S f := by
  show onto S ((intsD (f.map PyData.int)).getD []) = _
  rw [intsD_of_map]; rfl
theorem filt_pT (p : PD → Bool) (q : List Int → Bool) (h : ∀ f, p (pT f) = q f) : ∀ fs : List (List Int), ((fs.map pT).filter p).map id = (fs.filter q).map pT
  | [] => rfl
  | f :: fs => by
    rw [List.map_cons, List.filter_cons, List.filter_cons, h]
    cases q f with
    | true => rw [if_pos rfl, if_pos rfl, List.map_cons, List.map_cons, filt_pT p q h fs]; rfl
    | false => rw [if_neg (by decide), if_neg (by decide), filt_pT p q h fs]
theorem oLen_pO (O : List (List Int)) : oLen (pO O) = some (.fz (.int (O.length : Int))) := by
  show some (R.fz (.int ((O.map pT).length : Int))) = _
  rw [List.length_map]
theorem oLen_pT (f : List Int) : oLen (pT f) = some (.fz (.int (f.length : Int))) := by
  show some (R.fz (.int ((f.map PyData.int).length : Int))) = _
  rw [List.length_map]
theorem oLenSet_pT {f : List Int} (h : f.length < 4000) : oLenSet (pT f) = some (.fz (.int ((sortU f).length : Int))) := by
  unfold oLenSet
  rw [seqInts_t h]; rfl
/-- the last filter -/
theorem filt_ev {v a : Nat} {b : Nat} {S fs : List (List Int)} {w : Wt} (hb : w.sl[b]? = some (.o (.list (fs.map pT)))) (hv : plainS w.sl[v]? = true) (hl : v < w.sl.length) (ha : w.sl[a]? = some (.v (pO S))) (hav : a ≠ v) (hab : a ≠ b) (hbv : b ≠ v) (hf : ∀ f ∈ fs, f.length < 4000) (hn : fs.length < lim) :
    eLC [v] (iS (eV b)) (gN v) (tE (eC2 (eC (eV v) oLenSet) (eC (eV a) oLen) oEq)) (eV v) w = some (.ow (.list ((fs.filter (onto S)).map pT)), w.at b (.v (.list (fs.map pT)))) := by
  have e := eLC1 (v := v) (fi := iS (eV b)) (tt := tE (eC2 (eC (eV v) oLenSet) (eC (eV a) oLen) oEq)) (fe := eV v) (w := w) (w1 := w.at b (.v (.list (fs.map pT)))) (onP S) id (iS_lst (eF_own hb)) (by rw [at_other (fun z => hbv z.symm)]; exact hv) (by rw [at_len]; exact hl) (fun d hd => by
    obtain ⟨f, hff, rfl⟩ := List.mem_map.mp hd
    have s1 : (((w.at b (.v (.list (fs.map pT)))).at v (.v (pT f))).sl)[v]? = some (.v (pT f)) := at_same (by rw [at_len]; exact hl)
    have s2 : (((w.at b (.v (.list (fs.map pT)))).at v (.v (pT f))).sl)[a]? = some (.v (pO S)) := by rw [at_other hav, at_other hab]; exact ha
    refine ⟨?_, fun _ => eF_fz (eV_v s1)⟩
    rw [onP_pT]
    exact tE_ok (eC2_ok (.inl (eC_fz (eV_v s1) (oLenSet_pT (hf f hff)))) (.inl (eC_fz (eV_v s2) (oLen_pO S))) (oEq_int _ _))) (by rw [List.length_map]; exact hn)
  rw [e, filt_pT (onP S) (onto S) (onP_pT S)]
theorem row_get {W : List (List Int)} {i : Nat} {d : PD} (h : (W.map pT)[i]? = some d) : ∃ r, W[i]? = some r ∧ d = pT r := by
  rw [List.getElem?_map] at h
  cases e : W[i]? with
  | none => rw [e] at h; cases h
  | some r => rw [e] at h; cases h; exact ⟨r, rfl, rfl⟩
theorem get_lt {α : Type} {l : List α} {i : Nat} {x : α} (h : l[i]? = some x) : i < l.length := (List.getElem?_eq_some_iff.mp h).1
end K67
set_option maxHeartbeats 1000000
/-! K67E3: the law's folds. -/
namespace K67
open PySem PySem.Spec PyProof.Rows L2 DL
theorem at_eq {w : Wt} {i : Nat} {x y : Slot} (h : w.sl[i]? = some x) (e : x = y) : w.at i y = w := by
  subst e
  unfold Wt.at
  obtain ⟨hi, hx⟩ := List.getElem?_eq_some_iff.mp h
  have : w.sl.set i x = w.sl := by
    apply List.ext_getElem?
    intro j
    by_cases z : i = j
    · subst z; rw [List.getElem?_set_self hi, h]
    · rw [List.getElem?_set_ne z]
  rw [this]
/-- all ints, as they are told -/
def isI : PD → Bool := fun _ => true
theorem map_onI2 (g : Int → Int) (l : List Int) : (((l.map PyData.int).filter fun _ => true).map (onI fun k => .int (g k))) = (l.map g).map PyData.int := map_ints g _ (fun _ => rfl) l
theorem filt_ints (p : Int → Bool) : ∀ l : List Int, (((l.map PyData.int).filter (pI p)).map id) = (l.filter p).map PyData.int
  | [] => rfl
  | k :: l => by
    rw [List.map_cons, List.filter_cons, List.filter_cons, show pI p (.int k) = p k from rfl]
    cases q : p k with
    | true => rw [if_pos rfl, if_pos rfl, List.map_cons, List.map_cons, filt_ints p l]; rfl
    | false => rw [if_neg (by decide), if_neg (by decide), filt_ints p l]
theorem filt_all (l : List PD) : (l.filter fun _ => true).map id = l := by
  rw [List.filter_eq_self.mpr (fun _ _ => rfl), List.map_id]
/-- the ints of a row, by a found way -/
theorem lc_get {v a b i : Nat} {O : List (List Int)} {f : List Int} {k : Int} {row : List Int} {w : Wt} (hO : w.sl[a]? = some (.v (pO O))) (hk : w.sl[i]? = some (.v (.int k))) (hf : w.sl[b]? = some (.v (pT f))) (hv : plainS w.sl[v]? = true) (hl : v < w.sl.length) (hbv : b ≠ v)
    (h0 : 0 ≤ k ∧ k < (O.length : Int)) (hrow : rowS O k = row) (hr : ∀ j ∈ row, 0 ≤ j ∧ j < (f.length : Int)) (hn : row.length < 4000) :
    eLC [v] (iS (eC2 (eV a) (eV i) oIx)) (gN v) tYs (eC2 (eV b) (eV v) oIx) w = some (.ow (.list ((row.map (get f)).map PyData.int)), w) := by
  have e := eLC1 (v := v) (fi := iS (eC2 (eV a) (eV i) oIx)) (tt := tYs) (fe := eC2 (eV b) (eV v) oIx) (w := w) (w1 := w) (fun _ => true) (onI fun k => .int (get f k)) (iS_tup (eF_fz (eC2_ok (sees_v hO) (sees_v hk) (oIx_pO h0.1 h0.2)))) hv hl (fun d hd => by
    rw [hrow] at hd
    obtain ⟨j, hj, rfl⟩ := List.mem_map.mp hd
    exact ⟨rfl, fun _ => eF_fz (eC2_ok (sees_v (by rw [at_other hbv]; exact hf)) (sees_v (at_same hl)) (oIx_pT (hr j hj).1 (hr j hj).2))⟩) (by rw [hrow, List.length_map]; unfold lim; omega)
  rw [hrow, map_onI2] at e
  exact e
/-- the ints of a row -/
theorem lc_row {v a i : Nat} {O : List (List Int)} {k : Int} {row : List Int} {w : Wt} (hO : w.sl[a]? = some (.v (pO O))) (hk : w.sl[i]? = some (.v (.int k))) (hv : plainS w.sl[v]? = true) (hl : v < w.sl.length)
    (h0 : 0 ≤ k ∧ k < (O.length : Int)) (hrow : rowS O k = row) (hn : row.length < 4000) :
    eLC [v] (iS (eC2 (eV a) (eV i) oIx)) (gN v) tYs (eV v) w = some (.ow (.list (row.map PyData.int)), w) := by
  have e := eLC1 (v := v) (fi := iS (eC2 (eV a) (eV i) oIx)) (tt := tYs) (fe := eV v) (w := w) (w1 := w) (fun _ => true) id (iS_tup (eF_fz (eC2_ok (sees_v hO) (sees_v hk) (oIx_pO h0.1 h0.2)))) hv hl (fun d hd => ⟨rfl, fun _ => eF_fz (eV_v (at_same hl))⟩) (by rw [hrow, List.length_map]; unfold lim; omega)
  rw [hrow, filt_all] at e
  exact e
theorem range_get {n i : Nat} {d : PD} (h : ((List.range n).map fun i : Nat => PyData.int (0 + (i : Int)))[i]? = some d) : i < n ∧ d = .int (i : Int) := by
  rw [List.getElem?_map] at h
  cases e : (List.range n)[i]? with
  | none => rw [e] at h; cases h
  | some j =>
    rw [e] at h
    cases h
    obtain ⟨h1, h2⟩ := List.getElem?_eq_some_iff.mp e
    rw [List.length_range] at h1
    rw [List.getElem_range] at h2
    subst h2
    exact ⟨h1, by show PyData.int (0 + (i : Int)) = _; rw [Int.zero_add]⟩
theorem iR1_len {a : Nat} {O : List (List Int)} {w : Wt} (h : w.sl[a]? = some (.v (pO O))) (hl : O.length < 1000) : iR1 (aCons (eC (eV a) oLen) aNil) w = some ((List.range O.length).map (fun i : Nat => PyData.int (0 + (i : Int))), w) := by
  have e2 : aCons (eC (eV a) oLen) aNil w = some (.ok [.int (O.length : Int)], w) := aCons_ok (eF_fz (eC_fz (eV_v h) (oLen_pO O))) aNil_ok
  unfold iR1
  rw [e2]
  dsimp only
  rw [if_pos (small_nat hl)]
  rfl
theorem oAdd_pT (f : List Int) (t : Int) (h : f.length < 1000) : oAdd (pT f) (.tuple [.int t]) = some (.fz (pT (f ++ [t]))) := by
  show (if (f.map PyData.int).length + 1 < lim then some (R.fz (.tuple (f.map PyData.int ++ [.int t]))) else none) = _
  rw [if_pos (by rw [List.length_map]; unfold lim; omega)]
  show _ = some (R.fz (.tuple ((f ++ [t]).map PyData.int)))
  rw [List.map_append]
  rfl
theorem rowS_mem {S : List (List Int)} {t : Int} (h : 0 ≤ t ∧ t < (S.length : Int)) : rowS S t ∈ S := by
  unfold rowS
  rw [List.getD_eq_getElem?_getD, List.getElem?_eq_getElem (by omega)]
  exact List.getElem_mem _
theorem rowS_get {S : List (List Int)} {i : Nat} {r : List Int} (h : S[i]? = some r) : rowS S (i : Int) = r := by
  unfold rowS
  rw [List.getD_eq_getElem?_getD, Int.toNat_natCast, h]
  rfl
theorem insU_len (k : Int) : ∀ l : List Int, (insU k l).length ≤ l.length + 1
  | [] => by simp [insU]
  | x :: l => by
    have := insU_len k l
    unfold insU
    split
    · simp
    · split
      · simp
      · simp only [List.length_cons]; omega
theorem sortU_len : ∀ l : List Int, (sortU l).length ≤ l.length
  | [] => by simp [sortU]
  | x :: l => by
    have h := sortU_len l
    have h2 := insU_len x (sortU l)
    show (insU x (sortU l)).length ≤ _
    rw [List.length_cons]
    omega
theorem filt_ev' {v a : Nat} {b : Nat} {S fs : List (List Int)} {w : Wt} (hi : iS (eV b) w = some (fs.map pT, w.at b (.v (.list (fs.map pT))))) (hv : plainS w.sl[v]? = true) (hl : v < w.sl.length) (ha : w.sl[a]? = some (.v (pO S))) (hav : a ≠ v) (hab : a ≠ b) (hbv : b ≠ v) (hf : ∀ f ∈ fs, f.length < 4000) (hn : fs.length < lim) :
    eLC [v] (iS (eV b)) (gN v) (tE (eC2 (eC (eV v) oLenSet) (eC (eV a) oLen) oEq)) (eV v) w = some (.ow (.list ((fs.filter (onto S)).map pT)), w.at b (.v (.list (fs.map pT)))) := by
  have e := eLC1 (v := v) (fi := iS (eV b)) (tt := tE (eC2 (eC (eV v) oLenSet) (eC (eV a) oLen) oEq)) (fe := eV v) (w := w) (w1 := w.at b (.v (.list (fs.map pT)))) (onP S) id hi (by rw [at_other (fun z => hbv z.symm)]; exact hv) (by rw [at_len]; exact hl) (fun d hd => by
    obtain ⟨f, hff, rfl⟩ := List.mem_map.mp hd
    have s1 : (((w.at b (.v (.list (fs.map pT)))).at v (.v (pT f))).sl)[v]? = some (.v (pT f)) := at_same (by rw [at_len]; exact hl)
    have s2 : (((w.at b (.v (.list (fs.map pT)))).at v (.v (pT f))).sl)[a]? = some (.v (pO S)) := by rw [at_other hav, at_other hab]; exact ha
    refine ⟨?_, fun _ => eF_fz (eV_v s1)⟩
    rw [onP_pT]
    exact tE_ok (eC2_ok (.inl (eC_fz (eV_v s1) (oLenSet_pT (hf f hff)))) (.inl (eC_fz (eV_v s2) (oLen_pO S))) (oEq_int _ _))) (by rw [List.length_map]; exact hn)
  rw [e, filt_pT (onP S) (onto S) (onP_pT S)]
theorem gRet_ow {f : EF} {w w1 : Wt} {d : PD} (h : f w = some (.ow d, w1)) : gRet f w = some (.rt d w1) := by unfold gRet; rw [h]; rfl
abbrev lfIn : SF := gIf (tE (eC2 (eLC [8] (iS (eV 6)) (gN 8) (tE (eC2 (eV 8) (eV 7) oNe)) (eV 8)) (eLC [8] (iS (eC2 (eV 1) (eV 7) oIx)) (gN 8) (tYs) (eV 8)) oEq)) (gApp 4 (eC2 (eV 5) (eTup (aCons (eV 7) (aNil))) oAdd)) (gNx)
abbrev lfMid : SF := gSq (gAsg 6 (eC (eLC [7] (iS (eC2 (eV 0) (eV 3) oIx)) (gN 7) (tYs) (eC2 (eV 5) (eV 7) oIx)) oSrtSet)) (gFor (iR1 (aCons (eC (eV 1) oLen) (aNil))) (gN 7) lfIn)
abbrev lfOut : SF := gSq (gAsg 4 (eLst (aNil))) (gSq (gFor (iS (eV 2)) (gN 5) lfMid) (gAsg 2 (eV 4)))
/-- a list's slot, walked: it is given up -/
theorem iS_any {i : Nat} {w : Wt} {ds : List PD} {o : Bool} (h : w.sl[i]? = some (if o then .o (.list ds) else .v (.list ds))) : iS (eV i) w = some (ds, w.at i (.v (.list ds))) := by
  cases o with
  | true => exact iS_lst (eF_own h)
  | false =>
    have h' : w.sl[i]? = some (.v (.list ds)) := h
    rw [iS_lst (ds := ds) (eF_fz (eV_v h')), at_eq h' rfl]
structure Asc (S : List (List Int)) : Prop where
  asc : ∀ r ∈ S, r.Pairwise (· < ·)
end K67
set_option maxHeartbeats 1000000
/-! K67E4: what is_order comes to. -/
namespace K67
open PySem PySem.Spec PyProof.Rows L2 DL
/-- a good order -/
structure IsO (O : List (List Int)) : Prop where
  n1 : 1 ≤ O.length
  n7 : O.length ≤ 7
  lw : Low O
  asc : Asc O
  shut : ∀ (i : Nat) (row : List Int), O[i]? = some row → ∀ j ∈ row, ∀ x ∈ rowS O j, x ∈ row
theorem bls_mapb (q : PD → Bool) : ∀ ds : List PD, bls (ds.map fun d => .bool (q d)) = some (ds.map q)
  | [] => rfl
  | d :: ds => by
    show (bls (ds.map fun d => .bool (q d))).map (q d :: ·) = _
    rw [bls_mapb q ds]
    rfl
theorem oAll_mapb (q : PD → Bool) (ds : List PD) : oAll (.list (ds.map fun d => .bool (q d))) = some (.fz (.bool (ds.all q))) := by
  show (bls (ds.map fun d => .bool (q d))).map _ = _
  rw [bls_mapb]
  show some (R.fz (.bool ((ds.map q).all id))) = _
  rw [List.all_map]
  rfl
/-- all([e for x in ..]) -/
theorem lc_all {vs : List Nat} {fi : IF} {tg : TgF} {fe : EF} {w w1 : Wt} {ds : List PD} (q : PD → Bool) (hfi : fi w = some (ds, w1)) (hp : plainW w1 vs = true) (hr : w1.rest (w1.wipe vs) vs = w1)
    (hs : ∀ d ∈ ds, ∃ w2, tg d (w1.wipe vs) = some w2 ∧ eF fe w2 = some (.fz (.bool (q d)), w2) ∧ plainW w2 vs = true ∧ w2.wipe vs = w1.wipe vs) (hl : ds.length < lim) :
    eC (eLC vs fi tg tYs fe) oAll w = some (.fz (.bool (ds.all q)), w1) := by
  have e := eLC_ev (tt := tYs) (fun _ => true) (fun d => .bool (q d)) hfi hp hr (fun d hd => by
    obtain ⟨w2, h1, h2, h3, h4⟩ := hs d hd
    exact ⟨w2, h1, rfl, fun _ => h2, h3, h4⟩) hl
  rw [List.filter_eq_self.mpr (fun _ _ => rfl)] at e
  exact eC_ow e (oAll_mapb q ds)
theorem lc_all1 {v : Nat} {fi : IF} {fe : EF} {w w1 : Wt} {ds : List PD} (q : PD → Bool) (hfi : fi w = some (ds, w1)) (hv : plainS w1.sl[v]? = true) (hl : v < w1.sl.length)
    (hs : ∀ d ∈ ds, eF fe (w1.at v (.v d)) = some (.fz (.bool (q d)), w1.at v (.v d))) (hn : ds.length < lim) :
    eC (eLC [v] fi (gN v) tYs fe) oAll w = some (.fz (.bool (ds.all q)), w1) := by
  have e := eLC1 (v := v) (tt := tYs) (fun _ => true) (fun d => .bool (q d)) hfi hv hl (fun d hd => ⟨rfl, fun _ => hs d hd⟩) hn
  rw [List.filter_eq_self.mpr (fun _ _ => rfl)] at e
  exact eC_ow e (oAll_mapb q ds)
theorem eAnd_ok {f g : EF} {w w1 w2 : Wt} {a b : Bool} (h1 : f w = some (.fz (.bool a), w1)) (h2 : a = true → g w1 = some (.fz (.bool b), w2)) (hw : a = false → w2 = w1) : eAnd f g w = some (.fz (.bool (a && b)), w2) := by
  unfold eAnd
  rw [h1]
  cases a with
  | true => dsimp only; rw [h2 rfl, Bool.true_and]
  | false => dsimp only; rw [hw rfl, Bool.false_and]
theorem eChn_ok {p q : Int → Int → Bool} {f g h : EF} {w : Wt} {i j k : Int} (h1 : f w = some (.fz (.int i), w)) (h2 : g w = some (.fz (.int j), w)) (h3 : p i j = true → h w = some (.fz (.int k), w)) : eChn p q f g h w = some (.fz (.bool (p i j && q j k)), w) := by
  unfold eChn eB
  rw [h1]
  show eK (g w) (kChn p q h (.fz (.int i))) = _
  rw [h2]
  show kChn p q h (.fz (.int i)) (.fz (.int j)) w = _
  unfold kChn
  show (if p i j = true then eK (h w) _ else _) = _
  cases y : p i j with
  | true => rw [if_pos rfl, h3 y]; rfl
  | false => rw [if_neg (by decide)]; rfl
theorem oIsa_ok {B : PD → Bool} {d : PD} (h : d.plain = true) : oIsa B d = some (.fz (.bool (B d))) := by unfold oIsa; rw [if_pos h]
theorem plain_pT (f : List Int) : (pT f).plain = true := by unfold pT; simp only [PyData.plain, plain_ints]
theorem plain_pO (O : List (List Int)) : (pO O).plain = true := by unfold pO; simp only [PyData.plain, plainAll_pT]
theorem ev_is_whole (k : Int) : F_is_whole [.int k] = some (.ok (.bool true)) := rfl
theorem FB_rt {m : Nat} {g : SF} {ds : List PD} {w0 w : Wt} {d : PD} (h : g w0 = some (.rt d w)) (h0 : entry m ds = w0 := by rfl) : FB m g ds = some (.ok d) := by
  unfold FB
  rw [h0, h]
  rfl
def ltD : PD → Bool
  | .tuple [.int a, .int b] => decide (a < b)
  | _ => false
theorem pairs_lt : ∀ {r : List Int}, r.Pairwise (· < ·) → ∀ d ∈ pairs2 (r.map PyData.int) ((r.drop 1).map PyData.int), ∃ a b : Int, d = .tuple [.int a, .int b] ∧ a < b
  | [], _, d, hd => by simp [pairs2] at hd
  | [x], _, d, hd => by simp [pairs2] at hd
  | x :: y :: r, h, d, hd => by
    have e : pairs2 ((x :: y :: r).map PyData.int) (((x :: y :: r).drop 1).map PyData.int) = .tuple [.int x, .int y] :: pairs2 ((y :: r).map PyData.int) (((y :: r).drop 1).map PyData.int) := rfl
    rw [e] at hd
    rcases List.mem_cons.mp hd with z | z
    · exact ⟨x, y, z, (List.pairwise_cons.mp h).1 y List.mem_cons_self⟩
    · exact pairs_lt (List.pairwise_cons.mp h).2 d z
theorem cutD_1 (ds : List PD) : DL.cutD ds (some 1) none = ds.drop 1 := by
  unfold DL.cutD
  cases ds with
  | nil => rfl
  | cons x r =>
    simp [HT.sIx]
theorem ev_is_rising {r : List Int} (h : r.Pairwise (· < ·)) (hl : r.length < 1000) : F_is_rising [pT r] = some (.ok (.bool true)) := by
  have e1 := lc_all (vs := [1, 2]) (fi := iZ (aCons (eV 0) (aCons (eC2 (eV 0) (eD (.int 1)) oCutL) (aNil)))) (tg := gT 2 (gsCons (gN 1) (gsCons (gN 2) (gsNil)))) (fe := eC2 (eV 1) (eV 2) oLt) (w := ⟨[.v (pT r), .un, .un], ⟨[], [], 0, 0⟩⟩) (w1 := ⟨[.v (pT r), .un, .un], ⟨[], [], 0, 0⟩⟩) (ds := pairs2 (r.map PyData.int) ((r.drop 1).map PyData.int)) ltD (by
      have e : eC2 (eV 0) (eD (.int 1)) oCutL ⟨[.v (pT r), .un, .un], ⟨[], [], 0, 0⟩⟩ = some (.fz (.tuple ((r.drop 1).map PyData.int)), ⟨[.v (pT r), .un, .un], ⟨[], [], 0, 0⟩⟩) := eC2_ok (sees_v rfl) (.inl rfl) (by
        show some (R.fz (.tuple (DL.cutD (r.map PyData.int) (some 1) none))) = _
        rw [cutD_1, List.map_drop])
      unfold iZ
      rw [aCons_ok (eF_fz (eV_v rfl)) (aCons_ok (eF_fz e) aNil_ok)]
      rfl) rfl rfl (fun d hd => by
      obtain ⟨a, b, rfl, hab⟩ := pairs_lt h d hd
      exact ⟨⟨[.v (pT r), .v (.int a), .v (.int b)], ⟨[], [], 0, 0⟩⟩, rfl, rfl, rfl, rfl⟩) (by
      unfold pairs2
      rw [List.length_zipWith, List.length_map]
      unfold lim
      have := Nat.min_le_left r.length (List.map PyData.int (r.drop 1)).length
      omega)
  have e2 : (pairs2 (r.map PyData.int) ((r.drop 1).map PyData.int)).all ltD = true := List.all_eq_true.mpr fun d hd => by
    obtain ⟨a, b, rfl, hab⟩ := pairs_lt h d hd
    exact decide_eq_true hab
  rw [e2] at e1
  have e3 := eAnd_ok (f := eC (eV 0) (oIsa PyData.isTuple)) (w := ⟨[.v (pT r), .un, .un], ⟨[], [], 0, 0⟩⟩) (eC_fz (eV_v rfl) (oIsa_ok (plain_pT r))) (fun _ => e1) (fun y => nomatch y)
  exact FB_rt (gRet_fz e3)
def inR (n : Int) : PD → Bool
  | .int k => decide (0 ≤ k) && decide (k < n)
  | _ => false
theorem ev_are_worlds {r : List Int} {n : Int} (h : r.Pairwise (· < ·)) (hl : r.length < 1000) (hr : ∀ k ∈ r, 0 ≤ k ∧ k < n) : F_are_worlds [pT r, .int n] = some (.ok (.bool true)) := by
  have e1 := lc_all1 (v := 2) (fi := iS (eV 0)) (fe := eAnd (eCall F_is_whole 1 [] (aCons (eV 2) (aNil))) (eChn (fun i j => decide (i ≤ j)) (fun i j => decide (i < j)) (eD (.int 0)) (eV 2) (eV 1))) (w := ⟨[.v (pT r), .v (.int n), .un], ⟨[], [], 0, 0⟩⟩) (w1 := ⟨[.v (pT r), .v (.int n), .un], ⟨[], [], 0, 0⟩⟩) (inR n) (iS_tup (eF_fz (eV_v rfl))) rfl (by show 2 < 3; decide) (fun d hd => by
    obtain ⟨k, hk, rfl⟩ := List.mem_map.mp hd
    exact eF_fz (eAnd_ok (a := true) (eCall_ok (aCons_ok (eF_fz (eV_v rfl)) aNil_ok) rfl (ev_is_whole k)) (fun _ => eChn_ok (i := 0) (j := k) (k := n) rfl rfl fun _ => rfl) (fun y => nomatch y))) (by rw [List.length_map]; unfold lim; omega)
  have e2 : (r.map PyData.int).all (inR n) = true := List.all_eq_true.mpr fun d hd => by
    obtain ⟨k, hk, rfl⟩ := List.mem_map.mp hd
    show (decide (0 ≤ k) && decide (k < n)) = true
    rw [decide_eq_true (hr k hk).1, decide_eq_true (hr k hk).2]; rfl
  rw [e2] at e1
  have e3 := eAnd_ok (f := eC (eV 0) (oIsa PyData.isTuple)) (w := ⟨[.v (pT r), .v (.int n), .un], ⟨[], [], 0, 0⟩⟩) (eC_fz (eV_v rfl) (oIsa_ok (plain_pT r))) (fun _ => eAnd_ok (g := eCall F_is_rising 1 [] (aCons (eV 0) (aNil))) e1 (fun _ => eCall_ok (w := ⟨[.v (pT r), .v (.int n), .un], ⟨[], [], 0, 0⟩⟩) (aCons_ok (eF_fz (eV_v rfl)) aNil_ok) rfl (ev_is_rising h hl)) (fun y => nomatch y)) (fun y => nomatch y)
  exact FB_rt (gRet_fz e3)
theorem mem_pairsN {O : List (List Int)} {d : PD} (h : d ∈ pairsN 0 (O.map pT)) : ∃ (i : Nat) (r : List Int), O[i]? = some r ∧ d = .tuple [.int (i : Int), pT r] := by
  obtain ⟨i, hi⟩ := List.getElem?_of_mem h
  rw [pairsN_get] at hi
  cases e : (O.map pT)[i]? with
  | none => rw [e] at hi; cases hi
  | some x =>
    rw [e] at hi
    cases hi
    obtain ⟨r, h1, rfl⟩ := row_get e
    exact ⟨i, r, h1, by rw [Nat.zero_add]⟩
def inL (l : List Int) : PD → Bool
  | .int k => decide (k ∈ l)
  | _ => false
theorem ev_is_shut {O : List (List Int)} (h : IsO O) : F_is_shut [pO O] = some (.ok (.bool true)) := by
  obtain ⟨w', e3, s1, s2, s3, q1, q⟩ := fFor_inv (tg := gN 1) (b := gSq (gAsg 2 (eDC [3] (iS (eV 1)) (gN 3) (tYs) (eV 3) (eD (.bool true)))) (gFor (iS (eV 1)) (gN 3) (gIf (tNt (tE (eC (eLC [4] (iS (eC2 (eV 0) (eV 3) oIx)) (gN 4) (tYs) (eC2 (eV 4) (eV 2) oIn)) oAll))) (gRet (eD (.bool false))) (gNx))))
    (fun j w => ∃ (s1 s2 s3 : Slot), plainS (some s3) = true ∧ w = ⟨[.v (pO O), s1, s2, s3, .un], ⟨[], [], 0, 0⟩⟩) (O.map pT) 0 ⟨[.v (pO O), .un, .un, .un, .un], ⟨[], [], 0, 0⟩⟩ ⟨.un, .un, .un, rfl, rfl⟩ (fun i d w hd hI => by
      obtain ⟨s1, s2, s3, q3, rfl⟩ := hI
      obtain ⟨row, hr, rfl⟩ := row_get hd
      have lr := h.lw i row hr
      have hi := get_lt hr
      have e1 := eDC_ints (vs := [3]) (fi := iS (eV 1)) (tg := gN 3) (tt := tYs) (fk := eV 3) (fe := eD (.bool true)) (w := ⟨[.v (pO O), .v (pT row), s2, s3, .un], ⟨[], [], 0, 0⟩⟩) (w1 := ⟨[.v (pO O), .v (pT row), s2, s3, .un], ⟨[], [], 0, 0⟩⟩) (y := .bool true) (a := row) (fun _ => true) (iS_tup (eF_fz (eV_v rfl))) (plain1 q3) rest1 (fun k hk => ⟨⟨[.v (pO O), .v (pT row), s2, .v (.int k), .un], ⟨[], [], 0, 0⟩⟩, rfl, rfl, fun _ => ⟨rfl, rfl⟩, rfl, rfl⟩) (by unfold lim; omega)
      rw [List.filter_eq_self.mpr (fun _ _ => rfl)] at e1
      obtain ⟨w', e3, s3', q3', q⟩ := fFor_inv (tg := gN 3) (b := gIf (tNt (tE (eC (eLC [4] (iS (eC2 (eV 0) (eV 3) oIx)) (gN 4) (tYs) (eC2 (eV 4) (eV 2) oIn)) oAll))) (gRet (eD (.bool false))) (gNx))
        (fun j w => ∃ (s3 : Slot), plainS (some s3) = true ∧ w = ⟨[.v (pO O), .v (pT row), .o (.dict (dctI (.bool true) [] row)), s3, .un], ⟨[], [], 0, 0⟩⟩) (row.map PyData.int) 0 ⟨[.v (pO O), .v (pT row), .o (.dict (dctI (.bool true) [] row)), s3, .un], ⟨[], [], 0, 0⟩⟩ ⟨s3, q3, rfl⟩ (fun m d w hd hI => by
          obtain ⟨s3, q3, rfl⟩ := hI
          obtain ⟨k, hk, rfl⟩ := List.mem_map.mp (List.mem_of_getElem? hd)
          have hkr := lr.2 k hk
          have hkO : 0 ≤ k ∧ k < (O.length : Int) := ⟨hkr.1, by omega⟩
          have hro : O[k.toNat]? = some (rowS O k) := by
            have z : k.toNat < O.length := by omega
            unfold rowS
            rw [List.getD_eq_getElem?_getD, List.getElem?_eq_getElem z]; rfl
          have e2 := lc_all1 (v := 4) (fi := iS (eC2 (eV 0) (eV 3) oIx)) (fe := eC2 (eV 4) (eV 2) oIn) (w := ⟨[.v (pO O), .v (pT row), .o (.dict (dctI (.bool true) [] row)), .v (.int k), .un], ⟨[], [], 0, 0⟩⟩) (w1 := ⟨[.v (pO O), .v (pT row), .o (.dict (dctI (.bool true) [] row)), .v (.int k), .un], ⟨[], [], 0, 0⟩⟩) (inL row) (iS_tup (eF_fz (eC2_ok (sees_v rfl) (sees_v rfl) (oIx_pO hkO.1 hkO.2)))) rfl (by show 4 < 5; decide) (fun d hd => by
            obtain ⟨x, hx, rfl⟩ := List.mem_map.mp hd
            exact eF_fz (eC2_ok (sees_v rfl) (sees_o rfl) (oIn_dct _ _ _))) (by rw [List.length_map]; have := (h.lw k.toNat _ hro).1; unfold lim; omega)
          have e4 : ((rowS O k).map PyData.int).all (inL row) = true := List.all_eq_true.mpr fun d hd => by
            obtain ⟨x, hx, rfl⟩ := List.mem_map.mp hd
            exact decide_eq_true (h.shut i row hr k hk x hx)
          rw [e4] at e2
          exact ⟨_, _, rfl, gIf_f (tNt_ok (tE_ok e2)) rfl, .v (.int k), rfl, rfl⟩)
      subst q
      refine ⟨_, _, rfl, gSq_ok (w1 := ⟨[.v (pO O), .v (pT row), .o (.dict (dctI (.bool true) [] row)), s3, .un], ⟨[], [], 0, 0⟩⟩) ?_ (gFor_ok (iS_tup (eF_fz (eV_v rfl))) e3), .v (pT row), _, s3', q3', rfl⟩
      exact gAsg_ow e1 (by show 2 < 5; decide))
  subst q
  have e4 : g_is_shut ⟨[.v (pO O), .un, .un, .un, .un], ⟨[], [], 0, 0⟩⟩ = some (.rt (.bool true) _) := gSq_ok (gFor_ok (iS_tup (eF_fz (eV_v rfl))) e3) rfl
  show outF (g_is_shut ⟨[.v (pO O), .un, .un, .un, .un], ⟨[], [], 0, 0⟩⟩) = _
  rw [e4]
  rfl
theorem ev_is_order {O : List (List Int)} (h : IsO O) : F_is_order [pO O] = some (.ok (.bool true)) := by
  have t1 : tOo (tNt (tE (eC (eV 0) (oIsa PyData.isTuple)))) (tNt (tE (eChn (fun i j => decide (i ≤ j)) (fun i j => decide (i ≤ j)) (eD (.int 1)) (eC (eV 0) oLen) (eD (.int 7))))) ⟨[.v (pO O), .un, .un], ⟨[], [], 0, 0⟩⟩ = some (.b (false || !(decide ((1 : Int) ≤ (O.length : Int)) && decide ((O.length : Int) ≤ 7))), ⟨[.v (pO O), .un, .un], ⟨[], [], 0, 0⟩⟩) :=
    tOo_ok (a := false) (tNt_ok (b := true) (tE_ok (eC_fz (eV_v rfl) (oIsa_ok (plain_pO O))))) (fun _ => tNt_ok (tE_ok (eChn_ok rfl (eC_fz (eV_v rfl) (oLen_pO O)) fun _ => rfl))) (fun y => nomatch y)
  have hb : (false || !(decide ((1 : Int) ≤ (O.length : Int)) && decide ((O.length : Int) ≤ 7))) = false := by
    have := h.n1
    have := h.n7
    rw [decide_eq_true (show (1 : Int) ≤ (O.length : Int) by omega), decide_eq_true (show (O.length : Int) ≤ 7 by omega)]; rfl
  rw [hb] at t1
  have e1 := lc_all (vs := [1, 2]) (fi := iEA (aCons (eV 0) (aNil))) (tg := gT 2 (gsCons (gN 1) (gsCons (gN 2) (gsNil)))) (fe := eCall F_are_worlds 2 [] (aCons (eV 2) (aCons (eV 1) (aNil)))) (w := ⟨[.v (pO O), .un, .un], ⟨[], [], 0, 0⟩⟩) (w1 := ⟨[.v (pO O), .un, .un], ⟨[], [], 0, 0⟩⟩) (ds := pairsN 0 (O.map pT)) (fun _ => true) (by
      unfold iEA
      rw [aCons_ok (eF_fz (eV_v rfl)) aNil_ok]
      rfl) rfl rfl (fun d hd => by
      obtain ⟨i, r, hr, rfl⟩ := mem_pairsN hd
      have lr := h.lw i r hr
      exact ⟨⟨[.v (pO O), .v (.int (i : Int)), .v (pT r)], ⟨[], [], 0, 0⟩⟩, rfl, eF_fz (eCall_ok (aCons_ok (eF_fz (eV_v rfl)) (aCons_ok (eF_fz (eV_v rfl)) aNil_ok)) rfl (ev_are_worlds (h.asc.asc r (List.mem_of_getElem? hr)) (by omega) lr.2)), rfl, rfl⟩) (by
      rw [pairsN_len, List.length_map]
      have := h.n7
      unfold lim
      omega)
  have e2 : (pairsN 0 (O.map pT)).all (fun _ => true) = true := List.all_eq_true.mpr fun _ _ => rfl
  rw [e2] at e1
  have e3 := eAnd_ok (g := eCall F_is_shut 1 [] (aCons (eV 0) (aNil))) e1 (fun _ => eCall_ok (F := F_is_shut) (w := ⟨[.v (pO O), .un, .un], ⟨[], [], 0, 0⟩⟩) (aCons_ok (eF_fz (eV_v rfl)) aNil_ok) rfl (ev_is_shut h)) (fun y => nomatch y)
  have e4 : g_is_order ⟨[.v (pO O), .un, .un], ⟨[], [], 0, 0⟩⟩ = some (.rt (.bool true) _) := gSq_ok (gIf_f t1 rfl) (gRet_fz e3)
  show outF (g_is_order ⟨[.v (pO O), .un, .un], ⟨[], [], 0, 0⟩⟩) = _
  rw [e4]
  rfl
theorem ev_need_order {O : List (List Int)} (h : IsO O) : F_need_order [pO O] = some (.ok .none) := by
  have t1 : tNt (tE (eCall F_is_order 1 [] (aCons (eV 0) (aNil)))) ⟨[.v (pO O)], ⟨[], [], 0, 0⟩⟩ = some (.b (!true), ⟨[.v (pO O)], ⟨[], [], 0, 0⟩⟩) := tNt_ok (tE_ok (eCall_ok (aCons_ok (eF_fz (eV_v rfl)) aNil_ok) rfl (ev_is_order h)))
  show outF (g_need_order ⟨[.v (pO O)], ⟨[], [], 0, 0⟩⟩) = _
  have e : g_need_order ⟨[.v (pO O)], ⟨[], [], 0, 0⟩⟩ = some (.nx _) := gIf_f t1 rfl
  rw [e]
  rfl
end K67
set_option maxHeartbeats 1000000
/-! K67E5: odd orders, fold, is_fold. -/
namespace K67
open PySem PySem.Spec PyProof.Rows L2 DL
/-- what the law tells as no order -/
def oddL : List PD := [.none, .tuple [], .int 5, .list [.tuple []], .tuple [.tuple [.int 0]], .tuple [.tuple [], .tuple [.int 1]], .tuple [.tuple [], .tuple [.int 0, .int 0]], .tuple [.tuple [], .list [.int 0]], .tuple (List.replicate 8 (.tuple [])), .tuple [.tuple [], .tuple [.int 0], .tuple [.int 1]], .tuple [.tuple [], .tuple [.bool true], .tuple [.int 0, .int 1]], .str "order", .tuple [.tuple [], .tuple [.int 0], .tuple [.int 1, .int 0]]]
theorem odd_all : (oddL.all fun d => fEq (F_is_order [d]) (.bool false)) = true := by decide +kernel
theorem ev_odd {d : PD} (h : d ∈ oddL) : F_is_order [d] = some (.ok (.bool false)) := fEq_ok (List.all_eq_true.mp odd_all d h)
theorem ev_need_odd {d : PD} (h : d ∈ oddL) : F_need_order [d] = some (.ex "BadOrder" none) := by
  have t1 : tNt (tE (eCall F_is_order 1 [] (aCons (eV 0) (aNil)))) ⟨[.v d], ⟨[], [], 0, 0⟩⟩ = some (.b (!false), ⟨[.v d], ⟨[], [], 0, 0⟩⟩) := tNt_ok (tE_ok (eCall_ok (aCons_ok (eF_fz (eV_v rfl)) aNil_ok) rfl (ev_odd h)))
  show outF (g_need_order ⟨[.v d], ⟨[], [], 0, 0⟩⟩) = _
  have e : g_need_order ⟨[.v d], ⟨[], [], 0, 0⟩⟩ = some (.ex "BadOrder" none ⟨[.v d], ⟨[], [], 0, 0⟩⟩) := gIf_t t1 rfl
  rw [e]
  rfl
theorem gDrop_fz {f : EF} {w w1 : Wt} {d : PD} (h : f w = some (.fz d, w1)) : gDrop f w = some (.nx w1) := by unfold gDrop; rw [h]; rfl
theorem gDrop_ex {f : EF} {w w1 : Wt} {c : Str} {x : Option (Str × PD)} (h : f w = some (.ex c x, w1)) : gDrop f w = some (.ex c x w1) := by unfold gDrop; rw [h]; rfl
theorem eCall_ex {F : FF} {n : Nat} {g : AF} {w w1 : Wt} {ds : List PD} {c : Str} {x : Option (Str × PD)} (h : g w = some (.ok ds, w1)) (hn : ds.length = n) (hF : F ds = some (.ex c x)) : eCall F n [] g w = some (.ex c x, w1) := by
  unfold eCall eA
  rw [h]
  dsimp only
  rw [List.append_nil, if_pos hn, hF]
  rfl
theorem gSq_ex {g1 g2 : SF} {w w1 : Wt} {c : Str} {x : Option (Str × PD)} (h1 : g1 w = some (.ex c x w1)) : gSq g1 g2 w = some (.ex c x w1) := by
  unfold gSq
  rw [h1]
theorem gSq_rt {g1 g2 : SF} {w w1 : Wt} {d : PD} (h1 : g1 w = some (.rt d w1)) : gSq g1 g2 w = some (.rt d w1) := by
  unfold gSq
  rw [h1]
theorem FB_ex {m : Nat} {g : SF} {ds : List PD} {w0 w : Wt} {c : Str} {x : Option (Str × PD)} (h : g w0 = some (.ex c x w)) (h0 : entry m ds = w0 := by rfl) : FB m g ds = some (.ex c x) := by
  unfold FB
  rw [h0, h]
  rfl
theorem need_nx {w : Wt} {i : Nat} {O : List (List Int)} (h : IsO O) (hi : w.sl[i]? = some (.v (pO O))) : gDrop (eCall F_need_order 1 [] (aCons (eV i) (aNil))) w = some (.nx w) := gDrop_fz (eCall_ok (aCons_ok (eF_fz (eV_v hi)) aNil_ok) rfl (ev_need_order h))
theorem need_ex {w : Wt} {i : Nat} {d : PD} (h : d ∈ oddL) (hi : w.sl[i]? = some (.v d)) : gDrop (eCall F_need_order 1 [] (aCons (eV i) (aNil))) w = some (.ex "BadOrder" none w) := gDrop_ex (eCall_ex (aCons_ok (eF_fz (eV_v hi)) aNil_ok) rfl (ev_need_odd h))
theorem IsO.sl {S : List (List Int)} (hS : IsO S) : ∀ r ∈ S, r.length < 4000 := fun r hr => by
  obtain ⟨i, hi⟩ := List.getElem?_of_mem hr
  have := (hS.lw i r hi).1
  omega
/-! ### is_fold -/
theorem get_nat {f : List Int} {i : Nat} {t : Int} (h : f[i]? = some t) : get f (i : Int) = t := by
  unfold get
  rw [List.getD_eq_getElem?_getD, Int.toNat_natCast, h]
  rfl
theorem mem_zip {W : List (List Int)} {f : List Int} {d : PD} (h : d ∈ pairs2 (W.map pT) (f.map PyData.int)) : ∃ (i : Nat) (r : List Int) (t : Int), W[i]? = some r ∧ f[i]? = some t ∧ d = .tuple [pT r, .int t] := by
  unfold pairs2 at h
  obtain ⟨i, hi⟩ := List.getElem?_of_mem h
  rw [List.getElem?_zipWith, List.getElem?_map, List.getElem?_map] at hi
  cases e1 : W[i]? with
  | none => rw [e1] at hi; cases hi
  | some r =>
    cases e2 : f[i]? with
    | none => rw [e1, e2] at hi; cases hi
    | some t => rw [e1, e2] at hi; cases hi; exact ⟨i, r, t, e1, e2, rfl⟩
theorem zip_mem {W : List (List Int)} {f : List Int} {i : Nat} {r : List Int} {t : Int} (h1 : W[i]? = some r) (h2 : f[i]? = some t) : PyData.tuple [pT r, .int t] ∈ pairs2 (W.map pT) (f.map PyData.int) := by
  unfold pairs2
  refine List.mem_of_getElem? (i := i) ?_
  rw [List.getElem?_zipWith, List.getElem?_map, List.getElem?_map, h1, h2]
  rfl
theorem inR_all {n : Int} {f : List Int} : (f.map PyData.int).all (inR n) = true ↔ ∀ k ∈ f, 0 ≤ k ∧ k < n := by
  rw [List.all_eq_true]
  constructor
  · intro h k hk
    have := h (.int k) (List.mem_map.mpr ⟨k, hk, rfl⟩)
    simpa [inR] using this
  · intro h d hd
    obtain ⟨k, hk, rfl⟩ := List.mem_map.mp hd
    simpa [inR] using h k hk
end K67
set_option maxHeartbeats 1000000
/-! K67E6: the law's is_fold; both of them on values that are none. -/
namespace K67
open PySem PySem.Spec PyProof.Rows L2 DL
theorem oNe_lst (a b : List Int) : oNe (.list (a.map PyData.int)) (.list (b.map PyData.int)) = some (.fz (.bool (!decide (a = b)))) := by
  unfold oNe
  simp only [flatD_lst, Bool.and_self, if_true, eqv_lst]
theorem rgD_rng (n : Nat) : rgD 0 (n : Int) = (rng n).map PyData.int := by
  unfold rgD rng
  rw [List.map_map]
  have e : ((n : Int) - 0).toNat = n := by omega
  rw [e]
  refine List.map_congr_left fun i _ => ?_
  show PyData.int (0 + (i : Int)) = .int (i : Int)
  rw [Int.zero_add]
theorem rgOk_nat {n : Nat} (h : n < 1000) : rgOk 0 (n : Int) = true := by
  unfold rgOk
  simp only [Bool.and_eq_true, decide_eq_true_eq]
  omega
theorem oLR1_nat {n : Nat} (h : n < 1000) : oLR1 (.int (n : Int)) = some (.ow (.list ((rng n).map PyData.int))) := by
  show (if rgOk 0 (n : Int) = true then some (R.ow (.list (rgD 0 (n : Int)))) else none) = _
  rw [if_pos (rgOk_nat h), rgD_rng]
theorem oTR1_nat {n : Nat} (h : n < 1000) : oTR1 (.int (n : Int)) = some (.fz (pT (rng n))) := by
  show (if rgOk 0 (n : Int) = true then some (R.fz (.tuple (rgD 0 (n : Int)))) else none) = _
  rw [if_pos (rgOk_nat h), rgD_rng]
  rfl
theorem fFor_all {tg : TgF} {b : SF} (I : Wt → Prop) (q : PD → Bool) : ∀ (ds : List PD) (w : Wt), I w → (∀ d ∈ ds, ∀ w, I w → ∃ w1, tg d w = some w1 ∧ ∃ w2, I w2 ∧ b w1 = some (if q d = true then .nx w2 else .rt (.bool false) w2)) → ∃ w', I w' ∧ fFor tg b ds w = some (if ds.all q = true then .nx w' else .rt (.bool false) w')
  | [], w, h, _ => ⟨w, h, rfl⟩
  | d :: ds, w, h, hs => by
    obtain ⟨w1, h1, w2, h2, h3⟩ := hs d List.mem_cons_self w h
    rw [List.all_cons]
    cases y : q d with
    | true =>
      rw [y, if_pos rfl] at h3
      obtain ⟨w', i', e⟩ := fFor_all I q ds w2 h2 fun d hd => hs d (List.mem_cons_of_mem _ hd)
      exact ⟨w', i', by rw [Bool.true_and]; exact fFor_cons h1 h3 e⟩
    | false =>
      rw [y, if_neg (by decide)] at h3
      refine ⟨w2, h2, ?_⟩
      rw [Bool.false_and, if_neg (by decide)]
      unfold fFor
      rw [h1]
      dsimp only
      rw [h3]
theorem mem_enum {f : List Int} {d : PD} (h : d ∈ pairsN 0 (f.map PyData.int)) : ∃ (i : Nat) (t : Int), f[i]? = some t ∧ d = .tuple [.int (i : Int), .int t] := by
  obtain ⟨i, hi⟩ := List.getElem?_of_mem h
  rw [pairsN_get, List.getElem?_map] at hi
  cases e : f[i]? with
  | none => rw [e] at hi; cases hi
  | some t =>
    rw [e] at hi
    cases hi
    exact ⟨i, t, e, by rw [Nat.zero_add]⟩
theorem enum_mem {f : List Int} {i : Nat} {t : Int} (h : f[i]? = some t) : PyData.tuple [.int (i : Int), .int t] ∈ pairsN 0 (f.map PyData.int) := by
  refine List.mem_of_getElem? (i := i) ?_
  rw [pairsN_get, List.getElem?_map, h, Nat.zero_add]
  rfl
theorem oAdd_lst (a b : List Int) (h : a.length < 1000) (h2 : b.length < 1000) : oAdd (.list (a.map PyData.int)) (.list (b.map PyData.int)) = some (.ow (.list ((a ++ b).map PyData.int))) := by
  show (if (a.map PyData.int).length + (b.map PyData.int).length < lim then _ else none) = _
  rw [if_pos (by rw [List.length_map, List.length_map]; unfold lim; omega), List.map_append]
theorem oSrt_ints {ns : List Int} (h : ns.length < 64) : oSrt (.list (ns.map PyData.int)) = some (.ow (.list ((sortS ns).map PyData.int))) := by
  show (if (ns.map PyData.int).length < 64 then (intsD (ns.map PyData.int)).map _ else none) = _
  rw [List.length_map, if_pos h, intsD_of_map]
  rfl
theorem filt_one (p : Int → Bool) : ∀ l : List Int, ((l.map PyData.int).filter (pI p)).map (fun _ => PyData.int 1) = ((l.filter p).map fun _ => (1 : Int)).map PyData.int
  | [] => rfl
  | k :: l => by
    rw [List.map_cons, List.filter_cons, List.filter_cons, show pI p (.int k) = p k from rfl]
    cases q : p k with
    | true => rw [if_pos rfl, if_pos rfl, List.map_cons, List.map_cons, List.map_cons, filt_one p l]
    | false => rw [if_neg (by decide), if_neg (by decide), filt_one p l]
theorem sees_ow {f : EF} {w w1 : Wt} {d : PD} (h : f w = some (.ow d, w1)) : Sees f w d w1 := .inr (.inl h)
theorem sees_fz {f : EF} {w w1 : Wt} {d : PD} (h : f w = some (.fz d, w1)) : Sees f w d w1 := .inl h
theorem eLst_1 {f : EF} {w w1 : Wt} {d : PD} (h : eF f w = some (.fz d, w1)) : eLst (aCons f aNil) w = some (.ow (.list [d]), w1) := by
  unfold eLst eA
  rw [aCons_ok h aNil_ok]
  rfl
abbrev wLF (W S : List (List Int)) (v : PD) (a b c : Slot) : Wt := ⟨[.v (pO W), .v (pO S), .v v, a, b, c, .un], ⟨[], [], 0, 0⟩⟩
theorem oNe_ones (l : List Int) : oNe (.list ((l.map fun _ => (1 : Int)).map PyData.int)) (.list []) = some (.fz (.bool (!l.isEmpty))) := by
  have := oNe_lst (l.map fun _ => (1 : Int)) []
  refine this.trans ?_
  cases l with
  | nil => rfl
  | cons x r => rfl
abbrev badT : TFn := tOo (tNt (tE (eC (eV 6) (oIsa PyData.isInt)))) (tOo (tE (eC (eV 6) (oIsa PyData.isBool))) (tNt (tE (eChn (fun i j => decide (i ≤ j)) (fun i j => decide (i < j)) (eD (.int 0)) (eV 6) (eC (eV 1) oLen)))))
theorem bad_empty {n : Int} (f : List Int) : (f.filter fun k => !(decide (0 ≤ k) && decide (k < n))).isEmpty = (f.map PyData.int).all (inR n) := by
  induction f with
  | nil => rfl
  | cons k f ih =>
    rw [List.filter_cons, List.map_cons, List.all_cons, ← ih, show inR n (.int k) = (decide (0 ≤ k) && decide (k < n)) from rfl]
    cases (decide (0 ≤ k) && decide (k < n)) <;> rfl
end K67
set_option maxHeartbeats 1000000
/-! K67E7: what is no fold; roots; parts. -/
namespace K67
open PySem PySem.Spec PyProof.Rows L2 DL
/-! ### no tuple, truths -/
def pB (n : Nat) : PD := .tuple (List.replicate n (.bool true))
theorem plain_bools : ∀ n, PyData.plainAll (List.replicate n (PyData.bool true)) = true
  | 0 => rfl
  | n + 1 => by rw [List.replicate_succ]; simp only [PyData.plainAll, Bool.and_eq_true]; exact ⟨rfl, plain_bools n⟩
theorem plain_pB (n : Nat) : (pB n).plain = true := by unfold pB; simp only [PyData.plain, plain_bools]
theorem oLen_pB (n : Nat) : oLen (pB n) = some (.fz (.int (n : Int))) := by
  show some (R.fz (.int ((List.replicate n (PyData.bool true)).length : Int))) = _
  rw [List.length_replicate]
theorem rep_mem {n : Nat} {d : PD} (h : d ∈ List.replicate n (PyData.bool true)) : d = .bool true := (List.mem_replicate.mp h).2
theorem map_one (l : List PD) : (l.filter fun _ => true).map (fun _ => PyData.int 1) = ((l.map fun _ => (0 : Int)).map fun _ => (1 : Int)).map PyData.int := by
  rw [List.filter_eq_self.mpr (fun _ _ => rfl), List.map_map, List.map_map]
  rfl
/-! ### roots -/
def lastR (O : List (List Int)) : List Int := O.getLast?.getD []
def rooted (O : List (List Int)) : Bool := decide (lastR O = rng (O.length - 1))
theorem oIx_last {O : List (List Int)} (h : O ≠ []) : oIx (pO O) (.int (-1)) = some (.fz (pT (lastR O))) := by
  show (L2.atI (O.map pT) (-1)).map R.fz = _
  rw [atI_last', List.getLast?_map]
  unfold lastR
  cases e : O.getLast? with
  | none => exact absurd (List.getLast?_eq_none_iff.mp e) h
  | some r => rfl
theorem IsO.ne {O : List (List Int)} (h : IsO O) : O ≠ [] := fun e => by have := h.n1; rw [e] at this; cases this
theorem sub1 {O : List (List Int)} (h : IsO O) : (O.length : Int) - 1 = ((O.length - 1 : Nat) : Int) := by have := h.n1; omega
theorem ev_has_root {O : List (List Int)} (h : IsO O) : F_has_root [pO O] = some (.ok (.bool (rooted O))) := by
  have hn := h.n7
  have e1 : eC (eC2 (eC (eV 0) oLen) (eD (.int 1)) oSub) oTR1 ⟨[.v (pO O)], ⟨[], [], 0, 0⟩⟩ = some (.fz (pT (rng (O.length - 1))), ⟨[.v (pO O)], ⟨[], [], 0, 0⟩⟩) := by
    refine eC_fz (eC2_ok (.inl (eC_fz (eV_v rfl) (oLen_pO O))) (.inl rfl) (show oSub (.int (O.length : Int)) (.int 1) = some (.fz (.int ((O.length - 1 : Nat) : Int))) from ?_)) (oTR1_nat (by omega))
    rw [← sub1 h]
    rfl
  exact FB_rt (w0 := ⟨[.v (pO O)], ⟨[], [], 0, 0⟩⟩) (gRet_fz (eC2_ok (.inl (eC2_ok (sees_v rfl) (.inl (eC_fz (f := eD (.int 1)) rfl rfl)) (oIx_last h.ne))) (.inl e1) (oEq_tup _ _)))
/-- the law asks for the last one's length alone -/
theorem rooted_len {O : List (List Int)} (h : IsO O) : decide (((lastR O).length : Int) = (O.length : Int) - 1) = rooted O := by
  have hne := h.n1
  have hl : O[O.length - 1]? = some (lastR O) := by
    unfold lastR
    rw [List.getLast?_eq_getElem?, List.getElem?_eq_getElem (by omega)]
    rfl
  have lr := h.lw _ _ hl
  have ha := h.asc.asc _ (List.mem_of_getElem? hl)
  have := full_iff ha (n := O.length - 1) fun k hk => lr.2 k hk
  unfold rooted
  rw [Bool.eq_iff_iff, decide_eq_true_eq, decide_eq_true_eq, ← this]
  omega
/-! ### parts -/
def idx : List Int → Int → Nat
  | [], _ => 0
  | x :: r, k => if x = k then 0 else idx r k + 1
theorem idx_find : ∀ {l : List Int} {k : Int}, k ∈ l → l.findIdx? (· == k) = some (idx l k)
  | [], _, h => nomatch h
  | x :: r, k, h => by
    rw [List.findIdx?_cons]
    unfold idx
    by_cases e : x = k
    · subst e
      simp
    · have hb : (x == k) = false := by simpa using e
      rw [hb, if_neg e]
      have := idx_find (l := r) (k := k) ((List.mem_cons.mp h).resolve_left fun z => e z.symm)
      rw [this]
      rfl
theorem idx_get : ∀ {l : List Int} {k : Int}, k ∈ l → l[idx l k]? = some k
  | [], _, h => nomatch h
  | x :: r, k, h => by
    unfold idx
    by_cases e : x = k
    · subst e; rw [if_pos rfl]; rfl
    · rw [if_neg e, List.getElem?_cons_succ]
      exact idx_get ((List.mem_cons.mp h).resolve_left fun z => e z.symm)
theorem idx_lt {l : List Int} (h : l.Pairwise (· < ·)) {k y : Int} {i : Nat} (hk : k ∈ l) (hy : l[i]? = some y) (hlt : k < y) : idx l k < i := by
  rcases Nat.lt_or_ge (idx l k) i with z | z
  · exact z
  · exfalso
    obtain ⟨h1, e1⟩ := List.getElem?_eq_some_iff.mp (idx_get hk)
    obtain ⟨h2, e2⟩ := List.getElem?_eq_some_iff.mp hy
    rcases Nat.lt_or_ge i (idx l k) with z2 | z2
    · have := List.pairwise_iff_getElem.mp h i (idx l k) h2 h1 z2
      rw [e1, e2] at this
      omega
    · have e : i = idx l k := by omega
      subst e
      rw [e1] at e2
      omega
def someW (W : List (List Int)) (w : Int) : List Int := rowS W w ++ [w]
def partO (W : List (List Int)) (w : Int) : List (List Int) := (someW W w).map fun one => (rowS W one).map fun j => ((idx (someW W w) j : Nat) : Int)
structure InW (W : List (List Int)) (w : Int) : Prop where
  r : 0 ≤ w ∧ w < (W.length : Int)
theorem row_at {W : List (List Int)} {w : Int} (h : 0 ≤ w ∧ w < (W.length : Int)) : W[w.toNat]? = some (rowS W w) := by
  have z : w.toNat < W.length := by omega
  unfold rowS
  rw [List.getD_eq_getElem?_getD, List.getElem?_eq_getElem z]; rfl
theorem someW_asc {W : List (List Int)} (hW : IsO W) {w : Int} (h : 0 ≤ w ∧ w < (W.length : Int)) : (someW W w).Pairwise (· < ·) := by
  have lr := hW.lw _ _ (row_at h)
  refine List.pairwise_append.mpr ⟨hW.asc.asc _ (rowS_mem h), List.pairwise_singleton _ _, fun a h1 b h2 => ?_⟩
  rw [List.mem_singleton.mp h2]
  have := (lr.2 a h1).2
  omega
theorem someW_in {W : List (List Int)} (hW : IsO W) {w : Int} (h : 0 ≤ w ∧ w < (W.length : Int)) {one : Int} (ho : one ∈ someW W w) : 0 ≤ one ∧ one < (W.length : Int) := by
  have lr := hW.lw _ _ (row_at h)
  rcases List.mem_append.mp ho with z | z
  · have := lr.2 one z
    omega
  · rw [List.mem_singleton.mp z]; exact h
theorem someW_shut {W : List (List Int)} (hW : IsO W) {w : Int} (h : 0 ≤ w ∧ w < (W.length : Int)) {one j : Int} (ho : one ∈ someW W w) (hj : j ∈ rowS W one) : j ∈ someW W w := by
  rcases List.mem_append.mp ho with z | z
  · exact List.mem_append.mpr (.inl (hW.shut _ _ (row_at h) one z j hj))
  · rw [List.mem_singleton.mp z] at hj
    exact List.mem_append.mpr (.inl hj)
theorem asc_len {n : Int} : ∀ (l : List Int) (a : Int), l.Pairwise (· < ·) → (∀ k ∈ l, a ≤ k ∧ k < n) → a ≤ n → (l.length : Int) ≤ n - a
  | [], a, _, _, h => by simp; omega
  | x :: r, a, h, hs, _ => by
    obtain ⟨h1, h2⟩ := List.pairwise_cons.mp h
    have hx := hs x List.mem_cons_self
    have := asc_len r (x + 1) h2 (fun k hk => ⟨by have := h1 k hk; omega, (hs k (List.mem_cons_of_mem _ hk)).2⟩) (by omega)
    rw [List.length_cons]
    omega
theorem someW_len {W : List (List Int)} (hW : IsO W) {w : Int} (h : 0 ≤ w ∧ w < (W.length : Int)) : (someW W w).length ≤ 7 := by
  have a := someW_asc hW h
  have := asc_len (n := (W.length : Int)) _ 0 a (fun k hk => someW_in hW h hk) (by omega)
  have := hW.n7
  omega
theorem partO_get {W : List (List Int)} {w : Int} {i : Nat} {r : List Int} (h : (partO W w)[i]? = some r) : ∃ one, (someW W w)[i]? = some one ∧ r = (rowS W one).map fun j => ((idx (someW W w) j : Nat) : Int) := by
  unfold partO at h
  rw [List.getElem?_map] at h
  cases e : (someW W w)[i]? with
  | none => rw [e] at h; cases h
  | some one => rw [e] at h; cases h; exact ⟨one, rfl, rfl⟩
theorem part_low {W : List (List Int)} (hW : IsO W) {w : Int} (h : 0 ≤ w ∧ w < (W.length : Int)) : Low (partO W w) := fun i r hr => by
  obtain ⟨one, h1, rfl⟩ := partO_get hr
  have hm := List.mem_of_getElem? h1
  have lr := hW.lw _ _ (row_at (someW_in hW h hm))
  refine ⟨by rw [List.length_map]; exact lr.1, fun k hk => ?_⟩
  obtain ⟨j, hj, rfl⟩ := List.mem_map.mp hk
  have hlt : j < one := by have := (lr.2 j hj).2; have := someW_in hW h hm; omega
  have := idx_lt (someW_asc hW h) (someW_shut hW h hm hj) h1 hlt
  omega
end K67
set_option maxHeartbeats 1000000
/-! K67E8: parts walked, part_fold, fold_of_part. -/
namespace K67
open PySem PySem.Spec PyProof.Rows L2 DL
def kvI : Nat → List Int → List (PD × PD)
  | _, [] => []
  | n, x :: r => (.int x, .int (n : Int)) :: kvI (n + 1) r
theorem putD_new {acc : List (PD × PD)} {x : Int} {d : PD} (h : keyI acc x = false) : putD acc (.inl x) d = acc ++ [(.int x, d)] := by
  unfold putD
  rw [keyI_any, h]
  rfl
theorem kvI_get : ∀ {l : List Int} {k : Int} (n : Nat), k ∈ l → getD' (kvI n l) (.inl k) = some (.int ((n + idx l k : Nat) : Int))
  | [], _, _, h => nomatch h
  | x :: r, k, n, h => by
    unfold kvI getD' idx
    by_cases e : x = k
    · subst e
      rw [if_pos rfl, if_pos (show keyOfD (.int x) = some (Sum.inl x) from rfl)]
      rfl
    · have hne : ¬ keyOfD (.int x) = some (Sum.inl k) := fun z => e (by simpa [keyOfD] using z)
      rw [if_neg hne, if_neg e, kvI_get (n + 1) ((List.mem_cons.mp h).resolve_left fun z => e z.symm), Nat.add_right_comm, Nat.add_assoc]
theorem dcL_enum {a b c d6 : Slot} {s0 : Src} : ∀ (l : List Int) (n : Nat) (acc : List (PD × PD)), l.Nodup → (∀ x ∈ l, keyI acc x = false) → acc.length + l.length < lim →
    dcL [4, 5] (gT 2 (gsCons (gN 4) (gsCons (gN 5) (gsNil)))) tYs (eV 5) (eV 4) (pairsN n (l.map PyData.int)) ⟨[a, b, c, .un, .un, .un, d6], s0⟩ acc = some (acc ++ kvI n l, ⟨[a, b, c, .un, .un, .un, d6], s0⟩)
  | [], n, acc, _, _, _ => by
    show some (acc, _) = _
    rw [show kvI n [] = [] from rfl, List.append_nil]
  | x :: r, n, acc, hn, hk, hl => by
    rw [List.length_cons] at hl
    obtain ⟨n1, n2⟩ := List.nodup_cons.mp hn
    have e : dcL [4, 5] (gT 2 (gsCons (gN 4) (gsCons (gN 5) (gsNil)))) tYs (eV 5) (eV 4) (pairsN n ((x :: r).map PyData.int)) ⟨[a, b, c, .un, .un, .un, d6], s0⟩ acc = (if plainW (⟨[a, b, c, .un, .v (.int (n : Int)), .v (.int x), d6], s0⟩ : Wt) [4, 5] = true ∧ acc.length < lim then dcL [4, 5] (gT 2 (gsCons (gN 4) (gsCons (gN 5) (gsNil)))) tYs (eV 5) (eV 4) (pairsN (n + 1) (r.map PyData.int)) ⟨[a, b, c, .un, .un, .un, d6], s0⟩ (putD acc (.inl x) (.int (n : Int))) else none) := rfl
    rw [e, if_pos ⟨rfl, by omega⟩, putD_new (hk x List.mem_cons_self), dcL_enum r (n + 1) _ n2 (fun y hy => by
      rw [← putD_new (d := .int (n : Int)) (hk x List.mem_cons_self), putD_key, hk y (List.mem_cons_of_mem _ hy)]
      have : ¬ x = y := fun z => n1 (z ▸ hy)
      simp [this]) (by rw [List.length_append]; simp; omega), List.append_assoc]
    rfl
theorem eDC_enum {a b c d6 : Slot} {s0 : Src} {l : List Int} {fi : IF} (hfi : fi ⟨[a, b, c, .un, .un, .un, d6], s0⟩ = some (pairsN 0 (l.map PyData.int), ⟨[a, b, c, .un, .un, .un, d6], s0⟩)) (hn : l.Nodup) (hl : l.length < lim) :
    eDC [4, 5] fi (gT 2 (gsCons (gN 4) (gsCons (gN 5) (gsNil)))) tYs (eV 5) (eV 4) ⟨[a, b, c, .un, .un, .un, d6], s0⟩ = some (.ow (.dict (kvI 0 l)), ⟨[a, b, c, .un, .un, .un, d6], s0⟩) := by
  unfold eDC
  rw [hfi]
  dsimp only
  rw [if_pos (show plainW (⟨[a, b, c, .un, .un, .un, d6], s0⟩ : Wt) [4, 5] = true from rfl)]
  have e := dcL_enum (a := a) (b := b) (c := c) (d6 := d6) (s0 := s0) l 0 [] hn (fun _ _ => rfl) (by simpa using hl)
  have e0 : (⟨[a, b, c, .un, .un, .un, d6], s0⟩ : Wt).wipe [4, 5] = ⟨[a, b, c, .un, .un, .un, d6], s0⟩ := rfl
  rw [e0, e]
  rfl
theorem oIx_kv {l : List Int} {k : Int} (h : k ∈ l) : oIx (.dict (kvI 0 l)) (.int k) = some (.fz (.int ((idx l k : Nat) : Int))) := by
  show (getD' (kvI 0 l) (.inl k)).map R.fz = _
  rw [kvI_get 0 h, Nat.zero_add]
  rfl
theorem oTup_int (l : List Int) : oTupOf (.list (l.map PyData.int)) = some (.fz (pT l)) := rfl
theorem oTup_pT (l : List (List Int)) : oTupOf (.list (l.map pT)) = some (.fz (pO l)) := rfl
theorem map_onI3 (g : Int → List Int) (l : List Int) : (((l.map PyData.int).filter fun _ => true).map (onI fun k => pT (g k))) = (l.map g).map pT := by
  rw [List.filter_eq_self.mpr (fun _ _ => rfl), map_onI, List.map_map]
  rfl
theorem ev_part_in {W : List (List Int)} (hW : IsO W) {w : Int} (h : 0 ≤ w ∧ w < (W.length : Int)) : F_part_in [pO W, .int w] = some (.ok (pO (partO W w))) := by
  have hr := (hW.lw _ _ (row_at h)).1
  have hl := someW_len hW h
  have e1 : eC2 (eC2 (eV 0) (eV 1) oIx) (eTup (aCons (eV 1) (aNil))) oAdd ⟨[.v (pO W), .v (.int w), .un, .un, .un, .un, .un], ⟨[], [], 0, 0⟩⟩ = some (.fz (pT (someW W w)), ⟨[.v (pO W), .v (.int w), .un, .un, .un, .un, .un], ⟨[], [], 0, 0⟩⟩) :=
    eC2_ok (.inl (eC2_ok (sees_v rfl) (sees_v rfl) (oIx_pO h.1 h.2))) (.inl rfl) (oAdd_pT (rowS W w) w (by omega))
  have e2 := eDC_enum (a := .v (pO W)) (b := .v (.int w)) (c := .v (pT (someW W w))) (d6 := .un) (s0 := ⟨[], [], 0, 0⟩) (l := someW W w) (fi := iEA (aCons (eV 2) (aNil))) (by
    unfold iEA
    rw [aCons_ok (eF_fz (eV_v rfl)) aNil_ok]
    rfl) (lt_nd (someW_asc hW h)) (by unfold lim; omega)
  have e3 := eLC1 (v := 5) (fi := iS (eV 2)) (tt := tYs) (fe := eC (eLC [6] (iS (eC2 (eV 0) (eV 5) oIx)) (gN 6) (tYs) (eC2 (eV 3) (eV 6) oIx)) oTupOf) (w := ⟨[.v (pO W), .v (.int w), .v (pT (someW W w)), .o (.dict (kvI 0 (someW W w))), .un, .un, .un], ⟨[], [], 0, 0⟩⟩) (w1 := ⟨[.v (pO W), .v (.int w), .v (pT (someW W w)), .o (.dict (kvI 0 (someW W w))), .un, .un, .un], ⟨[], [], 0, 0⟩⟩)
    (fun _ => true) (onI fun one => pT ((rowS W one).map fun j => ((idx (someW W w) j : Nat) : Int))) (iS_tup (eF_fz (eV_v rfl))) rfl (by show 5 < 7; decide) (fun d hd => by
      obtain ⟨one, ho, rfl⟩ := List.mem_map.mp hd
      have hin := someW_in hW h ho
      have lr := hW.lw _ _ (row_at hin)
      refine ⟨rfl, fun _ => eF_fz ?_⟩
      have e4 := eLC1 (v := 6) (fi := iS (eC2 (eV 0) (eV 5) oIx)) (tt := tYs) (fe := eC2 (eV 3) (eV 6) oIx) (w := ⟨[.v (pO W), .v (.int w), .v (pT (someW W w)), .o (.dict (kvI 0 (someW W w))), .un, .v (.int one), .un], ⟨[], [], 0, 0⟩⟩) (w1 := ⟨[.v (pO W), .v (.int w), .v (pT (someW W w)), .o (.dict (kvI 0 (someW W w))), .un, .v (.int one), .un], ⟨[], [], 0, 0⟩⟩)
        (fun _ => true) (onI fun j => .int ((idx (someW W w) j : Nat) : Int)) (iS_tup (eF_fz (eC2_ok (sees_v rfl) (sees_v rfl) (oIx_pO hin.1 hin.2)))) rfl (by show 6 < 7; decide) (fun d hd => by
          obtain ⟨j, hj, rfl⟩ := List.mem_map.mp hd
          exact ⟨rfl, fun _ => eF_fz (eC2_ok (sees_o rfl) (sees_v rfl) (oIx_kv (someW_shut hW h ho hj)))⟩) (by rw [List.length_map]; unfold lim; omega)
      rw [map_onI2 (fun j => ((idx (someW W w) j : Nat) : Int))] at e4
      exact eC_ow e4 (oTup_int _)) (by rw [List.length_map]; unfold lim; omega)
  rw [map_onI3] at e3
  have e5 := eC_ow e3 (oTup_pT _)
  exact FB_rt (w0 := ⟨[.v (pO W), .v (.int w), .un, .un, .un, .un, .un], ⟨[], [], 0, 0⟩⟩) (gSq_ok (gAsg_fz e1 (by show 2 < 7; decide)) (gSq_ok (gAsg_ow e2 (by show 3 < 7; decide)) (gRet_fz e5)))
theorem eIndex_ok {i : Nat} {g : EF} {w : Wt} {l : List Int} {k : Int} (h : lstAt w i = some (l.map PyData.int)) (hg : eF g w = some (.fz (.int k), w)) (hk : k ∈ l) : eIndex i g w = some (.fz (.int ((idx l k : Nat) : Int)), w) := by
  unfold eIndex
  rw [h]
  dsimp only
  rw [hg]
  dsimp only
  rw [h]
  dsimp only
  rw [intsD_of_map, Option.bind_some, idx_find hk]
  rfl
theorem ev__law_part {W : List (List Int)} (hW : IsO W) {w : Int} (h : 0 ≤ w ∧ w < (W.length : Int)) : F__law_part [pO W, .int w] = some (.ok (pO (partO W w))) := by
  have hr := (hW.lw _ _ (row_at h)).1
  have hl := someW_len hW h
  have e1 : eC2 (eC (eC2 (eV 0) (eV 1) oIx) oLstOf) (eLst (aCons (eV 1) (aNil))) oAdd ⟨[.v (pO W), .v (.int w), .un, .un, .un], ⟨[], [], 0, 0⟩⟩ = some (.ow (.list ((someW W w).map PyData.int)), ⟨[.v (pO W), .v (.int w), .un, .un, .un], ⟨[], [], 0, 0⟩⟩) :=
    eC2_ok (sees_ow (d := .list ((rowS W w).map PyData.int)) (eC_fz (eC2_ok (sees_v rfl) (sees_v rfl) (oIx_pO h.1 h.2)) rfl)) (sees_ow (eLst_1 (d := .int w) (eF_fz (eV_v rfl)))) (oAdd_lst (rowS W w) [w] (by omega) (by simp))
  have e3 := eLC1 (v := 3) (fi := iS (eV 2)) (tt := tYs) (fe := eC (eLC [4] (iS (eC2 (eV 0) (eV 3) oIx)) (gN 4) (tYs) (eIndex 2 (eV 4))) oTupOf) (w := ⟨[.v (pO W), .v (.int w), .o (.list ((someW W w).map PyData.int)), .un, .un], ⟨[], [], 0, 0⟩⟩) (w1 := ⟨[.v (pO W), .v (.int w), .v (.list ((someW W w).map PyData.int)), .un, .un], ⟨[], [], 0, 0⟩⟩)
    (fun _ => true) (onI fun one => pT ((rowS W one).map fun j => ((idx (someW W w) j : Nat) : Int))) (iS_lst (eF_own rfl)) rfl (by show 3 < 5; decide) (fun d hd => by
      obtain ⟨one, ho, rfl⟩ := List.mem_map.mp hd
      have hin := someW_in hW h ho
      have lr := hW.lw _ _ (row_at hin)
      refine ⟨rfl, fun _ => eF_fz ?_⟩
      have e4 := eLC1 (v := 4) (fi := iS (eC2 (eV 0) (eV 3) oIx)) (tt := tYs) (fe := eIndex 2 (eV 4)) (w := ⟨[.v (pO W), .v (.int w), .v (.list ((someW W w).map PyData.int)), .v (.int one), .un], ⟨[], [], 0, 0⟩⟩) (w1 := ⟨[.v (pO W), .v (.int w), .v (.list ((someW W w).map PyData.int)), .v (.int one), .un], ⟨[], [], 0, 0⟩⟩)
        (fun _ => true) (onI fun j => .int ((idx (someW W w) j : Nat) : Int)) (iS_tup (eF_fz (eC2_ok (sees_v rfl) (sees_v rfl) (oIx_pO hin.1 hin.2)))) rfl (by show 4 < 5; decide) (fun d hd => by
          obtain ⟨j, hj, rfl⟩ := List.mem_map.mp hd
          exact ⟨rfl, fun _ => eF_fz (eIndex_ok rfl (eF_fz (eV_v rfl)) (someW_shut hW h ho hj))⟩) (by rw [List.length_map]; unfold lim; omega)
      rw [map_onI2 (fun j => ((idx (someW W w) j : Nat) : Int))] at e4
      exact eC_ow e4 (oTup_int _)) (by rw [List.length_map]; unfold lim; omega)
  rw [map_onI3] at e3
  have e5 := eC_ow e3 (oTup_pT _)
  exact FB_rt (w0 := ⟨[.v (pO W), .v (.int w), .un, .un, .un], ⟨[], [], 0, 0⟩⟩) (gSq_ok (gAsg_ow e1 (by show 2 < 5; decide)) (gRet_fz e5))
/-! ### the least world whose part folds -/
theorem fFor_ret {tg : TgF} {b : SF} (I : Wt → Prop) (r : PD → Option PD) : ∀ (ds : List PD) (w : Wt), I w → (∀ d ∈ ds, ∀ w, I w → ∃ w1, tg d w = some w1 ∧ ∃ w2, I w2 ∧ b w1 = some (match r d with | some x => .rt x w2 | none => .nx w2)) → ∃ w', I w' ∧ fFor tg b ds w = some (match ds.findSome? r with | some x => .rt x w' | none => .nx w')
  | [], w, h, _ => ⟨w, h, rfl⟩
  | d :: ds, w, h, hs => by
    obtain ⟨w1, h1, w2, h2, h3⟩ := hs d List.mem_cons_self w h
    rw [List.findSome?_cons]
    cases y : r d with
    | none =>
      rw [y] at h3
      obtain ⟨w', i', e⟩ := fFor_ret I r ds w2 h2 fun d hd => hs d (List.mem_cons_of_mem _ hd)
      exact ⟨w', i', fFor_cons h1 h3 e⟩
    | some x =>
      rw [y] at h3
      refine ⟨w2, h2, ?_⟩
      unfold fFor
      rw [h1]
      dsimp only
      rw [h3]
def rngP (n : Nat) : List PD := (List.range n).map fun i : Nat => PyData.int (0 + (i : Int))
theorem mem_rngP {n : Nat} {d : PD} (h : d ∈ rngP n) : ∃ i : Nat, i < n ∧ d = .int (i : Int) := by
  obtain ⟨i, hi, rfl⟩ := List.mem_map.mp h
  exact ⟨i, List.mem_range.mp hi, by rw [Int.zero_add]⟩
theorem oIsNn_hd (fs : List (List Int)) : oIsNn (hd fs) = some (.fz (.bool (!fs.isEmpty))) := by
  cases fs <;> rfl
end K67
set_option maxHeartbeats 1000000
/-! K67E9: what the law draws. -/
namespace K67
open PySem PySem.Spec PyProof.Rows L2 DL
theorem draw_eq69 : F__law_draw = FDraw := rfl
theorem pick_eq69 : F__law_pick = FPick := rfl
/-- at most n draws later -/
structure Lt (S S' : Src) (n : Int) : Prop where
  lo : 0 ≤ S'.turn
  hi : S'.turn ≤ S.turn + n
def ws (w : Wt) (S : Src) : Wt := { w with src := S }
theorem draw_e {w : Wt} {room : Int} {f : EF} (h0 : w.sl[0]? = some .st) (hf : eF f w = some (.fz (.int room), w)) (h : 0 ≤ w.src.turn ∧ w.src.turn < 1000000000) (hr : 0 < room ∧ room < 1073741824) :
    ∃ (v : Int) (S' : Src), 0 ≤ v ∧ v < room ∧ Lt w.src S' 1 ∧ eCallS 0 F__law_draw 1 (aCons f (aNil)) w = some (.fz (.int v), ws w S') := by
  obtain ⟨v, S', e, v0, v1, t0, t1⟩ := draw_ok w.src room h hr
  exact ⟨v, S', v0, v1, ⟨t0, t1⟩, eCallS_ok h0 (aCons_ok hf aNil_ok) rfl (draw_eq69 ▸ e)⟩
theorem draw_t {w : Wt} {room : Int} (h0 : w.sl[0]? = some .st) (h : 0 ≤ w.src.turn ∧ w.src.turn < 1000000000) (hr : 0 < room ∧ room < 1073741824) :
    ∃ (b : Bool) (S' : Src), Lt w.src S' 1 ∧ tE (eC2 (eCallS 0 F__law_draw 1 (aCons (eD (.int room)) (aNil))) (eD (.int 0)) oEq) w = some (.b b, ws w S') := by
  obtain ⟨v, S', _, _, l, e⟩ := draw_e (f := eD (.int room)) h0 rfl h hr
  exact ⟨_, S', l, tE_ok (eC2_ok' (.inl e) (.inl rfl) (oEq_int v 0))⟩
structure PreO (fs : List (List Int)) : Prop where
  lw : Low fs
  asc : Asc fs
  shut : ∀ (i : Nat) (row : List Int), fs[i]? = some row → ∀ j ∈ row, ∀ x ∈ rowS fs j, x ∈ row
theorem rowS_app {fs : List (List Int)} {r : List Int} {j : Int} (h : 0 ≤ j ∧ j < (fs.length : Int)) : rowS (fs ++ [r]) j = rowS fs j := by
  unfold rowS
  rw [List.getD_eq_getElem?_getD, List.getD_eq_getElem?_getD, List.getElem?_append_left (by omega)]
theorem app_get {fs : List (List Int)} {r row : List Int} {i : Nat} (h : (fs ++ [r])[i]? = some row) : (i < fs.length ∧ fs[i]? = some row) ∨ (i = fs.length ∧ row = r) := by
  by_cases z : i < fs.length
  · rw [List.getElem?_append_left z] at h
    exact .inl ⟨z, h⟩
  · have hi := get_lt h
    rw [List.length_append, List.length_singleton] at hi
    have e : i = fs.length := by omega
    subst e
    rw [List.getElem?_append_right (Nat.le_refl _), Nat.sub_self] at h
    cases h
    exact .inr ⟨rfl, rfl⟩
theorem PreO.app {fs : List (List Int)} {l : List Int} (h : PreO fs) (hn : fs.length ≤ 6) (hl : ∀ k ∈ l, 0 ≤ k ∧ k < (fs.length : Int)) (hs : ∀ k ∈ l, ∀ x ∈ rowS fs k, x ∈ l) : PreO (fs ++ [sortU l]) := by
  have ha := sortU_lt l
  have hm : ∀ k ∈ sortU l, 0 ≤ k ∧ k < (fs.length : Int) := fun k hk => hl k ((mem_sortU l k).mp hk)
  have hlen := asc_len (n := (fs.length : Int)) _ 0 ha hm (by omega)
  refine ⟨fun i r hr => ?_, ⟨fun r hr => ?_⟩, fun i row hr j hj x hx => ?_⟩
  · rcases app_get hr with ⟨_, z⟩ | ⟨rfl, rfl⟩
    · exact h.lw i r z
    · exact ⟨by omega, hm⟩
  · rcases List.mem_append.mp hr with z | z
    · exact h.asc.asc r z
    · rw [List.mem_singleton.mp z]; exact ha
  · rcases app_get hr with ⟨hi, z⟩ | ⟨rfl, rfl⟩
    · have := (h.lw i row z).2 j hj
      rw [rowS_app (by omega)] at hx
      exact h.shut i row z j hj x hx
    · rw [rowS_app (hm j hj)] at hx
      exact (mem_sortU l x).mpr (hs j ((mem_sortU l j).mp hj) x hx)
theorem set_get {fs : List (List Int)} {r row : List Int} {n i : Nat} (h : (fs.set n r)[i]? = some row) : (i ≠ n ∧ fs[i]? = some row) ∨ (i = n ∧ row = r) := by
  by_cases z : i = n
  · subst z
    have hi := get_lt h
    rw [List.length_set] at hi
    rw [List.getElem?_set_self hi] at h
    cases h
    exact .inr ⟨rfl, rfl⟩
  · rw [List.getElem?_set_ne (fun y => z y.symm)] at h
    exact .inl ⟨z, h⟩
theorem PreO.setL {fs : List (List Int)} (h : PreO fs) (h1 : 1 ≤ fs.length) (h7 : fs.length ≤ 7) : PreO (fs.set (fs.length - 1) (rng (fs.length - 1))) := by
  have rs : ∀ j : Int, 0 ≤ j → j < ((fs.length - 1 : Nat) : Int) → rowS (fs.set (fs.length - 1) (rng (fs.length - 1))) j = rowS fs j := fun j h0 h2 => by
    unfold rowS
    rw [List.getD_eq_getElem?_getD, List.getD_eq_getElem?_getD, List.getElem?_set_ne (by omega)]
  refine ⟨fun i r hr => ?_, ⟨fun r hr => ?_⟩, fun i row hr j hj x hx => ?_⟩
  · rcases set_get hr with ⟨_, z⟩ | ⟨rfl, rfl⟩
    · exact h.lw i r z
    · exact ⟨by rw [rng_len]; omega, fun k hk => mem_rng.mp hk⟩
  · obtain ⟨i, hi⟩ := List.getElem?_of_mem hr
    rcases set_get hi with ⟨_, z⟩ | ⟨rfl, rfl⟩
    · exact h.asc.asc r (List.mem_of_getElem? z)
    · exact rng_lt _
  · rcases set_get hr with ⟨hne, z⟩ | ⟨rfl, rfl⟩
    · have hi := get_lt z
      have := (h.lw i row z).2 j hj
      rw [rs j this.1 (by omega)] at hx
      exact h.shut i row z j hj x hx
    · have hj' := mem_rng.mp hj
      rw [rs j hj'.1 hj'.2] at hx
      have := (h.lw _ _ (row_at (W := fs) (w := j) (by omega))).2 x hx
      exact mem_rng.mpr (by omega)
theorem oIx_lO {O : List (List Int)} {k : Int} (h : 0 ≤ k) (hl : k < (O.length : Int)) : oIx (.list (O.map pT)) (.int k) = some (.fz (pT (rowS O k))) := oIx_pO h hl
theorem iR1_int {i n : Nat} {w : Wt} (h : w.sl[i]? = some (.v (.int (n : Int)))) (hn : n < 1000) : iR1 (aCons (eV i) aNil) w = some (rngP n, w) := by
  unfold iR1
  rw [aCons_ok (eF_fz (eV_v h)) aNil_ok]
  dsimp only
  rw [if_pos (small_nat hn)]
  rfl
theorem rngP_get {n i : Nat} {d : PD} (h : (rngP n)[i]? = some d) : i < n ∧ d = .int (i : Int) := range_get h
theorem rngP_len (n : Nat) : (rngP n).length = n := by unfold rngP; rw [List.length_map, List.length_range]
abbrev wO (m : PD) (fs : List (List Int)) (s3 s4 s5 s6 : Slot) (S : Src) : Wt := ⟨[.st, .v m, .o (.list (fs.map pT)), s3, s4, s5, s6], S⟩
/-- one world more to look at -/
theorem ord_in {m : PD} {fs : List (List Int)} {many i : Nat} {l : List Int} {S0 S : Src} (hp : PreO fs) (hn : fs.length ≤ 6) (hi : i < fs.length) (hl : ∀ k ∈ l, 0 ≤ k ∧ k < (fs.length : Int)) (hs : ∀ k ∈ l, ∀ x ∈ rowS fs k, x ∈ l) (hle : l.length ≤ 8 * i) (ht : 0 ≤ S.turn ∧ S.turn < 900000000) :
    ∃ (l' : List Int) (S' : Src), gIf (tOo (tE (eC2 (eCallS 0 F__law_draw 1 (aCons (eD (.int 3)) (aNil))) (eD (.int 0)) oEq)) (tAn (tE (eC2 (eV 4) (eC2 (eV 3) (eD (.int 1)) oSub) oEq)) (tE (eC2 (eCallS 0 F__law_draw 1 (aCons (eD (.int 2)) (aNil))) (eD (.int 0)) oEq)))) (gAsg 5 (eC2 (eC2 (eV 5) (eLst (aCons (eV 6) (aNil))) oAdd) (eC (eC2 (eV 2) (eV 6) oIx) oLstOf) oAdd)) (gNx) (wO m fs (.v (.int (many : Int))) (.v (.int (fs.length : Int))) (.o (.list (l.map PyData.int))) (.v (.int (i : Int))) S)
      = some (.nx (wO m fs (.v (.int (many : Int))) (.v (.int (fs.length : Int))) (.o (.list (l'.map PyData.int))) (.v (.int (i : Int))) S')) ∧ (∀ k ∈ l', 0 ≤ k ∧ k < (fs.length : Int)) ∧ (∀ k ∈ l', ∀ x ∈ rowS fs k, x ∈ l') ∧ l'.length ≤ 8 * (i + 1) ∧ Lt S S' 2 := by
  have test : ∃ (b : Bool) (S' : Src), Lt S S' 2 ∧ tOo (tE (eC2 (eCallS 0 F__law_draw 1 (aCons (eD (.int 3)) (aNil))) (eD (.int 0)) oEq)) (tAn (tE (eC2 (eV 4) (eC2 (eV 3) (eD (.int 1)) oSub) oEq)) (tE (eC2 (eCallS 0 F__law_draw 1 (aCons (eD (.int 2)) (aNil))) (eD (.int 0)) oEq))) (wO m fs (.v (.int (many : Int))) (.v (.int (fs.length : Int))) (.o (.list (l.map PyData.int))) (.v (.int (i : Int))) S) = some (.b b, wO m fs (.v (.int (many : Int))) (.v (.int (fs.length : Int))) (.o (.list (l.map PyData.int))) (.v (.int (i : Int))) S') := by
    obtain ⟨b1, S1, l1, e1⟩ := draw_t (w := wO m fs (.v (.int (many : Int))) (.v (.int (fs.length : Int))) (.o (.list (l.map PyData.int))) (.v (.int (i : Int))) S) (room := 3) rfl (show 0 ≤ S.turn ∧ S.turn < 1000000000 by omega) (by decide)
    have lo1 := l1.lo
    have hi1 : S1.turn ≤ S.turn + 1 := l1.hi
    cases b1 with
    | true => exact ⟨true, S1, ⟨lo1, by omega⟩, tOo_ok (b := true) e1 (fun y => nomatch y) (fun _ => rfl)⟩
    | false =>
      have e2 : tE (eC2 (eV 4) (eC2 (eV 3) (eD (.int 1)) oSub) oEq) (wO m fs (.v (.int (many : Int))) (.v (.int (fs.length : Int))) (.o (.list (l.map PyData.int))) (.v (.int (i : Int))) S1) = some (.b (decide ((fs.length : Int) = (many : Int) - 1)), wO m fs (.v (.int (many : Int))) (.v (.int (fs.length : Int))) (.o (.list (l.map PyData.int))) (.v (.int (i : Int))) S1) := tE_ok (eC2_ok (sees_v rfl) (.inl (eC2_ok (sees_v rfl) (.inl rfl) rfl)) (oEq_int _ _))
      cases y : decide ((fs.length : Int) = (many : Int) - 1) with
      | false =>
        rw [y] at e2
        exact ⟨_, S1, ⟨lo1, by omega⟩, tOo_ok e1 (fun _ => tAn_ok (b := true) e2 (fun z => nomatch z) (fun _ => rfl)) (fun z => nomatch z)⟩
      | true =>
        rw [y] at e2
        obtain ⟨b2, S2, l2, e3⟩ := draw_t (w := wO m fs (.v (.int (many : Int))) (.v (.int (fs.length : Int))) (.o (.list (l.map PyData.int))) (.v (.int (i : Int))) S1) (room := 2) rfl (show 0 ≤ S1.turn ∧ S1.turn < 1000000000 by omega) (by decide)
        have hi2 : S2.turn ≤ S1.turn + 1 := l2.hi
        exact ⟨_, S2, ⟨l2.lo, by omega⟩, tOo_ok e1 (fun _ => tAn_ok e2 (fun _ => e3) (fun z => nomatch z)) (fun z => nomatch z)⟩
  obtain ⟨b, S', lt, t⟩ := test
  cases b with
  | false => exact ⟨l, S', gIf_f t rfl, hl, hs, by omega, lt⟩
  | true =>
    have hin : 0 ≤ (i : Int) ∧ (i : Int) < (fs.length : Int) := by omega
    have lr := hp.lw _ _ (row_at hin)
    have e1 : eC2 (eC2 (eV 5) (eLst (aCons (eV 6) (aNil))) oAdd) (eC (eC2 (eV 2) (eV 6) oIx) oLstOf) oAdd (wO m fs (.v (.int (many : Int))) (.v (.int (fs.length : Int))) (.o (.list (l.map PyData.int))) (.v (.int (i : Int))) S') = some (.ow (.list (((l ++ [(i : Int)]) ++ rowS fs (i : Int)).map PyData.int)), wO m fs (.v (.int (many : Int))) (.v (.int (fs.length : Int))) (.o (.list (l.map PyData.int))) (.v (.int (i : Int))) S') :=
      eC2_ok (sees_ow (eC2_ok (sees_o rfl) (sees_ow (eLst_1 (d := .int (i : Int)) (eF_fz (eV_v rfl)))) (oAdd_lst l [(i : Int)] (by omega) (by simp)))) (sees_ow (d := .list ((rowS fs (i : Int)).map PyData.int)) (eC_fz (eC2_ok (sees_o rfl) (sees_v rfl) (oIx_lO hin.1 hin.2)) rfl)) (oAdd_lst _ _ (by rw [List.length_append]; simp; omega) (by omega))
    refine ⟨(l ++ [(i : Int)]) ++ rowS fs (i : Int), S', gIf_t t (gAsg_ow e1 (by show 5 < 7; decide)), fun k hk => ?_, fun k hk x hx => ?_, ?_, lt⟩
    · rcases List.mem_append.mp hk with z | z
      · rcases List.mem_append.mp z with z | z
        · exact hl k z
        · rw [List.mem_singleton.mp z]; exact hin
      · have := lr.2 k z
        omega
    · rcases List.mem_append.mp hk with z | z
      · rcases List.mem_append.mp z with z | z
        · exact List.mem_append.mpr (.inl (List.mem_append.mpr (.inl (hs k z x hx))))
        · rw [List.mem_singleton.mp z] at hx
          exact List.mem_append.mpr (.inr hx)
      · exact List.mem_append.mpr (.inr (hp.shut _ _ (row_at hin) k z x hx))
    · rw [List.length_append, List.length_append, List.length_singleton]
      omega
end K67
set_option maxHeartbeats 1000000
/-! K67E10: the law's orders; what is no order; likeness. -/
namespace K67
open PySem PySem.Spec PyProof.Rows L2 DL
abbrev ordIn : SF := gIf (tOo (tE (eC2 (eCallS 0 F__law_draw 1 (aCons (eD (.int 3)) (aNil))) (eD (.int 0)) oEq)) (tAn (tE (eC2 (eV 4) (eC2 (eV 3) (eD (.int 1)) oSub) oEq)) (tE (eC2 (eCallS 0 F__law_draw 1 (aCons (eD (.int 2)) (aNil))) (eD (.int 0)) oEq)))) (gAsg 5 (eC2 (eC2 (eV 5) (eLst (aCons (eV 6) (aNil))) oAdd) (eC (eC2 (eV 2) (eV 6) oIx) oLstOf) oAdd)) (gNx)
abbrev ordMid : SF := gSq (gAsg 5 (eLst (aNil))) (gSq (gFor (iR1 (aCons (eV 4) (aNil))) (gN 6) ordIn) (gApp 2 (eC (eC (eV 5) oSrtSet) oTupOf)))
theorem ord_mid {m : PD} {fs : List (List Int)} {many : Nat} {s5 s6 : Slot} {S : Src} (hp : PreO fs) (hn : fs.length ≤ 6) (ht : 0 ≤ S.turn ∧ S.turn < 800000000) :
    ∃ (fs' : List (List Int)) (S' : Src) (t5 t6 : Slot), ordMid (wO m fs (.v (.int (many : Int))) (.v (.int (fs.length : Int))) s5 s6 S) = some (.nx (wO m fs' (.v (.int (many : Int))) (.v (.int (fs.length : Int))) t5 t6 S')) ∧ PreO fs' ∧ fs'.length = fs.length + 1 ∧ Lt S S' 12 := by
  obtain ⟨w', e, l, S', s6', rfl, hl, hs, hle, lt⟩ := fFor_inv (tg := gN 6) (b := ordIn) (fun i w => ∃ (l : List Int) (S' : Src) (s6 : Slot), w = wO m fs (.v (.int (many : Int))) (.v (.int (fs.length : Int))) (.o (.list (l.map PyData.int))) s6 S' ∧ (∀ k ∈ l, 0 ≤ k ∧ k < (fs.length : Int)) ∧ (∀ k ∈ l, ∀ x ∈ rowS fs k, x ∈ l) ∧ l.length ≤ 8 * i ∧ Lt S S' (2 * (i : Int)))
    (rngP fs.length) 0 (wO m fs (.v (.int (many : Int))) (.v (.int (fs.length : Int))) (.o (.list (([] : List Int).map PyData.int))) s6 S) ⟨[], S, s6, rfl, (fun _ h => nomatch h), (fun _ h => nomatch h), Nat.zero_le _, ⟨ht.1, by simp⟩⟩ (fun i d w hd hI => by
      obtain ⟨l, S1, s6, rfl, hl, hs, hle, lt⟩ := hI
      obtain ⟨hi, rfl⟩ := rngP_get hd
      rw [Nat.zero_add] at *
      have lo1 := lt.lo
      have hi1 := lt.hi
      obtain ⟨l', S2, e, hl', hs', hle', lt2⟩ := ord_in (m := m) (many := many) (S0 := S) (S := S1) hp hn hi hl hs hle (by omega)
      have lo2 := lt2.lo
      have hi2 := lt2.hi
      refine ⟨_, _, rfl, e, l', S2, _, rfl, hl', hs', hle', ⟨lo2, ?_⟩⟩
      push_cast
      omega)
  rw [Nat.zero_add, rngP_len] at hle lt
  have e1 : eC (eC (eV 5) oSrtSet) oTupOf (wO m fs (.v (.int (many : Int))) (.v (.int (fs.length : Int))) (.o (.list (l.map PyData.int))) s6' S') = some (.fz (pT (sortU l)), wO m fs (.v (.int (many : Int))) (.v (.int (fs.length : Int))) (.o (.list (l.map PyData.int))) s6' S') := eC_ow (eC_pk (eV_o rfl) rfl (oSrt_lst (by omega))) rfl
  have e2 := gApp_ok (i := 2) (w := wO m fs (.v (.int (many : Int))) (.v (.int (fs.length : Int))) (.o (.list (l.map PyData.int))) s6' S') (ds := fs.map pT) (es := fs.map pT) rfl (eF_fz e1) rfl (by rw [List.length_map]; unfold lim; omega)
  have e3 : fs.map pT ++ [pT (sortU l)] = (fs ++ [sortU l]).map pT := by rw [List.map_append]; rfl
  rw [e3] at e2
  have lo1 := lt.lo
  have hi1 := lt.hi
  refine ⟨fs ++ [sortU l], S', _, s6', gSq_ok (w1 := wO m fs (.v (.int (many : Int))) (.v (.int (fs.length : Int))) (.o (.list (([] : List Int).map PyData.int))) s6 S) rfl (gSq_ok (gFor_ok (iR1_int (i := 4) rfl (by omega)) e) e2), hp.app hn hl hs, by rw [List.length_append]; rfl, ⟨lo1, by omega⟩⟩
theorem ixN_last {n : Nat} (h : 1 ≤ n) : ixN n (-1) = some (n - 1) := by
  unfold ixN
  rw [if_neg (by decide), if_pos (by omega)]
  congr 1
  omega
theorem PreO.isO {fs : List (List Int)} (h : PreO fs) (h1 : 1 ≤ fs.length) (h7 : fs.length ≤ 7) : IsO fs := ⟨h1, h7, h.lw, h.asc, h.shut⟩
theorem order_ok (S : Src) (most : Nat) (hm : 1 ≤ most ∧ most ≤ 7) (ht : 0 ≤ S.turn ∧ S.turn < 700000000) :
    ∃ (O : List (List Int)) (S' : Src), F__law_order S [.int (most : Int)] = some (pO O, S') ∧ IsO O ∧ O.length ≤ most ∧ Lt S S' 200 := by
  obtain ⟨v, S1, v0, v1, lt1, e1⟩ := draw_e (w := wO (.int (most : Int)) [] .un .un .un .un S) (f := eV 1) (room := (most : Int)) rfl (eF_fz (eV_v rfl)) (show 0 ≤ S.turn ∧ S.turn < 1000000000 by omega) (by omega)
  have lo1 := lt1.lo
  have hi1 : S1.turn ≤ S.turn + 1 := lt1.hi
  obtain ⟨n, hn⟩ : ∃ n : Nat, (1 + v) = (n : Int) := ⟨(1 + v).toNat, by omega⟩
  have e2 : eC2 (eD (.int 1)) (eCallS 0 F__law_draw 1 (aCons (eV 1) (aNil))) oAdd (wO (.int (most : Int)) [] .un .un .un .un S) = some (.fz (.int (n : Int)), wO (.int (most : Int)) [] .un .un .un .un S1) := by
    rw [← hn]
    exact eC2_ok' (.inl rfl) (.inl e1) (oAdd_int 1 v)
  obtain ⟨w', e3, fs, S2, s4, s5, s6, rfl, hp, hl, lt2⟩ := fFor_inv (tg := gN 4) (b := ordMid) (fun j w => ∃ (fs : List (List Int)) (S' : Src) (s4 s5 s6 : Slot), w = wO (.int (most : Int)) fs (.v (.int (n : Int))) s4 s5 s6 S' ∧ PreO fs ∧ fs.length = j ∧ Lt S1 S' (12 * (j : Int)))
    (rngP n) 0 (wO (.int (most : Int)) [] (.v (.int (n : Int))) .un .un .un S1) ⟨[], S1, .un, .un, .un, rfl, ⟨(fun _ _ h => nomatch h), ⟨fun _ h => nomatch h⟩, (fun _ _ h => nomatch h)⟩, rfl, ⟨lo1, by simp⟩⟩ (fun i d w hd hI => by
      obtain ⟨fs, S2, s4, s5, s6, rfl, hp, hl, lt⟩ := hI
      obtain ⟨hi, rfl⟩ := rngP_get hd
      rw [Nat.zero_add] at *
      subst hl
      have lo2 := lt.lo
      have hi2 := lt.hi
      obtain ⟨fs', S3, s5', s6', e, hp', hl', lt3⟩ := ord_mid (m := .int (most : Int)) (many := n) (s5 := s5) (s6 := s6) (S := S2) hp (by omega) (by omega)
      have lo3 := lt3.lo
      have hi3 := lt3.hi
      refine ⟨_, _, rfl, e, fs', S3, _, s5', s6', rfl, hp', hl', ⟨lo3, ?_⟩⟩
      push_cast
      omega)
  rw [Nat.zero_add, rngP_len] at hl lt2
  have lo2 := lt2.lo
  have hi2 := lt2.hi
  obtain ⟨b, S3, lt3, t3⟩ := draw_t (w := wO (.int (most : Int)) fs (.v (.int (n : Int))) s4 s5 s6 S2) (room := 2) rfl (show 0 ≤ S2.turn ∧ S2.turn < 1000000000 by omega) (by decide)
  have lo3 := lt3.lo
  have hi3 : S3.turn ≤ S2.turn + 1 := lt3.hi
  have hend : ∃ fs' : List (List Int), IsO fs' ∧ fs'.length = n ∧ gIf (tE (eC2 (eCallS 0 F__law_draw 1 (aCons (eD (.int 2)) (aNil))) (eD (.int 0)) oEq)) (gSetIx 2 (eC (eC2 (eV 3) (eD (.int 1)) oSub) oTR1) (eC (eD (.int 1)) oNeg)) (gNx) (wO (.int (most : Int)) fs (.v (.int (n : Int))) s4 s5 s6 S2) = some (.nx (wO (.int (most : Int)) fs' (.v (.int (n : Int))) s4 s5 s6 S3)) := by
    cases b with
    | false => exact ⟨fs, hp.isO (by omega) (by omega), hl, gIf_f t3 rfl⟩
    | true =>
      have hs := hp.setL (by omega) (by omega)
      refine ⟨_, hs.isO (by rw [List.length_set]; omega) (by rw [List.length_set]; omega), by rw [List.length_set]; exact hl, gIf_t t3 ?_⟩
      have q1 : eC (eC2 (eV 3) (eD (.int 1)) oSub) oTR1 (wO (.int (most : Int)) fs (.v (.int (n : Int))) s4 s5 s6 S3) = some (.fz (pT (rng (fs.length - 1))), wO (.int (most : Int)) fs (.v (.int (n : Int))) s4 s5 s6 S3) := by
        refine eC_fz (eC2_ok (sees_v rfl) (.inl rfl) (show oSub (.int (n : Int)) (.int 1) = some (.fz (.int ((fs.length - 1 : Nat) : Int))) from ?_)) (oTR1_nat (by omega))
        show some (R.fz (.int ((n : Int) - 1))) = _
        rw [show (n : Int) - 1 = ((fs.length - 1 : Nat) : Int) by omega]
      have q2 : eF (eC (eD (.int 1)) oNeg) (wO (.int (most : Int)) fs (.v (.int (n : Int))) s4 s5 s6 S3) = some (.fz (.int (-1)), wO (.int (most : Int)) fs (.v (.int (n : Int))) s4 s5 s6 S3) := rfl
      show gSetIx 2 _ _ (wO (.int (most : Int)) fs (.v (.int (n : Int))) s4 s5 s6 S3) = _
      unfold gSetIx
      rw [eF_fz q1]
      dsimp only
      rw [show (wO (.int (most : Int)) fs (.v (.int (n : Int))) s4 s5 s6 S3).sl[2]? = some (.o (.list (fs.map pT))) from rfl]
      dsimp only
      rw [q2]
      dsimp only
      rw [show (wO (.int (most : Int)) fs (.v (.int (n : Int))) s4 s5 s6 S3).sl[2]? = some (.o (.list (fs.map pT))) from rfl]
      dsimp only
      rw [List.length_map, ixN_last (by omega)]
      dsimp only
      rw [← List.map_set]
      rfl
  obtain ⟨fs', hO, hl', e4⟩ := hend
  refine ⟨fs', S3, ?_, hO, by omega, ⟨lo3, by omega⟩⟩
  have e5 : g__law_order (wO (.int (most : Int)) [] .un .un .un .un S |>.at 2 .un) = some (.rt (pO fs') (wO (.int (most : Int)) fs' (.v (.int (n : Int))) s4 s5 s6 S3)) :=
    gSq_ok (w1 := wO (.int (most : Int)) [] .un .un .un .un S) rfl (gSq_ok (gAsg_fz e2 (by show 3 < 7; decide)) (gSq_ok (gFor_ok (iR1_int (i := 3) (n := n) rfl (by omega)) e3) (gSq_ok e4 (gRet_fz (eC_pk (eV_o rfl) rfl rfl)))))
  unfold F__law_order FSB
  show outS (g__law_order (wO (.int (most : Int)) [] .un .un .un .un S |>.at 2 .un)) = _
  rw [e5]
  rfl
/-- what the law tells as no order -/
theorem odd_ok (S : Src) (ht : 0 ≤ S.turn ∧ S.turn < 700000000) : ∃ (d : PD) (S' : Src), F__law_no_order S [] = some (d, S') ∧ d ∈ oddL ∧ Lt S S' 1 := by
  obtain ⟨d, S', e, hm, t0, t1⟩ := pick_ok S oddL (by omega) ⟨by decide, by decide⟩
  refine ⟨d, S', ?_, hm, ⟨t0, t1⟩⟩
  have c : g__law_no_order ⟨[.st], S⟩ = some (.rt d ⟨[.st], S'⟩) := gRet_fz (eCallS_ok (w1 := ⟨[.st], S⟩) (ds := [.list oddL]) rfl (aCons_ok (eF_ow rfl) aNil_ok) rfl (pick_eq69 ▸ e))
  unfold F__law_no_order FSB
  show outS (g__law_no_order ⟨[.st], S⟩) = _
  rw [c]
  rfl
/-! ### likeness -/
structure Good (d : PD) : Prop where
  nd : ∀ xs, d ≠ .dict xs
  fl : flatD d = true
  eq : PyData.eqv d d = true
  sh : d.showable = true
  ln : d.shown.length < lim
theorem Good.like {d : PD} (h : Good d) : oEq d d = some (.fz (.bool true)) := by
  have e : oEq d d = if (flatD d && flatD d) = true then some (.fz (.bool (PyData.eqv d d))) else none := by
    cases d with
    | dict xs => exact absurd rfl (h.nd xs)
    | _ => rfl
  rw [e, h.fl, h.eq]
  rfl
theorem ev__law_is {d : PD} (h : Good d) : F__law_is [d, d] = some (.ok (.bool true)) := by
  have e1 : oRepr d = some (.fz (.str d.shown)) := by unfold oRepr; rw [if_pos ⟨h.fl, h.sh, h.ln⟩]
  have e2 := oEq_str d.shown d.shown
  rw [decide_eq_true rfl] at e2
  exact FB_rt (w0 := ⟨[.v d, .v d], ⟨[], [], 0, 0⟩⟩) (gRet_fz (eAnd_ok (a := true) (b := true) (eC2_ok (sees_v rfl) (sees_v rfl) h.like) (fun _ => eAnd_ok (a := true) (b := true) (eC2_ok (sees_v rfl) (sees_v rfl) h.like) (fun _ => eC2_ok (.inl (eC_fz (eV_v rfl) e1)) (.inl (eC_fz (eV_v rfl) e1)) e2) (fun y => nomatch y)) (fun y => nomatch y)))
theorem good_bool (b : Bool) : Good (.bool b) := ⟨fun _ => by simp, rfl, by cases b <;> rfl, rfl, by cases b <;> decide⟩
theorem good_none : Good .none := ⟨fun _ => by simp, rfl, rfl, rfl, by decide⟩
/-- a few small ints -/
structure Sm (f : List Int) : Prop where
  l : f.length ≤ 8
  s : ∀ k ∈ f, 0 ≤ k ∧ k < 8
theorem sm_int {k : Int} (h : 0 ≤ k ∧ k < 8) : (PyData.int k).leavesShort 8 = true ∧ (PyData.int k).showable = true ∧ (PyData.int k).weight ≤ 9 := by
  have : k = 0 ∨ k = 1 ∨ k = 2 ∨ k = 3 ∨ k = 4 ∨ k = 5 ∨ k = 6 ∨ k = 7 := by omega
  rcases this with e | e | e | e | e | e | e | e <;> subst e <;> exact ⟨by decide, by decide, by decide⟩
theorem sm_all : ∀ {f : List Int}, (∀ k ∈ f, 0 ≤ k ∧ k < 8) → PyData.leavesShortAll 8 (f.map PyData.int) = true ∧ PyData.showableAll (f.map PyData.int) = true ∧ PyData.weightAll (f.map PyData.int) ≤ 10 * f.length
  | [], _ => ⟨rfl, rfl, by simp [PyData.weightAll]⟩
  | k :: f, h => by
    obtain ⟨a, b, wk⟩ := sm_int (h k List.mem_cons_self)
    obtain ⟨c, d, e⟩ := sm_all (f := f) fun k hk => h k (List.mem_cons_of_mem _ hk)
    rw [List.map_cons]
    refine ⟨?_, ?_, ?_⟩
    · simp only [PyData.leavesShortAll, a, c, Bool.and_self]
    · simp only [PyData.showableAll, b, d, Bool.and_self]
    · simp only [PyData.weightAll, List.length_cons]
      omega
theorem good_pT {f : List Int} (h : Sm f) : Good (pT f) := by
  obtain ⟨a, b, c⟩ := sm_all h.s
  refine ⟨fun _ => by unfold pT; simp, flatD_pT f, by unfold pT; rw [eqv_tup]; exact decide_eq_true rfl, by unfold pT; simp only [PyData.showable]; exact b, ?_⟩
  have h1 := PyData.shown_le 8 (by decide) (pT f) (by unfold pT; simp only [PyData.leavesShort]; exact a)
  have h2 : (pT f).weight ≤ 200 := by
    unfold pT
    simp only [PyData.weight]
    have := h.l
    omega
  unfold lim
  omega
theorem good_pair {k : Int} {f : List Int} (hk : 0 ≤ k ∧ k < 8) (h : Sm f) : Good (.tuple [.int k, pT f]) := by
  obtain ⟨a, b, c⟩ := sm_all h.s
  obtain ⟨a0, b0, wk⟩ := sm_int hk
  have g := good_pT h
  have ls : (PyData.tuple [.int k, pT f]).leavesShort 8 = true := by
    unfold pT
    simp only [PyData.leavesShort, PyData.leavesShortAll, Bool.and_true, Bool.and_eq_true]
    exact ⟨by simpa only [PyData.leavesShort] using a0, a⟩
  refine ⟨fun _ => by simp, ?_, ?_, ?_, ?_⟩
  · unfold flatD
    rw [Bool.and_eq_true, decide_eq_true_eq]
    have hd := depth_pT f
    refine ⟨by simp only [PyData.plain, PyData.plainAll, plain_pT, Bool.and_self], ?_⟩
    simp only [PyData.depth, PyData.depthAll]
    omega
  · simp only [PyData.eqv, PyData.eqvAll, g.eq, Bool.and_self, beq_self_eq_true, decide_true]
  · simp only [PyData.showable, PyData.showableAll, g.sh, Bool.and_true]
    simpa only [PyData.showable] using b0
  · have h1 := PyData.shown_le 8 (by decide) _ ls
    have h2 : (PyData.tuple [.int k, pT f]).weight ≤ 300 := by
      have hw : (PyData.tuple [.int k, pT f]).weight = (PyData.int k).weight + 1 + (PyData.weightAll (f.map PyData.int) + 1 + 0) := rfl
      rw [hw]
      have := h.l
      omega
    unfold lim
    omega
end K67
set_option maxHeartbeats 1000000
/-! K67E11: the law's turn, step by step. -/
namespace K67
open PySem PySem.Spec PyProof.Rows L2 DL
theorem eCallN_ok {F : FF} {n : Nat} {g : AF} {w w1 : Wt} {ds : List PD} {d : PD} (h : g w = some (.ok ds, w1)) (hn : ds.length = n) (hF : F ds = some (.ok d)) : eCallN F n g w = some (.fz d, w1) := by
  unfold eCallN eA
  rw [h]
  dsimp only
  rw [if_pos hn, hF]
  rfl
theorem eCallNR_ok {F : FF} {n : Nat} {g : AF} {w w1 : Wt} {ds : List PD} {d : PD} (h : g w = some (.ok ds, w1)) (hn : ds.length = n) (hF : F ds.reverse = some (.ok d)) : eCallNR F n g w = some (.fz d, w1) := by
  unfold eCallNR eA
  rw [h]
  dsimp only
  rw [if_pos hn, hF]
  rfl
/-- both ways of calling give what is due -/
theorem two_is {f1 f2 g : EF} {w : Wt} {d : PD} (hd : Good d) (h1 : f1 w = some (.fz d, w)) (h2 : f2 w = some (.fz d, w)) (hg : g w = some (.fz d, w)) :
    tOo (tNt (tE (eCall F__law_is 2 [] (aCons f1 (aCons g (aNil)))))) (tNt (tE (eCall F__law_is 2 [] (aCons f2 (aCons g (aNil)))))) w = some (.b false, w) :=
  tOo_ok (a := false) (b := false) (tNt_ok (b := true) (tE_ok (eCall_ok (aCons_ok (eF_fz h1) (aCons_ok (eF_fz hg) aNil_ok)) rfl (ev__law_is hd)))) (fun _ => tNt_ok (b := true) (tE_ok (eCall_ok (aCons_ok (eF_fz h2) (aCons_ok (eF_fz hg) aNil_ok)) rfl (ev__law_is hd)))) (fun y => nomatch y)
/-- a comprehension that draws -/
theorem lcL_run {vs : List Nat} {tg : TgF} {fe : EF} (J : Nat → Wt → Prop) (Pd : PD → Prop) : ∀ (ds : List PD) (acc : List PD) (w : Wt) (j : Nat), J j w → (∀ d ∈ ds, ∀ (i : Nat) (w : Wt), i < j + ds.length → J i w → ∃ w2, tg d w = some w2 ∧ ∃ y w3, eF fe w2 = some (.fz y, w3) ∧ Pd y ∧ plainW w3 vs = true ∧ J (i + 1) (w3.wipe vs)) → acc.length + ds.length < lim →
    ∃ ys w', lcL vs tg tYs fe ds w acc = some (acc ++ ys, w') ∧ ys.length = ds.length ∧ (∀ y ∈ ys, Pd y) ∧ J (j + ds.length) w'
  | [], acc, w, j, h, _, _ => ⟨[], w, by rw [List.append_nil]; rfl, rfl, (fun _ h => nomatch h), h⟩
  | d :: ds, acc, w, j, h, hs, hl => by
    rw [List.length_cons] at hl hs
    obtain ⟨w2, h1, y, w3, h2, h3, h4, h5⟩ := hs d List.mem_cons_self j w (by omega) h
    obtain ⟨ys, w', e, e1, e2, e3⟩ := lcL_run (vs := vs) (tg := tg) (fe := fe) J Pd ds (acc ++ [y]) (w3.wipe vs) (j + 1) h5 (fun d hd i w hi hw => hs d (List.mem_cons_of_mem _ hd) i w (by omega) hw) (by rw [List.length_append]; simp; omega)
    refine ⟨y :: ys, w', ?_, by rw [List.length_cons, List.length_cons, e1], fun z hz => ?_, by rw [List.length_cons, show j + (ds.length + 1) = j + 1 + ds.length by omega]; exact e3⟩
    · unfold lcL
      rw [h1]
      dsimp only [tYs]
      rw [h2]
      dsimp only
      rw [if_pos ⟨h4, by omega⟩, e, List.append_assoc]
      rfl
    · rcases List.mem_cons.mp hz with q | q
      · rw [q]; exact h3
      · exact e2 z q
theorem eLC_of {vs : List Nat} {fi : IF} {tg : TgF} {tt : TFn} {fe : EF} {w w1 w2 : Wt} {ds acc : List PD} (hfi : fi w = some (ds, w1)) (hp : plainW w1 vs = true) (hl : lcL vs tg tt fe ds (w1.wipe vs) [] = some (acc, w2)) : eLC vs fi tg tt fe w = some (.ow (.list acc), w1.rest w2 vs) := by
  unfold eLC
  rw [hfi]
  dsimp only
  rw [if_pos hp, hl]
abbrev wT (ns : List Int) (a b c d e f g h i j k l : Slot) (x y : Slot) (S : Src) : Wt := ⟨[.sc ns, .st, a, b, c, d, e, f, g, h, i, j, k, l, x, y], S⟩
theorem ints_of {n : Int} : ∀ {ys : List PD}, (∀ y ∈ ys, ∃ k : Int, y = .int k ∧ 0 ≤ k ∧ k < n) → ∃ f : List Int, ys = f.map PyData.int ∧ ∀ k ∈ f, 0 ≤ k ∧ k < n
  | [], _ => ⟨[], rfl, fun _ h => nomatch h⟩
  | y :: ys, h => by
    obtain ⟨k, rfl, h0, h1⟩ := h y List.mem_cons_self
    obtain ⟨f, rfl, hf⟩ := ints_of (ys := ys) fun z hz => h z (List.mem_cons_of_mem _ hz)
    refine ⟨k :: f, rfl, fun j hj => ?_⟩
    rcases List.mem_cons.mp hj with q | q
    · subst q; exact ⟨h0, h1⟩
    · exact hf j q
theorem pTs_of {P : List Int → Prop} : ∀ {ys : List PD}, (∀ y ∈ ys, ∃ f : List Int, y = pT f ∧ P f) → ∃ fs : List (List Int), ys = fs.map pT ∧ ∀ f ∈ fs, P f
  | [], _ => ⟨[], rfl, fun _ h => nomatch h⟩
  | y :: ys, h => by
    obtain ⟨f, rfl, h0⟩ := h y List.mem_cons_self
    obtain ⟨fs, rfl, hf⟩ := pTs_of (ys := ys) fun z hz => h z (List.mem_cons_of_mem _ hz)
    refine ⟨f :: fs, rfl, fun j hj => ?_⟩
    rcases List.mem_cons.mp hj with q | q
    · subst q; exact h0
    · exact hf j q
/-- a drawn way: any numbers of the small order, as many as the whole one has worlds -/
theorem draw_way {ns : List Int} {W S : List (List Int)} {a d e f g h i j k l lp : Slot} {U : Src} (hW : IsO W) (hS : IsO S) (h9 : plainS (some h) = true) (ht : 0 ≤ U.turn ∧ U.turn < 700000000) :
    ∃ (F : List Int) (U' : Src), eC (eLC [9] (iS (eV 3)) (gN 9) (tYs) (eCallS 1 F__law_draw 1 (aCons (eC (eV 4) oLen) (aNil)))) oTupOf (wT ns a (.v (pO W)) (.v (pO S)) d e f g h i j k l lp .un U) = some (.fz (pT F), wT ns a (.v (pO W)) (.v (pO S)) d e f g h i j k l lp .un U')
      ∧ F.length = W.length ∧ (∀ x ∈ F, 0 ≤ x ∧ x < (S.length : Int)) ∧ Lt U U' 7 := by
  have hW7 := hW.n7
  have hS1 := hS.n1
  have hS7 := hS.n7
  obtain ⟨ys, w', e1, e2, e3, U', rfl, lt⟩ := lcL_run (vs := [9]) (tg := gN 9) (fe := eCallS 1 F__law_draw 1 (aCons (eC (eV 4) oLen) (aNil))) (fun n w => ∃ U' : Src, w = wT ns a (.v (pO W)) (.v (pO S)) d e f g .un i j k l lp .un U' ∧ Lt U U' (n : Int)) (fun y => ∃ x : Int, y = .int x ∧ 0 ≤ x ∧ x < (S.length : Int)) (W.map pT) [] (wT ns a (.v (pO W)) (.v (pO S)) d e f g .un i j k l lp .un U) 0 ⟨U, rfl, ⟨ht.1, by simp⟩⟩ (fun y hy n w hn hJ => by
    obtain ⟨U1, rfl, lt⟩ := hJ
    rw [List.length_map] at hn
    have lo := lt.lo
    have hi := lt.hi
    obtain ⟨x, U2, ed, x0, x1, t0, t1⟩ := (fun (p : ∃ (v : Int) (S' : Src), FDraw U1 [.int (S.length : Int)] = some (.int v, S') ∧ 0 ≤ v ∧ v < (S.length : Int) ∧ 0 ≤ S'.turn ∧ S'.turn ≤ U1.turn + 1) => p) (draw_ok U1 (S.length : Int) (by omega) (by omega))
    refine ⟨_, rfl, .int x, wT ns a (.v (pO W)) (.v (pO S)) d e f g (.v y) i j k l lp .un U2, eF_fz (eCallS_ok (w1 := wT ns a (.v (pO W)) (.v (pO S)) d e f g (.v y) i j k l lp .un U1) rfl (aCons_ok (eF_fz (eC_fz (eV_v rfl) (oLen_pO S))) aNil_ok) rfl (draw_eq69 ▸ ed)), ⟨x, rfl, x0, x1⟩, rfl, U2, rfl, ⟨t0, ?_⟩⟩
    push_cast
    omega) (by rw [List.length_map, List.length_nil]; unfold lim; omega)
  obtain ⟨F, rfl, hF⟩ := ints_of e3
  rw [Nat.zero_add, List.length_map] at lt
  rw [List.length_map, List.length_map] at e2
  have lo := lt.lo
  have hi := lt.hi
  refine ⟨F, U', ?_, e2, hF, ⟨lo, by omega⟩⟩
  have e4 : eLC [9] (iS (eV 3)) (gN 9) (tYs) (eCallS 1 F__law_draw 1 (aCons (eC (eV 4) oLen) (aNil))) (wT ns a (.v (pO W)) (.v (pO S)) d e f g h i j k l lp .un U) = some (.ow (.list (F.map PyData.int)), wT ns a (.v (pO W)) (.v (pO S)) d e f g h i j k l lp .un U') := by
    unfold eLC
    rw [show iS (eV 3) (wT ns a (.v (pO W)) (.v (pO S)) d e f g h i j k l lp .un U) = some (W.map pT, wT ns a (.v (pO W)) (.v (pO S)) d e f g h i j k l lp .un U) from iS_tup (eF_fz (eV_v rfl))]
    dsimp only
    rw [if_pos (plain1 (w := wT ns a (.v (pO W)) (.v (pO S)) d e f g h i j k l lp .un U) (v := 9) h9)]
    rw [show Wt.wipe (wT ns a (.v (pO W)) (.v (pO S)) d e f g h i j k l lp .un U) [9] = wT ns a (.v (pO W)) (.v (pO S)) d e f g .un i j k l lp .un U from rfl, e1]
    rfl
  exact eC_ow e4 rfl
theorem cutH3 (l : List PD) : oCutH (.list l) (.int 3) = some (.ow (.list (l.take 3))) := by
  show some (R.ow (.list (DL.cutD l none (some 3)))) = _
  have e : DL.cutD l none (some 3) = l.take 3 := by
    unfold DL.cutD
    simp [HT.sIx]
    try omega
  rw [e]
theorem cutL1 (f : List Int) : oCutL (pT f) (.int 1) = some (.fz (pT (f.drop 1))) := by
  show some (R.fz (.tuple (DL.cutD (f.map PyData.int) (some 1) none))) = _
  rw [cutD_1, ← List.map_drop]
  rfl
/-- the drawn ways -/
theorem draw_ways {ns : List Int} {W S : List (List Int)} {a e f g h i j k l : Slot} {U : Src} (FS : List (List Int)) (hW : IsO W) (hS : IsO S) (h9 : plainS (some h) = true) (ht : 0 ≤ U.turn ∧ U.turn < 600000000) (hFS : FS.length ≤ 16384) :
    ∃ (G : List (List Int)) (U' : Src), gAsg 6 (eC2 (eC2 (eV 5) (eD (.int 3)) oCutH) (eLC [14] (iR1 (aCons (eD (.int 3)) (aNil))) (gN 14) (tYs) (eC (eLC [9] (iS (eV 3)) (gN 9) (tYs) (eCallS 1 F__law_draw 1 (aCons (eC (eV 4) oLen) (aNil)))) oTupOf)) oAdd) (wT ns a (.v (pO W)) (.v (pO S)) (.v (.list (FS.map pT))) e f g h i j k l .un .un U)
      = some (.nx (wT ns a (.v (pO W)) (.v (pO S)) (.v (.list (FS.map pT))) (.o (.list ((FS.take 3 ++ G).map pT))) f g h i j k l .un .un U')) ∧ G.length = 3 ∧ (∀ F ∈ G, F.length = W.length ∧ ∀ x ∈ F, 0 ≤ x ∧ x < (S.length : Int)) ∧ Lt U U' 21 := by
  obtain ⟨ys, w', e1, e2, e3, U', rfl, lt⟩ := lcL_run (vs := [14]) (tg := gN 14) (fe := eC (eLC [9] (iS (eV 3)) (gN 9) (tYs) (eCallS 1 F__law_draw 1 (aCons (eC (eV 4) oLen) (aNil)))) oTupOf) (fun n w => ∃ U' : Src, w = wT ns a (.v (pO W)) (.v (pO S)) (.v (.list (FS.map pT))) e f g h i j k l .un .un U' ∧ Lt U U' (7 * (n : Int))) (fun y => ∃ F : List Int, y = pT F ∧ (F.length = W.length ∧ ∀ x ∈ F, 0 ≤ x ∧ x < (S.length : Int))) (rngP 3) [] (wT ns a (.v (pO W)) (.v (pO S)) (.v (.list (FS.map pT))) e f g h i j k l .un .un U) 0 ⟨U, rfl, ⟨ht.1, by simp⟩⟩ (fun y hy n w hn hJ => by
    obtain ⟨U1, rfl, lt⟩ := hJ
    have hn : n < 0 + 3 := hn
    have lo := lt.lo
    have hi := lt.hi
    obtain ⟨F, U2, ew, hl, hr, lt2⟩ := draw_way (ns := ns) (a := a) (d := .v (.list (FS.map pT))) (e := e) (f := f) (g := g) (i := i) (j := j) (k := k) (l := l) (lp := .v y) (U := U1) hW hS h9 (by omega)
    have lo2 := lt2.lo
    have hi2 := lt2.hi
    refine ⟨_, rfl, pT F, _, eF_fz ew, ⟨F, rfl, hl, hr⟩, rfl, U2, rfl, ⟨lo2, ?_⟩⟩
    push_cast
    omega) (by rw [List.length_nil]; show 0 + 3 < lim; decide)
  obtain ⟨G, rfl, hG⟩ := pTs_of e3
  have e2 : (G.map pT).length = 3 := e2
  rw [List.length_map] at e2
  have lt : Lt U U' (7 * ((0 + 3 : Nat) : Int)) := lt
  have lo := lt.lo
  have hi := lt.hi
  refine ⟨G, U', ?_, e2, hG, ⟨lo, by omega⟩⟩
  have e4 : eLC [14] (iR1 (aCons (eD (.int 3)) (aNil))) (gN 14) (tYs) (eC (eLC [9] (iS (eV 3)) (gN 9) (tYs) (eCallS 1 F__law_draw 1 (aCons (eC (eV 4) oLen) (aNil)))) oTupOf) (wT ns a (.v (pO W)) (.v (pO S)) (.v (.list (FS.map pT))) e f g h i j k l .un .un U) = some (.ow (.list (G.map pT)), wT ns a (.v (pO W)) (.v (pO S)) (.v (.list (FS.map pT))) e f g h i j k l .un .un U') := by
    exact eLC_of (w1 := wT ns a (.v (pO W)) (.v (pO S)) (.v (.list (FS.map pT))) e f g h i j k l .un .un U) (ds := rngP 3) rfl rfl e1
  have e5 : eC2 (eV 5) (eD (.int 3)) oCutH (wT ns a (.v (pO W)) (.v (pO S)) (.v (.list (FS.map pT))) e f g h i j k l .un .un U) = some (.ow (.list ((FS.take 3).map pT)), wT ns a (.v (pO W)) (.v (pO S)) (.v (.list (FS.map pT))) e f g h i j k l .un .un U) := eC2_ok (sees_v rfl) (.inl rfl) (by rw [cutH3, List.map_take])
  have e6 := eC2_ok' (op := oAdd) (r := .ow (.list ((FS.take 3 ++ G).map pT))) (.inr e5) (sees_ow e4) (by
    show (if ((FS.take 3).map pT).length + (G.map pT).length < lim then _ else none) = _
    rw [if_pos (by
      rw [List.length_map, List.length_map, e2, List.length_take]
      have := Nat.min_le_left 3 FS.length
      unfold lim
      omega), List.map_append])
  rw [gAsg_ow e6 (by show 6 < 16; decide)]
  rfl
end K67
set_option maxHeartbeats 1000000
/-! K67N1: is_order on any rows of ints. -/
namespace K67
open PySem PySem.Spec PyProof.Rows L2 DL
def rise (r : List Int) : Bool := (pairs2 (r.map PyData.int) ((r.drop 1).map PyData.int)).all ltD
theorem rise_iff : ∀ r : List Int, rise r = true ↔ r.Pairwise (· < ·)
  | [] => ⟨fun _ => List.Pairwise.nil, fun _ => rfl⟩
  | [x] => ⟨fun _ => List.pairwise_singleton _ _, fun _ => rfl⟩
  | x :: y :: r => by
    have ih := rise_iff (y :: r)
    have e : rise (x :: y :: r) = (decide (x < y) && rise (y :: r)) := rfl
    rw [e, Bool.and_eq_true, decide_eq_true_eq, ih]
    constructor
    · rintro ⟨h1, h2⟩
      refine List.pairwise_cons.mpr ⟨fun z hz => ?_, h2⟩
      rcases List.mem_cons.mp hz with q | q
      · rw [q]; exact h1
      · have := (List.pairwise_cons.mp h2).1 z q
        omega
    · intro h
      exact ⟨(List.pairwise_cons.mp h).1 y List.mem_cons_self, (List.pairwise_cons.mp h).2⟩
def okB (n : Int) (r : List Int) : Bool := (r.map PyData.int).all (inR n) && rise r
theorem okB_iff {n : Int} {r : List Int} : okB n r = true ↔ (∀ k ∈ r, 0 ≤ k ∧ k < n) ∧ r.Pairwise (· < ·) := by
  unfold okB
  rw [Bool.and_eq_true, inR_all, rise_iff]
theorem pairs2_ints : ∀ {a b : List Int} {d : PD}, d ∈ pairs2 (a.map PyData.int) (b.map PyData.int) → ∃ x y : Int, d = .tuple [.int x, .int y] := fun {a b d} h => by
  unfold pairs2 at h
  obtain ⟨i, hi⟩ := List.getElem?_of_mem h
  rw [List.getElem?_zipWith, List.getElem?_map, List.getElem?_map] at hi
  cases e1 : a[i]? with
  | none => rw [e1] at hi; cases hi
  | some r =>
    cases e2 : b[i]? with
    | none => rw [e1, e2] at hi; cases hi
    | some t => rw [e1, e2] at hi; cases hi; exact ⟨_, _, rfl⟩
theorem ev_is_rising' {r : List Int} (hl : r.length < 1000) : F_is_rising [pT r] = some (.ok (.bool (rise r))) := by
  have e1 := lc_all (vs := [1, 2]) (fi := iZ (aCons (eV 0) (aCons (eC2 (eV 0) (eD (.int 1)) oCutL) (aNil)))) (tg := gT 2 (gsCons (gN 1) (gsCons (gN 2) (gsNil)))) (fe := eC2 (eV 1) (eV 2) oLt) (w := ⟨[.v (pT r), .un, .un], ⟨[], [], 0, 0⟩⟩) (w1 := ⟨[.v (pT r), .un, .un], ⟨[], [], 0, 0⟩⟩) (ds := pairs2 (r.map PyData.int) ((r.drop 1).map PyData.int)) ltD (by
      have e : eC2 (eV 0) (eD (.int 1)) oCutL ⟨[.v (pT r), .un, .un], ⟨[], [], 0, 0⟩⟩ = some (.fz (.tuple ((r.drop 1).map PyData.int)), ⟨[.v (pT r), .un, .un], ⟨[], [], 0, 0⟩⟩) := eC2_ok (sees_v rfl) (.inl rfl) (by
        show some (R.fz (.tuple (DL.cutD (r.map PyData.int) (some 1) none))) = _
        rw [cutD_1, List.map_drop])
      unfold iZ
      rw [aCons_ok (eF_fz (eV_v rfl)) (aCons_ok (eF_fz e) aNil_ok)]
      rfl) rfl rfl (fun d hd => by
      obtain ⟨a, b, rfl⟩ := pairs2_ints hd
      exact ⟨⟨[.v (pT r), .v (.int a), .v (.int b)], ⟨[], [], 0, 0⟩⟩, rfl, rfl, rfl, rfl⟩) (by
      unfold pairs2
      rw [List.length_zipWith, List.length_map]
      unfold lim
      have := Nat.min_le_left r.length (List.map PyData.int (r.drop 1)).length
      omega)
  have e3 := eAnd_ok (a := true) (f := eC (eV 0) (oIsa PyData.isTuple)) (w := ⟨[.v (pT r), .un, .un], ⟨[], [], 0, 0⟩⟩) (eC_fz (eV_v rfl) (oIsa_ok (plain_pT r))) (fun _ => e1) (fun y => nomatch y)
  rw [Bool.true_and] at e3
  exact FB_rt (gRet_fz e3)
theorem ev_are_worlds' {r : List Int} {n : Int} (hl : r.length < 1000) : F_are_worlds [pT r, .int n] = some (.ok (.bool (okB n r))) := by
  have e1 := lc_all1 (v := 2) (fi := iS (eV 0)) (fe := eAnd (eCall F_is_whole 1 [] (aCons (eV 2) (aNil))) (eChn (fun i j => decide (i ≤ j)) (fun i j => decide (i < j)) (eD (.int 0)) (eV 2) (eV 1))) (w := ⟨[.v (pT r), .v (.int n), .un], ⟨[], [], 0, 0⟩⟩) (w1 := ⟨[.v (pT r), .v (.int n), .un], ⟨[], [], 0, 0⟩⟩) (inR n) (iS_tup (eF_fz (eV_v rfl))) rfl (by show 2 < 3; decide) (fun d hd => by
    obtain ⟨k, hk, rfl⟩ := List.mem_map.mp hd
    exact eF_fz (eAnd_ok (a := true) (eCall_ok (aCons_ok (eF_fz (eV_v rfl)) aNil_ok) rfl (ev_is_whole k)) (fun _ => eChn_ok (i := 0) (j := k) (k := n) rfl rfl fun _ => rfl) (fun y => nomatch y))) (by rw [List.length_map]; unfold lim; omega)
  have e3 := eAnd_ok (a := true) (f := eC (eV 0) (oIsa PyData.isTuple)) (w := ⟨[.v (pT r), .v (.int n), .un], ⟨[], [], 0, 0⟩⟩) (eC_fz (eV_v rfl) (oIsa_ok (plain_pT r))) (fun _ => eAnd_ok (g := eCall F_is_rising 1 [] (aCons (eV 0) (aNil))) e1 (fun _ => eCall_ok (w := ⟨[.v (pT r), .v (.int n), .un], ⟨[], [], 0, 0⟩⟩) (aCons_ok (eF_fz (eV_v rfl)) aNil_ok) rfl (ev_is_rising' hl)) (fun _ => rfl)) (fun y => nomatch y)
  rw [Bool.true_and] at e3
  exact FB_rt (gRet_fz e3)
/-- what is no tuple -/
theorem ev_are_worlds_nt {v : PD} {n : Int} (hp : v.plain = true) (ht : PyData.isTuple v = false) : F_are_worlds [v, .int n] = some (.ok (.bool false)) := by
  have e3 := eAnd_ok (a := PyData.isTuple v) (b := true) (f := eC (eV 0) (oIsa PyData.isTuple)) (g := eAnd (eC (eLC [2] (iS (eV 0)) (gN 2) (tYs) (eAnd (eCall F_is_whole 1 [] (aCons (eV 2) (aNil))) (eChn (fun i j => decide (i ≤ j)) (fun i j => decide (i < j)) (eD (.int 0)) (eV 2) (eV 1)))) oAll) (eCall F_is_rising 1 [] (aCons (eV 0) (aNil)))) (w := ⟨[.v v, .v (.int n), .un], ⟨[], [], 0, 0⟩⟩) (w2 := ⟨[.v v, .v (.int n), .un], ⟨[], [], 0, 0⟩⟩) (eC_fz (eV_v rfl) (oIsa_ok hp)) (fun y => by rw [ht] at y; cases y) (fun _ => rfl)
  rw [ht, Bool.false_and] at e3
  exact FB_rt (gRet_fz e3)
/-! ### shut -/
def shutR (O : List (List Int)) (row : List Int) : Bool := row.all fun k => (rowS O k).all fun x => decide (x ∈ row)
def shutB (O : List (List Int)) : Bool := O.all (shutR O)
def rowD (q : List Int → Bool) : PD → Bool
  | .tuple ds => q ((intsD ds).getD [])
  | _ => false
theorem rowD_pT (q : List Int → Bool) (r : List Int) : rowD q (pT r) = q r := by
  show q ((intsD (r.map PyData.int)).getD []) = _
  rw [intsD_of_map]; rfl
theorem rowD_all (q : List Int → Bool) : ∀ O : List (List Int), (O.map pT).all (rowD q) = O.all q
  | [] => rfl
  | r :: O => by rw [List.map_cons, List.all_cons, List.all_cons, rowD_pT, rowD_all q O]
def intD (q : Int → Bool) : PD → Bool
  | .int k => q k
  | _ => false
theorem intD_all (q : Int → Bool) : ∀ l : List Int, (l.map PyData.int).all (intD q) = l.all q
  | [] => rfl
  | r :: O => by rw [List.map_cons, List.all_cons, List.all_cons, intD_all q O]; rfl
structure Rows (O : List (List Int)) : Prop where
  n7 : O.length ≤ 7
  len : ∀ r ∈ O, r.length < 100
  ran : ∀ r ∈ O, ∀ k ∈ r, 0 ≤ k ∧ k < (O.length : Int)
theorem ev_is_shut' {O : List (List Int)} (h : Rows O) : F_is_shut [pO O] = some (.ok (.bool (shutB O))) := by
  obtain ⟨w', ⟨a, b, c, hc, rfl⟩, e3⟩ := fFor_all (tg := gN 1) (b := gSq (gAsg 2 (eDC [3] (iS (eV 1)) (gN 3) (tYs) (eV 3) (eD (.bool true)))) (gFor (iS (eV 1)) (gN 3) (gIf (tNt (tE (eC (eLC [4] (iS (eC2 (eV 0) (eV 3) oIx)) (gN 4) (tYs) (eC2 (eV 4) (eV 2) oIn)) oAll))) (gRet (eD (.bool false))) (gNx))))
    (fun w => ∃ (s1 s2 s3 : Slot), plainS (some s3) = true ∧ w = ⟨[.v (pO O), s1, s2, s3, .un], ⟨[], [], 0, 0⟩⟩) (rowD (shutR O)) (O.map pT) ⟨[.v (pO O), .un, .un, .un, .un], ⟨[], [], 0, 0⟩⟩ ⟨.un, .un, .un, rfl, rfl⟩ (fun d hd w hI => by
      obtain ⟨s1, s2, s3, q3, rfl⟩ := hI
      obtain ⟨row, hr, rfl⟩ := List.mem_map.mp hd
      rw [rowD_pT]
      have hlen := h.len row hr
      have e1 := eDC_ints (vs := [3]) (fi := iS (eV 1)) (tg := gN 3) (tt := tYs) (fk := eV 3) (fe := eD (.bool true)) (w := ⟨[.v (pO O), .v (pT row), s2, s3, .un], ⟨[], [], 0, 0⟩⟩) (w1 := ⟨[.v (pO O), .v (pT row), s2, s3, .un], ⟨[], [], 0, 0⟩⟩) (y := .bool true) (a := row) (fun _ => true) (iS_tup (eF_fz (eV_v rfl))) (plain1 q3) rest1 (fun k hk => ⟨⟨[.v (pO O), .v (pT row), s2, .v (.int k), .un], ⟨[], [], 0, 0⟩⟩, rfl, rfl, fun _ => ⟨rfl, rfl⟩, rfl, rfl⟩) (by unfold lim; omega)
      rw [List.filter_eq_self.mpr (fun _ _ => rfl)] at e1
      obtain ⟨w', ⟨s3', q3', rfl⟩, e3⟩ := fFor_all (tg := gN 3) (b := gIf (tNt (tE (eC (eLC [4] (iS (eC2 (eV 0) (eV 3) oIx)) (gN 4) (tYs) (eC2 (eV 4) (eV 2) oIn)) oAll))) (gRet (eD (.bool false))) (gNx))
        (fun w => ∃ (s3 : Slot), plainS (some s3) = true ∧ w = ⟨[.v (pO O), .v (pT row), .o (.dict (dctI (.bool true) [] row)), s3, .un], ⟨[], [], 0, 0⟩⟩) (intD fun k => (rowS O k).all fun x => decide (x ∈ row)) (row.map PyData.int) ⟨[.v (pO O), .v (pT row), .o (.dict (dctI (.bool true) [] row)), s3, .un], ⟨[], [], 0, 0⟩⟩ ⟨s3, q3, rfl⟩ (fun d hd w hI => by
          obtain ⟨s3, q3, rfl⟩ := hI
          obtain ⟨k, hk, rfl⟩ := List.mem_map.mp hd
          have hkO := h.ran row hr k hk
          have e2 := lc_all1 (v := 4) (fi := iS (eC2 (eV 0) (eV 3) oIx)) (fe := eC2 (eV 4) (eV 2) oIn) (w := ⟨[.v (pO O), .v (pT row), .o (.dict (dctI (.bool true) [] row)), .v (.int k), .un], ⟨[], [], 0, 0⟩⟩) (w1 := ⟨[.v (pO O), .v (pT row), .o (.dict (dctI (.bool true) [] row)), .v (.int k), .un], ⟨[], [], 0, 0⟩⟩) (intD fun x => decide (x ∈ row)) (iS_tup (eF_fz (eC2_ok (sees_v rfl) (sees_v rfl) (oIx_pO hkO.1 hkO.2)))) rfl (by show 4 < 5; decide) (fun d hd => by
            obtain ⟨x, hx, rfl⟩ := List.mem_map.mp hd
            exact eF_fz (eC2_ok (sees_v rfl) (sees_o rfl) (oIn_dct _ _ _))) (by rw [List.length_map]; have := h.len _ (rowS_mem hkO); unfold lim; omega)
          rw [intD_all] at e2
          refine ⟨_, rfl, ⟨[.v (pO O), .v (pT row), .o (.dict (dctI (.bool true) [] row)), .v (.int k), .un], ⟨[], [], 0, 0⟩⟩, ⟨_, rfl, rfl⟩, ?_⟩
          show _ = some (if ((rowS O k).all fun x => decide (x ∈ row)) = true then _ else _)
          cases y : (rowS O k).all fun x => decide (x ∈ row) with
          | true => rw [y] at e2; exact gIf_f (tNt_ok (tE_ok e2)) rfl
          | false => rw [y] at e2; exact gIf_t (tNt_ok (tE_ok e2)) rfl)
      rw [intD_all] at e3
      refine ⟨_, rfl, ⟨[.v (pO O), .v (pT row), .o (.dict (dctI (.bool true) [] row)), s3', .un], ⟨[], [], 0, 0⟩⟩, ⟨_, _, _, q3', rfl⟩, gSq_ok (w1 := ⟨[.v (pO O), .v (pT row), .o (.dict (dctI (.bool true) [] row)), s3, .un], ⟨[], [], 0, 0⟩⟩) (gAsg_ow e1 (by show 2 < 5; decide)) (gFor_ok (iS_tup (eF_fz (eV_v rfl))) e3)⟩)
  rw [rowD_all] at e3
  show F_is_shut [pO O] = some (.ok (.bool (O.all (shutR O))))
  cases y : O.all (shutR O) with
  | true =>
    rw [y, if_pos rfl] at e3
    exact FB_rt (w0 := ⟨[.v (pO O), .un, .un, .un, .un], ⟨[], [], 0, 0⟩⟩) (gSq_ok (gFor_ok (iS_tup (eF_fz (eV_v rfl))) e3) rfl)
  | false =>
    rw [y, if_neg (by decide)] at e3
    exact FB_rt (w0 := ⟨[.v (pO O), .un, .un, .un, .un], ⟨[], [], 0, 0⟩⟩) (gSq_rt (gFor_ok (iS_tup (eF_fz (eV_v rfl))) e3))
end K67
set_option maxHeartbeats 1000000
/-! K67N2: is_order and the law's is_order, of any rows. -/
namespace K67
open PySem PySem.Spec PyProof.Rows L2 DL
def rowI : PD → List Int
  | .tuple ds => (intsD ds).getD []
  | _ => []
theorem rowI_pT (r : List Int) : rowI (pT r) = r := by
  show (intsD (r.map PyData.int)).getD [] = _
  rw [intsD_of_map]; rfl
def rowQ : PD → Bool
  | .tuple [.int i, d] => PyData.isTuple d && okB i (rowI d)
  | _ => false
/-- a row: ints, or what is no tuple -/
def RowD (d : PD) : Prop := (∃ r : List Int, d = pT r ∧ r.length < 100) ∨ (d.plain = true ∧ PyData.isTuple d = false)
theorem RowD.plain {d : PD} (h : RowD d) : d.plain = true := by
  rcases h with ⟨r, rfl, _⟩ | h
  · exact plain_pT r
  · exact h.1
theorem plainAll_of : ∀ {D : List PD}, (∀ d ∈ D, d.plain = true) → PyData.plainAll D = true
  | [], _ => rfl
  | d :: D, h => by
    simp only [PyData.plainAll, Bool.and_eq_true]
    exact ⟨h d List.mem_cons_self, plainAll_of fun x hx => h x (List.mem_cons_of_mem _ hx)⟩
theorem plain_tup {D : List PD} (h : ∀ d ∈ D, RowD d) : (PyData.tuple D).plain = true := by
  simp only [PyData.plain]
  exact plainAll_of fun d hd => (h d hd).plain
theorem mem_pairs {D : List PD} {d : PD} (h : d ∈ pairsN 0 D) : ∃ (i : Nat) (x : PD), D[i]? = some x ∧ d = .tuple [.int (i : Int), x] := by
  obtain ⟨i, hi⟩ := List.getElem?_of_mem h
  rw [pairsN_get] at hi
  cases e : D[i]? with
  | none => rw [e] at hi; cases hi
  | some x => rw [e] at hi; cases hi; exact ⟨i, x, e, by rw [Nat.zero_add]⟩
theorem pairs_mem {D : List PD} {i : Nat} {x : PD} (h : D[i]? = some x) : PyData.tuple [.int (i : Int), x] ∈ pairsN 0 D := by
  refine List.mem_of_getElem? (i := i) ?_
  rw [pairsN_get, h, Nat.zero_add]
  rfl
/-- where all rows are right ones they are rows of ints -/
theorem rows_of {D : List PD} (h : ∀ d ∈ D, RowD d) (hq : (pairsN 0 D).all rowQ = true) (h7 : D.length ≤ 7) : D = (D.map rowI).map pT ∧ Rows (D.map rowI) := by
  have hr : ∀ (i : Nat) (x : PD), D[i]? = some x → ∃ r : List Int, x = pT r ∧ r.length < 100 ∧ okB (i : Int) r = true := fun i x hx => by
    have q := List.all_eq_true.mp hq _ (pairs_mem hx)
    have q : (PyData.isTuple x && okB (i : Int) (rowI x)) = true := q
    rw [Bool.and_eq_true] at q
    rcases h x (List.mem_of_getElem? hx) with ⟨r, rfl, hl⟩ | ⟨_, ht⟩
    · rw [rowI_pT] at q
      exact ⟨r, rfl, hl, q.2⟩
    · rw [ht] at q
      cases q.1
  constructor
  · rw [List.map_map]
    refine ((List.map_congr_left fun x hx => ?_).trans (List.map_id D)).symm
    obtain ⟨i, hi⟩ := List.getElem?_of_mem hx
    obtain ⟨r, rfl, _, _⟩ := hr i x hi
    show pT (rowI (pT r)) = pT r
    rw [rowI_pT]
  · refine ⟨by rw [List.length_map]; exact h7, fun r hrm => ?_, fun r hrm k hk => ?_⟩
    · obtain ⟨x, hx, rfl⟩ := List.mem_map.mp hrm
      obtain ⟨i, hi⟩ := List.getElem?_of_mem hx
      obtain ⟨r, rfl, hl, _⟩ := hr i x hi
      rw [rowI_pT]; exact hl
    · obtain ⟨x, hx, rfl⟩ := List.mem_map.mp hrm
      obtain ⟨i, hi⟩ := List.getElem?_of_mem hx
      obtain ⟨r, rfl, hl, ho⟩ := hr i x hi
      rw [rowI_pT] at hk
      have := (okB_iff.mp ho).1 k hk
      have := get_lt hi
      rw [List.length_map]
      omega
def ordD (D : List PD) : Bool := (pairsN 0 D).all rowQ && shutB (D.map rowI)
theorem len_test {n : Nat} {D : List PD} {w : Wt} (hw : w.sl[0]? = some (.v (.tuple D))) (hp : (PyData.tuple D).plain = true) :
    tOo (tNt (tE (eC (eV 0) (oIsa PyData.isTuple)))) (tNt (tE (eChn (fun i j => decide (i ≤ j)) (fun i j => decide (i ≤ j)) (eD (.int 1)) (eC (eV 0) oLen) (eD (.int 7))))) w = some (.b (false || !(decide ((1 : Int) ≤ (D.length : Int)) && decide ((D.length : Int) ≤ 7))), w) :=
  tOo_ok (a := false) (tNt_ok (b := true) (tE_ok (eC_fz (eV_v hw) (oIsa_ok hp)))) (fun _ => tNt_ok (tE_ok (eChn_ok (i := 1) (j := (D.length : Int)) (k := 7) rfl (eC_fz (eV_v hw) rfl) fun _ => rfl))) (fun y => nomatch y)
theorem len_ok {D : List PD} (h1 : 1 ≤ D.length) (h7 : D.length ≤ 7) : (false || !(decide ((1 : Int) ≤ (D.length : Int)) && decide ((D.length : Int) ≤ 7))) = false := by
  rw [decide_eq_true (show (1 : Int) ≤ (D.length : Int) by omega), decide_eq_true (show (D.length : Int) ≤ 7 by omega)]; rfl
theorem len_bad {D : List PD} (h7 : 8 ≤ D.length) : (false || !(decide ((1 : Int) ≤ (D.length : Int)) && decide ((D.length : Int) ≤ 7))) = true := by
  rw [decide_eq_true (show (1 : Int) ≤ (D.length : Int) by omega), decide_eq_false (show ¬ (D.length : Int) ≤ 7 by omega)]; rfl
theorem row_val {d : PD} (h : RowD d) (i : Nat) : F_are_worlds [d, .int (i : Int)] = some (.ok (.bool (PyData.isTuple d && okB (i : Int) (rowI d)))) := by
  rcases h with ⟨r, rfl, hl⟩ | ⟨hp, ht⟩
  · rw [rowI_pT]
    exact ev_are_worlds' (by omega)
  · rw [ht, Bool.false_and]
    exact ev_are_worlds_nt hp ht
theorem ev_is_order' {D : List PD} (h : ∀ d ∈ D, RowD d) (h1 : 1 ≤ D.length) (h7 : D.length ≤ 7) : F_is_order [.tuple D] = some (.ok (.bool (ordD D))) := by
  have t1 := len_test (n := 0) (D := D) (w := ⟨[.v (.tuple D), .un, .un], ⟨[], [], 0, 0⟩⟩) rfl (plain_tup h)
  rw [len_ok h1 h7] at t1
  have e1 := lc_all (vs := [1, 2]) (fi := iEA (aCons (eV 0) (aNil))) (tg := gT 2 (gsCons (gN 1) (gsCons (gN 2) (gsNil)))) (fe := eCall F_are_worlds 2 [] (aCons (eV 2) (aCons (eV 1) (aNil)))) (w := ⟨[.v (.tuple D), .un, .un], ⟨[], [], 0, 0⟩⟩) (w1 := ⟨[.v (.tuple D), .un, .un], ⟨[], [], 0, 0⟩⟩) (ds := pairsN 0 D) rowQ (by
      unfold iEA
      rw [aCons_ok (eF_fz (eV_v rfl)) aNil_ok]) rfl rfl (fun d hd => by
      obtain ⟨i, x, hx, rfl⟩ := mem_pairs hd
      exact ⟨⟨[.v (.tuple D), .v (.int (i : Int)), .v x], ⟨[], [], 0, 0⟩⟩, rfl, eF_fz (eCall_ok (aCons_ok (eF_fz (eV_v rfl)) (aCons_ok (eF_fz (eV_v rfl)) aNil_ok)) rfl (row_val (h x (List.mem_of_getElem? hx)) i)), rfl, rfl⟩) (by
      rw [pairsN_len]
      unfold lim
      omega)
  have e3 := eAnd_ok (b := shutB (D.map rowI)) (g := eCall F_is_shut 1 [] (aCons (eV 0) (aNil))) e1 (fun hq => by
    obtain ⟨eD, hR⟩ := rows_of h hq h7
    refine eCall_ok (F := F_is_shut) (w := ⟨[.v (.tuple D), .un, .un], ⟨[], [], 0, 0⟩⟩) (aCons_ok (eF_fz (eV_v rfl)) aNil_ok) rfl ?_
    have := ev_is_shut' hR
    unfold pO at this
    rw [← eD] at this
    exact this) (fun _ => rfl)
  exact FB_rt (w0 := ⟨[.v (.tuple D), .un, .un], ⟨[], [], 0, 0⟩⟩) (gSq_ok (gIf_f t1 rfl) (gRet_fz e3))
theorem ev_is_order_long {D : List PD} (hp : (PyData.tuple D).plain = true) (h7 : 8 ≤ D.length) : F_is_order [.tuple D] = some (.ok (.bool false)) := by
  have t1 := len_test (n := 0) (D := D) (w := ⟨[.v (.tuple D), .un, .un], ⟨[], [], 0, 0⟩⟩) rfl hp
  rw [len_bad h7] at t1
  exact FB_rt (w0 := ⟨[.v (.tuple D), .un, .un], ⟨[], [], 0, 0⟩⟩) (gSq_rt (gIf_t t1 rfl))
theorem ev__law_is_order_long {D : List PD} (hp : (PyData.tuple D).plain = true) (h7 : 8 ≤ D.length) : F__law_is_order [.tuple D] = some (.ok (.bool false)) := by
  have t1 := len_test (n := 0) (D := D) (w := ⟨[.v (.tuple D), .un, .un, .un, .un], ⟨[], [], 0, 0⟩⟩) rfl hp
  rw [len_bad h7] at t1
  exact FB_rt (w0 := ⟨[.v (.tuple D), .un, .un, .un, .un], ⟨[], [], 0, 0⟩⟩) (gSq_rt (gIf_t t1 rfl))
/-! ### the law's -/
abbrev wLO (D : List PD) (a b : Slot) : Wt := ⟨[.v (.tuple D), a, b, .un, .un], ⟨[], [], 0, 0⟩⟩
abbrev badO : TFn := tOo (tNt (tE (eC (eV 3) (oIsa PyData.isInt)))) (tOo (tE (eC (eV 3) (oIsa PyData.isBool))) (tNt (tE (eChn (fun i j => decide (i ≤ j)) (fun i j => decide (i < j)) (eD (.int 0)) (eV 3) (eV 1)))))
abbrev loB : SF := gSq (gIf (tOo (tNt (tE (eC (eV 2) (oIsa PyData.isTuple)))) (tE (eC2 (eLC [3] (iS (eV 2)) (gN 3) badO (eD (.int 1))) (eLst (aNil)) oNe))) (gRet (eD (.bool false))) (gNx))
  (gIf (tE (eC2 (eC (eV 2) oLstOf) (eC (eV 2) oSrtSet) oNe)) (gRet (eD (.bool false))) (gNx))
theorem sorted_iff {r : List Int} : r = sortU r ↔ r.Pairwise (· < ·) := by
  constructor
  · intro e
    rw [e]; exact sortU_lt r
  · intro h
    exact asc_eq h (sortU_lt r) fun k => (mem_sortU r k).symm
theorem lo_body {D : List PD} {x : PD} (h : RowD x) (i : Nat) : loB (wLO D (.v (.int (i : Int))) (.v x)) = some (if (PyData.isTuple x && okB (i : Int) (rowI x)) = true then .nx (wLO D (.v (.int (i : Int))) (.v x)) else .rt (.bool false) (wLO D (.v (.int (i : Int))) (.v x))) := by
  rcases h with ⟨r, rfl, hl⟩ | ⟨hp, ht⟩
  · rw [rowI_pT]
    have e2 := eLC1 (v := 3) (fi := iS (eV 2)) (tt := badO) (fe := eD (.int 1)) (w := wLO D (.v (.int (i : Int))) (.v (pT r))) (w1 := wLO D (.v (.int (i : Int))) (.v (pT r))) (pI fun k => !(decide (0 ≤ k) && decide (k < (i : Int)))) (fun _ => .int 1) (iS_tup (eF_fz (eV_v rfl))) rfl (by show 3 < 5; decide) (fun d hd => by
      obtain ⟨k, hk, rfl⟩ := List.mem_map.mp hd
      refine ⟨?_, fun _ => rfl⟩
      show badO ⟨[.v (.tuple D), .v (.int (i : Int)), .v (pT r), .v (.int k), .un], ⟨[], [], 0, 0⟩⟩ = some (.b (false || (false || !(decide (0 ≤ k) && decide (k < (i : Int))))), ⟨[.v (.tuple D), .v (.int (i : Int)), .v (pT r), .v (.int k), .un], ⟨[], [], 0, 0⟩⟩)
      exact tOo_ok (a := false) rfl (fun _ => tOo_ok (a := false) rfl (fun _ => tNt_ok (tE_ok (eChn_ok (i := 0) (j := k) (k := (i : Int)) rfl rfl fun _ => rfl))) (fun y => nomatch y)) (fun y => nomatch y)) (by rw [List.length_map]; unfold lim; omega)
    rw [filt_one] at e2
    have t2 := tE_ok (eC2_ok (sees_ow e2) (sees_ow eLst_nil) (oNe_ones _))
    rw [bad_empty] at t2
    have t3 := tOo_ok (f := tNt (tE (eC (eV 2) (oIsa PyData.isTuple)))) (a := false) (tNt_ok (b := true) (tE_ok (eC_fz (eV_v rfl) (oIsa_ok (plain_pT r))))) (fun _ => t2) (fun y => nomatch y)
    have t4 := tE_ok (eC2_ok (f := eC (eV 2) oLstOf) (g := eC (eV 2) oSrtSet) (w := wLO D (.v (.int (i : Int))) (.v (pT r))) (sees_ow (d := .list (r.map PyData.int)) (eC_fz (eV_v rfl) rfl)) (sees_ow (eC_fz (eV_v rfl) (oSrt_tup (show r.length < 4000 by omega)))) (oNe_lst _ _))
    have er : decide (r = sortU r) = rise r := by
      rw [Bool.eq_iff_iff, decide_eq_true_eq, rise_iff, sorted_iff]
    rw [er] at t4
    show loB _ = some (if (true && okB (i : Int) r) = true then _ else _)
    rw [Bool.true_and]
    unfold okB
    cases y : (r.map PyData.int).all (inR (i : Int)) with
    | false =>
      rw [y] at t3
      rw [Bool.false_and, if_neg (by decide)]
      exact gSq_rt (gIf_t t3 rfl)
    | true =>
      rw [y] at t3
      rw [Bool.true_and]
      cases z : rise r with
      | false =>
        rw [z] at t4
        rw [if_neg (by decide)]
        exact gSq_ok (gIf_f t3 rfl) (gIf_t t4 rfl)
      | true =>
        rw [z] at t4
        rw [if_pos rfl]
        exact gSq_ok (gIf_f t3 rfl) (gIf_f t4 rfl)
  · rw [ht, Bool.false_and, if_neg (by decide)]
    have t3 := tOo_ok (f := tNt (tE (eC (eV 2) (oIsa PyData.isTuple)))) (g := tE (eC2 (eLC [3] (iS (eV 2)) (gN 3) badO (eD (.int 1))) (eLst (aNil)) oNe)) (w := wLO D (.v (.int (i : Int))) (.v x)) (w1 := wLO D (.v (.int (i : Int))) (.v x)) (w2 := wLO D (.v (.int (i : Int))) (.v x)) (a := true) (b := true) (by
      have := tNt_ok (tE_ok (eC_fz (f := eV 2) (w := wLO D (.v (.int (i : Int))) (.v x)) (eV_v rfl) (oIsa_ok (B := PyData.isTuple) hp)))
      rw [ht] at this
      exact this) (fun y => nomatch y) (fun _ => rfl)
    exact gSq_rt (gIf_t t3 rfl)
abbrev loS : SF := gIf (tE (eC2 (eLC [3] (iS (eV 2)) (gN 3) (tE (eC2 (eLC [4] (iS (eC2 (eV 0) (eV 3) oIx)) (gN 4) (tE (eC2 (eV 4) (eV 2) oNin)) (eV 4)) (eLst (aNil)) oNe)) (eD (.int 1))) (eLst (aNil)) oNe)) (gRet (eD (.bool false))) (gNx)
theorem oNe_l00 (l : List Int) : oNe (.list (l.map PyData.int)) (.list []) = some (.fz (.bool (!l.isEmpty))) := by
  refine (oNe_lst l []).trans ?_
  cases l with
  | nil => rfl
  | cons x r => rfl
theorem not_all (p : Int → Bool) : ∀ l : List Int, (l.filter fun k => !p k).isEmpty = l.all p
  | [] => rfl
  | x :: l => by
    rw [List.filter_cons, List.all_cons, ← not_all p l]
    cases p x <;> rfl
theorem lo_shut {O : List (List Int)} (h : Rows O) {row : List Int} (hr : row ∈ O) (a : Slot) : loS (wLO (O.map pT) a (.v (pT row))) = some (if shutR O row = true then .nx (wLO (O.map pT) a (.v (pT row))) else .rt (.bool false) (wLO (O.map pT) a (.v (pT row)))) := by
  have hlen := h.len row hr
  have e1 := eLC1 (v := 3) (fi := iS (eV 2)) (tt := tE (eC2 (eLC [4] (iS (eC2 (eV 0) (eV 3) oIx)) (gN 4) (tE (eC2 (eV 4) (eV 2) oNin)) (eV 4)) (eLst (aNil)) oNe)) (fe := eD (.int 1)) (w := wLO (O.map pT) a (.v (pT row))) (w1 := wLO (O.map pT) a (.v (pT row))) (pI fun k => !((rowS O k).all fun x => decide (x ∈ row))) (fun _ => .int 1) (iS_tup (eF_fz (eV_v rfl))) rfl (by show 3 < 5; decide) (fun d hd => by
    obtain ⟨k, hk, rfl⟩ := List.mem_map.mp hd
    refine ⟨?_, fun _ => rfl⟩
    have hkO := h.ran row hr k hk
    have e2 := eLC1 (v := 4) (fi := iS (eC2 (eV 0) (eV 3) oIx)) (tt := tE (eC2 (eV 4) (eV 2) oNin)) (fe := eV 4) (w := ⟨[.v (pO O), a, .v (pT row), .v (.int k), .un], ⟨[], [], 0, 0⟩⟩) (w1 := ⟨[.v (pO O), a, .v (pT row), .v (.int k), .un], ⟨[], [], 0, 0⟩⟩) (pI fun x => !decide (x ∈ row)) id (iS_tup (eF_fz (eC2_ok (sees_v rfl) (sees_v rfl) (oIx_pO hkO.1 hkO.2)))) rfl (by show 4 < 5; decide) (fun d hd => by
      obtain ⟨x, hx, rfl⟩ := List.mem_map.mp hd
      exact ⟨tE_ok (eC2_ok (sees_v rfl) (sees_v rfl) (oNin_tup row x)), fun _ => eF_fz (eV_v rfl)⟩) (by rw [List.length_map]; have := h.len _ (rowS_mem hkO); unfold lim; omega)
    rw [filt_ints] at e2
    have t := tE_ok (eC2_ok (sees_ow e2) (sees_ow eLst_nil) (oNe_l00 _))
    rw [not_all] at t
    exact t) (by rw [List.length_map]; unfold lim; omega)
  rw [filt_one] at e1
  have t := tE_ok (eC2_ok (sees_ow e1) (sees_ow eLst_nil) (oNe_ones _))
  rw [not_all] at t
  show _ = some (if (row.all fun k => (rowS O k).all fun x => decide (x ∈ row)) = true then _ else _)
  cases y : row.all fun k => (rowS O k).all fun x => decide (x ∈ row) with
  | true => rw [y] at t; exact gIf_f t rfl
  | false => rw [y] at t; exact gIf_t t rfl
theorem ev__law_is_order' {D : List PD} (h : ∀ d ∈ D, RowD d) (h1 : 1 ≤ D.length) (h7 : D.length ≤ 7) : F__law_is_order [.tuple D] = some (.ok (.bool (ordD D))) := by
  have t1 := len_test (n := 0) (D := D) (w := wLO D .un .un) rfl (plain_tup h)
  rw [len_ok h1 h7] at t1
  obtain ⟨w', ⟨a, b, rfl⟩, e4⟩ := fFor_all (tg := gT 2 (gsCons (gN 1) (gsCons (gN 2) (gsNil)))) (b := loB) (fun w => ∃ a b, w = wLO D a b) rowQ (pairsN 0 D) (wLO D .un .un) ⟨_, _, rfl⟩ (fun d hd w hI => by
    obtain ⟨a, b, rfl⟩ := hI
    obtain ⟨i, x, hx, rfl⟩ := mem_pairs hd
    exact ⟨_, rfl, _, ⟨_, _, rfl⟩, lo_body (D := D) (h x (List.mem_of_getElem? hx)) i⟩)
  have e5 : iEA (aCons (eV 0) (aNil)) (wLO D .un .un) = some (pairsN 0 D, wLO D .un .un) := by
    unfold iEA
    rw [aCons_ok (eF_fz (eV_v rfl)) aNil_ok]
  unfold ordD
  cases y : (pairsN 0 D).all rowQ with
  | false =>
    rw [y, if_neg (by decide)] at e4
    rw [Bool.false_and]
    exact FB_rt (w0 := wLO D .un .un) (gSq_ok (gIf_f t1 rfl) (gSq_rt (gFor_ok e5 e4)))
  | true =>
    rw [y, if_pos rfl] at e4
    rw [Bool.true_and]
    obtain ⟨eD, hR⟩ := rows_of h y h7
    generalize hO : D.map rowI = O at eD hR ⊢
    subst eD
    obtain ⟨w', ⟨a2, b2, rfl⟩, e6⟩ := fFor_all (tg := gN 2) (b := loS) (fun w => ∃ a b, w = wLO (O.map pT) a b) (rowD (shutR O)) (O.map pT) (wLO (O.map pT) a b) ⟨_, _, rfl⟩ (fun d hd w hI => by
      obtain ⟨a, b, rfl⟩ := hI
      obtain ⟨row, hr, rfl⟩ := List.mem_map.mp hd
      rw [rowD_pT]
      exact ⟨_, rfl, _, ⟨_, _, rfl⟩, lo_shut hR hr a⟩)
    rw [rowD_all] at e6
    show F__law_is_order [pO O] = some (.ok (.bool (O.all (shutR O))))
    cases z : O.all (shutR O) with
    | true =>
      rw [z, if_pos rfl] at e6
      exact FB_rt (w0 := wLO (O.map pT) .un .un) (gSq_ok (gIf_f t1 rfl) (gSq_ok (gFor_ok e5 e4) (gSq_ok (gFor_ok (iS_tup (eF_fz (eV_v rfl))) e6) rfl)))
    | false =>
      rw [z, if_neg (by decide)] at e6
      exact FB_rt (w0 := wLO (O.map pT) .un .un) (gSq_ok (gIf_f t1 rfl) (gSq_ok (gFor_ok e5 e4) (gSq_rt (gFor_ok (iS_tup (eF_fz (eV_v rfl))) e6))))
end K67
set_option maxHeartbeats 1000000
/-! K67N3: lots. -/
namespace K67
open PySem PySem.Spec PyProof.Rows L2 DL
theorem eLCo1 {v j : Nat} {tt : TFn} {fe : EF} {w : Wt} {ds : List PD} (p : PD → Bool) (h : PD → PD) (hj : w.sl[j]? = some (.o (.list ds))) (hpl : PyData.plainAll ds = true) (hv : plainS w.sl[v]? = true) (hl : v < w.sl.length) (hjv : j ≠ v)
    (hs : ∀ d ∈ ds, tt (w.at v (.v d)) = some (.b (p d), w.at v (.v d)) ∧ (p d = true → eF fe (w.at v (.v d)) = some (.fz (h d), w.at v (.v d)))) (hn : ds.length < lim) :
    eLCo [v] j (gN v) tt fe w = some (.ow (.list ((ds.filter p).map h)), w) := by
  have rf : peqN (.list ds) (.list ds) = true := peqN_refl (.list ds) (by simpa only [PyData.plain] using hpl)
  have own : ownIs (w.wipe [v]) j ds = true := by
    unfold ownIs
    rw [wipe1, at_other hjv, hj]
    exact rf
  have e := lcL_ev (vs := [v]) (tg := tgO j ds (gN v)) (tt := tt) (fe := fe) (w := w.wipe [v]) p h ds [] (fun d hd => by
    obtain ⟨h1, h2⟩ := hs d hd
    refine ⟨w.at v (.v d), ?_, h1, h2, plain1 (by rw [at_same hl]; rfl), ?_⟩
    · unfold tgO
      rw [if_pos own]
      unfold gN
      rw [if_pos (by rw [wipe1, at_len]; exact hl), wipe1, at_at]
    · rw [wipe1, wipe1, at_at]) (by simpa using hn)
  unfold eLCo
  rw [hj]
  dsimp only
  rw [if_pos (plain1 hv), e]
  dsimp only
  rw [if_pos own, rest1, List.nil_append]
theorem gAugL_ok {i : Nat} {f : EF} {w : Wt} {ds es : List PD} (h0 : w.sl[i]? = some (.o (.list ds))) (hf : f w = some (.ow (.list es), w)) (h1 : ds.length < lim) (h2 : es.length < lim) : gAugL i f w = some (.nx (w.at i (.o (.list (ds ++ es))))) := by
  unfold gAugL
  rw [h0]
  dsimp only
  rw [eF_ow hf]
  dsimp only
  rw [h0]
  dsimp only
  rw [if_pos ⟨h1, h2⟩]
theorem eTup_1 {f : EF} {w w1 : Wt} {d : PD} (h : eF f w = some (.fz d, w1)) : eTup (aCons f aNil) w = some (.fz (.tuple [d]), w1) := by
  unfold eTup eA
  rw [aCons_ok h aNil_ok]
  rfl
def inAll (r l : List Int) : Bool := r.all fun k => decide (k ∈ l)
def lotS (O : List (List Int)) (fs : List (List Int)) (i : Nat) : List (List Int) := fs ++ (fs.filter (inAll (rowS O (i : Int)))).map fun l => l ++ [(i : Int)]
def lotsN (O : List (List Int)) : Nat → List (List Int)
  | 0 => [[]]
  | n + 1 => lotS O (lotsN O n) n
theorem lots_hd (O : List (List Int)) : ∀ n, ∃ t, lotsN O n = [] :: t
  | 0 => ⟨[], rfl⟩
  | n + 1 => by
    obtain ⟨t, e⟩ := lots_hd O n
    refine ⟨t ++ (([] :: t).filter (inAll (rowS O (n : Int)))).map fun l => l ++ [(n : Int)], ?_⟩
    show lotS O (lotsN O n) n = _
    rw [e]
    rfl
theorem lots_len (O : List (List Int)) : ∀ n, (lotsN O n).length ≤ 2 ^ n
  | 0 => Nat.le_refl _
  | n + 1 => by
    have := lots_len O n
    show (lotsN O n ++ _).length ≤ _
    rw [List.length_append, List.length_map, Nat.pow_succ]
    have := List.length_filter_le (inAll (rowS O (n : Int))) (lotsN O n)
    omega
theorem lots_sm (O : List (List Int)) : ∀ n, ∀ l ∈ lotsN O n, l.length ≤ n ∧ ∀ k ∈ l, 0 ≤ k ∧ k < (n : Int)
  | 0, l, h => by
    have e : l = [] := by simpa [lotsN] using h
    subst e
    exact ⟨Nat.le_refl _, fun _ z => nomatch z⟩
  | n + 1, l, h => by
    rcases List.mem_append.mp h with z | z
    · obtain ⟨a, b⟩ := lots_sm O n l z
      exact ⟨by omega, fun k hk => by have := b k hk; omega⟩
    · obtain ⟨m, hm, rfl⟩ := List.mem_map.mp z
      obtain ⟨a, b⟩ := lots_sm O n m (List.mem_filter.mp hm).1
      refine ⟨by rw [List.length_append]; simp; omega, fun k hk => ?_⟩
      rcases List.mem_append.mp hk with y | y
      · have := b k y; omega
      · rw [List.mem_singleton.mp y]; omega
theorem lots_filt (q : List Int → Bool) (i : Int) : ∀ fs : List (List Int), ((fs.map pT).filter (rowD q)).map (fun d => pT (rowI d ++ [i])) = ((fs.filter q).map fun l => l ++ [i]).map pT
  | [] => rfl
  | f :: fs => by
    rw [List.map_cons, List.filter_cons, List.filter_cons, rowD_pT]
    cases q f with
    | true => rw [if_pos rfl, if_pos rfl, List.map_cons, List.map_cons, List.map_cons, lots_filt q i fs, rowI_pT]
    | false => rw [if_neg (by decide), if_neg (by decide), lots_filt q i fs]
theorem srtT_pT {fs : List (List Int)} (h : ∃ t, fs = [] :: t) : oSrtT (.list (fs.map pT)) = some (.ow (.list ((sortT fs).map pT))) := by
  obtain ⟨t, rfl⟩ := h
  show (match tupsD (([] :: t).map tupI) with | some ([] :: fs) => some (R.ow (.list ((sortT ([] :: fs)).map tupI))) | _ => none) = _
  rw [tupsD_of]
  rfl
def lots (O : List (List Int)) : List (List Int) := sortT (lotsN O O.length)
abbrev wU (O fs : List (List Int)) (a b : Slot) : Wt := ⟨[.v (pO O), .o (.list (fs.map pT)), a, b, .un, .un], ⟨[], [], 0, 0⟩⟩
theorem up_step {O : List (List Int)} (hO : IsO O) {n : Nat} {r : List Int} (hr : O[n]? = some r) :
    gAugL 1 (eLCo [4] 1 (gN 4) (tE (eC (eLC [5] (iS (eV 3)) (gN 5) (tYs) (eC2 (eV 5) (eV 4) oIn)) oAll)) (eC2 (eV 4) (eTup (aCons (eV 2) (aNil))) oAdd)) (wU O (lotsN O n) (.v (.int (n : Int))) (.v (pT r))) = some (.nx (wU O (lotsN O (n + 1)) (.v (.int (n : Int))) (.v (pT r)))) := by
  have hn := get_lt hr
  have h7 := hO.n7
  have hl := lots_len O n
  have h2 : 2 ^ n ≤ 2 ^ 7 := Nat.pow_le_pow_right (by decide) (by omega)
  have hrl := (hO.lw n r hr).1
  have e1 := eLCo1 (v := 4) (j := 1) (tt := tE (eC (eLC [5] (iS (eV 3)) (gN 5) (tYs) (eC2 (eV 5) (eV 4) oIn)) oAll)) (fe := eC2 (eV 4) (eTup (aCons (eV 2) (aNil))) oAdd) (w := wU O (lotsN O n) (.v (.int (n : Int))) (.v (pT r))) (ds := (lotsN O n).map pT) (rowD (inAll r)) (fun d => pT (rowI d ++ [(n : Int)])) rfl (plainAll_pT _) rfl (by show 4 < 6; decide) (by decide) (fun d hd => by
    obtain ⟨l, hlm, rfl⟩ := List.mem_map.mp hd
    obtain ⟨a, b⟩ := lots_sm O n l hlm
    rw [rowD_pT]
    refine ⟨?_, fun _ => ?_⟩
    · have e2 := lc_all1 (v := 5) (fi := iS (eV 3)) (fe := eC2 (eV 5) (eV 4) oIn) (w := ⟨[.v (pO O), .o (.list ((lotsN O n).map pT)), .v (.int (n : Int)), .v (pT r), .v (pT l), .un], ⟨[], [], 0, 0⟩⟩) (w1 := ⟨[.v (pO O), .o (.list ((lotsN O n).map pT)), .v (.int (n : Int)), .v (pT r), .v (pT l), .un], ⟨[], [], 0, 0⟩⟩) (intD fun k => decide (k ∈ l)) (iS_tup (eF_fz (eV_v rfl))) rfl (by show 5 < 6; decide) (fun d hd => by
        obtain ⟨x, hx, rfl⟩ := List.mem_map.mp hd
        exact eF_fz (eC2_ok (sees_v rfl) (sees_v rfl) (oIn_tup _ _))) (by rw [List.length_map]; unfold lim; omega)
      rw [intD_all] at e2
      exact tE_ok e2
    · rw [rowI_pT]
      exact eF_fz (eC2_ok (sees_v rfl) (.inl (eTup_1 (d := .int (n : Int)) (eF_fz (eV_v rfl)))) (oAdd_pT l n (by omega)))) (by rw [List.length_map]; unfold lim; omega)
  rw [lots_filt] at e1
  have e3 := gAugL_ok (i := 1) (w := wU O (lotsN O n) (.v (.int (n : Int))) (.v (pT r))) rfl e1 (by rw [List.length_map]; unfold lim; omega) (by
    rw [List.length_map, List.length_map]
    have := List.length_filter_le (inAll r) (lotsN O n)
    unfold lim
    omega)
  rw [← List.map_append] at e3
  refine e3.trans ?_
  have er : lotsN O (n + 1) = lotsN O n ++ ((lotsN O n).filter (inAll r)).map fun l => l ++ [(n : Int)] := by
    show lotS O (lotsN O n) n = _
    unfold lotS
    rw [rowS_get hr]
  rw [er]
  rfl
theorem ev_up_lots {O : List (List Int)} (hO : IsO O) : F_up_lots [pO O] = some (.ok (.list ((lots O).map pT))) := by
  obtain ⟨w', e1, a, b, rfl⟩ := fFor_inv (tg := gT 2 (gsCons (gN 2) (gsCons (gN 3) (gsNil)))) (b := gAugL 1 (eLCo [4] 1 (gN 4) (tE (eC (eLC [5] (iS (eV 3)) (gN 5) (tYs) (eC2 (eV 5) (eV 4) oIn)) oAll)) (eC2 (eV 4) (eTup (aCons (eV 2) (aNil))) oAdd)))
    (fun n w => ∃ a b, w = wU O (lotsN O n) a b) (pairsN 0 (O.map pT)) 0 (wU O (lotsN O 0) .un .un) ⟨_, _, rfl⟩ (fun n d w hd hI => by
      obtain ⟨a, b, rfl⟩ := hI
      rw [Nat.zero_add] at *
      rw [pairsN_get] at hd
      cases e : (O.map pT)[n]? with
      | none => rw [e] at hd; cases hd
      | some x =>
        rw [e] at hd
        cases hd
        obtain ⟨r, hr, rfl⟩ := row_get e
        rw [Nat.zero_add]
        exact ⟨_, _, rfl, up_step hO hr, _, _, rfl⟩)
  rw [Nat.zero_add, pairsN_len, List.length_map] at e1
  have e2 : iEA (aCons (eV 0) (aNil)) (wU O (lotsN O 0) .un .un) = some (pairsN 0 (O.map pT), wU O (lotsN O 0) .un .un) := by
    unfold iEA
    rw [aCons_ok (eF_fz (eV_v rfl)) aNil_ok]
    rfl
  exact FB_rt (w0 := ⟨[.v (pO O), .un, .un, .un, .un, .un], ⟨[], [], 0, 0⟩⟩) (gSq_ok (w1 := wU O (lotsN O 0) .un .un) rfl (gSq_ok (gFor_ok e2 e1) (gRet_ow (eC_pk (eV_o rfl) rfl (srtT_pT (lots_hd O O.length))))))
theorem ev_lots_up {O : List (List Int)} (hO : IsO O) : F_lots_up [pO O] = some (.ok (.list ((lots O).map pT))) :=
  FB_rt (w0 := ⟨[.v (pO O)], ⟨[], [], 0, 0⟩⟩) (w := ⟨[.v (pO O)], ⟨[], [], 0, 0⟩⟩) (gSq_ok (need_nx hO rfl) (gRet_fz (eCall_ok (aCons_ok (eF_fz (eV_v rfl)) aNil_ok) rfl (ev_up_lots hO))))
/-! ### the law's -/
abbrev wLL (O fs : List (List Int)) (o : Bool) (a : Slot) : Wt := ⟨[.v (pO O), (if o then .o (.list (fs.map pT)) else .v (.list (fs.map pT))), a, .un, .un], ⟨[], [], 0, 0⟩⟩
theorem eC2_pk {f g : EF} {op : PD → PD → Option DL.R} {w w2 : Wt} {i : Nat} {d e : PD} {r : DL.R} (h1 : f w = some (.pk i, w)) (h2 : g w = some (.ow e, w2)) (h3 : w2.sl[i]? = some (.v d)) (ho : op d e = some r) : eC2 f g op w = some (r, w2) := by
  unfold eC2 eB
  rw [h1]
  show eK (g w) (fun r' => kC2 op (.pk i) r') = _
  rw [h2]
  show (w2.cont (.pk i)).bind (fun d => (op d e).map fun q => (q, w2)) = _
  unfold Wt.cont
  simp only [h3, Option.bind_some, ho, Option.map_some]
theorem emp_dec (l : List Int) : decide (l = []) = l.isEmpty := by cases l <;> simp
theorem lots_step {O : List (List Int)} (hO : IsO O) {n : Nat} (hn : n < O.length) : gAsg 1 (eC2 (eV 1) (eLC [3] (iS (eV 1)) (gN 3) (tE (eC2 (eLC [4] (iS (eC2 (eV 0) (eV 2) oIx)) (gN 4) (tE (eC2 (eV 4) (eV 3) oNin)) (eV 4)) (eLst (aNil)) oEq)) (eC2 (eV 3) (eTup (aCons (eV 2) (aNil))) oAdd)) oAdd) (wLL O (lotsN O n) true (.v (.int (n : Int)))) = some (.nx (wLL O (lotsN O (n + 1)) true (.v (.int (n : Int))))) := by
  have h7 := hO.n7
  have hl := lots_len O n
  have h2 : 2 ^ n ≤ 2 ^ 7 := Nat.pow_le_pow_right (by decide) (by omega)
  have hin : 0 ≤ (n : Int) ∧ (n : Int) < (O.length : Int) := by omega
  have lr := hO.lw _ _ (row_at hin)
  have e1 := eLC1 (v := 3) (fi := iS (eV 1)) (tt := tE (eC2 (eLC [4] (iS (eC2 (eV 0) (eV 2) oIx)) (gN 4) (tE (eC2 (eV 4) (eV 3) oNin)) (eV 4)) (eLst (aNil)) oEq)) (fe := eC2 (eV 3) (eTup (aCons (eV 2) (aNil))) oAdd) (w := wLL O (lotsN O n) true (.v (.int (n : Int)))) (w1 := wLL O (lotsN O n) false (.v (.int (n : Int)))) (rowD (inAll (rowS O (n : Int)))) (fun d => pT (rowI d ++ [(n : Int)])) (iS_lst (eF_own rfl)) rfl (by show 3 < 5; decide) (fun d hd => by
    obtain ⟨l, hlm, rfl⟩ := List.mem_map.mp hd
    obtain ⟨a, b⟩ := lots_sm O n l hlm
    rw [rowD_pT]
    refine ⟨?_, fun _ => ?_⟩
    · have e2 := eLC1 (v := 4) (fi := iS (eC2 (eV 0) (eV 2) oIx)) (tt := tE (eC2 (eV 4) (eV 3) oNin)) (fe := eV 4) (w := ⟨[.v (pO O), .v (.list ((lotsN O n).map pT)), .v (.int (n : Int)), .v (pT l), .un], ⟨[], [], 0, 0⟩⟩) (w1 := ⟨[.v (pO O), .v (.list ((lotsN O n).map pT)), .v (.int (n : Int)), .v (pT l), .un], ⟨[], [], 0, 0⟩⟩) (pI fun k => !decide (k ∈ l)) id (iS_tup (eF_fz (eC2_ok (sees_v rfl) (sees_v rfl) (oIx_pO hin.1 hin.2)))) rfl (by show 4 < 5; decide) (fun d hd => by
        obtain ⟨x, hx, rfl⟩ := List.mem_map.mp hd
        exact ⟨tE_ok (eC2_ok (sees_v rfl) (sees_v rfl) (oNin_tup l x)), fun _ => eF_fz (eV_v rfl)⟩) (by rw [List.length_map]; unfold lim; omega)
      rw [filt_ints] at e2
      have t := tE_ok (eC2_ok (sees_ow e2) (sees_ow eLst_nil) (oEq_lst _ []))
      rw [emp_dec, not_all] at t
      exact t
    · rw [rowI_pT]
      exact eF_fz (eC2_ok (sees_v rfl) (.inl (eTup_1 (d := .int (n : Int)) (eF_fz (eV_v rfl)))) (oAdd_pT l n (by omega)))) (by rw [List.length_map]; unfold lim; omega)
  rw [lots_filt] at e1
  have e2 := eC2_pk (f := eV 1) (op := oAdd) (r := .ow (.list ((lotsN O (n + 1)).map pT))) (d := .list ((lotsN O n).map pT)) (eV_o rfl) e1 rfl (by
    show (if ((lotsN O n).map pT).length + ((((lotsN O n).filter (inAll (rowS O (n : Int)))).map fun l => l ++ [(n : Int)]).map pT).length < lim then _ else none) = _
    rw [if_pos (by
      rw [List.length_map, List.length_map, List.length_map]
      have := List.length_filter_le (inAll (rowS O (n : Int))) (lotsN O n)
      unfold lim
      omega), ← List.map_append]
    rfl)
  rw [gAsg_ow e2 (by show 1 < 5; decide)]
  rfl
theorem ev__law_lots {O : List (List Int)} (hO : IsO O) : F__law_lots [pO O] = some (.ok (.list ((lots O).map pT))) := by
  have h7 := hO.n7
  obtain ⟨w', e1, a, rfl⟩ := fFor_inv (tg := gN 2) (b := gAsg 1 (eC2 (eV 1) (eLC [3] (iS (eV 1)) (gN 3) (tE (eC2 (eLC [4] (iS (eC2 (eV 0) (eV 2) oIx)) (gN 4) (tE (eC2 (eV 4) (eV 3) oNin)) (eV 4)) (eLst (aNil)) oEq)) (eC2 (eV 3) (eTup (aCons (eV 2) (aNil))) oAdd)) oAdd))
    (fun n w => ∃ a, w = wLL O (lotsN O n) true a) ((List.range O.length).map (fun i : Nat => PyData.int (0 + (i : Int)))) 0 (wLL O (lotsN O 0) true .un) ⟨_, rfl⟩ (fun n d w hd hI => by
      obtain ⟨a, rfl⟩ := hI
      obtain ⟨hn, rfl⟩ := range_get hd
      rw [Nat.zero_add] at *
      exact ⟨_, _, rfl, lots_step hO hn, _, rfl⟩)
  rw [Nat.zero_add, List.length_map, List.length_range] at e1
  exact FB_rt (w0 := ⟨[.v (pO O), .un, .un, .un, .un], ⟨[], [], 0, 0⟩⟩) (gSq_ok (w1 := wLL O (lotsN O 0) true .un) rfl (gSq_ok (gFor_ok (iR1_len (a := 0) rfl (by omega)) e1) (gRet_ow (eC_pk (eV_o rfl) rfl (srtT_pT (lots_hd O O.length))))))
end K67
set_option maxHeartbeats 1000000
/-! K67N4: the rest of the defs; what is drawn; likeness of lists. -/
namespace K67
open PySem PySem.Spec PyProof.Rows L2 DL
/-- what the law tells as no statement -/
def noneL : List PD := [.none, .int 5, .tuple [], .str "p", .tuple [.str "letter", .str "t"], .tuple [.str "letter"], .list [.str "never"], .tuple [.str "never", .int 1], .tuple [.str "both", .tuple [.str "never"]], .tuple [.str "not", .tuple [.str "never"]], .tuple [.str "letter", .str "P"], .bool true]
theorem none_all : (noneL.all fun d => fEq (F_is_statement [d]) (.bool false)) = true := by decide +kernel
theorem ev_none {d : PD} (h : d ∈ noneL) : F_is_statement [d] = some (.ok (.bool false)) := fEq_ok (List.all_eq_true.mp none_all d h)
theorem ev_need_none {d : PD} (h : d ∈ noneL) : F_need_statement [d] = some (.ex "BadStatement" none) := by
  have t1 : tNt (tE (eCall F_is_statement 1 [] (aCons (eV 0) (aNil)))) ⟨[.v d], ⟨[], [], 0, 0⟩⟩ = some (.b (!false), ⟨[.v d], ⟨[], [], 0, 0⟩⟩) := tNt_ok (tE_ok (eCall_ok (aCons_ok (eF_fz (eV_v rfl)) aNil_ok) rfl (ev_none h)))
  exact FB_ex (w0 := ⟨[.v d], ⟨[], [], 0, 0⟩⟩) (gIf_t t1 rfl)
theorem ev_speaks_odd {d e : PD} (h : d ∈ oddL) : F_speaks [d, e] = some (.ex "BadOrder" none) := FB_ex (w0 := ⟨[.v d, .v e], ⟨[], [], 0, 0⟩⟩) (gSq_ex (need_ex h rfl))
theorem ev_speaks_none {O : List (List Int)} {e : PD} (hO : IsO O) (h : e ∈ noneL) : F_speaks [pO O, e] = some (.ex "BadStatement" none) := FB_ex (w0 := ⟨[.v (pO O), .v e], ⟨[], [], 0, 0⟩⟩) (gSq_ok (need_nx hO rfl) (gSq_ex (gDrop_ex (eCall_ex (aCons_ok (eF_fz (eV_v rfl)) aNil_ok) rfl (ev_need_none h)))))
theorem eC_ex {f : EF} {op : PD → Option DL.R} {w w1 : Wt} {c : Str} {x : Option (Str × PD)} (h : f w = some (.ex c x, w1)) : eC f op w = some (.ex c x, w1) := by
  unfold eC eB
  rw [h]
  rfl
theorem gRet_ex {f : EF} {w w1 : Wt} {c : Str} {x : Option (Str × PD)} (h : f w = some (.ex c x, w1)) : gRet f w = some (.ex c x w1) := by unfold gRet; rw [h]; rfl
theorem ev_holds_odd {d e : PD} (h : d ∈ oddL) : F_holds_on [d, e] = some (.ex "BadOrder" none) := FB_ex (w0 := ⟨[.v d, .v e], ⟨[], [], 0, 0⟩⟩) (gRet_ex (eC_ex (eCall_ex (aCons_ok (eF_fz (eV_v rfl)) (aCons_ok (eF_fz (eV_v rfl)) aNil_ok)) rfl (ev_speaks_odd h))))
theorem ev_holds_none {O : List (List Int)} {e : PD} (hO : IsO O) (h : e ∈ noneL) : F_holds_on [pO O, e] = some (.ex "BadStatement" none) := FB_ex (w0 := ⟨[.v (pO O), .v e], ⟨[], [], 0, 0⟩⟩) (gRet_ex (eC_ex (eCall_ex (aCons_ok (eF_fz (eV_v rfl)) (aCons_ok (eF_fz (eV_v rfl)) aNil_ok)) rfl (ev_speaks_none hO h))))
theorem ev_order_part_odd {d e : PD} (h : d ∈ oddL) : F_order_part [d, e] = some (.ex "BadOrder" none) := FB_ex (w0 := ⟨[.v d, .v e], ⟨[], [], 0, 0⟩⟩) (gSq_ex (need_ex h rfl))
theorem ev_is_one_odd {d : PD} (h : d ∈ oddL) : F_is_one [d] = some (.ex "BadOrder" none) := FB_ex (w0 := ⟨[.v d], ⟨[], [], 0, 0⟩⟩) (gSq_ex (need_ex h rfl))
theorem ev_lots_up_odd {d : PD} (h : d ∈ oddL) : F_lots_up [d] = some (.ex "BadOrder" none) := FB_ex (w0 := ⟨[.v d], ⟨[], [], 0, 0⟩⟩) (gSq_ex (need_ex h rfl))
theorem ev_is_one {O : List (List Int)} (hO : IsO O) : F_is_one [pO O] = some (.ok (.bool (rooted O))) :=
  FB_rt (w0 := ⟨[.v (pO O)], ⟨[], [], 0, 0⟩⟩) (w := ⟨[.v (pO O)], ⟨[], [], 0, 0⟩⟩) (gSq_ok (need_nx hO rfl) (gRet_fz (eCall_ok (aCons_ok (eF_fz (eV_v rfl)) aNil_ok) rfl (ev_has_root hO))))
theorem ev_order_part {O : List (List Int)} (hO : IsO O) {k : Int} (h : 0 ≤ k ∧ k < (O.length : Int)) : F_order_part [pO O, .int k] = some (.ok (pO (partO O k))) := by
  have t1 : tOo (tNt (tE (eCall F_is_whole 1 [] (aCons (eV 1) (aNil))))) (tNt (tE (eChn (fun i j => decide (i ≤ j)) (fun i j => decide (i < j)) (eD (.int 0)) (eV 1) (eC (eV 0) oLen)))) ⟨[.v (pO O), .v (.int k)], ⟨[], [], 0, 0⟩⟩ = some (.b (false || !(decide (0 ≤ k) && decide (k < (O.length : Int)))), ⟨[.v (pO O), .v (.int k)], ⟨[], [], 0, 0⟩⟩) :=
    tOo_ok (a := false) (tNt_ok (b := true) (tE_ok (eCall_ok (aCons_ok (eF_fz (eV_v rfl)) aNil_ok) rfl (ev_is_whole k)))) (fun _ => tNt_ok (tE_ok (eChn_ok (i := 0) (j := k) (k := (O.length : Int)) rfl rfl fun _ => eC_fz (eV_v rfl) (oLen_pO O)))) (fun y => nomatch y)
  rw [decide_eq_true h.1, decide_eq_true h.2] at t1
  exact FB_rt (w0 := ⟨[.v (pO O), .v (.int k)], ⟨[], [], 0, 0⟩⟩) (w := ⟨[.v (pO O), .v (.int k)], ⟨[], [], 0, 0⟩⟩) (gSq_ok (need_nx hO rfl) (gSq_ok (gIf_f t1 rfl) (gRet_fz (eCall_ok (aCons_ok (eF_fz (eV_v rfl)) (aCons_ok (eF_fz (eV_v rfl)) aNil_ok)) rfl (ev_part_in hO h)))))
/-- what is no world of the order -/
def farL (n : Nat) : List PD := [.int (n : Int), .int (-1), .none, .bool true, .str "0"]
theorem ev_order_part_far {O : List (List Int)} (hO : IsO O) {d : PD} (h : d ∈ farL O.length) : F_order_part [pO O, d] = some (.ex "BadWorld" none) := by
  have go : ∀ {d : PD}, tOo (tNt (tE (eCall F_is_whole 1 [] (aCons (eV 1) (aNil))))) (tNt (tE (eChn (fun i j => decide (i ≤ j)) (fun i j => decide (i < j)) (eD (.int 0)) (eV 1) (eC (eV 0) oLen)))) ⟨[.v (pO O), .v d], ⟨[], [], 0, 0⟩⟩ = some (.b true, ⟨[.v (pO O), .v d], ⟨[], [], 0, 0⟩⟩) → F_order_part [pO O, d] = some (.ex "BadWorld" none) := fun {d} t =>
    FB_ex (w0 := ⟨[.v (pO O), .v d], ⟨[], [], 0, 0⟩⟩) (gSq_ok (need_nx hO rfl) (gSq_ex (gIf_t t rfl)))
  have int : ∀ k : Int, (decide (0 ≤ k) && decide (k < (O.length : Int))) = false → F_order_part [pO O, .int k] = some (.ex "BadWorld" none) := fun k hk => by
    have t1 : tOo (tNt (tE (eCall F_is_whole 1 [] (aCons (eV 1) (aNil))))) (tNt (tE (eChn (fun i j => decide (i ≤ j)) (fun i j => decide (i < j)) (eD (.int 0)) (eV 1) (eC (eV 0) oLen)))) ⟨[.v (pO O), .v (.int k)], ⟨[], [], 0, 0⟩⟩ = some (.b (false || !(decide (0 ≤ k) && decide (k < (O.length : Int)))), ⟨[.v (pO O), .v (.int k)], ⟨[], [], 0, 0⟩⟩) :=
      tOo_ok (a := false) (tNt_ok (b := true) (tE_ok (eCall_ok (aCons_ok (eF_fz (eV_v rfl)) aNil_ok) rfl (ev_is_whole k)))) (fun _ => tNt_ok (tE_ok (eChn_ok (i := 0) (j := k) (k := (O.length : Int)) rfl rfl fun _ => eC_fz (eV_v rfl) (oLen_pO O)))) (fun y => nomatch y)
    rw [hk] at t1
    exact go t1
  have no : ∀ d : PD, F_is_whole [d] = some (.ok (.bool false)) → F_order_part [pO O, d] = some (.ex "BadWorld" none) := fun d hd => go (tOo_ok (a := true) (b := true) (tNt_ok (b := false) (tE_ok (eCall_ok (aCons_ok (eF_fz (eV_v rfl)) aNil_ok) rfl hd))) (fun y => nomatch y) (fun _ => rfl))
  unfold farL at h
  simp only [List.mem_cons, List.not_mem_nil, or_false] at h
  rcases h with z | z | z | z | z <;> subst z
  · exact int _ (by rw [decide_eq_false (show ¬ ((O.length : Int) < (O.length : Int)) by omega), Bool.and_false])
  · exact int _ (by rfl)
  · exact no _ rfl
  · exact no _ rfl
  · exact no _ rfl
/-! ### likeness of lists of ints' tuples -/
theorem sms_all : ∀ {fs : List (List Int)}, (∀ f ∈ fs, Sm f) → PyData.leavesShortAll 8 (fs.map pT) = true ∧ PyData.showableAll (fs.map pT) = true ∧ PyData.weightAll (fs.map pT) ≤ 100 * fs.length ∧ PyData.eqvAll (fs.map pT) (fs.map pT) = true
  | [], _ => ⟨rfl, rfl, by simp [PyData.weightAll], rfl⟩
  | f :: fs, h => by
    obtain ⟨a, b, c⟩ := sm_all (h f List.mem_cons_self).s
    obtain ⟨d, e, g, i⟩ := sms_all (fs := fs) fun k hk => h k (List.mem_cons_of_mem _ hk)
    have hl := (h f List.mem_cons_self).l
    have gg := good_pT (h f List.mem_cons_self)
    rw [List.map_cons]
    refine ⟨?_, ?_, ?_, ?_⟩
    · simp only [PyData.leavesShortAll, d, Bool.and_true]
      unfold pT
      simp only [PyData.leavesShort]; exact a
    · simp only [PyData.showableAll, e, Bool.and_true]
      exact gg.sh
    · have hw : PyData.weightAll (pT f :: fs.map pT) = PyData.weightAll (f.map PyData.int) + 1 + PyData.weightAll (fs.map pT) := rfl
      rw [hw, List.length_cons]
      omega
    · simp only [PyData.eqvAll, i, Bool.and_true]
      exact gg.eq
theorem good_lO {fs : List (List Int)} (h : ∀ f ∈ fs, Sm f) (hl : fs.length ≤ 200) : Good (.list (fs.map pT)) := by
  obtain ⟨a, b, c, d⟩ := sms_all h
  refine ⟨fun _ => by simp, flatD_lO fs, d, by simp only [PyData.showable]; exact b, ?_⟩
  have h1 := PyData.shown_le 8 (by decide) (.list (fs.map pT)) (by simp only [PyData.leavesShort]; exact a)
  have h2 : (PyData.list (fs.map pT)).weight = PyData.weightAll (fs.map pT) := rfl
  unfold lim
  omega
theorem good_pO {fs : List (List Int)} (h : ∀ f ∈ fs, Sm f) (hl : fs.length ≤ 200) : Good (pO fs) := by
  obtain ⟨a, b, c, d⟩ := sms_all h
  refine ⟨fun _ => by unfold pO; simp, flatD_pO fs, d, by unfold pO; simp only [PyData.showable]; exact b, ?_⟩
  have h1 := PyData.shown_le 8 (by decide) (pO fs) (by unfold pO; simp only [PyData.leavesShort]; exact a)
  have h2 : (pO fs).weight = PyData.weightAll (fs.map pT) := rfl
  unfold lim
  omega
theorem good_part {O : List (List Int)} (hO : IsO O) {k : Int} (h : 0 ≤ k ∧ k < (O.length : Int)) : Good (pO (partO O k)) := by
  have lw := part_low hO h
  have hl : (partO O k).length ≤ 7 := by unfold partO; rw [List.length_map]; exact someW_len hO h
  refine good_pO (fun f hf => ?_) (by omega)
  obtain ⟨i, hi⟩ := List.getElem?_of_mem hf
  have lr := lw i f hi
  have := get_lt hi
  exact ⟨by omega, fun x hx => by have := lr.2 x hx; omega⟩
theorem good_lots {O : List (List Int)} (hO : IsO O) : Good (.list ((lots O).map pT)) := by
  have h7 := hO.n7
  have hp := sortT_perm (lotsN O O.length)
  have hl := lots_len O O.length
  have h2 : 2 ^ O.length ≤ 2 ^ 7 := Nat.pow_le_pow_right (by decide) h7
  refine good_lO (fun f hf => ?_) (by unfold lots; rw [hp.length_eq]; omega)
  obtain ⟨a, b⟩ := lots_sm O O.length f (hp.mem_iff.mp hf)
  exact ⟨by omega, fun x hx => by have := b x hx; omega⟩
end K67
set_option maxHeartbeats 1000000
/-! K67N5: the bent orders; the law's turn. -/
namespace K67
open PySem PySem.Spec PyProof.Rows L2 DL
def cutI (r : List Int) (lo hi : Option Int) : List Int := (r.drop (HT.sIx r.length 0 lo)).take (HT.sIx r.length r.length hi - HT.sIx r.length 0 lo)
theorem cut_pT (r : List Int) (lo hi : Option Int) : oCut (pT r) lo hi = some (.fz (pT (cutI r lo hi))) := by
  show some (R.fz (.tuple (DL.cutD (r.map PyData.int) lo hi))) = _
  unfold DL.cutD cutI pT
  rw [List.length_map, List.map_take, List.map_drop]
theorem cutI_len (r : List Int) (lo hi : Option Int) : (cutI r lo hi).length ≤ r.length := by
  unfold cutI
  rw [List.length_take, List.length_drop]
  have := Nat.min_le_right (HT.sIx r.length r.length hi - HT.sIx r.length 0 lo) (r.length - HT.sIx r.length 0 lo)
  omega
theorem sIx_in {n d : Nat} {v : Int} (h : 0 ≤ v ∧ v ≤ (n : Int)) : HT.sIx n d (some v) = v.toNat := by
  obtain ⟨k, rfl⟩ : ∃ k : Nat, v = (k : Int) := ⟨v.toNat, by omega⟩
  rw [HT.sIx_nat, Int.toNat_natCast]
  omega
theorem cutD_hi {D : List PD} {v : Int} (h : 0 ≤ v ∧ v ≤ (D.length : Int)) : DL.cutD D none (some v) = D.take v.toNat := by
  unfold DL.cutD
  rw [sIx_in h, show HT.sIx D.length 0 none = 0 from rfl, List.drop_zero, Nat.sub_zero]
theorem cutD_lo {D : List PD} {v : Int} (h : 0 ≤ v ∧ v ≤ (D.length : Int)) : DL.cutD D (some v) none = D.drop v.toNat := by
  unfold DL.cutD
  rw [sIx_in h, show HT.sIx D.length D.length none = D.length from rfl]
  exact List.take_of_length_le (by rw [List.length_drop]; omega)
theorem row_pT {r : List Int} (h : r.length < 100) : RowD (pT r) := .inl ⟨r, rfl, h⟩
abbrev wB (O : List (List Int)) (a b : Slot) (S : Src) : Wt := ⟨[.st, .v (pO O), a, b], S⟩
theorem bent_ok {O : List (List Int)} (hO : IsO O) (S : Src) (ht : 0 ≤ S.turn ∧ S.turn < 700000000) : ∃ (D : List PD) (S' : Src), F__law_bent S [pO O] = some (.tuple D, S') ∧ (∀ d ∈ D, RowD d) ∧ 1 ≤ D.length ∧ D.length ≤ 7 ∧ Lt S S' 2 := by
  have h1 := hO.n1
  have h7 := hO.n7
  obtain ⟨v, S1, v0, v1, lt1, e1⟩ := draw_e (w := wB O .un .un S) (f := eC (eV 1) oLen) (room := (O.length : Int)) rfl (eF_fz (eC_fz (eV_v rfl) (oLen_pO O))) (show 0 ≤ S.turn ∧ S.turn < 1000000000 by omega) (by omega)
  have lo1 := lt1.lo
  have hi1 : S1.turn ≤ S.turn + 1 := lt1.hi
  have hin : 0 ≤ v ∧ v < (O.length : Int) := ⟨v0, v1⟩
  obtain ⟨k, rfl⟩ : ∃ k : Nat, v = (k : Int) := ⟨v.toNat, by omega⟩
  have lr := hO.lw _ _ (row_at hin)
  have er : eC2 (eV 1) (eV 2) oIx (wB O (.v (.int (k : Int))) .un S1) = some (.fz (pT (rowS O (k : Int))), wB O (.v (.int (k : Int))) .un S1) := eC2_ok (sees_v rfl) (sees_v rfl) (oIx_pO hin.1 hin.2)
  generalize rowS O (k : Int) = r at er lr
  have el : eLst (aCons (eC2 (eC2 (eV 1) (eV 2) oIx) (eC (eD (.int 1)) oNeg) oCutH) (aCons (eC2 (eC2 (eV 1) (eV 2) oIx) (eTup (aCons (eV 2) (aNil))) oAdd) (aCons (eC (eC2 (eV 1) (eV 2) oIx) oBack) (aCons (eTup (aCons (eD (.int 0)) (aNil))) (aCons (eC (eC2 (eV 1) (eV 2) oIx) oLstOf) (aCons (eC (eV 2) oTR1) (aCons (eD .none) (aCons (eC2 (eC2 (eV 1) (eV 2) oIx) (eD (.int 1)) oCutL) (aNil))))))))) (wB O (.v (.int (k : Int))) .un S1)
      = some (.ow (.list [pT (cutI r none (some (-1))), pT (r ++ [(k : Int)]), pT r.reverse, pT [0], .list (r.map PyData.int), pT (rng k), .none, pT (cutI r (some 1) none)]), wB O (.v (.int (k : Int))) .un S1) := by
    unfold eLst eA
    rw [aCons_ok (eF_fz (eC2_ok (.inl er) (.inl (eC_fz (f := eD (.int 1)) rfl rfl)) (cut_pT r none (some (-1))))) (aCons_ok (eF_fz (eC2_ok (.inl er) (.inl (eTup_1 (d := .int (k : Int)) (eF_fz (eV_v rfl)))) (oAdd_pT r k (by omega)))) (aCons_ok (d := pT r.reverse) (eF_fz (eC_fz er (by
      show some (R.fz (.tuple (r.map PyData.int).reverse)) = _
      unfold pT
      rw [List.map_reverse]))) (aCons_ok (d := pT [0]) rfl (aCons_ok (d := .list (r.map PyData.int)) (eF_ow (eC_fz er rfl)) (aCons_ok (eF_fz (eC_fz (eV_v rfl) (oTR1_nat (by omega)))) (aCons_ok (d := .none) rfl (aCons_ok (eF_fz (eC2_ok (.inl er) (.inl rfl) (cut_pT r (some 1) none))) aNil_ok)))))))]
    rfl
  obtain ⟨x, S2, e2, hm, t0, t1⟩ := pick_ok S1 [pT (cutI r none (some (-1))), pT (r ++ [(k : Int)]), pT r.reverse, pT [0], .list (r.map PyData.int), pT (rng k), .none, pT (cutI r (some 1) none)] (by omega) ⟨by simp, by simp⟩
  have c2 := eCallS_ok (i := 0) (n := 1) (F := F__law_pick) (w := wB O (.v (.int (k : Int))) .un S1) (w1 := wB O (.v (.int (k : Int))) .un S1) rfl (aCons_ok (eF_ow el) aNil_ok) rfl (pick_eq69 ▸ e2)
  have hx : RowD x := by
    have l1 := cutI_len r none (some (-1))
    have l2 := cutI_len r (some 1) none
    simp only [List.mem_cons, List.not_mem_nil, or_false] at hm
    rcases hm with z | z | z | z | z | z | z | z <;> subst z
    · exact row_pT (by omega)
    · exact row_pT (by rw [List.length_append]; simp; omega)
    · exact row_pT (by rw [List.length_reverse]; omega)
    · exact row_pT (by simp)
    · exact .inr ⟨by simp only [PyData.plain, plain_ints], rfl⟩
    · exact row_pT (by rw [rng_len]; omega)
    · exact .inr ⟨rfl, rfl⟩
    · exact row_pT (by omega)
  have hmem : ∀ d ∈ O.map pT, RowD d := fun d hd => by
    obtain ⟨q, hq, rfl⟩ := List.mem_map.mp hd
    obtain ⟨i, hi⟩ := List.getElem?_of_mem hq
    have := (hO.lw i q hi).1
    exact row_pT (by omega)
  have hlm : (O.map pT).length = O.length := List.length_map ..
  refine ⟨((O.map pT).take k ++ [x]) ++ (O.map pT).drop (k + 1), S2, ?_, fun d hd => ?_, ?_, ?_, ⟨t0, by omega⟩⟩
  · have e3 : eC2 (eC2 (eC2 (eV 1) (eV 2) oCutH) (eTup (aCons (eV 3) (aNil))) oAdd) (eC2 (eV 1) (eC2 (eV 2) (eD (.int 1)) oAdd) oCutL) oAdd (wB O (.v (.int (k : Int))) (.v x) S2) = some (.fz (.tuple (((O.map pT).take k ++ [x]) ++ (O.map pT).drop (k + 1))), wB O (.v (.int (k : Int))) (.v x) S2) := by
      refine eC2_ok (d := .tuple ((O.map pT).take k ++ [x])) (.inl (eC2_ok (r := .fz (.tuple ((O.map pT).take k ++ [x]))) (.inl (eC2_ok (d := pO O) (e := .int (k : Int)) (r := .fz (.tuple ((O.map pT).take k))) (sees_v rfl) (sees_v rfl) ?_)) (.inl (eTup_1 (d := x) (eF_fz (eV_v rfl)))) ?_)) (.inl (eC2_ok (d := pO O) (e := .int ((k + 1 : Nat) : Int)) (r := .fz (.tuple ((O.map pT).drop (k + 1)))) (sees_v rfl) (.inl (eC2_ok (sees_v rfl) (.inl rfl) ?_)) ?_)) ?_
      · show some (R.fz (.tuple (DL.cutD (O.map pT) none (some (k : Int))))) = _
        rw [cutD_hi (by omega), Int.toNat_natCast]
      · show (if ((O.map pT).take k).length + 1 < lim then some (R.fz (.tuple ((O.map pT).take k ++ [x]))) else none) = _
        rw [if_pos (by rw [List.length_take]; have := Nat.min_le_right k (O.map pT).length; unfold lim; omega)]
      · show some (R.fz (.int ((k : Int) + 1))) = _
        rw [show (k : Int) + 1 = ((k + 1 : Nat) : Int) by omega]
      · show some (R.fz (.tuple (DL.cutD (O.map pT) (some ((k + 1 : Nat) : Int)) none))) = _
        rw [cutD_lo (by omega), Int.toNat_natCast]
      · show (if ((O.map pT).take k ++ [x]).length + ((O.map pT).drop (k + 1)).length < lim then some (R.fz (.tuple (((O.map pT).take k ++ [x]) ++ (O.map pT).drop (k + 1)))) else none) = _
        rw [if_pos (by rw [List.length_append, List.length_take, List.length_drop]; have := Nat.min_le_right k (O.map pT).length; simp; unfold lim; omega)]
    have e4 : g__law_bent (wB O .un .un S) = some (.rt (.tuple (((O.map pT).take k ++ [x]) ++ (O.map pT).drop (k + 1))) (wB O (.v (.int (k : Int))) (.v x) S2)) :=
      gSq_ok (w1 := wB O (.v (.int (k : Int))) .un S1) (gAsg_fz e1 (by show 2 < 4; decide)) (gSq_ok (w1 := wB O (.v (.int (k : Int))) (.v x) S2) (gAsg_fz c2 (by show 3 < 4; decide)) (gRet_fz e3))
    unfold F__law_bent FSB
    show outS (g__law_bent (wB O .un .un S)) = _
    rw [e4]
    rfl
  · rcases List.mem_append.mp hd with z | z
    · rcases List.mem_append.mp z with z | z
      · exact hmem d (List.mem_of_mem_take z)
      · rw [List.mem_singleton.mp z]; exact hx
    · exact hmem d (List.mem_of_mem_drop z)
  · rw [List.length_append, List.length_append]; simp; omega
  · rw [List.length_append, List.length_append, List.length_take, List.length_drop, Nat.min_eq_left (by omega)]; simp; omega
theorem none_ok (S : Src) (ht : 0 ≤ S.turn ∧ S.turn < 700000000) : ∃ (d : PD) (S' : Src), F__law_no_statement S [] = some (d, S') ∧ d ∈ noneL ∧ Lt S S' 1 := by
  obtain ⟨d, S', e, hm, t0, t1⟩ := pick_ok S noneL (by omega) ⟨by decide, by decide⟩
  refine ⟨d, S', ?_, hm, ⟨t0, t1⟩⟩
  have c : g__law_no_statement ⟨[.st], S⟩ = some (.rt d ⟨[.st], S'⟩) := gRet_fz (eCallS_ok (w1 := ⟨[.st], S⟩) (ds := [.list noneL]) rfl (aCons_ok (eF_ow rfl) aNil_ok) rfl (pick_eq69 ▸ e))
  unfold F__law_no_statement FSB
  show outS (g__law_no_statement ⟨[.st], S⟩) = _
  rw [c]
  rfl
/-! ### values -/
def ValOk (v : PD) : Prop := ∃ b : Bool, F_is_order [v] = some (.ok (.bool b)) ∧ F__law_is_order [v] = some (.ok (.bool b))
theorem odd_law : (oddL.all fun d => fEq (F__law_is_order [d]) (.bool false)) = true := by decide +kernel
theorem val_odd {d : PD} (h : d ∈ oddL) : ValOk d := ⟨false, ev_odd h, fEq_ok (List.all_eq_true.mp odd_law d h)⟩
theorem val_rows {D : List PD} (h : ∀ d ∈ D, RowD d) (h1 : 1 ≤ D.length) (h7 : D.length ≤ 7) : ValOk (.tuple D) := ⟨_, ev_is_order' h h1 h7, ev__law_is_order' h h1 h7⟩
theorem rows_O {O : List (List Int)} (hO : IsO O) : ∀ d ∈ O.map pT, RowD d := fun d hd => by
  obtain ⟨q, hq, rfl⟩ := List.mem_map.mp hd
  obtain ⟨i, hi⟩ := List.getElem?_of_mem hq
  have := (hO.lw i q hi).1
  exact row_pT (by omega)
theorem val_O {O : List (List Int)} (hO : IsO O) : ValOk (pO O) := val_rows (rows_O hO) (by rw [List.length_map]; exact hO.n1) (by rw [List.length_map]; exact hO.n7)
theorem val_long {O : List (List Int)} (hO : IsO O) : ValOk (.tuple (O.map pT ++ List.replicate 7 (.tuple []))) := by
  have hp : (PyData.tuple (O.map pT ++ List.replicate 7 (.tuple []))).plain = true := plain_tup fun d hd => by
    rcases List.mem_append.mp hd with z | z
    · exact rows_O hO d z
    · rw [(List.mem_replicate.mp z).2]
      exact row_pT (r := []) (by simp)
  have hl : 8 ≤ (O.map pT ++ List.replicate 7 (PyData.tuple [])).length := by
    rw [List.length_append, List.length_map, List.length_replicate]
    have := hO.n1
    omega
  exact ⟨false, ev_is_order_long hp hl, ev__law_is_order_long hp hl⟩
end K67
set_option maxHeartbeats 2000000
/-! K67N6: the law's turn, the law. -/
namespace K67
open PySem PySem.Spec PyProof.Rows L2 DL
abbrev wQ (ns : List Int) (a b c d e f g h i j : Slot) (S : Src) : Wt := ⟨[.sc ns, .st, a, b, c, d, e, f, g, h, i, j], S⟩
theorem one_is {f g : EF} {w : Wt} {d : PD} (hd : Good d) (h1 : f w = some (.fz d, w)) (hg : g w = some (.fz d, w)) : tNt (tE (eCall F__law_is 2 [] (aCons f (aCons g (aNil))))) w = some (.b false, w) :=
  tNt_ok (b := true) (tE_ok (eCall_ok (aCons_ok (eF_fz h1) (aCons_ok (eF_fz hg) aNil_ok)) rfl (ev__law_is hd)))
/-- the values, made -/
theorem vals_made {ns : List Int} {a c d e f g h i j : Slot} {O : List (List Int)} {U : Src} (hO : IsO O) (ht : 0 ≤ U.turn ∧ U.turn < 600000000) :
    ∃ (vs : List PD) (U' : Src), iS (eLst (aCons (eV 3) (aCons (eCallS 1 F__law_bent 1 (aCons (eV 3) (aNil))) (aCons (eCallS 1 F__law_bent 1 (aCons (eV 3) (aNil))) (aCons (eCallS 1 F__law_no_order 0 (aNil)) (aCons (eC2 (eV 3) (eC2 (eTup (aCons (eTup (aNil)) (aNil))) (eD (.int 7)) oRepT) oAdd) (aNil))))))) (wQ ns a (.v (pO O)) c d e f g h i j U) = some (vs, wQ ns a (.v (pO O)) c d e f g h i j U') ∧ (∀ v ∈ vs, ValOk v) ∧ Lt U U' 5 := by
  obtain ⟨D1, U1, e1, r1, p1, q1, lt1⟩ := bent_ok hO U (by omega)
  have lo1 := lt1.lo
  have hi1 := lt1.hi
  obtain ⟨D2, U2, e2, r2, p2, q2, lt2⟩ := bent_ok hO U1 (by omega)
  have lo2 := lt2.lo
  have hi2 := lt2.hi
  obtain ⟨o, U3, e3, ho, lt3⟩ := odd_ok U2 (by omega)
  have lo3 := lt3.lo
  have hi3 := lt3.hi
  have c1 : eCallS 1 F__law_bent 1 (aCons (eV 3) (aNil)) (wQ ns a (.v (pO O)) c d e f g h i j U) = some (.fz (.tuple D1), wQ ns a (.v (pO O)) c d e f g h i j U1) := eCallS_ok (w1 := wQ ns a (.v (pO O)) c d e f g h i j U) rfl (aCons_ok (eF_fz (eV_v rfl)) aNil_ok) rfl e1
  have c2 : eCallS 1 F__law_bent 1 (aCons (eV 3) (aNil)) (wQ ns a (.v (pO O)) c d e f g h i j U1) = some (.fz (.tuple D2), wQ ns a (.v (pO O)) c d e f g h i j U2) := eCallS_ok (w1 := wQ ns a (.v (pO O)) c d e f g h i j U1) rfl (aCons_ok (eF_fz (eV_v rfl)) aNil_ok) rfl e2
  have c3 : eCallS 1 F__law_no_order 0 (aNil) (wQ ns a (.v (pO O)) c d e f g h i j U2) = some (.fz o, wQ ns a (.v (pO O)) c d e f g h i j U3) := eCallS_ok (w1 := wQ ns a (.v (pO O)) c d e f g h i j U2) (ds := []) rfl rfl rfl e3
  have h7 := hO.n7
  have c4 : eC2 (eV 3) (eC2 (eTup (aCons (eTup (aNil)) (aNil))) (eD (.int 7)) oRepT) oAdd (wQ ns a (.v (pO O)) c d e f g h i j U3) = some (.fz (.tuple (O.map pT ++ List.replicate 7 (.tuple []))), wQ ns a (.v (pO O)) c d e f g h i j U3) := eC2_ok (d := pO O) (e := .tuple (List.replicate 7 (.tuple []))) (sees_v rfl) (.inl (eC2_ok (d := .tuple [.tuple []]) (e := .int 7) (.inl rfl) (.inl rfl) rfl)) (by
    show (if (O.map pT).length + (List.replicate 7 (PyData.tuple [])).length < lim then some (R.fz (.tuple (O.map pT ++ List.replicate 7 (.tuple [])))) else none) = _
    rw [if_pos (by rw [List.length_map, List.length_replicate]; unfold lim; omega)])
  have c5 : eLst (aCons (eV 3) (aCons (eCallS 1 F__law_bent 1 (aCons (eV 3) (aNil))) (aCons (eCallS 1 F__law_bent 1 (aCons (eV 3) (aNil))) (aCons (eCallS 1 F__law_no_order 0 (aNil)) (aCons (eC2 (eV 3) (eC2 (eTup (aCons (eTup (aNil)) (aNil))) (eD (.int 7)) oRepT) oAdd) (aNil)))))) (wQ ns a (.v (pO O)) c d e f g h i j U) = some (.ow (.list [pO O, .tuple D1, .tuple D2, o, .tuple (O.map pT ++ List.replicate 7 (.tuple []))]), wQ ns a (.v (pO O)) c d e f g h i j U3) := by
    unfold eLst eA
    rw [aCons_ok (d := pO O) (w1 := wQ ns a (.v (pO O)) c d e f g h i j U) (eF_fz (eV_v rfl)) (aCons_ok (eF_fz c1) (aCons_ok (eF_fz c2) (aCons_ok (eF_fz c3) (aCons_ok (eF_fz c4) aNil_ok))))]
    rfl
  refine ⟨_, U3, iS_lst (eF_ow c5), fun v hv => ?_, ⟨lo3, by omega⟩⟩
  simp only [List.mem_cons, List.not_mem_nil, or_false] at hv
  rcases hv with z | z | z | z | z <;> subst z
  · exact val_O hO
  · exact val_rows r1 p1 q1
  · exact val_rows r2 p2 q2
  · exact val_odd ho
  · exact val_long hO
theorem vals_loop {ns : List Int} {a b c d e f g h i j : Slot} {U : Src} {ds : List PD} (hv : ∀ v ∈ ds, ValOk v) :
    ∃ c', fFor (gN 4) (gIf (tOo (tNt (tE (eCall F__law_is 2 [] (aCons (eCall F_is_order 1 [] (aCons (eV 4) (aNil))) (aCons (eCall F__law_is_order 1 [] (aCons (eV 4) (aNil))) (aNil)))))) (tNt (tE (eCall F__law_is 2 [] (aCons (eCall F_is_order 1 [] (aCons (eV 4) (aNil))) (aCons (eCall F__law_is_order 1 [] (aCons (eV 4) (aNil))) (aNil))))))) (gRet (eD (.bool false))) (gNx)) ds (wQ ns a b c d e f g h i j U) = some (.nx (wQ ns a b c' d e f g h i j U)) := by
  obtain ⟨w', e1, c', q⟩ := fFor_inv (tg := gN 4) (b := gIf (tOo (tNt (tE (eCall F__law_is 2 [] (aCons (eCall F_is_order 1 [] (aCons (eV 4) (aNil))) (aCons (eCall F__law_is_order 1 [] (aCons (eV 4) (aNil))) (aNil)))))) (tNt (tE (eCall F__law_is 2 [] (aCons (eCall F_is_order 1 [] (aCons (eV 4) (aNil))) (aCons (eCall F__law_is_order 1 [] (aCons (eV 4) (aNil))) (aNil))))))) (gRet (eD (.bool false))) (gNx))
    (fun _ w => ∃ c', w = wQ ns a b c' d e f g h i j U) ds 0 (wQ ns a b c d e f g h i j U) ⟨_, rfl⟩ (fun n v w hd' hI => by
      obtain ⟨c1, rfl⟩ := hI
      obtain ⟨x, e1, e2⟩ := hv v (List.mem_of_getElem? hd')
      have t := two_is (w := wQ ns a b (.v v) d e f g h i j U) (good_bool x)
        (eCall_ok (F := F_is_order) (g := aCons (eV 4) (aNil)) (aCons_ok (eF_fz (eV_v rfl)) aNil_ok) rfl e1)
        (eCall_ok (F := F_is_order) (g := aCons (eV 4) (aNil)) (aCons_ok (eF_fz (eV_v rfl)) aNil_ok) rfl e1)
        (eCall_ok (F := F__law_is_order) (g := aCons (eV 4) (aNil)) (aCons_ok (eF_fz (eV_v rfl)) aNil_ok) rfl e2)
      exact ⟨_, _, rfl, gIf_f t rfl, _, rfl⟩)
  subst q
  exact ⟨c', e1⟩
theorem fCalls_cons {j : Nat} {c0 : Str} {f : EF} {fs : List EF} {w w1 : Wt} (h : f (w.at j .un) = some (.ex c0 none, w1)) : fCalls j c0 (f :: fs) w = fCalls j c0 fs w1 := by
  show (match f (w.at j .un) with | some (.ex c none, w1) => if c = c0 then fCalls j c0 fs w1 else none | _ => none) = _
  rw [h]
  dsimp only
  rw [if_pos rfl]
theorem far_ok {ns : List Int} {a c d e f g h i j : Slot} {O : List (List Int)} {U : Src} (hO : IsO O) (ht : 0 ≤ U.turn ∧ U.turn < 600000000) :
    ∃ (o x : PD) (U' : Src), gPar 6 7 (eCallS 1 F__law_no_order 0 (aNil)) (eCallS 1 F__law_pick 1 (aCons (eLst (aCons (eC (eV 3) oLen) (aCons (eC2 (eD (.int 0)) (eD (.int 1)) oSub) (aCons (eD .none) (aCons (eD (.bool true)) (aCons (eD (.str "0")) (aNil))))))) (aNil))) (wQ ns a (.v (pO O)) c d e f g h i j U) = some (.nx (wQ ns a (.v (pO O)) c d (.v o) (.v x) g h i j U')) ∧ o ∈ oddL ∧ x ∈ farL O.length ∧ Lt U U' 2 := by
  obtain ⟨o, U1, e1, ho, lt1⟩ := odd_ok U (by omega)
  have lo1 := lt1.lo
  have hi1 := lt1.hi
  obtain ⟨x, U2, e2, hx, lo2, hi2⟩ := pick_ok U1 (farL O.length) (by omega) ⟨by unfold farL; simp, by unfold farL; simp⟩
  refine ⟨o, x, U2, ?_, ho, hx, ⟨lo2, by omega⟩⟩
  have c1 : eCallS 1 F__law_no_order 0 (aNil) (wQ ns a (.v (pO O)) c d e f g h i j U) = some (.fz o, wQ ns a (.v (pO O)) c d e f g h i j U1) := eCallS_ok (w1 := wQ ns a (.v (pO O)) c d e f g h i j U) (ds := []) rfl rfl rfl e1
  have cl : eLst (aCons (eC (eV 3) oLen) (aCons (eC2 (eD (.int 0)) (eD (.int 1)) oSub) (aCons (eD .none) (aCons (eD (.bool true)) (aCons (eD (.str "0")) (aNil)))))) (wQ ns a (.v (pO O)) c d e f g h i j U1) = some (.ow (.list (farL O.length)), wQ ns a (.v (pO O)) c d e f g h i j U1) := by
    unfold eLst eA
    rw [aCons_ok (eF_fz (eC_fz (eV_v rfl) (oLen_pO O))) (aCons_ok (d := .int (-1)) rfl (aCons_ok (d := .none) rfl (aCons_ok (d := .bool true) rfl (aCons_ok (d := .str "0") rfl aNil_ok))))]
    rfl
  have c2 : eCallS 1 F__law_pick 1 (aCons (eLst (aCons (eC (eV 3) oLen) (aCons (eC2 (eD (.int 0)) (eD (.int 1)) oSub) (aCons (eD .none) (aCons (eD (.bool true)) (aCons (eD (.str "0")) (aNil))))))) (aNil)) (wQ ns a (.v (pO O)) c d e f g h i j U1) = some (.fz x, wQ ns a (.v (pO O)) c d e f g h i j U2) := eCallS_ok (w1 := wQ ns a (.v (pO O)) c d e f g h i j U1) rfl (aCons_ok (eF_ow cl) aNil_ok) rfl (pick_eq69 ▸ e2)
  unfold gPar
  rw [c1]
  show kS (eCallS 1 F__law_pick 1 _ (wQ ns a (.v (pO O)) c d e f g h i j U1)) _ = _
  rw [c2]
  rfl
abbrev turnB : SF := gSq (gAsg 3 (eCallS 1 F__law_order 1 (aCons (eD (.int 7)) (aNil)))) lb_law
theorem turn_ok {ns : List Int} {a b c d e f g h i j : Slot} {U : Src} (ht : 0 ≤ U.turn ∧ U.turn < 400000000) :
    ∃ (b' c' d' e' f' g' h' i' j' : Slot) (U' : Src), turnB (wQ ns a b c d e f g h i j U) = some (.nx (wQ ns a b' c' d' e' f' g' h' i' j' U')) ∧ Lt U U' 300 := by
  obtain ⟨O, U1, e1, hO, _, lt1⟩ := order_ok U 7 (by decide) (by omega)
  have lo1 := lt1.lo
  have hi1 := lt1.hi
  have h1 := hO.n1
  have h7 := hO.n7
  have c1 : eCallS 1 F__law_order 1 (aCons (eD (.int 7)) (aNil)) (wQ ns a b c d e f g h i j U) = some (.fz (pO O), wQ ns a b c d e f g h i j U1) := eCallS_ok (w1 := wQ ns a b c d e f g h i j U) (ds := [.int 7]) rfl rfl rfl e1
  obtain ⟨vs, U2, c2, hv, lt2⟩ := vals_made (ns := ns) (a := a) (c := c) (d := d) (e := e) (f := f) (g := g) (h := h) (i := i) (j := j) (U := U1) hO (by omega)
  have lo2 := lt2.lo
  have hi2 := lt2.hi
  obtain ⟨c3, e3⟩ := vals_loop (ns := ns) (a := a) (b := .v (pO O)) (c := c) (d := d) (e := e) (f := f) (g := g) (h := h) (i := i) (j := j) (U := U2) hv
  obtain ⟨v, U3, ed, v0, v1, t0, t1⟩ := (fun (p : ∃ (v : Int) (S' : Src), FDraw U2 [.int (O.length : Int)] = some (.int v, S') ∧ 0 ≤ v ∧ v < (O.length : Int) ∧ 0 ≤ S'.turn ∧ S'.turn ≤ U2.turn + 1) => p) (draw_ok U2 (O.length : Int) (by omega) (by omega))
  have c4 : eCallS 1 F__law_draw 1 (aCons (eC (eV 3) oLen) (aNil)) (wQ ns a (.v (pO O)) c3 d e f g h i j U2) = some (.fz (.int v), wQ ns a (.v (pO O)) c3 d e f g h i j U3) := eCallS_ok (w1 := wQ ns a (.v (pO O)) c3 d e f g h i j U2) rfl (aCons_ok (eF_fz (eC_fz (eV_v rfl) (oLen_pO O))) aNil_ok) rfl (draw_eq69 ▸ ed)
  have hin : 0 ≤ v ∧ v < (O.length : Int) := ⟨v0, v1⟩
  have c5 := two_is (w := wQ ns a (.v (pO O)) c3 (.v (.int v)) e f g h i j U3) (good_part hO hin)
    (eCallN_ok (F := F_order_part) (g := aCons (eV 3) (aCons (eV 5) (aNil))) (aCons_ok (eF_fz (eV_v rfl)) (aCons_ok (eF_fz (eV_v rfl)) aNil_ok)) rfl (ev_order_part hO hin))
    (eCallNR_ok (F := F_order_part) (g := aCons (eV 5) (aCons (eV 3) (aNil))) (aCons_ok (eF_fz (eV_v rfl)) (aCons_ok (eF_fz (eV_v rfl)) aNil_ok)) rfl (ev_order_part hO hin))
    (eCall_ok (F := F__law_part) (g := aCons (eV 3) (aCons (eV 5) (aNil))) (aCons_ok (eF_fz (eV_v rfl)) (aCons_ok (eF_fz (eV_v rfl)) aNil_ok)) rfl (ev__law_part hO hin))
  have hr : eC2 (eC (eC2 (eV 3) (eC (eD (.int 1)) oNeg) oIx) oLen) (eC2 (eC (eV 3) oLen) (eD (.int 1)) oSub) oEq (wQ ns a (.v (pO O)) c3 (.v (.int v)) e f g h i j U3) = some (.fz (.bool (rooted O)), wQ ns a (.v (pO O)) c3 (.v (.int v)) e f g h i j U3) := by
    rw [← rooted_len hO]
    exact eC2_ok (.inl (eC_fz (eC2_ok (sees_v rfl) (.inl (eC_fz (f := eD (.int 1)) rfl rfl)) (oIx_last hO.ne)) (oLen_pT _))) (.inl (eC2_ok (.inl (eC_fz (eV_v rfl) (oLen_pO O))) (.inl rfl) rfl)) (oEq_int _ _)
  have c6 := tOo_ok (a := false) (b := false)
    (one_is (w := wQ ns a (.v (pO O)) c3 (.v (.int v)) e f g h i j U3) (good_bool (rooted O)) (eCallN_ok (F := F_is_one) (g := aCons (eV 3) (aNil)) (aCons_ok (eF_fz (eV_v rfl)) aNil_ok) rfl (ev_is_one hO)) hr)
    (fun _ => one_is (w := wQ ns a (.v (pO O)) c3 (.v (.int v)) e f g h i j U3) (good_lots hO) (eCallNR_ok (F := F_lots_up) (g := aCons (eV 3) (aNil)) (aCons_ok (eF_fz (eV_v rfl)) aNil_ok) rfl (ev_lots_up hO)) (eCall_ok (F := F__law_lots) (g := aCons (eV 3) (aNil)) (aCons_ok (eF_fz (eV_v rfl)) aNil_ok) rfl (ev__law_lots hO)))
    (fun y => nomatch y)
  obtain ⟨o, x, U4, c7, ho, hx, lt4⟩ := far_ok (ns := ns) (a := a) (c := c3) (d := .v (.int v)) (e := e) (f := f) (g := g) (h := h) (i := i) (j := j) (U := U3) hO (by omega)
  have lo4 := lt4.lo
  have hi4 := lt4.hi
  have c8 : gCalls 8 9 "BadOrder" [eCall F_order_part 2 [] (aCons (eV 6) (aCons (eV 7) (aNil))), eCall F_is_one 1 [] (aCons (eV 6) (aNil)), eCall F_lots_up 1 [] (aCons (eV 6) (aNil)), eCall F_speaks 2 [] (aCons (eV 6) (aCons (eD .none) (aNil))), eCall F_holds_on 2 [] (aCons (eV 6) (aCons (eD .none) (aNil)))] (wQ ns a (.v (pO O)) c3 (.v (.int v)) (.v o) (.v x) g h i j U4) = some (.nx (wQ ns a (.v (pO O)) c3 (.v (.int v)) (.v o) (.v x) .un .un i j U4)) := by
    have q1 : eCall F_order_part 2 [] (aCons (eV 6) (aCons (eV 7) (aNil))) (wQ ns a (.v (pO O)) c3 (.v (.int v)) (.v o) (.v x) .un .un i j U4) = some (.ex "BadOrder" none, wQ ns a (.v (pO O)) c3 (.v (.int v)) (.v o) (.v x) .un .un i j U4) := eCall_ex (aCons_ok (eF_fz (eV_v rfl)) (aCons_ok (eF_fz (eV_v rfl)) aNil_ok)) rfl (ev_order_part_odd ho)
    have q2 : eCall F_is_one 1 [] (aCons (eV 6) (aNil)) (wQ ns a (.v (pO O)) c3 (.v (.int v)) (.v o) (.v x) .un .un i j U4) = some (.ex "BadOrder" none, wQ ns a (.v (pO O)) c3 (.v (.int v)) (.v o) (.v x) .un .un i j U4) := eCall_ex (aCons_ok (eF_fz (eV_v rfl)) aNil_ok) rfl (ev_is_one_odd ho)
    have q3 : eCall F_lots_up 1 [] (aCons (eV 6) (aNil)) (wQ ns a (.v (pO O)) c3 (.v (.int v)) (.v o) (.v x) .un .un i j U4) = some (.ex "BadOrder" none, wQ ns a (.v (pO O)) c3 (.v (.int v)) (.v o) (.v x) .un .un i j U4) := eCall_ex (aCons_ok (eF_fz (eV_v rfl)) aNil_ok) rfl (ev_lots_up_odd ho)
    have q4 : eCall F_speaks 2 [] (aCons (eV 6) (aCons (eD .none) (aNil))) (wQ ns a (.v (pO O)) c3 (.v (.int v)) (.v o) (.v x) .un .un i j U4) = some (.ex "BadOrder" none, wQ ns a (.v (pO O)) c3 (.v (.int v)) (.v o) (.v x) .un .un i j U4) := eCall_ex (aCons_ok (eF_fz (eV_v rfl)) (aCons_ok (d := .none) rfl aNil_ok)) rfl (ev_speaks_odd ho)
    have q5 : eCall F_holds_on 2 [] (aCons (eV 6) (aCons (eD .none) (aNil))) (wQ ns a (.v (pO O)) c3 (.v (.int v)) (.v o) (.v x) .un .un i j U4) = some (.ex "BadOrder" none, wQ ns a (.v (pO O)) c3 (.v (.int v)) (.v o) (.v x) .un .un i j U4) := eCall_ex (aCons_ok (eF_fz (eV_v rfl)) (aCons_ok (d := .none) rfl aNil_ok)) rfl (ev_holds_odd ho)
    have st : ∀ (f' : EF) (fs : List EF) (l' : Slot), f' (wQ ns a (.v (pO O)) c3 (.v (.int v)) (.v o) (.v x) .un .un i j U4) = some (.ex "BadOrder" none, wQ ns a (.v (pO O)) c3 (.v (.int v)) (.v o) (.v x) .un .un i j U4) → fCalls 9 "BadOrder" (f' :: fs) (wQ ns a (.v (pO O)) c3 (.v (.int v)) (.v o) (.v x) .un l' i j U4) = fCalls 9 "BadOrder" fs (wQ ns a (.v (pO O)) c3 (.v (.int v)) (.v o) (.v x) .un .un i j U4) := fun f' fs l' hc => fCalls_cons hc
    unfold gCalls
    rw [if_pos ⟨by show 8 < 12; decide, by show 9 < 12; decide⟩]
    rw [show (wQ ns a (.v (pO O)) c3 (.v (.int v)) (.v o) (.v x) g h i j U4).at 8 .un = wQ ns a (.v (pO O)) c3 (.v (.int v)) (.v o) (.v x) .un h i j U4 from rfl]
    rw [st _ _ _ q1, st _ _ _ q2, st _ _ _ q3, st _ _ _ q4, st _ _ _ q5]
    rfl
  have c9 : eIsC "BadWorld" (eCall F_order_part 2 [] (aCons (eV 3) (aCons (eV 7) (aNil)))) (wQ ns a (.v (pO O)) c3 (.v (.int v)) (.v o) (.v x) .un .un i j U4) = some (.fz (.bool true), wQ ns a (.v (pO O)) c3 (.v (.int v)) (.v o) (.v x) .un .un i j U4) := by
    have q0 : eCall F_order_part 2 [] (aCons (eV 3) (aCons (eV 7) (aNil))) (wQ ns a (.v (pO O)) c3 (.v (.int v)) (.v o) (.v x) .un .un i j U4) = some (.ex "BadWorld" none, wQ ns a (.v (pO O)) c3 (.v (.int v)) (.v o) (.v x) .un .un i j U4) := eCall_ex (aCons_ok (eF_fz (eV_v rfl)) (aCons_ok (eF_fz (eV_v rfl)) aNil_ok)) rfl (ev_order_part_far hO hx)
    unfold eIsC
    rw [q0]
    dsimp only
    rw [if_pos rfl]
  obtain ⟨m, U5, e10, hm, lt5⟩ := none_ok U4 (by omega)
  have lo5 := lt5.lo
  have hi5 := lt5.hi
  have c10 : eCallS 1 F__law_no_statement 0 (aNil) (wQ ns a (.v (pO O)) c3 (.v (.int v)) (.v o) (.v x) .un .un i j U4) = some (.fz m, wQ ns a (.v (pO O)) c3 (.v (.int v)) (.v o) (.v x) .un .un i j U5) := eCallS_ok (w1 := wQ ns a (.v (pO O)) c3 (.v (.int v)) (.v o) (.v x) .un .un i j U4) (ds := []) rfl rfl rfl e10
  have c11 : gWorks 11 "BadStatement" [eCall F_speaks 2 [] (aCons (eV 3) (aCons (eV 10) (aNil))), eCall F_holds_on 2 [] (aCons (eV 3) (aCons (eV 10) (aNil)))] (wQ ns a (.v (pO O)) c3 (.v (.int v)) (.v o) (.v x) .un .un (.v m) j U5) = some (.nx (wQ ns a (.v (pO O)) c3 (.v (.int v)) (.v o) (.v x) .un .un (.v m) .un U5)) := by
    have q1 : eCall F_speaks 2 [] (aCons (eV 3) (aCons (eV 10) (aNil))) (wQ ns a (.v (pO O)) c3 (.v (.int v)) (.v o) (.v x) .un .un (.v m) .un U5) = some (.ex "BadStatement" none, wQ ns a (.v (pO O)) c3 (.v (.int v)) (.v o) (.v x) .un .un (.v m) .un U5) := eCall_ex (aCons_ok (eF_fz (eV_v rfl)) (aCons_ok (eF_fz (eV_v rfl)) aNil_ok)) rfl (ev_speaks_none hO hm)
    have q2 : eCall F_holds_on 2 [] (aCons (eV 3) (aCons (eV 10) (aNil))) (wQ ns a (.v (pO O)) c3 (.v (.int v)) (.v o) (.v x) .un .un (.v m) .un U5) = some (.ex "BadStatement" none, wQ ns a (.v (pO O)) c3 (.v (.int v)) (.v o) (.v x) .un .un (.v m) .un U5) := eCall_ex (aCons_ok (eF_fz (eV_v rfl)) (aCons_ok (eF_fz (eV_v rfl)) aNil_ok)) rfl (ev_holds_none hO hm)
    have st : ∀ (f' : EF) (fs : List EF) (l' : Slot), f' (wQ ns a (.v (pO O)) c3 (.v (.int v)) (.v o) (.v x) .un .un (.v m) .un U5) = some (.ex "BadStatement" none, wQ ns a (.v (pO O)) c3 (.v (.int v)) (.v o) (.v x) .un .un (.v m) .un U5) → fCalls 11 "BadStatement" (f' :: fs) (wQ ns a (.v (pO O)) c3 (.v (.int v)) (.v o) (.v x) .un .un (.v m) l' U5) = fCalls 11 "BadStatement" fs (wQ ns a (.v (pO O)) c3 (.v (.int v)) (.v o) (.v x) .un .un (.v m) .un U5) := fun f' fs l' hc => fCalls_cons hc
    unfold gWorks
    rw [if_pos (by show 11 < 12; decide)]
    rw [st _ _ _ q1, st _ _ _ q2]
    rfl
  refine ⟨_, _, _, _, _, _, _, _, _, U5, gSq_ok (gAsg_fz c1 (by show 3 < 12; decide)) (gSq_ok (gFor_ok c2 e3) (gSq_ok (gAsg_fz c4 (by show 5 < 12; decide)) (gSq_ok (gIf_f c5 rfl) (gSq_ok (gIf_f c6 rfl) (gSq_ok c7 (gSq_ok c8 (gSq_ok (gIf_f (tNt_ok (b := true) (tE_ok c9)) rfl) (gSq_ok (gAsg_fz c10 (by show 10 < 12; decide)) c11)))))))), ⟨lo5, by omega⟩⟩
theorem law_val (ns : List Int) (hn : ns.length ≤ 63) : ∃ w, g_law (entryL N_law.length ns) = some (.rt (.bool true) w) := by
  have hmin : ∃ m : Nat, m ≤ 11 ∧ ((5 : Int) + (if (6 : Int) < (ns.length : Int) then 6 else (ns.length : Int))) = (m : Int) := by
    by_cases z : (6 : Int) < (ns.length : Int)
    · exact ⟨11, by decide, by rw [if_pos z]; rfl⟩
    · exact ⟨5 + ns.length, by omega, by rw [if_neg z]; omega⟩
  obtain ⟨m, hm, em⟩ := hmin
  have ei : iR1 (aCons (eC2 (eD (.int 5)) (eC2 (eScLen 0) (eD (.int 6)) oMin) oAdd) (aNil)) (entryL N_law.length ns) = some (rngP m, entryL N_law.length ns) := by
    have e1 : eC2 (eD (.int 5)) (eC2 (eScLen 0) (eD (.int 6)) oMin) oAdd (entryL N_law.length ns) = some (.fz (.int (m : Int)), entryL N_law.length ns) := by
      rw [← em]
      exact eC2_ok (.inl rfl) (.inl (eC2_ok (.inl (show eScLen 0 (entryL N_law.length ns) = some (.fz (.int (ns.length : Int)), entryL N_law.length ns) from rfl)) (.inl rfl) rfl)) rfl
    unfold iR1
    rw [aCons_ok (eF_fz e1) aNil_ok]
    dsimp only
    rw [if_pos (small_nat (by omega))]
    rfl
  obtain ⟨w', e, U', _, _⟩ := fFor_inv (tg := gN 2) (b := turnB) (fun n w => ∃ (U' : Src), (∃ a b c d e f g h i j, w = wQ ns a b c d e f g h i j U') ∧ (0 ≤ U'.turn ∧ U'.turn ≤ 300 * (n : Int))) (rngP m) 0 (entryL N_law.length ns) ⟨srcOf ns, ⟨.un, .un, .un, .un, .un, .un, .un, .un, .un, .un, rfl⟩, by show (0 : Int) ≤ 0 ∧ (0 : Int) ≤ 300 * ((0 : Nat) : Int); decide⟩ (fun n v w hd' hI => by
    obtain ⟨U1, ⟨a, b, c, d, e, f, g, h, i, j, rfl⟩, ht⟩ := hI
    obtain ⟨hn', rfl⟩ := rngP_get hd'
    rw [Nat.zero_add] at *
    obtain ⟨b', c', d', e', f', g', h', i', j', U2, e1, lt⟩ := turn_ok (ns := ns) (a := .v (.int (n : Int))) (b := b) (c := c) (d := d) (e := e) (f := f) (g := g) (h := h) (i := i) (j := j) (U := U1) (by omega)
    have lo := lt.lo
    have hi := lt.hi
    refine ⟨_, _, rfl, e1, U2, ⟨_, _, _, _, _, _, _, _, _, _, rfl⟩, lo, ?_⟩
    push_cast
    omega)
  exact ⟨w', gSq_ok (gFor_ok ei e) rfl⟩
end K67
set_option maxHeartbeats 4000000
namespace K67
open PySem PySem.Spec PyProof.Rows L2 DL
theorem ev1_begun (ns : List Int) (hn : ns.length ≤ 63) : g__law_begun (entryB N__law_begun.length ns) = some (.nx (midB N__law_begun.length ns)) := ev1_begin ns hn
theorem ev2_begun (ns : List Int) (hn : ns.length ≤ 63) : f__law_begun (midB N__law_begun.length ns) = some (.ow (.list ((srcOf ns).cells.map PyData.int)), midB N__law_begun.length ns) := ev2_begin ns hn
theorem ev_law : ∀ ns : List Int, ns.length ≤ 63 → ∃ w, g_law (entryL N_law.length ns) = some (.rt (.bool true) w) := law_val
theorem sc__law_begun : FnScope N__law_begun ["script"] (defScope s__law_begun) := ⟨rfl, rfl, rfl, by decide +kernel, rfl, by decide +kernel, by decide +kernel⟩
theorem ok__law_begun {P : Program} {w : World} {K : Fg} {mg : Str → Option Value} {base : Heap} (c : Fx K mg) : FnG P w K mg base CX0 1 (He.ga K "_law_begun") c.fd__law_begun ["script"] (spB K) := fn_begun (g1 := g__law_begun) (f2 := f__law_begun) c.D__law_begun sc__law_begun rfl (by decide) (fun cdv A outer s H E rm => PSs.nox (have nd := sc__law_begun.nd;
    pss_cons (d_setLc 1 [("cell", 2)] (di_sc 0) (fun _ _ _ _ _ => dg_name 2 (hN := nd)) (fun _ _ _ _ _ => dts_one (dt_ge (d_abs c.m_abs (d_var 2)) (d_pow (d_int) (d_int)))) (fun _ _ _ _ _ => d_sub (d_abs c.m_abs (d_var 2)) (d_pow (d_int) (d_int))) (hN := nd))
    (pss_one (ps_ret (pe_disp (pps_cons pe_str (pv 1) (pps_cons pe_str (d_lc [("cell", 2)] (di_sc 0) (fun _ _ _ _ _ => dg_name 2 (hN := nd)) (fun _ _ _ _ _ => dts_nil) (fun _ _ _ _ _ => d_abs c.m_abs (d_var 2)) (hN := nd)) (pps_cons pe_str pe_int (pps_cons pe_str pe_int pps_nil)))) rfl rfl (by simp) (by decide)))))) ev1_begun ev2_begun
theorem sc_law : FnScope N_law ["script"] (defScope s_law) := ⟨rfl, rfl, rfl, by decide +kernel, rfl, by decide +kernel, by decide +kernel⟩
theorem sc__law_caught : FnScope ["action", "found", "error"] ["action"] (defScope s__law_caught) := ⟨rfl, rfl, rfl, by decide +kernel, rfl, by decide +kernel, by decide +kernel⟩
theorem ge__law_caught {X : Cx} (c : Fx X.K X.mg) (cdv : Value) {q : Str} (hb : q = q) : LamX.GivesTo X ["action", "found", "error"] "_law_caught" (defScope s__law_caught) (He.ga X.K "_law_caught") cdv (defBody s__law_caught) "action" q (TKept X.K (He.ga X.K "RuleError")) := kept_gives rfl c.g_RuleError rfl rfl (by decide) rfl rfl rfl rfl rfl rfl
abbrev lawT (P : Addr) : Option (Addr × Str) := some (P, (("law" : Str) ++ ".<locals>.") ++ "<lambda>")
theorem ok_law {P : Program} {w : World} {K : Fg} {mg : Str → Option Value} {base : Heap} {pt : Addr} (c : Fx K mg) (tab : LamX.TabB base mg (He.codeOf K ("law", none)) pt) : FnG P w K mg base CX0 9 (He.ga K "law") c.fd_law ["script"] (spLaw K (lawT pt)) := fn_law (tb := lawT pt) (g := g_law) c.D_law sc_law rfl rfl (by decide) rfl (by first | exact Or.inl rfl | exact Or.inr rfl) (fun _ _ _ _ _ _ => rfl)
    (fun cdv A outer s H E rm => pg_call (dvs := []) (ds := []) ((ok__law_begun c).up (by decide : 1 ≤ 8)) rm rfl c.g__law_begun c.D__law_begun.kp (b__law_begun c) .nil passA (pa_cons (pv 0) pa_nil) (by decide) rfl rfl)
    (fun cdv cda A outer s H E rm => PSs.nox (letI tbc : TbC := ⟨lawT pt⟩; have nd := sc_law.nd; have tbx : TbX (cxOf CX0 P w K mg base N_law "law" (defScope s_law) (He.ga K "law") cdv A outer s H E).nox (He.codeOf K ("law", none)) pt := tbx_of tab (CdAt.code (p := ("law", none)) cda);
    ds_cons (d_for (di_range1 c.m_range (dA_cons (d_add (d_int) (d_min c.m_min (d_scLen 0 c.m_len) (d_int))) (dA_nil))) (dg_name 2 (hN := nd)) (ds_cons (d_set 3 (d_callS 1 ((ok__law_order c).up (by decide : 3 ≤ 8)) rm c.g__law_order c.D__law_order.kp (b__law_order c) passA (dA_cons (d_int) (dA_nil))) (hN := nd))
    (ds_cons (d_for (di_seq (d_lst (dA_cons (d_var 3) (dA_cons (d_callS 1 ((ok__law_bent c).up (by decide : 4 ≤ 8)) rm c.g__law_bent c.D__law_bent.kp (b__law_bent c) passA (dA_cons (d_var 3) (dA_nil))) (dA_cons (d_callS 1 ((ok__law_bent c).up (by decide : 4 ≤ 8)) rm c.g__law_bent c.D__law_bent.kp (b__law_bent c) passA (dA_cons (d_var 3) (dA_nil))) (dA_cons (d_callS 1 ((ok__law_no_order c).up (by decide : 4 ≤ 8)) rm c.g__law_no_order c.D__law_no_order.kp (b__law_no_order c) passA (dA_nil)) (dA_cons (d_add (d_var 3) (d_mulT (d_tup (dA_cons (d_tup (dA_nil)) (dA_nil))) (d_int))) (dA_nil)))))))) (dg_name 4 (hN := nd)) (ds_one (d_if (dt_pw (dw_or (dt_not (dt_val (d_fn ((ok__law_is c).up (by decide : 1 ≤ 8)) rm c.g__law_is c.D__law_is.kp (b__law_is c) (dA_cons (d_fn ((ok_is_order c).up (by decide : 3 ≤ 8)) rm c.g_is_order c.D_is_order.kp (b_is_order c) (dA_cons (d_var 4) (dA_nil))) (dA_cons (d_fn ((ok__law_is_order c).up (by decide : 1 ≤ 8)) rm c.g__law_is_order c.D__law_is_order.kp (b__law_is_order c) (dA_cons (d_var 4) (dA_nil))) (dA_nil)))))) (dw_or1 (dt_not (dt_val (d_fn ((ok__law_is c).up (by decide : 1 ≤ 8)) rm c.g__law_is c.D__law_is.kp (b__law_is c) (dA_cons (d_fnK ((ok_is_order c).up (by decide : 3 ≤ 8)) rm c.g_is_order c.D_is_order.kp (bk_is_order c) (dK_cons (d_var 4) (dK_nil))) (dA_cons (d_fn ((ok__law_is_order c).up (by decide : 1 ≤ 8)) rm c.g__law_is_order c.D__law_is_order.kp (b__law_is_order c) (dA_cons (d_var 4) (dA_nil))) (dA_nil))))))))) (ds_one (d_ret (d_bl))) (ds_nil))))
    (ds_cons (d_set 5 (d_callS 1 ((ok__law_draw c).up (by decide : 2 ≤ 8)) rm c.g__law_draw c.D__law_draw.kp (b__law_draw c) passA (dA_cons (d_len c.m_len (d_var 3)) (dA_nil))) (hN := nd))
    (ds_cons (d_if (dt_pw (dw_or (dt_not (dt_val (d_fn ((ok__law_is c).up (by decide : 1 ≤ 8)) rm c.g__law_is c.D__law_is.kp (b__law_is c) (dA_cons (d_fnN ((ok_order_part c).up (by decide : 5 ≤ 8)) rm c.g_order_part c.D_order_part.kp (b_order_part c) (dA_cons (d_var 3) (dA_cons (d_var 5) (dA_nil)))) (dA_cons (d_fn ((ok__law_part c).up (by decide : 1 ≤ 8)) rm c.g__law_part c.D__law_part.kp (b__law_part c) (dA_cons (d_var 3) (dA_cons (d_var 5) (dA_nil)))) (dA_nil)))))) (dw_or1 (dt_not (dt_val (d_fn ((ok__law_is c).up (by decide : 1 ≤ 8)) rm c.g__law_is c.D__law_is.kp (b__law_is c) (dA_cons (d_fnNR ((ok_order_part c).up (by decide : 5 ≤ 8)) rm c.g_order_part c.D_order_part.kp (br_order_part c) (dK_cons (d_var 5) (dK_cons (d_var 3) (dK_nil)))) (dA_cons (d_fn ((ok__law_part c).up (by decide : 1 ≤ 8)) rm c.g__law_part c.D__law_part.kp (b__law_part c) (dA_cons (d_var 3) (dA_cons (d_var 5) (dA_nil)))) (dA_nil))))))))) (ds_one (d_ret (d_bl))) (ds_nil))
    (ds_cons (d_if (dt_pw (dw_or (dt_not (dt_val (d_fn ((ok__law_is c).up (by decide : 1 ≤ 8)) rm c.g__law_is c.D__law_is.kp (b__law_is c) (dA_cons (d_fnN ((ok_is_one c).up (by decide : 5 ≤ 8)) rm c.g_is_one c.D_is_one.kp (b_is_one c) (dA_cons (d_var 3) (dA_nil))) (dA_cons (d_eq rm (d_len c.m_len (d_ix rm (d_var 3) (d_neg (d_int)))) (d_sub (d_len c.m_len (d_var 3)) (d_int))) (dA_nil)))))) (dw_or1 (dt_not (dt_val (d_fn ((ok__law_is c).up (by decide : 1 ≤ 8)) rm c.g__law_is c.D__law_is.kp (b__law_is c) (dA_cons (d_fnNR ((ok_lots_up c).up (by decide : 5 ≤ 8)) rm c.g_lots_up c.D_lots_up.kp (br_lots_up c) (dK_cons (d_var 3) (dK_nil))) (dA_cons (d_fn ((ok__law_lots c).up (by decide : 1 ≤ 8)) rm c.g__law_lots c.D__law_lots.kp (b__law_lots c) (dA_cons (d_var 3) (dA_nil))) (dA_nil))))))))) (ds_one (d_ret (d_bl))) (ds_nil))
    (ds_cons (d_parC 6 7 (d_callS 1 ((ok__law_no_order c).up (by decide : 4 ≤ 8)) rm c.g__law_no_order c.D__law_no_order.kp (b__law_no_order c) passA (dA_nil)) (d_callS 1 ((ok__law_pick c).up (by decide : 3 ≤ 8)) rm c.g__law_pick c.D__law_pick.kp (b__law_pick c) passA (dA_cons (d_lst (dA_cons (d_len c.m_len (d_var 3)) (dA_cons (d_sub (d_int) (d_int)) (dA_cons (d_non) (dA_cons (d_bl) (dA_cons (d_str) (dA_nil))))))) (dA_nil))) (hN := nd))
    (ds_calls 8 9 [⟨_, _, _, _, eCall F_order_part 2 [] (aCons (eV 6) (aCons (eV 7) (aNil)))⟩, ⟨_, _, _, _, eCall F_is_one 1 [] (aCons (eV 6) (aNil))⟩, ⟨_, _, _, _, eCall F_lots_up 1 [] (aCons (eV 6) (aNil))⟩, ⟨_, _, _, _, eCall F_speaks 2 [] (aCons (eV 6) (aCons (eD .none) (aNil)))⟩, ⟨_, _, _, _, eCall F_holds_on 2 [] (aCons (eV 6) (aCons (eD .none) (aNil)))⟩] tbx (.cons (LamX.lamS_by rfl) rfl (fun _ _ _ _ _ => rfl) (fun A outer s H E f c1 rm => (have tk := L2.takes_of (X := LamX.lamCx _ A outer s H E _ f c1) (E := E) rfl rfl rfl rfl; d_fnX ((ok_order_part c).up (by decide : 5 ≤ 6)) rm c.g_order_part c.D_order_part.kp (b_order_part c) tk (dA_cons (d_var 6) (dA_cons (d_var 7) (dA_nil))))) (.cons (LamX.lamS_by rfl) rfl (fun _ _ _ _ _ => rfl) (fun A outer s H E f c1 rm => (have tk := L2.takes_of (X := LamX.lamCx _ A outer s H E _ f c1) (E := E) rfl rfl rfl rfl; d_fnX ((ok_is_one c).up (by decide : 5 ≤ 6)) rm c.g_is_one c.D_is_one.kp (b_is_one c) tk (dA_cons (d_var 6) (dA_nil)))) (.cons (LamX.lamS_by rfl) rfl (fun _ _ _ _ _ => rfl) (fun A outer s H E f c1 rm => (have tk := L2.takes_of (X := LamX.lamCx _ A outer s H E _ f c1) (E := E) rfl rfl rfl rfl; d_fnX ((ok_lots_up c).up (by decide : 5 ≤ 6)) rm c.g_lots_up c.D_lots_up.kp (b_lots_up c) tk (dA_cons (d_var 6) (dA_nil)))) (.cons (LamX.lamS_by rfl) rfl (fun _ _ _ _ _ => rfl) (fun A outer s H E f c1 rm => (have tk := L2.takes_of (X := LamX.lamCx _ A outer s H E _ f c1) (E := E) rfl rfl rfl rfl; d_fnX ((ok_speaks c).up (by decide : 5 ≤ 6)) rm c.g_speaks c.D_speaks.kp (b_speaks c) tk (dA_cons (d_var 6) (dA_cons (d_non) (dA_nil))))) (.cons (LamX.lamS_by rfl) rfl (fun _ _ _ _ _ => rfl) (fun A outer s H E f c1 rm => (have tk := L2.takes_of (X := LamX.lamCx _ A outer s H E _ f c1) (E := E) rfl rfl rfl rfl; d_fnX ((ok_holds_on c).up (by decide : 6 ≤ 6)) rm c.g_holds_on c.D_holds_on.kp (b_holds_on c) tk (dA_cons (d_var 6) (dA_cons (d_non) (dA_nil))))) (.nil)))))) c.D__law_caught (b__law_caught c) sc__law_caught rfl (Or.inl rfl) (fun cdv => ge__law_caught c cdv rfl) rm rfl c.g__law_caught (ec_BadOrder c) c.m_isinstance rfl rfl rfl rfl (by decide) (by decide) (by decide) (by decide) nd rfl rfl (by decide) rfl rfl (by decide) (by decide) (by decide) (by decide) (by decide) rfl (by rfl) PassesOwn.never (ds_cons (d_if (dt_not (dt_val (d_isCaught tbx rfl c.D__law_caught (b__law_caught c) sc__law_caught rfl (Or.inl rfl) (fun cdv => ge__law_caught c cdv rfl) rm (LamX.lamS_by rfl) (fun _ _ _ _ _ => rfl) (fun A outer s H E f c1 rm => (have tk := L2.takes_of (X := LamX.lamCx _ A outer s H E _ f c1) (E := E) rfl rfl rfl rfl; d_fnX ((ok_order_part c).up (by decide : 5 ≤ 6)) rm c.g_order_part c.D_order_part.kp (b_order_part c) tk (dA_cons (d_var 3) (dA_cons (d_var 7) (dA_nil))))) rfl c.g__law_caught (ec_BadWorld c) c.m_isinstance rfl rfl rfl rfl (by decide) (by decide) (by decide) (by decide)))) (ds_one (d_ret (d_bl))) (ds_nil))
    (ds_cons (d_set 10 (d_callS 1 ((ok__law_no_statement c).up (by decide : 4 ≤ 8)) rm c.g__law_no_statement c.D__law_no_statement.kp (b__law_no_statement c) passA (dA_nil)) (hN := nd))
    (ds_one (d_works 11 [⟨He.ga _ "speaks", eCall F_speaks 2 [] (aCons (eV 3) (aCons (eV 10) (aNil)))⟩, ⟨He.ga _ "holds_on", eCall F_holds_on 2 [] (aCons (eV 3) (aCons (eV 10) (aNil)))⟩] (PA.weak (pa_cons (pe_glob (v := .ref (He.ga _ "speaks")) rfl c.g_speaks rfl) (pa_cons (pe_glob (v := .ref (He.ga _ "holds_on")) rfl c.g_holds_on rfl) (pa_nil))) (fun _ _ _ z => z)) (DL.all2 (pe_isCaughtW 11 ⟨He.ga _ "speaks", eCall F_speaks 2 [] (aCons (eV 3) (aCons (eV 10) (aNil)))⟩ tbx rfl c.D__law_caught (b__law_caught c) sc__law_caught rfl (Or.inl rfl) (fun cdv => ge__law_caught c cdv rfl) rm (LamX.lamS_by rfl) (fun _ _ _ _ _ => rfl) (fun A outer s H E f c1 rm => (have tk := L2.takes_of (X := LamX.lamCx _ A outer s H E _ f c1) (E := E) rfl rfl rfl rfl; d_callLX 11 ((ok_speaks c).up (by decide : 5 ≤ 6)) rm c.D_speaks.kp (b_speaks c) tk (dA_cons (d_var 3) (dA_cons (d_var 10) (dA_nil))))) rfl c.g__law_caught (ec_BadStatement c) c.m_isinstance rfl rfl rfl rfl (by decide) (by decide) (by decide) (by decide)) (pe_isCaughtW 11 ⟨He.ga _ "holds_on", eCall F_holds_on 2 [] (aCons (eV 3) (aCons (eV 10) (aNil)))⟩ tbx rfl c.D__law_caught (b__law_caught c) sc__law_caught rfl (Or.inl rfl) (fun cdv => ge__law_caught c cdv rfl) rm (LamX.lamS_by rfl) (fun _ _ _ _ _ => rfl) (fun A outer s H E f c1 rm => (have tk := L2.takes_of (X := LamX.lamCx _ A outer s H E _ f c1) (E := E) rfl rfl rfl rfl; d_callLX 11 ((ok_holds_on c).up (by decide : 6 ≤ 6)) rm c.D_holds_on.kp (b_holds_on c) tk (dA_cons (d_var 3) (dA_cons (d_var 10) (dA_nil))))) rfl c.g__law_caught (ec_BadStatement c) c.m_isinstance rfl rfl rfl rfl (by decide) (by decide) (by decide) (by decide))) nd rfl (by first | exact Or.inl rfl | exact Or.inr rfl) (by first | exact Or.inl rfl | exact Or.inr rfl) (show 2 ≤ 100 by decide) rfl rfl PassesOwn.never))))))))))))
    (ds_one (d_ret (d_bl))))) ev_law
end K67
set_option maxHeartbeats 0
namespace K67
open PySem PySem.Spec PyProof.Rows L2 DL
theorem ex_BadStatement {K : Fg} (h : ex K = true) : DL.clsB K (He.ga K "BadStatement") = true := by unfold ex at h; simp only [Bool.and_eq_true] at h; first | exact h | exact h.1 | exact h.2 | exact h.1.1 | exact h.1.2 | exact h.2.1 | exact h.2.2 | exact h.1.1.1 | exact h.1.1.2 | exact h.1.1.1.1 | exact h.1.1.1.2
theorem ex_BadWorld {K : Fg} (h : ex K = true) : DL.clsB K (He.ga K "BadWorld") = true := by unfold ex at h; simp only [Bool.and_eq_true] at h; first | exact h | exact h.1 | exact h.2 | exact h.1.1 | exact h.1.2 | exact h.2.1 | exact h.2.2 | exact h.1.1.1 | exact h.1.1.2 | exact h.1.1.1.1 | exact h.1.1.1.2
theorem ex_BadOrder {K : Fg} (h : ex K = true) : DL.clsB K (He.ga K "BadOrder") = true := by unfold ex at h; simp only [Bool.and_eq_true] at h; first | exact h | exact h.1 | exact h.2 | exact h.1.1 | exact h.1.2 | exact h.2.1 | exact h.2.2 | exact h.1.1.1 | exact h.1.1.2 | exact h.1.1.1.1 | exact h.1.1.1.2
theorem ex_LETTERS {K : Fg} (h : ex K = true) : He.tupB K "LETTERS" [.str "p", .str "q", .str "r", .str "s"] = true := by unfold ex at h; simp only [Bool.and_eq_true] at h; first | exact h | exact h.1 | exact h.2 | exact h.1.1 | exact h.1.2 | exact h.2.1 | exact h.2.2 | exact h.1.1.1 | exact h.1.1.2 | exact h.1.1.1.1 | exact h.1.1.1.2
theorem rp_LETTERS {K : Fg} (H : Hp) : RpA K H D_LETTERS V_LETTERS := by unfold D_LETTERS V_LETTERS; simp [RpA, Rp]
theorem ex_WORDS {K : Fg} (h : ex K = true) : He.tupB K "WORDS" [.str "both", .str "either", .str "gives"] = true := by unfold ex at h; simp only [Bool.and_eq_true] at h; first | exact h | exact h.1 | exact h.2 | exact h.1.1 | exact h.1.2 | exact h.2.1 | exact h.2.2 | exact h.1.1.1 | exact h.1.1.2 | exact h.1.1.1.1 | exact h.1.1.1.2
theorem rp_WORDS {K : Fg} (H : Hp) : RpA K H D_WORDS V_WORDS := by unfold D_WORDS V_WORDS; simp [RpA, Rp]
theorem mkFx {K : Fg} {mg : Str → Option Value} {w : World} {h : Heap} (X : K.In h) (G : h.Ns mainGlobals mg) (c : He.SaysX fa fn [] tf ex w h K) : Nonempty (Fx K mg) := by
  obtain ⟨fd_is_letter, D_is_letter⟩ := c.t.d.def_ 0 (d := d_is_letter) rfl
  obtain ⟨fd_is_statement, D_is_statement⟩ := c.t.d.def_ 1 (d := d_is_statement) rfl
  obtain ⟨fd_need_statement, D_need_statement⟩ := c.t.d.def_ 2 (d := d_need_statement) rfl
  obtain ⟨fd_inner, D_inner⟩ := c.t.d.def_ 3 (d := d_inner) rfl
  obtain ⟨fd_parts_in, D_parts_in⟩ := c.t.d.def_ 4 (d := d_parts_in) rfl
  obtain ⟨fd_size_in, D_size_in⟩ := c.t.d.def_ 5 (d := d_size_in) rfl
  obtain ⟨fd_letters_in, D_letters_in⟩ := c.t.d.def_ 6 (d := d_letters_in) rfl
  obtain ⟨fd_is_whole, D_is_whole⟩ := c.t.d.def_ 7 (d := d_is_whole) rfl
  obtain ⟨fd_is_rising, D_is_rising⟩ := c.t.d.def_ 8 (d := d_is_rising) rfl
  obtain ⟨fd_are_worlds, D_are_worlds⟩ := c.t.d.def_ 9 (d := d_are_worlds) rfl
  obtain ⟨fd_is_shut, D_is_shut⟩ := c.t.d.def_ 10 (d := d_is_shut) rfl
  obtain ⟨fd_truths_in, D_truths_in⟩ := c.t.d.def_ 11 (d := d_truths_in) rfl
  obtain ⟨fd_is_order, D_is_order⟩ := c.t.d.def_ 12 (d := d_is_order) rfl
  obtain ⟨fd_need_order, D_need_order⟩ := c.t.d.def_ 13 (d := d_need_order) rfl
  obtain ⟨fd_part_in, D_part_in⟩ := c.t.d.def_ 14 (d := d_part_in) rfl
  obtain ⟨fd_order_part, D_order_part⟩ := c.t.d.def_ 15 (d := d_order_part) rfl
  obtain ⟨fd_has_root, D_has_root⟩ := c.t.d.def_ 16 (d := d_has_root) rfl
  obtain ⟨fd_is_one, D_is_one⟩ := c.t.d.def_ 17 (d := d_is_one) rfl
  obtain ⟨fd_up_lots, D_up_lots⟩ := c.t.d.def_ 18 (d := d_up_lots) rfl
  obtain ⟨fd_lots_up, D_lots_up⟩ := c.t.d.def_ 19 (d := d_lots_up) rfl
  obtain ⟨fd_how_many_markings, D_how_many_markings⟩ := c.t.d.def_ 20 (d := d_how_many_markings) rfl
  obtain ⟨fd_marks_by, D_marks_by⟩ := c.t.d.def_ 21 (d := d_marks_by) rfl
  obtain ⟨fd_all_marks, D_all_marks⟩ := c.t.d.def_ 22 (d := d_all_marks) rfl
  obtain ⟨fd_truths_by, D_truths_by⟩ := c.t.d.def_ 23 (d := d_truths_by) rfl
  obtain ⟨fd_first_fail, D_first_fail⟩ := c.t.d.def_ 24 (d := d_first_fail) rfl
  obtain ⟨fd_speaks, D_speaks⟩ := c.t.d.def_ 25 (d := d_speaks) rfl
  obtain ⟨fd_holds_on, D_holds_on⟩ := c.t.d.def_ 26 (d := d_holds_on) rfl
  obtain ⟨fd__law_begun, D__law_begun⟩ := c.t.d.def_ 27 (d := d__law_begun) rfl
  obtain ⟨fd__law_mixed, D__law_mixed⟩ := c.t.d.def_ 28 (d := d__law_mixed) rfl
  obtain ⟨fd__law_draw, D__law_draw⟩ := c.t.d.def_ 29 (d := d__law_draw) rfl
  obtain ⟨fd__law_pick, D__law_pick⟩ := c.t.d.def_ 30 (d := d__law_pick) rfl
  obtain ⟨fd__law_shuffled, D__law_shuffled⟩ := c.t.d.def_ 31 (d := d__law_shuffled) rfl
  obtain ⟨fd__law_is, D__law_is⟩ := c.t.d.def_ 32 (d := d__law_is) rfl
  obtain ⟨fd__law_caught, D__law_caught⟩ := c.t.d.def_ 33 (d := d__law_caught) rfl
  obtain ⟨fd__law_order, D__law_order⟩ := c.t.d.def_ 34 (d := d__law_order) rfl
  obtain ⟨fd__law_lots, D__law_lots⟩ := c.t.d.def_ 35 (d := d__law_lots) rfl
  obtain ⟨fd__law_part, D__law_part⟩ := c.t.d.def_ 36 (d := d__law_part) rfl
  obtain ⟨fd__law_no_statement, D__law_no_statement⟩ := c.t.d.def_ 37 (d := d__law_no_statement) rfl
  obtain ⟨fd__law_no_order, D__law_no_order⟩ := c.t.d.def_ 38 (d := d__law_no_order) rfl
  obtain ⟨fd__law_is_order, D__law_is_order⟩ := c.t.d.def_ 39 (d := d__law_is_order) rfl
  obtain ⟨fd__law_bent, D__law_bent⟩ := c.t.d.def_ 40 (d := d__law_bent) rfl
  obtain ⟨fd_law, D_law⟩ := c.t.d.def_ 41 (d := d_law) rfl
  exact ⟨{
    fd_is_letter := fd_is_letter,
    D_is_letter := D_is_letter,
    g_is_letter := He.glo_ok X G (c.t.d.fact 16 (f := .glo "is_letter") rfl),
    fd_is_statement := fd_is_statement,
    D_is_statement := D_is_statement,
    g_is_statement := He.glo_ok X G (c.t.d.fact 17 (f := .glo "is_statement") rfl),
    fd_need_statement := fd_need_statement,
    D_need_statement := D_need_statement,
    g_need_statement := He.glo_ok X G (c.t.d.fact 18 (f := .glo "need_statement") rfl),
    fd_inner := fd_inner,
    D_inner := D_inner,
    g_inner := He.glo_ok X G (c.t.d.fact 19 (f := .glo "inner") rfl),
    fd_parts_in := fd_parts_in,
    D_parts_in := D_parts_in,
    g_parts_in := He.glo_ok X G (c.t.d.fact 20 (f := .glo "parts_in") rfl),
    fd_size_in := fd_size_in,
    D_size_in := D_size_in,
    g_size_in := He.glo_ok X G (c.t.d.fact 21 (f := .glo "size_in") rfl),
    fd_letters_in := fd_letters_in,
    D_letters_in := D_letters_in,
    g_letters_in := He.glo_ok X G (c.t.d.fact 22 (f := .glo "letters_in") rfl),
    fd_is_whole := fd_is_whole,
    D_is_whole := D_is_whole,
    g_is_whole := He.glo_ok X G (c.t.d.fact 23 (f := .glo "is_whole") rfl),
    fd_is_rising := fd_is_rising,
    D_is_rising := D_is_rising,
    g_is_rising := He.glo_ok X G (c.t.d.fact 24 (f := .glo "is_rising") rfl),
    fd_are_worlds := fd_are_worlds,
    D_are_worlds := D_are_worlds,
    g_are_worlds := He.glo_ok X G (c.t.d.fact 25 (f := .glo "are_worlds") rfl),
    fd_is_shut := fd_is_shut,
    D_is_shut := D_is_shut,
    g_is_shut := He.glo_ok X G (c.t.d.fact 26 (f := .glo "is_shut") rfl),
    fd_truths_in := fd_truths_in,
    D_truths_in := D_truths_in,
    g_truths_in := He.glo_ok X G (c.t.d.fact 27 (f := .glo "truths_in") rfl),
    fd_is_order := fd_is_order,
    D_is_order := D_is_order,
    g_is_order := He.glo_ok X G (c.t.d.fact 30 (f := .glo "is_order") rfl),
    fd_need_order := fd_need_order,
    D_need_order := D_need_order,
    g_need_order := He.glo_ok X G (c.t.d.fact 31 (f := .glo "need_order") rfl),
    fd_part_in := fd_part_in,
    D_part_in := D_part_in,
    g_part_in := He.glo_ok X G (c.t.d.fact 32 (f := .glo "part_in") rfl),
    fd_order_part := fd_order_part,
    D_order_part := D_order_part,
    g_order_part := He.glo_ok X G (c.t.d.fact 33 (f := .glo "order_part") rfl),
    fd_has_root := fd_has_root,
    D_has_root := D_has_root,
    g_has_root := He.glo_ok X G (c.t.d.fact 34 (f := .glo "has_root") rfl),
    fd_is_one := fd_is_one,
    D_is_one := D_is_one,
    g_is_one := He.glo_ok X G (c.t.d.fact 35 (f := .glo "is_one") rfl),
    fd_up_lots := fd_up_lots,
    D_up_lots := D_up_lots,
    g_up_lots := He.glo_ok X G (c.t.d.fact 36 (f := .glo "up_lots") rfl),
    fd_lots_up := fd_lots_up,
    D_lots_up := D_lots_up,
    g_lots_up := He.glo_ok X G (c.t.d.fact 37 (f := .glo "lots_up") rfl),
    fd_how_many_markings := fd_how_many_markings,
    D_how_many_markings := D_how_many_markings,
    g_how_many_markings := He.glo_ok X G (c.t.d.fact 38 (f := .glo "how_many_markings") rfl),
    fd_marks_by := fd_marks_by,
    D_marks_by := D_marks_by,
    g_marks_by := He.glo_ok X G (c.t.d.fact 39 (f := .glo "marks_by") rfl),
    fd_all_marks := fd_all_marks,
    D_all_marks := D_all_marks,
    g_all_marks := He.glo_ok X G (c.t.d.fact 40 (f := .glo "all_marks") rfl),
    fd_truths_by := fd_truths_by,
    D_truths_by := D_truths_by,
    g_truths_by := He.glo_ok X G (c.t.d.fact 41 (f := .glo "truths_by") rfl),
    fd_first_fail := fd_first_fail,
    D_first_fail := D_first_fail,
    g_first_fail := He.glo_ok X G (c.t.d.fact 42 (f := .glo "first_fail") rfl),
    fd_speaks := fd_speaks,
    D_speaks := D_speaks,
    g_speaks := He.glo_ok X G (c.t.d.fact 43 (f := .glo "speaks") rfl),
    fd_holds_on := fd_holds_on,
    D_holds_on := D_holds_on,
    g_holds_on := He.glo_ok X G (c.t.d.fact 44 (f := .glo "holds_on") rfl),
    fd__law_begun := fd__law_begun,
    D__law_begun := D__law_begun,
    g__law_begun := He.glo_ok X G (c.t.d.fact 45 (f := .glo "_law_begun") rfl),
    fd__law_mixed := fd__law_mixed,
    D__law_mixed := D__law_mixed,
    g__law_mixed := He.glo_ok X G (c.t.d.fact 46 (f := .glo "_law_mixed") rfl),
    fd__law_draw := fd__law_draw,
    D__law_draw := D__law_draw,
    g__law_draw := He.glo_ok X G (c.t.d.fact 47 (f := .glo "_law_draw") rfl),
    fd__law_pick := fd__law_pick,
    D__law_pick := D__law_pick,
    g__law_pick := He.glo_ok X G (c.t.d.fact 48 (f := .glo "_law_pick") rfl),
    fd__law_shuffled := fd__law_shuffled,
    D__law_shuffled := D__law_shuffled,
    g__law_shuffled := He.glo_ok X G (c.t.d.fact 49 (f := .glo "_law_shuffled") rfl),
    fd__law_is := fd__law_is,
    D__law_is := D__law_is,
    g__law_is := He.glo_ok X G (c.t.d.fact 50 (f := .glo "_law_is") rfl),
    fd__law_caught := fd__law_caught,
    D__law_caught := D__law_caught,
    g__law_caught := He.glo_ok X G (c.t.d.fact 51 (f := .glo "_law_caught") rfl),
    fd__law_order := fd__law_order,
    D__law_order := D__law_order,
    g__law_order := He.glo_ok X G (c.t.d.fact 52 (f := .glo "_law_order") rfl),
    fd__law_lots := fd__law_lots,
    D__law_lots := D__law_lots,
    g__law_lots := He.glo_ok X G (c.t.d.fact 53 (f := .glo "_law_lots") rfl),
    fd__law_part := fd__law_part,
    D__law_part := D__law_part,
    g__law_part := He.glo_ok X G (c.t.d.fact 54 (f := .glo "_law_part") rfl),
    fd__law_no_statement := fd__law_no_statement,
    D__law_no_statement := D__law_no_statement,
    g__law_no_statement := He.glo_ok X G (c.t.d.fact 55 (f := .glo "_law_no_statement") rfl),
    fd__law_no_order := fd__law_no_order,
    D__law_no_order := D__law_no_order,
    g__law_no_order := He.glo_ok X G (c.t.d.fact 56 (f := .glo "_law_no_order") rfl),
    fd__law_is_order := fd__law_is_order,
    D__law_is_order := D__law_is_order,
    g__law_is_order := He.glo_ok X G (c.t.d.fact 57 (f := .glo "_law_is_order") rfl),
    fd__law_bent := fd__law_bent,
    D__law_bent := D__law_bent,
    g__law_bent := He.glo_ok X G (c.t.d.fact 58 (f := .glo "_law_bent") rfl),
    fd_law := fd_law,
    D_law := D_law,
    g_law := He.glo_ok X G (c.t.d.fact 59 (f := .glo "law") rfl),
    g_LETTERS := He.glo_ok X G (c.t.d.fact 12 (f := .glo "LETTERS") rfl),
    t_LETTERS := fun H => He.tupB_ok (ex_LETTERS c.more) H,
    r_LETTERS := rp_LETTERS,
    g_WORDS := He.glo_ok X G (c.t.d.fact 13 (f := .glo "WORDS") rfl),
    t_WORDS := fun H => He.tupB_ok (ex_WORDS c.more) H,
    r_WORDS := rp_WORDS,
    k_MOST_SIZE := He.int_ok X G (c.t.d.fact 14 (f := .int "MOST_SIZE" 80) rfl),
    k_MOST_DEEP := He.int_ok X G (c.t.d.fact 15 (f := .int "MOST_DEEP" 24) rfl),
    k_MOST_WORLDS := He.int_ok X G (c.t.d.fact 28 (f := .int "MOST_WORLDS" 7) rfl),
    k_MOST_MARKINGS := He.int_ok X G (c.t.d.fact 29 (f := .int "MOST_MARKINGS" 20000) rfl),
    g_RuleError := He.glo_ok X G (c.t.d.fact 0 (f := .glo "RuleError") rfl),
    x_RuleError := He.exc_ok (c.t.d.fact 1 (f := .exc "RuleError") rfl),
    g_BadStatement := He.glo_ok X G (c.t.d.fact 2 (f := .glo "BadStatement") rfl),
    x_BadStatement := He.exc_ok (c.t.d.fact 3 (f := .exc "BadStatement") rfl),
    e_BadStatement := He.exm_ok (c.t.d.fact 4 (f := .exm "BadStatement" "RuleError" true) rfl),
    i_BadStatement := DL.clsB_ok (ex_BadStatement c.more),
    g_BadWorld := He.glo_ok X G (c.t.d.fact 5 (f := .glo "BadWorld") rfl),
    x_BadWorld := He.exc_ok (c.t.d.fact 6 (f := .exc "BadWorld") rfl),
    e_BadWorld := He.exm_ok (c.t.d.fact 7 (f := .exm "BadWorld" "RuleError" true) rfl),
    i_BadWorld := DL.clsB_ok (ex_BadWorld c.more),
    g_BadOrder := He.glo_ok X G (c.t.d.fact 8 (f := .glo "BadOrder") rfl),
    x_BadOrder := He.exc_ok (c.t.d.fact 9 (f := .exc "BadOrder") rfl),
    e_BadOrder := He.exm_ok (c.t.d.fact 10 (f := .exm "BadOrder" "RuleError" true) rfl),
    i_BadOrder := DL.clsB_ok (ex_BadOrder c.more),
    m_abs := He.free_ok X G (c.t.d.fact 61 (f := .free "abs") rfl),
    m_all := He.free_ok X G (c.t.d.fact 62 (f := .free "all") rfl),
    m_bool := He.free_ok X G (c.t.d.fact 63 (f := .free "bool") rfl),
    m_enumerate := He.free_ok X G (c.t.d.fact 64 (f := .free "enumerate") rfl),
    m_int := He.free_ok X G (c.t.d.fact 65 (f := .free "int") rfl),
    m_isinstance := He.free_ok X G (c.t.d.fact 66 (f := .free "isinstance") rfl),
    m_len := He.free_ok X G (c.t.d.fact 67 (f := .free "len") rfl),
    m_list := He.free_ok X G (c.t.d.fact 68 (f := .free "list") rfl),
    m_min := He.free_ok X G (c.t.d.fact 69 (f := .free "min") rfl),
    m_range := He.free_ok X G (c.t.d.fact 70 (f := .free "range") rfl),
    m_repr := He.free_ok X G (c.t.d.fact 71 (f := .free "repr") rfl),
    m_set := He.free_ok X G (c.t.d.fact 72 (f := .free "set") rfl),
    m_sorted := He.free_ok X G (c.t.d.fact 73 (f := .free "sorted") rfl),
    m_str := He.free_ok X G (c.t.d.fact 74 (f := .free "str") rfl),
    m_tuple := He.free_ok X G (c.t.d.fact 76 (f := .free "tuple") rfl),
    m_zip := He.free_ok X G (c.t.d.fact 77 (f := .free "zip") rfl) }⟩
end K67
open PySem PySem.W PySem.Calls PyProof.Rows
theorem PySem.Challenge.cw_rulesadded_k67_orders_and_their_parts_holds : PySem.Challenge.rw_rulesadded_k67_orders_and_their_parts.Holds := by
  w_on; o_law
  refine HandSHeadRun.head_any (r := OpenLaw.row PySem.Challenge.rw_rulesadded_k67_orders_and_their_parts) (q := view (OpenLaw.row PySem.Challenge.rw_rulesadded_k67_orders_and_their_parts).prog [57]) (H := K67.hk) (ob := K67.ob) (M := 20000) (loose := K67.loose) (d := HandSHeadRun.topDef (OpenLaw.row PySem.Challenge.rw_rulesadded_k67_orders_and_their_parts).prog 57) (kwd := []) K67.ob_eq
    (by kernel_rfl) (fun s => by kernel_rfl) K67.run (by kernel_rfl) (by kernel_rfl) (by kernel_rfl) (by rfl) (by first | assumption | decide +kernel) (by decide +kernel) ⟨rfl, rfl, rfl, rfl, rfl, by decide +kernel⟩ ?hw ?hc
  case hw => w_witness2
  case hc =>
    refine DL.walkGT (l := PySem.Challenge.rw_rulesadded_k67_orders_and_their_parts) (n := 63) (k := 9) (x := "script") rfl (by decide) (by kernel_rfl) ⟨rfl, by decide, by decide⟩ ?F
    intro w mg fa h Y G hmg0
    obtain ⟨K, KX, c⟩ := Y
    have hmg : mg ("law" : PySem.Str) = some (.ref fa) := by
      have e : (HandSHeadRun.topDef (OpenLaw.row PySem.Challenge.rw_rulesadded_k67_orders_and_their_parts).prog 57).name = ("law" : PySem.Str) := by kernel_rfl
      rw [← e]
      exact hmg0
    obtain ⟨fx⟩ := K67.mkFx KX G c
    have e := hmg.symm.trans fx.g_law
    cases e
    have mt : (("law", none) : He.Defn) ∈ K67.tf := by simp [K67.tf]
    exact ⟨K, fx.fd_law, DL.spLaw K (K67.lawT (He.cT K ("law", none)).2), (He.cT K ("law", none)).1, (He.cT K ("law", none)).2, KX, c.empty _ mt, c.out _ mt, c.hd _ mt, fun s v => L2.FunD.bindsA (ps := ["script"]) fx.D_law (fun _ _ _ _ _ _ us hl => match us, hl with | [_], _ => rfl) s [v] rfl, fun H a ns hl hP hS => ⟨a, ns, rfl, hS, hl, fun p e => by cases e; exact hP, fun _ => rfl⟩, fun base _ _ tab => K67.ok_law fx tab⟩
