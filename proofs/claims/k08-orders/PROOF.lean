import PyProof.Rows.All
import Wide.All
import OpenK.AllK
import Wide.FinOn
import PyProof.EqAt
import PyProof.EqKinds
import PyProof.TupleCall
import HandS.ForMost
import HandS.ForExc
import HandS.Wide
import HandS.Deep
import HandS.TupAny
import KE.LtData
import HandS.TupLe
import KE.SortData
import KE.DataCmp
import HandS.Dict
import KE.GoesEnum
import KE.GoesMore
import HandS.Style
import HandS.SetIn
import HandS.SetBool
import HandS.IsInst
import HandS.Conv
import KE.KDictZip
import PyProof.CollectWalk
import HandS.Words
import OpenK.KMore
import HandS.EndBits
import PyProof.StrLawsRepr
import KE.KStrOpen
import PySem.Challenge.RW_seekline_k08_whole_merges_among_all_orde
set_option Elab.async false
set_option linter.all false
set_option maxRecDepth 100000
set_option maxHeartbeats 4000000
/-! SkA: pure values, the store of changeable objects, how they stand in the abstract heap. -/
namespace Sk
open PySem PySem.Spec PyProof.Rows L2

/-- a pure value. loc: an object that may change, by its place in the store -/
inductive PV where
  | non
  | bl (b : Bool)
  | int (i : Int)
  | str (x : Str)
  | tup (l : List PV)
  | lst (l : List PV)
  | dct (ks : List Key) (l : List PV)
  | sts (l : List Str)
  | loc (n : Nat)
  | obj (c : Str) (fs : List Str) (l : List PV)
deriving Inhabited

/-- an object that may change -/
inductive MO where
  | lst (l : List PV)
  | dct (ks : List Key) (l : List PV)
  | ins (c : Str) (fs : List Str) (l : List PV)

abbrev Sto := List (Option MO)
abbrev PEnv := List (Option PV)

/-- an exception of the program: its class, its fields -/
structure EX where
  c : Str
  fs : List Str
  vs : List PV

inductive Res (α : Type) where
  | ok (v : α) (M : Sto)
  | ex (e : EX) (M : Sto)
  | no

def Res.bnd {α β : Type} (r : Res α) (k : α → Sto → Res β) : Res β :=
  match r with
  | .ok v M => k v M
  | .ex e M => .ex e M
  | .no => .no
@[simp] theorem bnd_ok {α β : Type} {v : α} {M : Sto} {k : α → Sto → Res β} : (Res.ok v M).bnd k = k v M := rfl
@[simp] theorem bnd_ex {α β : Type} {e : EX} {M : Sto} {k : α → Sto → Res β} : (Res.ex e M : Res α).bnd k = .ex e M := rfl
@[simp] theorem bnd_no {α β : Type} {k : α → Sto → Res β} : (Res.no : Res α).bnd k = .no := rfl

/-! ### ghosts -/
structure Gh where
  /-- what stands for good -/
  fz : Addr → Prop
  /-- what a loop keeps for itself -/
  fr : Addr → Prop
  /-- where the store's objects stand -/
  mu : Nat → Option Addr

/-- how a class's instance is told: by the class's address -/
structure Cfg where
  P : Program
  w : World
  K : PySem.W.Frag
  /-- the class of that name -/
  cls : Str → Option Addr

def FzT (C : Cfg) (G : Gh) (H : Hp) (a : Addr) (xs : List V) : Prop :=
  (G.fz a ∧ Rd H a (.tup xs)) ∨ ∃ (o : Obj) (its : Array Value) (n : Nat), C.K.lookup a = some o ∧ o.cls = .type "tuple" ∧ o.data = .seq its n ∧ its.size ≤ sizeLine ∧ Vals xs its.toList
def FzL (C : Cfg) (G : Gh) (H : Hp) (a : Addr) (xs : List V) : Prop :=
  (G.fz a ∧ Rd H a (.lst xs)) ∨ ∃ (o : Obj) (its : Array Value) (n : Nat), C.K.lookup a = some o ∧ o.cls = .type "list" ∧ o.dict = none ∧ o.data = .seq its n ∧ its.size ≤ sizeLine ∧ Vals xs its.toList
theorem FzT.sq {C : Cfg} {G : Gh} {H : Hp} {a : Addr} {xs : List V} (h : FzT C G H a xs) : SqT C.K H a xs := h.elim (fun z => .inl z.2) .inr
theorem FzL.sq {C : Cfg} {G : Gh} {H : Hp} {a : Addr} {xs : List V} (h : FzL C G H a xs) : SqL C.K H a xs := h.elim (fun z => .inl z.2) .inr

/-- a set of names at a -/
def SetAt (C : Cfg) (a : Addr) (l : List Str) (h : Heap) : Prop := ∃ (S : Str → Bool) (n : Nat), h.SetOf (strKind C.P C.w) a S n ∧ n ≤ l.length ∧ ∀ x, S x = true ↔ x ∈ l

/-- a text that Python may hold -/
def StrFine (x : Str) : Prop := x.cps.all (· < 0x110000) = true ∧ x.length ≤ sizeLine
def KeyFine : Key → Prop
  | .inl _ => True
  | .inr x => StrFine x

mutual
def Rep (C : Cfg) (G : Gh) (H : Hp) : PV → V → Prop
  | .non, v => v = .non
  | .bl b, v => v = .bl b
  | .int i, v => v = .int i
  | .str x, v => v = .str x ∧ StrFine x
  | .tup l, v => ∃ a xs, v = .ref a ∧ FzT C G H a xs ∧ RepL C G H l xs
  | .lst l, v => ∃ a xs, v = .ref a ∧ FzL C G H a xs ∧ RepL C G H l xs
  | .dct ks l, v => ∃ a xs, v = .ref a ∧ G.fz a ∧ Rd H a (.dK (ks.zip xs)) ∧ (ks.length = l.length ∧ ∀ k ∈ ks, KeyFine k) ∧ RepL C G H l xs
  | .sts l, v => ∃ a, v = .ref a ∧ G.fz a ∧ H a = some (.ext (SetAt C a l))
  | .loc n, v => ∃ a, v = .ref a ∧ G.mu n = some a
  | .obj c fs l, v => ∃ a B dx xs, v = .ref a ∧ C.cls c = some B ∧ G.fz a ∧ G.fz dx ∧ H a = some (.ins B dx (fs.zip xs)) ∧ H dx = some (.own a) ∧ fs.length = l.length ∧ RepL C G H l xs
def RepL (C : Cfg) (G : Gh) (H : Hp) : List PV → List V → Prop
  | [], xs => xs = []
  | p :: l, xs => ∃ x r, xs = x :: r ∧ Rep C G H p x ∧ RepL C G H l r
end

/-- one step on: what stood stands -/
structure Stq (G : Gh) (H : Hp) (G' : Gh) (H' : Hp) : Prop where
  fz : ∀ a, G.fz a → G'.fz a
  mu : ∀ n a, G.mu n = some a → G'.mu n = some a
  rd : ∀ a u, G.fz a → Rd H a u → Rd H' a u
  at' : ∀ a u, G.fz a → H a = some u → (∀ k, u ≠ .dK k) → H' a = some u
/-- .. and what a loop keeps is kept -/
structure Stp (G : Gh) (H : Hp) (G' : Gh) (H' : Hp) : Prop extends Stq G H G' H' where
  fr : G'.fr = G.fr
  kp : ∀ a, G.fr a → H' a = H a
theorem Stp.refl (G : Gh) (H : Hp) : Stp G H G H := ⟨⟨fun _ h => h, fun _ _ h => h, fun _ _ _ h => h, fun _ _ _ h _ => h⟩, rfl, fun _ _ => rfl⟩
theorem Stp.trans {G G1 G2 : Gh} {H H1 H2 : Hp} (a : Stp G H G1 H1) (b : Stp G1 H1 G2 H2) : Stp G H G2 H2 where
  fz := fun c h => b.fz c (a.fz c h)
  fr := b.fr.trans a.fr
  mu := fun n c h => b.mu n c (a.mu n c h)
  rd := fun c u h r => b.rd c u (a.fz c h) (a.rd c u h r)
  at' := fun c u h r n => b.at' c u (a.fz c h) (a.at' c u h r n) n
  kp := fun c h => (b.kp c (by rw [a.fr]; exact h)).trans (a.kp c h)

section
variable {C : Cfg} {G G' : Gh} {H H' : Hp}
theorem FzT.on {a : Addr} {xs : List V} (s : Stq G H G' H') (h : FzT C G H a xs) : FzT C G' H' a xs := h.elim (fun z => .inl ⟨s.fz a z.1, s.rd a _ z.1 z.2⟩) .inr
theorem FzL.on {a : Addr} {xs : List V} (s : Stq G H G' H') (h : FzL C G H a xs) : FzL C G' H' a xs := h.elim (fun z => .inl ⟨s.fz a z.1, s.rd a _ z.1 z.2⟩) .inr
mutual
theorem Rep.on (s : Stq G H G' H') : ∀ {p : PV} {v : V}, Rep C G H p v → Rep C G' H' p v
  | .non, _, h => by simpa only [Rep] using h
  | .bl _, _, h => by simpa only [Rep] using h
  | .int _, _, h => by simpa only [Rep] using h
  | .str _, _, h => by simpa only [Rep] using h
  | .tup l, _, h => by
    simp only [Rep] at h ⊢
    obtain ⟨a, xs, e, f, r⟩ := h
    exact ⟨a, xs, e, f.on s, RepL.on s r⟩
  | .lst l, _, h => by
    simp only [Rep] at h ⊢
    obtain ⟨a, xs, e, f, r⟩ := h
    exact ⟨a, xs, e, f.on s, RepL.on s r⟩
  | .dct ks l, _, h => by
    simp only [Rep] at h ⊢
    obtain ⟨a, xs, e, f, d, n, r⟩ := h
    exact ⟨a, xs, e, s.fz a f, s.rd a _ f d, n, RepL.on s r⟩
  | .sts l, _, h => by
    simp only [Rep] at h ⊢
    obtain ⟨a, e, f, d⟩ := h
    exact ⟨a, e, s.fz a f, s.at' a _ f d (fun _ z => nomatch z)⟩
  | .loc n, _, h => by
    simp only [Rep] at h ⊢
    obtain ⟨a, e, f⟩ := h
    exact ⟨a, e, s.mu n a f⟩
  | .obj c fs l, _, h => by
    simp only [Rep] at h ⊢
    obtain ⟨a, B, dx, xs, e, c, f, g, d, o, n, r⟩ := h
    exact ⟨a, B, dx, xs, e, c, s.fz a f, s.fz dx g, s.at' a _ f d (fun _ z => nomatch z), s.at' dx _ g o (fun _ z => nomatch z), n, RepL.on s r⟩
theorem RepL.on (s : Stq G H G' H') : ∀ {l : List PV} {xs : List V}, RepL C G H l xs → RepL C G' H' l xs
  | [], _, h => by simpa only [RepL] using h
  | p :: l, _, h => by
    simp only [RepL] at h ⊢
    obtain ⟨x, r, e, h1, h2⟩ := h
    exact ⟨x, r, e, Rep.on s h1, RepL.on s h2⟩
end
theorem RepL.nil : RepL C G H [] [] := by simp only [RepL]
theorem RepL.cons {p : PV} {x : V} {l : List PV} {r : List V} (h1 : Rep C G H p x) (h2 : RepL C G H l r) : RepL C G H (p :: l) (x :: r) := by
  simp only [RepL]; exact ⟨x, r, rfl, h1, h2⟩
theorem RepL.length : ∀ {l : List PV} {xs : List V}, RepL C G H l xs → l.length = xs.length
  | [], _, h => by simp only [RepL] at h; rw [h]; rfl
  | p :: l, _, h => by
    simp only [RepL] at h
    obtain ⟨x, r, e, _, h2⟩ := h
    rw [e, List.length_cons, List.length_cons, RepL.length h2]
theorem RepL.get : ∀ {l : List PV} {xs : List V} {i : Nat} {p : PV}, RepL C G H l xs → l[i]? = some p → ∃ x, xs[i]? = some x ∧ Rep C G H p x
  | [], _, _, _, _, e => by simp at e
  | q :: l, _, 0, p, h, e => by
    simp only [RepL] at h
    obtain ⟨x, r, e', h1, _⟩ := h
    simp at e; subst e; subst e'
    exact ⟨x, rfl, h1⟩
  | q :: l, _, i + 1, p, h, e => by
    simp only [RepL] at h
    obtain ⟨x, r, e', _, h2⟩ := h
    subst e'
    obtain ⟨y, k1, k2⟩ := RepL.get (i := i) (p := p) h2 (by simpa using e)
    exact ⟨y, by simpa using k1, k2⟩
theorem RepL.append : ∀ {l m : List PV} {xs ys : List V}, RepL C G H l xs → RepL C G H m ys → RepL C G H (l ++ m) (xs ++ ys)
  | [], _, _, _, h, k => by simp only [RepL] at h; subst h; exact k
  | p :: l, _, _, _, h, k => by
    simp only [RepL] at h
    obtain ⟨x, r, e, h1, h2⟩ := h
    subst e
    exact .cons h1 (RepL.append h2 k)
theorem RepL.one {p : PV} {x : V} (h : Rep C G H p x) : RepL C G H [p] [x] := .cons h .nil
theorem RepL.cons_inv {p : PV} {l : List PV} {xs : List V} (h : RepL C G H (p :: l) xs) : ∃ x r, xs = x :: r ∧ Rep C G H p x ∧ RepL C G H l r := by simpa only [RepL] using h
theorem RepL.nil_inv {xs : List V} (h : RepL C G H [] xs) : xs = [] := by simpa only [RepL] using h
theorem RepL.drop : ∀ {l : List PV} {xs : List V} (n : Nat), RepL C G H l xs → RepL C G H (l.drop n) (xs.drop n)
  | _, _, 0, h => h
  | [], _, n + 1, h => by rw [h.nil_inv]; exact .nil
  | p :: l, _, n + 1, h => by
    obtain ⟨x, r, rfl, _, h2⟩ := h.cons_inv
    exact RepL.drop n h2
theorem RepL.take : ∀ {l : List PV} {xs : List V} (n : Nat), RepL C G H l xs → RepL C G H (l.take n) (xs.take n)
  | _, _, 0, _ => .nil
  | [], _, n + 1, h => by rw [h.nil_inv]; exact .nil
  | p :: l, _, n + 1, h => by
    obtain ⟨x, r, rfl, h1, h2⟩ := h.cons_inv
    exact .cons h1 (RepL.take n h2)
theorem RepL.set : ∀ {l : List PV} {xs : List V} (n : Nat) {p : PV} {x : V}, RepL C G H l xs → Rep C G H p x → RepL C G H (l.set n p) (xs.set n x)
  | [], _, _, _, _, h, _ => by rw [h.nil_inv]; exact .nil
  | q :: l, _, 0, _, _, h, k => by
    obtain ⟨y, r, rfl, _, h2⟩ := h.cons_inv
    exact .cons k h2
  | q :: l, _, n + 1, _, _, h, k => by
    obtain ⟨y, r, rfl, h1, h2⟩ := h.cons_inv
    exact .cons h1 (RepL.set n h2 k)
theorem RepL.reverse : ∀ {l : List PV} {xs : List V}, RepL C G H l xs → RepL C G H l.reverse xs.reverse
  | [], _, h => by rw [h.nil_inv]; exact .nil
  | p :: l, _, h => by
    obtain ⟨x, r, rfl, h1, h2⟩ := h.cons_inv
    rw [List.reverse_cons, List.reverse_cons]
    exact (RepL.reverse h2).append (.one h1)
/-- one value, all its forms -/
theorem Rep.inj_atom {p : PV} {v : V} (h : Rep C G H p v) : (p = .non → v = .non) ∧ (∀ b, p = .bl b → v = .bl b) ∧ (∀ i, p = .int i → v = .int i) := by
  refine ⟨fun e => ?_, fun b e => ?_, fun i e => ?_⟩ <;> subst e <;> simpa only [Rep] using h
theorem Rep.non_iff {v : V} : Rep C G H .non v ↔ v = .non := by simp only [Rep]
theorem Rep.bl_iff {b : Bool} {v : V} : Rep C G H (.bl b) v ↔ v = .bl b := by simp only [Rep]
theorem Rep.int_iff {i : Int} {v : V} : Rep C G H (.int i) v ↔ v = .int i := by simp only [Rep]
theorem Rep.str_iff {x : Str} {v : V} : Rep C G H (.str x) v ↔ v = .str x ∧ StrFine x := by simp only [Rep]
theorem Rep.tup_iff {l : List PV} {v : V} : Rep C G H (.tup l) v ↔ ∃ a xs, v = .ref a ∧ FzT C G H a xs ∧ RepL C G H l xs := by simp only [Rep]
theorem Rep.lst_iff {l : List PV} {v : V} : Rep C G H (.lst l) v ↔ ∃ a xs, v = .ref a ∧ FzL C G H a xs ∧ RepL C G H l xs := by simp only [Rep]
theorem Rep.loc_iff {n : Nat} {v : V} : Rep C G H (.loc n) v ↔ ∃ a, v = .ref a ∧ G.mu n = some a := by simp only [Rep]
end

/-! ### the store -/
def MRep (C : Cfg) (G : Gh) (H : Hp) (a : Addr) : MO → Prop
  | .lst l => ∃ xs, H a = some (.lst xs) ∧ RepL C G H l xs
  | .dct ks l => ∃ xs, H a = some (.dK (ks.zip xs)) ∧ (ks.length = l.length ∧ ∀ k ∈ ks, KeyFine k) ∧ RepL C G H l xs
  | .ins c fs l => ∃ B dx xs, C.cls c = some B ∧ H a = some (.ins B dx (fs.zip xs)) ∧ H dx = some (.own a) ∧ G.fz dx ∧ fs.length = l.length ∧ RepL C G H l xs

structure SRep (C : Cfg) (G : Gh) (H : Hp) (M : Sto) : Prop where
  here : ∀ n o, M[n]? = some (some o) → ∃ a, G.mu n = some a ∧ MRep C G H a o
  muN : ∀ n a, G.mu n = some a → n < M.length ∧ H a ≠ none ∧ ¬ G.fr a
  inj : ∀ n m a, G.mu n = some a → G.mu m = some a → n = m
  live : ∀ n o a, M[n]? = some (some o) → G.mu n = some a → ¬ G.fz a
  fzN : ∀ a, G.fz a → H a ≠ none ∧ ¬ G.fr a
  frN : ∀ a, G.fr a → H a ≠ none

def ERep (C : Cfg) (G : Gh) (H : Hp) (ρ : PEnv) (σ : L2.St) : Prop :=
  ρ.length = σ.length ∧ ∀ (i : Nat) (p : PV), ρ[i]? = some (some p) → ∃ v, σ[i]? = some (some v) ∧ Rep C G H p v

section
variable {C : Cfg} {G G' : Gh} {H H' : Hp} {M : Sto} {ρ : PEnv} {σ : L2.St}
theorem ERep.on (s : Stq G H G' H') (h : ERep C G H ρ σ) : ERep C G' H' ρ σ := ⟨h.1, fun i p e => let ⟨v, a, b⟩ := h.2 i p e; ⟨v, a, b.on s⟩⟩
theorem ERep.set {i : Nat} {p : PV} {v : V} (h : ERep C G H ρ σ) (r : Rep C G H p v) : ERep C G H (ρ.set i (some p)) (σ.set i (some v)) := by
  refine ⟨by simp [h.1], fun j q e => ?_⟩
  by_cases hj : i = j
  · subst hj
    by_cases hl : i < ρ.length
    · rw [List.getElem?_set_self hl] at e
      cases e
      exact ⟨v, List.getElem?_set_self (by rw [← h.1]; exact hl), r⟩
    · rw [List.getElem?_eq_none (by simpa using hl)] at e
      cases e
  · rw [List.getElem?_set_ne hj] at e
    obtain ⟨u, a, b⟩ := h.2 j q e
    exact ⟨u, by rw [List.getElem?_set_ne hj]; exact a, b⟩
theorem ERep.forget {i : Nat} (h : ERep C G H ρ σ) : ERep C G H (ρ.set i none) (σ.set i none) := by
  refine ⟨by simp [h.1], fun j q e => ?_⟩
  by_cases hj : i = j
  · subst hj
    by_cases hl : i < ρ.length
    · rw [List.getElem?_set_self hl] at e; cases e
    · rw [List.getElem?_eq_none (by simpa using hl)] at e; cases e
  · rw [List.getElem?_set_ne hj] at e
    obtain ⟨u, a, b⟩ := h.2 j q e
    exact ⟨u, by rw [List.getElem?_set_ne hj]; exact a, b⟩
end
end Sk

namespace Sk
open PySem PySem.Spec PyProof.Rows L2
/-! ### new objects, objects changed -/
def Gh.addFz (G : Gh) (p : Addr) : Gh := { G with fz := fun a => G.fz a ∨ a = p }
def Gh.addMu (G : Gh) (n : Nat) (p : Addr) : Gh := { G with mu := fun m => if m = n then some p else G.mu m }
def Gh.addFr (G : Gh) (p : Addr) : Gh := { G with fr := fun a => G.fr a ∨ a = p }
section
variable {C : Cfg} {G G' : Gh} {H H' : Hp} {M : Sto} {p : Addr} {o : HO}
theorem rd_upd {a : Addr} {u : HO} (hn : H p = none) (h : Rd H a u) : Rd (upd H p o) a u := by
  rcases h with h | ⟨v, h⟩
  · exact .inl (by rw [upd_ne (ne_of_none h hn)]; exact h)
  · exact .inr ⟨v, by rw [upd_ne (ne_of_none h hn)]; exact h⟩
/-- the store over a step that keeps its objects -/
theorem MRep.on {a : Addr} {m : MO} (s : Stq G H G' H') (hk : H' a = H a) (h : MRep C G H a m) : MRep C G' H' a m := by
  cases m with
  | lst l => obtain ⟨xs, e, r⟩ := h; exact ⟨xs, hk.trans e, r.on s⟩
  | dct ks l => obtain ⟨xs, e, n, r⟩ := h; exact ⟨xs, hk.trans e, n, r.on s⟩
  | ins c fs l =>
    obtain ⟨B, dx, xs, c, e, d, g, n, r⟩ := h
    exact ⟨B, dx, xs, c, hk.trans e, s.at' dx _ g d (fun _ z => nomatch z), s.fz dx g, n, r.on s⟩
theorem ne_of_not {A : Addr → Prop} {a p : Addr} (h : A a) (n : ¬ A p) : a ≠ p := fun z => n (z ▸ h)
theorem SRep.newNe (S : SRep C G H M) (hn : H p = none) : ¬ G.fz p ∧ ¬ G.fr p ∧ ∀ n a, G.mu n = some a → a ≠ p :=
  ⟨fun z => (S.fzN p z).1 hn, fun z => S.frN p z hn, fun n a e z => (S.muN n a e).2.1 (z ▸ hn)⟩
theorem Stp.laid (S : SRep C G H M) (hn : H p = none) {G' : Gh} (h1 : ∀ a, G.fz a → G'.fz a) (h2 : G'.fr = G.fr) (h3 : ∀ n a, G.mu n = some a → G'.mu n = some a) : Stp G H G' (upd H p o) where
  fz := h1
  fr := h2
  mu := h3
  rd := fun _ _ _ r => rd_upd hn r
  at' := fun a u _ e _ => by rw [upd_ne (ne_of_none e hn)]; exact e
  kp := fun a h => upd_ne fun z => S.frN a h (z ▸ hn)
theorem SRep.keep {G' : Gh} (S : SRep C G H M) (s : Stp G H G' H') (hm : G'.mu = G.mu) (hk : ∀ n a, G.mu n = some a → H' a = H a) (hf : ∀ a, G'.fz a → H' a ≠ none ∧ ¬ G'.fr a) (hl : ∀ n a, G.mu n = some a → G'.fz a → G.fz a) (hs : ∀ a, G.fr a → H' a ≠ none) : SRep C G' H' M where
  here := fun n o e => by
    obtain ⟨a, e1, r⟩ := S.here n o e
    exact ⟨a, by rw [hm]; exact e1, r.on s.toStq (hk n a e1)⟩
  muN := fun n a e => by
    rw [hm] at e
    obtain ⟨x, y, z⟩ := S.muN n a e
    exact ⟨x, by rw [hk n a e]; exact y, by rw [s.fr]; exact z⟩
  inj := fun n m a e1 e2 => by rw [hm] at e1 e2; exact S.inj n m a e1 e2
  live := fun n o a e1 e2 z => by rw [hm] at e2; exact S.live n o a e1 e2 (hl n a e2 z)
  fzN := hf
  frN := fun a h => hs a (by rw [← s.fr]; exact h)
/-- a new object for good -/
theorem SRep.laidFz (S : SRep C G H M) (hn : H p = none) : Stp G H (G.addFz p) (upd H p o) ∧ SRep C (G.addFz p) (upd H p o) M := by
  obtain ⟨n1, n2, n3⟩ := S.newNe hn
  have s : Stp G H (G.addFz p) (upd H p o) := .laid S hn (fun _ h => .inl h) rfl fun _ _ h => h
  refine ⟨s, S.keep s rfl (fun n a e => upd_ne (n3 n a e)) (fun a h => ?_) (fun n a e h => ?_) fun a h => ?_⟩
  · rcases h with h | rfl
    · exact ⟨by rw [upd_ne (ne_of_not h n1)]; exact (S.fzN a h).1, (S.fzN a h).2⟩
    · exact ⟨by rw [upd_same]; simp, n2⟩
  · rcases h with h | h
    · exact h
    · exact absurd h (n3 n a e)
  · by_cases z : a = p
    · rw [z, upd_same]; simp
    · rw [upd_ne z]; exact S.frN a h
/-- a new object that may change -/
theorem SRep.laidMu {m : MO} (S : SRep C G H M) (hn : H p = none) (hr : ∀ G', Stp G H G' (upd H p o) → MRep C G' (upd H p o) p m) :
    Stp G H (G.addMu M.length p) (upd H p o) ∧ SRep C (G.addMu M.length p) (upd H p o) (M ++ [some m]) := by
  obtain ⟨n1, n2, n3⟩ := S.newNe hn
  have nl : ∀ n a, G.mu n = some a → n ≠ M.length := fun n a e => Nat.ne_of_lt (S.muN n a e).1
  have s : Stp G H (G.addMu M.length p) (upd H p o) := .laid S hn (fun _ h => h) rfl fun n a h => by
    show (if n = M.length then some p else G.mu n) = some a
    rw [if_neg (nl n a h)]; exact h
  have mu' : ∀ n a, (G.addMu M.length p).mu n = some a → (n = M.length ∧ a = p) ∨ (n ≠ M.length ∧ G.mu n = some a) := fun n a e => by
    have e : (if n = M.length then some p else G.mu n) = some a := e
    by_cases hl : n = M.length
    · rw [if_pos hl] at e; cases e; exact .inl ⟨hl, rfl⟩
    · rw [if_neg hl] at e; exact .inr ⟨hl, e⟩
  refine ⟨s, fun n u e => ?_, fun n a e => ?_, fun n k a e1 e2 => ?_, fun n u a e1 e2 z => ?_, fun a h => ?_, fun a h => ?_⟩
  · by_cases hl : n = M.length
    · subst hl
      rw [List.getElem?_append_right (Nat.le_refl _), Nat.sub_self] at e
      have e : some (some m) = some (some u) := e
      cases e
      exact ⟨p, if_pos rfl, hr _ s⟩
    · have hlt : n < M.length := by
        have := (List.getElem?_eq_some_iff.mp e).1
        rw [List.length_append, List.length_singleton] at this
        omega
      rw [List.getElem?_append_left hlt] at e
      obtain ⟨a, e1, r⟩ := S.here n u e
      exact ⟨a, s.mu n a e1, r.on s.toStq (upd_ne (n3 n a e1))⟩
  · rw [List.length_append, List.length_singleton]
    rcases mu' n a e with ⟨h1, rfl⟩ | ⟨_, h2⟩
    · exact ⟨by omega, by rw [upd_same]; simp, n2⟩
    · obtain ⟨x, y, z⟩ := S.muN n a h2
      exact ⟨by omega, by rw [upd_ne (n3 n a h2)]; exact y, z⟩
  · rcases mu' n a e1 with ⟨h1, h2⟩ | ⟨h1, h2⟩ <;> rcases mu' k a e2 with ⟨k1, k2⟩ | ⟨k1, k2⟩
    · rw [h1, k1]
    · exact absurd h2 (n3 k a k2)
    · exact absurd k2 (n3 n a h2)
    · exact S.inj n k a h2 k2
  · have z : G.fz a := z
    rcases mu' n a e2 with ⟨_, rfl⟩ | ⟨h1, h2⟩
    · exact n1 z
    · have hlt : n < M.length := (S.muN n a h2).1
      rw [List.getElem?_append_left hlt] at e1
      exact S.live n u a e1 h2 z
  · have h : G.fz a := h
    exact ⟨by rw [upd_ne (ne_of_not h n1)]; exact (S.fzN a h).1, (S.fzN a h).2⟩
  · have h : G.fr a := h
    by_cases z : a = p
    · rw [z, upd_same]; simp
    · rw [upd_ne z]; exact S.frN a h
/-- an object of the store is changed -/
theorem SRep.write {n : Nat} {m m' : MO} (S : SRep C G H M) (e : M[n]? = some (some m)) (hmu : G.mu n = some p)
    (hr : Stp G H G (upd H p o) → MRep C G (upd H p o) p m') : Stp G H G (upd H p o) ∧ SRep C G (upd H p o) (M.set n (some m')) := by
  have nf : ¬ G.fz p := S.live n m p e hmu
  have nr : ¬ G.fr p := (S.muN n p hmu).2.2
  have s : Stp G H G (upd H p o) := ⟨⟨fun _ h => h, fun _ _ h => h, fun a u h r => by
      have na : a ≠ p := ne_of_not h nf
      rcases r with r | ⟨v, r⟩
      · exact .inl (by rw [upd_ne na]; exact r)
      · exact .inr ⟨v, by rw [upd_ne na]; exact r⟩,
    fun a u h r _ => by rw [upd_ne (ne_of_not h nf)]; exact r⟩, rfl, fun a h => upd_ne (ne_of_not h nr)⟩
  have hlt : n < M.length := (S.muN n p hmu).1
  refine ⟨s, fun k u e1 => ?_, fun k a e1 => ?_, S.inj, fun k u a e1 e2 z => ?_, fun a h => ?_, fun a h => ?_⟩
  · by_cases hk : n = k
    · subst hk
      rw [List.getElem?_set_self hlt] at e1
      cases e1
      exact ⟨p, hmu, hr s⟩
    · rw [List.getElem?_set_ne hk] at e1
      obtain ⟨a, e2, r⟩ := S.here k u e1
      exact ⟨a, e2, r.on s.toStq (upd_ne fun z => hk (S.inj n k p hmu (z ▸ e2)))⟩
  · obtain ⟨x, y, z⟩ := S.muN k a e1
    refine ⟨by rw [List.length_set]; exact x, ?_, z⟩
    by_cases q : a = p
    · rw [q, upd_same]; simp
    · rw [upd_ne q]; exact y
  · by_cases hk : n = k
    · subst hk; rw [hmu] at e2; cases e2; exact nf z
    · rw [List.getElem?_set_ne hk] at e1
      exact S.live k u a e1 e2 z
  · exact ⟨by rw [upd_ne (ne_of_not h nf)]; exact (S.fzN a h).1, (S.fzN a h).2⟩
  · rw [upd_ne (ne_of_not h nr)]; exact S.frN a h
/-- an object of the store changes no more -/
theorem SRep.freeze {n : Nat} {m : MO} (S : SRep C G H M) (e : M[n]? = some (some m)) (hmu : G.mu n = some p) : Stp G H (G.addFz p) H ∧ SRep C (G.addFz p) H (M.set n none) := by
  have s : Stp G H (G.addFz p) H := ⟨⟨fun _ h => .inl h, fun _ _ h => h, fun a u _ r => r, fun _ _ _ r _ => r⟩, rfl, fun _ _ => rfl⟩
  have hlt : n < M.length := (S.muN n p hmu).1
  refine ⟨s, fun k u e1 => ?_, fun k a e1 => ?_, S.inj, fun k u a e1 e2 z => ?_, fun a h => ?_, S.frN⟩
  · by_cases hk : n = k
    · subst hk; rw [List.getElem?_set_self hlt] at e1; cases e1
    · rw [List.getElem?_set_ne hk] at e1
      obtain ⟨a, e2, r⟩ := S.here k u e1
      exact ⟨a, e2, r.on s.toStq rfl⟩
  · obtain ⟨x, y, z⟩ := S.muN k a e1
    exact ⟨by rw [List.length_set]; exact x, y, z⟩
  · by_cases hk : n = k
    · subst hk; rw [List.getElem?_set_self hlt] at e1; cases e1
    · rw [List.getElem?_set_ne hk] at e1
      rcases z with z | z
      · exact S.live k u a e1 e2 z
      · subst z; exact hk (S.inj n k a hmu e2)
  · rcases h with h | rfl
    · exact S.fzN a h
    · obtain ⟨_, y, z⟩ := S.muN n a hmu
      exact ⟨y, z⟩
/-- a new object that a loop keeps for itself -/
theorem SRep.laidFr (S : SRep C G H M) (hn : H p = none) : SRep C (G.addFr p) (upd H p o) M ∧ Stq G H (G.addFr p) (upd H p o) := by
  obtain ⟨n1, n2, n3⟩ := S.newNe hn
  have s : Stq G H (G.addFr p) (upd H p o) := ⟨fun _ h => h, fun _ _ h => h, fun _ _ _ r => rd_upd hn r, fun a u _ e _ => by rw [upd_ne (ne_of_none e hn)]; exact e⟩
  refine ⟨⟨fun n u e => ?_, fun n a e => ?_, S.inj, S.live, fun a h => ?_, fun a h => ?_⟩, s⟩
  · obtain ⟨a, e1, r⟩ := S.here n u e
    exact ⟨a, e1, r.on s (upd_ne (n3 n a e1))⟩
  · obtain ⟨x, y, z⟩ := S.muN n a e
    refine ⟨x, by rw [upd_ne (n3 n a e)]; exact y, fun q => ?_⟩
    rcases q with q | q
    · exact z q
    · exact n3 n a e q
  · refine ⟨by rw [upd_ne (ne_of_not h n1)]; exact (S.fzN a h).1, fun q => ?_⟩
    rcases q with q | q
    · exact (S.fzN a h).2 q
    · exact n1 (q ▸ h)
  · rcases h with h | rfl
    · by_cases z : a = p
      · rw [z, upd_same]; simp
      · rw [upd_ne z]; exact S.frN a h
    · rw [upd_same]; simp
end
end Sk

/-! SkB: the own small syntax and its evaluator. -/
namespace Sk
open PySem PySem.Spec PyProof.Rows L2

inductive BO where | add | sub | mul | fdiv | mod | pow
  deriving DecidableEq, Repr
inductive CO where | eq | ne | lt | le | gt | ge | inn | nin | is | isn
  deriving DecidableEq, Repr

/-- a comprehension's kind: a list (that may change, or not), a set of names -/
inductive CK where
  | ls (m : Bool)
  | st
mutual
/-- what is stored into -/
inductive Tg where
  | nm (i : Nat)
  | tp (l : Tgs)
inductive Tgs where
  | nil
  | cons (t : Tg) (l : Tgs)
end
mutual
inductive E where
  | var (i : Nat)
  | non
  | bl (b : Bool)
  | int (i : Int)
  | str (x : Str)
  | glb (x : Str)
  | miss
  | tup (es : Es)
  | lst (m : Bool) (es : Es)
  | bin (o : BO) (a b : E)
  | neg (a : E)
  | cmp (o : CO) (a b : E)
  | cmx (o : CO) (a b : E)
  | chn (o o' : CO) (a b c : E)
  | and (a b : E)
  | or (a b : E)
  | not (a : E)
  | ite (c a b : E)
  | idx (a i : E)
  | slc (a lo hi : E)
  | stp (a st : E)
  | rev (a : E)
  | call (f : Str) (es : Es)
  | callK (f : Str) (np : Nat) (es : Es) (ks : List Str) (vs : Es) (perm : List Nat)
  | blt (f : Str) (es : Es)
  | lof (m : Bool) (es : Es)
  | lr (m : Bool) (a b : E)
  | lz (a b : E)
  | addM (a b : E)
  | up (a : E)
  | dsp (m : Bool) (es : Es)
  | dof (m : Bool) (es : Es)
  | isi (a : E) (ts : List Str)
  | mth (T m : Str) (o : E) (es : Es)
  | cpr (k : CK) (own : List Nat) (tg : Tg) (it : It) (c : E) (r : Cl)
inductive Es where
  | nil
  | cons (e : E) (es : Es)
  | star (e : E) (es : Es)
/-- what follows a comprehension's clause -/
inductive Cl where
  | elt (e : E)
  | for' (tg : Tg) (it : It) (c : E) (r : Cl)
inductive It where
  | seq (e : E)
  | fn (f : Str) (n : Nat) (es : Es)
end
mutual
inductive Sm where
  | asg (i : Nat) (e : E)
  | asgT (t : Tgs) (e : E)
  | asgS (i j : Nat) (e : E)
  | par (is : List Nat) (es : Es)
  | sub (o i v : E)
  | exp (e : E)
  | ret (e : E)
  | retN
  | ifs (c : E) (a b : Sms)
  | for' (tg : Tg) (it : It) (b : Sms)
  | whl (c : E) (b : Sms)
  | brk
  | cnt
  | pas
  | frz (i : Nat)
inductive Sms where
  | nil
  | cons (s : Sm) (r : Sms)
end

/-- what the program's names mean -/
structure Sig where
  fn : Str → Option (List PV → Sto → Res PV)
  con : Str → Option PV

/-! ### data -/
mutual
def toD0 : PV → Option PyData
  | .non => some .none
  | .bl b => some (.bool b)
  | .int i => some (.int i)
  | .str x => some (.str x)
  | .tup l => (toD0L l).map .tuple
  | .lst l => (toD0L l).map .list
  | .dct _ _ => none
  | .sts _ => none
  | .loc _ => none
  | .obj _ _ _ => none
def toD0L : List PV → Option (List PyData)
  | [] => some []
  | p :: l => (toD0 p).bind fun d => (toD0L l).map fun r => d :: r
end
mutual
/-- data that repr shows: empty dicts, too -/
def toR : PV → Option PyData
  | .non => some .none
  | .bl b => some (.bool b)
  | .int i => some (.int i)
  | .str x => some (.str x)
  | .tup l => (toRL l).map .tuple
  | .lst l => (toRL l).map .list
  | .dct ks l => (match ks, l with
    | [], [] => some (.dict [])
    | _, _ => none)
  | .sts _ => none
  | .loc _ => none
  | .obj _ _ _ => none
def toRL : List PV → Option (List PyData)
  | [] => some []
  | p :: l => (toR p).bind fun d => (toRL l).map fun r => d :: r
end
def locL (M : Sto) (n : Nat) : Option (List PV) := match M[n]? with
  | some (some (.lst l)) => some l
  | _ => none
def toD (M : Sto) : PV → Option PyData
  | .loc n => (locL M n).bind fun l => (toD0L l).map .list
  | p => toD0 p
def toRM (M : Sto) : PV → Option PyData
  | .loc n => (locL M n).bind fun l => (toRL l).map .list
  | p => toR p
def peq (M : Sto) (v w : PV) : Option Bool := match toD M v, toD M w with
  | some d, some e => if d.depth ≤ 64 ∧ e.depth ≤ 64 then some (PyData.eqv d e) else none
  | _, _ => none

/-- the items of a list -/
def lstOf (M : Sto) : PV → Option (List PV)
  | .lst l => some l
  | .loc n => locL M n
  | _ => none
/-- the items of a list or tuple -/
def seqOf (M : Sto) : PV → Option (List PV)
  | .tup l => some l
  | p => lstOf M p
def strsOf : List PV → Option (List Str)
  | [] => some []
  | .str x :: l => (strsOf l).map (x :: ·)
  | _ :: _ => none
def blsOf : List PV → Option (List Bool)
  | [] => some []
  | .bl b :: l => (blsOf l).map (b :: ·)
  | _ :: _ => none
def intsOf : List PV → Option (List Int)
  | [] => some []
  | .int b :: l => (intsOf l).map (b :: ·)
  | _ :: _ => none
/-- a text's signs -/
def signs (x : Str) : List PV := x.cps.toList.map fun c => .str ⟨#[c]⟩

def lim : Nat := 16777216

/-! ### dicts: keys that are ints or texts -/
def vK {α : Type} (kvs : List (Key × α)) (k : Key) : Option α := (kvs.find? fun kv => decide (kv.1 = k)).map (·.2)
def pK {α : Type} (kvs : List (Key × α)) (k : Key) (v : α) : List (Key × α) :=
  if (kvs.any fun kv => decide (kv.1 = k)) = true then kvs.map (fun kv => if kv.1 = k then (kv.1, v) else kv) else kvs ++ [(k, v)]
def mK {α : Type} (kvs more : List (Key × α)) : List (Key × α) := more.foldl (fun acc kv => pK acc kv.1 kv.2) kvs
def keyP : PV → Option Key
  | .int i => some (.inl i)
  | .str x => some (.inr x)
  | _ => none
def dctOf (M : Sto) : PV → Option (List (Key × PV))
  | .dct ks l => some (ks.zip l)
  | .loc n => match M[n]? with
    | some (some (.dct ks l)) => some (ks.zip l)
    | _ => none
  | _ => none
/-- keys and values by turns -/
def pairsP : List PV → Option (List (Key × PV))
  | [] => some []
  | [_] => none
  | k :: v :: r => (keyP k).bind fun k' => (pairsP r).map fun l => (k', v) :: l
/-- pairs -/
def pairsT : List PV → Option (List (Key × PV))
  | [] => some []
  | .tup [k, v] :: r => (keyP k).bind fun k' => (pairsT r).map fun l => (k', v) :: l
  | _ :: _ => none
def mkD (m : Bool) (kvs : List (Key × PV)) (M : Sto) : Res PV :=
  if m then .ok (.loc M.length) (M ++ [some (.dct (kvs.map (·.1)) (kvs.map (·.2)))]) else .ok (.dct (kvs.map (·.1)) (kvs.map (·.2))) M
def dofP (m : Bool) (l : List PV) (M : Sto) : Res PV := match l with
  | [v] => match (lstOf M v).bind pairsT with
    | some kvs => mkD m (mK [] kvs) M
    | none => .no
  | _ => .no
def dspP (m : Bool) (l : List PV) (M : Sto) : Res PV := match pairsP l with
  | some kvs => if kvs.length ≤ 15 then mkD m (mK [] kvs) M else .no
  | none => .no

def okIf {α : Type} (c : Prop) [Decidable c] (v : α) (M : Sto) : Res α := if c then .ok v M else .no
def ofO {α : Type} (o : Option α) (M : Sto) : Res α := match o with
  | some v => .ok v M
  | none => .no

def intop (k : Int → Int → Sto → Res PV) (v w : PV) (M : Sto) : Res PV :=
  match v with
  | .int i => (match w with
    | .int j => k i j M
    | _ => .no)
  | _ => .no
def addop (v w : PV) (M : Sto) : Res PV :=
  match v, w with
  | .int i, .int j => .ok (.int (i + j)) M
  | .str x, .str y => okIf (x.length + y.length ≤ lim) (.str (x ++ y)) M
  | .tup l, .tup m => okIf (l.length + m.length ≤ lim) (.tup (l ++ m)) M
  | v, w => match lstOf M v, lstOf M w with
    | some l, some m => okIf (l.length + m.length ≤ lim) (.lst (l ++ m)) M
    | _, _ => .no
/-- a text that Python may hold -/
def strOk (x : Str) : Bool := x.cps.all (· < 0x110000) && decide (x.length ≤ lim)
/-- a text some times over -/
def repS (x : Str) (n : Nat) : Str := if x.length = 0 then x else ⟨(List.replicate n x.cps).foldl (· ++ ·) #[]⟩
def mulop (v w : PV) (M : Sto) : Res PV := match v with
  | .str x => (match w with
    | .int n => okIf (2 ≤ n ∧ n ≤ 1000 ∧ x.length ≤ 10000 ∧ strOk (repS x n.toNat) = true) (.str (repS x n.toNat)) M
    | _ => .no)
  | v => intop (fun i j M => okIf ((-(2 ^ 64) < i ∧ i < 2 ^ 64) ∨ (-(2 ^ 64) < j ∧ j < 2 ^ 64)) (.int (i * j)) M) v w M
def upP (v : PV) (M : Sto) : Res PV := match v with
  | .str x => okIf (x.length ≤ 5592405 ∧ strOk (Txt.upper x) = true) (.str (Txt.upper x)) M
  | _ => .no
def binop (o : BO) (v w : PV) (M : Sto) : Res PV :=
  match o with
  | .add => addop v w M
  | .sub => intop (fun i j M => .ok (.int (i - j)) M) v w M
  | .mul => mulop v w M
  | .fdiv => intop (fun i j M => okIf (0 < j ∧ j < 2 ^ 64) (.int (i / j)) M) v w M
  | .mod => intop (fun i j M => okIf (0 < j) (.int (i % j)) M) v w M
  | .pow => intop (fun i j M => okIf (0 ≤ j ∧ j ≤ 1000000 ∧ i.natAbs < 2 ^ 64) (.int (i ^ j.toNat)) M) v w M

def pin (M : Sto) (x y : PV) : Option Bool :=
  match y with
  | .str z => match x with
    | .str c => if c.cps.size = 1 then some (decide (c.cps.getD 0 0 ∈ z.cps.toList)) else none
    | _ => none
  | .sts l => match x with
    | .str c => some (decide (c ∈ l))
    | _ => none
  | y => match (seqOf M y).bind toD0L, toD M x with
    | some ds, some d => if (PyData.list ds).depth ≤ 64 ∧ d.depth ≤ 64 then some (ds.any fun z => PyData.eqv z d) else none
    | _, _ => none

/-- is it a datum, but None? -/
def someD : PyData → Bool
  | .none => false
  | _ => true
/-- less, of alike data -/
def ltD (M : Sto) (v w : PV) : Option Bool := match toD M v, toD M w with
  | some d, some e => if PySem.W.alike d e = true ∧ someD d = true ∧ d.depth ≤ 64 then some (PySem.W.dataLt d e) else none
  | _, _ => none
def ltop (v w : PV) (M : Sto) : Res PV :=
  match v with
  | .int i => (match w with
    | .int j => .ok (.bl (decide (i < j))) M
    | _ => .no)
  | .str x => (match w with
    | .str y => .ok (.bl (decide (x.cps.toList < y.cps.toList))) M
    | _ => .no)
  | v => ofO ((ltD M v w).map .bl) M
/-! ### sorted -/
def alikeB (ds : List PyData) : Bool := ds.all fun d => ds.all fun e => PySem.W.alike d e
def isTup1 : PyData → Bool
  | .tuple (_ :: _) => true
  | _ => false
def isOther : PyData → Bool
  | .tuple _ => false
  | .none => false
  | _ => true
def sortableB (ds : List PyData) : Bool := ds.all isTup1 || ds.all isOther
def leP (v w : PV) : Bool := match toD0 v, toD0 w with
  | some d, some e => !PySem.W.dataLt e d
  | _, _ => true
def srtL (l : List PV) : Option (List PV) := (toD0L l).bind fun ds => if alikeB ds = true ∧ sortableB ds = true ∧ (ds.all fun d => decide (d.depth ≤ 63)) = true then some (l.mergeSort leP) else none
def isNon : PV → Bool
  | .non => true
  | _ => false
def isop (v w : PV) : Option Bool :=
  match w with
  | .non => some (isNon v)
  | .bl b => (match v with
    | .bl c => some (decide (c = b))
    | _ => none)
  | _ => none
def cmpop (o : CO) (v w : PV) (M : Sto) : Res PV :=
  match o with
  | .eq => ofO ((peq M v w).map .bl) M
  | .ne => ofO ((peq M v w).map fun b => .bl (!b)) M
  | .lt => ltop v w M
  | .le => intop (fun i j M => .ok (.bl (decide (i ≤ j))) M) v w M
  | .gt => intop (fun i j M => .ok (.bl (decide (j < i))) M) v w M
  | .ge => intop (fun i j M => .ok (.bl (decide (j ≤ i))) M) v w M
  | .inn => ofO ((pin M v w).map .bl) M
  | .nin => ofO ((pin M v w).map fun b => .bl (!b)) M
  | .is => ofO ((isop v w).map .bl) M
  | .isn => ofO ((isop v w).map fun b => .bl (!b)) M

/-- comparisons where a dict may lie within: with the empty tuple, among texts -/
def emptyT : PV → PV → Option Bool
  | .tup l, .tup [] => some l.isEmpty
  | .lst l, .lst [] => some l.isEmpty
  | _, _ => none
def dctIn (v w : PV) (M : Sto) : Option Bool := match v with
  | .dct _ _ => ((lstOf M w).bind strsOf).map fun _ => false
  | _ => none
def cmpX (o : CO) (v w : PV) (M : Sto) : Option Bool := match o with
  | .eq => emptyT v w
  | .ne => (emptyT v w).map (!·)
  | .inn => dctIn v w M
  | .nin => (dctIn v w M).map (!·)
  | _ => none
def cmpopX (o : CO) (v w : PV) (M : Sto) : Res PV := match cmpX o v w M with
  | some b => .ok (.bl b) M
  | none => cmpop o v w M
def idxop (v w : PV) (M : Sto) : Res PV :=
  match w with
  | .int i => match v with
    | .str z => ofO ((atI z.cps.toList i).map fun c => .str ⟨#[c]⟩) M
    | v => ofO ((seqOf M v).bind fun l => atI l i) M
  | .str k => ofO ((dctOf M v).bind fun kvs => vK kvs (.inr k)) M
  | _ => .no

def cutP (xs : List PV) (lo hi : Option Int) : List PV := (xs.drop (HT.sIx xs.length 0 lo)).take (HT.sIx xs.length xs.length hi - HT.sIx xs.length 0 lo)
def slcop (v : PV) (lo hi : Option Int) (M : Sto) : Res PV :=
  match v with
  | .str z => .ok (.str (cutS z lo hi)) M
  | .tup l => .ok (.tup (cutP l lo hi)) M
  | v => ofO ((lstOf M v).map fun l => .lst (cutP l lo hi)) M
/-- a tuple's [::1], [::-1] -/
def stpT (v : PV) (st : Int) (M : Sto) : Res PV :=
  match v with
  | .tup l => if st = 1 then .ok (.tup l) M else if st = -1 then .ok (.tup l.reverse) M else .no
  | _ => .no

/-- is v of the built-in class? -/
def isOf (M : Sto) (v : PV) (T : Str) : Option Bool :=
  match v with
  | .non => some false
  | .bl _ => some (decide (T = ("bool" : Str)) || decide (T = ("int" : Str)))
  | .int _ => some (decide (T = ("int" : Str)))
  | .str _ => some (decide (T = ("str" : Str)))
  | .tup _ => some (decide (T = ("tuple" : Str)))
  | .lst _ => some (decide (T = ("list" : Str)))
  | .dct _ _ => some (decide (T = ("dict" : Str)))
  | .loc n => match M[n]? with
    | some (some (.lst _)) => some (decide (T = ("list" : Str)))
    | _ => none
  | _ => none
def isAny (M : Sto) (v : PV) : List Str → Option Bool
  | [] => some false
  | T :: r => (isOf M v T).bind fun b => (isAny M v r).map fun c => b || c

def lenOf (M : Sto) : PV → Option Nat
  | .str x => some x.length
  | p => (seqOf M p).map (·.length)

/-- the text that repr makes -/
def shownOf (d : PyData) : Option PV := if d.showable = true ∧ d.depth ≤ 64 ∧ d.shown.length ≤ lim ∧ d.shown.cps.all (· < 0x110000) = true then some (.str d.shown) else none
def evB (f : Str) (l : List PV) (M : Sto) : Res PV :=
  if f = ("len" : Str) then (match l with
    | [v] => ofO ((lenOf M v).map fun n => .int (n : Nat)) M
    | _ => .no)
  else if f = ("abs" : Str) then (match l with
    | [.int i] => .ok (.int (if i < 0 then -i else i)) M
    | _ => .no)
  else if f = ("min" : Str) then (match l with
    | [.int i, .int j] => .ok (.int (if j < i then j else i)) M
    | _ => .no)
  else if f = ("max" : Str) then (match l with
    | [.int i, .int j] => .ok (.int (if j > i then j else i)) M
    | _ => .no)
  else if f = ("tuple" : Str) then (match l with
    | [v] => ofO ((seqOf M v).map .tup) M
    | _ => .no)
  else if f = ("all" : Str) then (match l with
    | [v] => ofO (((lstOf M v).bind blsOf).map fun bs => .bl (bs.all id)) M
    | _ => .no)
  else if f = ("any" : Str) then (match l with
    | [v] => ofO (((lstOf M v).bind blsOf).map fun bs => .bl (bs.any id)) M
    | _ => .no)
  else if f = ("repr" : Str) then (match l with
    | [v] => ofO ((toRM M v).bind shownOf) M
    | _ => .no)
  else if f = ("str" : Str) then (match l with
    | [.int i] => okIf (i.natAbs.log2 < 1920 ∧ strOk (toString i) = true) (.str (toString i)) M
    | _ => .no)
  else if f = ("sorted" : Str) then (match l with
    | [v] => ofO (((seqOf M v).bind srtL).map .lst) M
    | _ => .no)
  else .no

def firstEq (M : Sto) (v : PV) (d : PyData) : Option Nat :=
  ((seqOf M v).bind toD0L).bind fun ds => if (PyData.list ds).depth ≤ 64 ∧ d.depth ≤ 64 then ds.findIdx? (fun z => PyData.eqv z d) else none

def evM (T m : Str) (v : PV) (l : List PV) (M : Sto) : Res PV :=
  if T = ("list" : Str) then (
    if m = ("append" : Str) then (match v, l with
      | .loc n, [x] => (match locL M n with
        | some xs => okIf (xs.length < lim) .non (M.set n (some (.lst (xs ++ [x]))))
        | none => .no)
      | _, _ => .no)
    else if m = ("pop" : Str) then (match v, l with
      | .loc n, [.int i] => (match locL M n with
        | some xs => if 0 ≤ i ∧ i < 2 ^ 62 then (match xs[i.toNat]? with
          | some y => .ok y (M.set n (some (.lst (xs.eraseIdx i.toNat))))
          | none => .no) else .no
        | none => .no)
      | _, _ => .no)
    else if m = ("index" : Str) then (match l with
      | [x] => ofO (((lstOf M v).bind fun _ => (toD M x).bind fun d => firstEq M v d).map fun j => .int (j : Nat)) M
      | _ => .no)
    else .no)
  else if T = ("str" : Str) then (
    if m = ("join" : Str) then (match v, l with
      | .str a, [x] => (match (seqOf M x).bind strsOf with
        | some ys => okIf ((ys.map (·.length)).sum + ys.length * a.length ≤ lim) (.str (Txt.join a ys)) M
        | none => .no)
      | _, _ => .no)
    else .no)
  else .no

/-! ### names stored -/
mutual
def bindG : Tg → PV → PEnv → Option PEnv
  | .nm i, v, ρ => some (ρ.set i (some v))
  | .tp l, v, ρ => match v with
    | .tup xs => bindGs l xs ρ
    | _ => none
def bindGs : Tgs → List PV → PEnv → Option PEnv
  | .nil, xs, ρ => match xs with
    | [] => some ρ
    | _ :: _ => none
  | .cons t l, xs, ρ => match xs with
    | x :: r => (bindG t x ρ).bind fun ρ' => bindGs l r ρ'
    | [] => none
end
mutual
def tgN : Tg → List Nat
  | .nm i => [i]
  | .tp l => tgsN l
def tgsN : Tgs → List Nat
  | .nil => []
  | .cons t l => tgN t ++ tgsN l
end
/-- the names that a comprehension's later clauses bind -/
def clN : Cl → List Nat
  | .elt _ => []
  | .for' tg _ _ r => tgN tg ++ clN r
def wipeP (ρ : PEnv) : List Nat → PEnv
  | [] => ρ
  | v :: vs => (wipeP ρ vs).set v none
def setAll (ρ : PEnv) : List Nat → List PV → Option PEnv
  | [], [] => some ρ
  | i :: is, v :: vs => setAll (ρ.set i (some v)) is vs
  | _, _ => none

def noex {α : Type} (r : Res α) : Res α := match r with
  | .ok v M => .ok v M
  | .ex _ _ => .no
  | .no => .no
def asB (r : Res PV) : Res Bool := match r with
  | .ok (.bl b) M => .ok b M
  | .ok _ _ => .no
  | .ex e M => .ex e M
  | .no => .no
/-- a comprehension's turns -/
def loopC (f : PV → List PV → Sto → Res (List PV)) : List PV → List PV → Sto → Res (List PV)
  | [], acc, M => .ok acc M
  | x :: xs, acc, M => (f x acc M).bnd fun acc1 M1 => loopC f xs acc1 M1
def emitC (k : CK) (v : PV) (acc : List PV) (M : Sto) : Res (List PV) := match k with
  | .ls _ => okIf (acc.length < lim) (acc ++ [v]) M
  | .st => match v with
    | .str x => okIf (acc.length + 1 < 4096) (acc ++ [.str x]) M
    | _ => .no
def isMiss : E → Bool
  | .miss => true
  | _ => false
def asI (r : Res PV) : Res (Option Int) := match r with
  | .ok (.int i) M => .ok (some i) M
  | .ok _ _ => .no
  | .ex e M => .ex e M
  | .no => .no
def itemsOf (M : Sto) : PV → Option (List PV)
  | .tup l => some l
  | .lst l => some l
  | .str x => some (signs x)
  | _ => none
def rngL (lo : Int) (n : Nat) : List PV := (List.range n).map fun i => .int (lo + (i : Nat))
def enumL (l : List PV) : List PV := l.zipIdx.map fun p => .tup [.int (p.2 : Nat), p.1]
def zipL (l m : List PV) : List PV := (l.zip m).map fun p => .tup [p.1, p.2]
/-- the items of what does not change -/
def kdOf : PV → Option (List PV)
  | .tup l => some l
  | .lst l => some l
  | _ => none
def evIt (f : Str) (l : List PV) (M : Sto) : Res (List PV) :=
  if f = ("range" : Str) then (match l with
    | [.int j] => if -(2 ^ 62) ≤ j ∧ j < 2 ^ 62 then .ok (rngL 0 j.toNat) M else .no
    | [.int i, .int j] => if -(2 ^ 62) ≤ i ∧ i < 2 ^ 62 ∧ -(2 ^ 62) ≤ j ∧ j < 2 ^ 62 then .ok (rngL i (j - i).toNat) M else .no
    | _ => .no)
  else if f = ("enumerate" : Str) then (match l with
    | [v] => ofO ((kdOf v).map enumL) M
    | _ => .no)
  else if f = ("zip" : Str) then (match l with
    | [v, w] => ofO ((kdOf v).bind fun l => (kdOf w).map fun m => zipL l m) M
    | _ => .no)
  else .no
def tyP (T : Str) (v : PV) (M : Sto) : Bool :=
  if T = ("list" : Str) then (lstOf M v).isSome
  else if T = ("str" : Str) then (match v with
    | .str _ => true
    | _ => false)
  else false
def mkL (m : Bool) (l : List PV) (M : Sto) : Res PV := if m then .ok (.loc M.length) (M ++ [some (.lst l)]) else .ok (.lst l) M
def lofP (m : Bool) (l : List PV) (M : Sto) : Res PV := match l with
  | [v] => match seqOf M v with
    | some xs => mkL m xs M
    | none => .no
  | _ => .no
/-- list(range(v, w)) -/
def lrP (m : Bool) (v w : PV) (M : Sto) : Res PV := match v, w with
  | .int i, .int j => if -(2 ^ 62) ≤ i ∧ i < 2 ^ 62 ∧ -(2 ^ 62) ≤ j ∧ j < 2 ^ 62 ∧ (j - i).toNat ≤ lim then mkL m (rngL i (j - i).toNat) M else .no
  | _, _ => .no
/-- list(zip(v, w)) of lists -/
def lzP (v w : PV) (M : Sto) : Res PV := match lstOf M v, lstOf M w with
  | some l, some m => .ok (.lst (zipL l m)) M
  | _, _ => .no
/-- the sum of two lists, a list that may change -/
def addmP (v w : PV) (M : Sto) : Res PV := match lstOf M v, lstOf M w with
  | some l, some m => if l.length + m.length ≤ lim then mkL true (l ++ m) M else .no
  | _, _ => .no
def mkC (k : CK) (l : List PV) (M : Sto) : Res PV := match k with
  | .ls m => mkL m l M
  | .st => match strsOf l with
    | some ss => .ok (.sts ss) M
    | none => .no

def callKP (F : Option (List PV → Sto → Res PV)) (l : Option (List PV)) (M : Sto) : Res PV := match F, l with
  | some F, some as => F as M
  | _, _ => .no

mutual
def evE (Γ : Sig) : E → PEnv → Sto → Res PV
  | .var i, ρ, M => match ρ[i]? with
    | some (some v) => .ok v M
    | _ => .no
  | .non, _, M => .ok .non M
  | .bl b, _, M => .ok (.bl b) M
  | .int i, _, M => .ok (.int i) M
  | .str x, _, M => .ok (.str x) M
  | .glb x, _, M => ofO (Γ.con x) M
  | .miss, _, M => .ok (.bl true) M
  | .tup es, ρ, M => (evEs Γ es ρ M).bnd fun l M1 => okIf (l.length ≤ lim) (.tup l) M1
  | .lst m es, ρ, M => (evEs Γ es ρ M).bnd fun l M1 => if l.length ≤ lim then mkL m l M1 else .no
  | .bin o a b, ρ, M => (evE Γ a ρ M).bnd fun v M1 => (evE Γ b ρ M1).bnd fun w M2 => binop o v w M2
  | .neg a, ρ, M => (evE Γ a ρ M).bnd fun v M1 => match v with
    | .int i => .ok (.int (-i)) M1
    | _ => .no
  | .cmx o a b, ρ, M => (evE Γ a ρ M).bnd fun v M1 => (evE Γ b ρ M1).bnd fun w M2 => cmpopX o v w M2
  | .cmp o a b, ρ, M => (evE Γ a ρ M).bnd fun v M1 => (evE Γ b ρ M1).bnd fun w M2 => cmpop o v w M2
  | .chn o o' a b c, ρ, M => (evE Γ a ρ M).bnd fun v M1 => (evE Γ b ρ M1).bnd fun w M2 => (asB (cmpop o v w M2)).bnd fun k M3 =>
      if k then (evE Γ c ρ M3).bnd fun z M4 => cmpop o' w z M4 else .ok (.bl false) M3
  | .and a b, ρ, M => (asB (evE Γ a ρ M)).bnd fun k M1 => if k then evE Γ b ρ M1 else .ok (.bl false) M1
  | .or a b, ρ, M => (asB (evE Γ a ρ M)).bnd fun k M1 => if k then .ok (.bl true) M1 else evE Γ b ρ M1
  | .not a, ρ, M => (asB (evE Γ a ρ M)).bnd fun k M1 => .ok (.bl (!k)) M1
  | .ite c a b, ρ, M => (asB (evE Γ c ρ M)).bnd fun k M1 => if k then evE Γ a ρ M1 else evE Γ b ρ M1
  | .idx a i, ρ, M => (evE Γ a ρ M).bnd fun v M1 => (evE Γ i ρ M1).bnd fun w M2 => idxop v w M2
  | .slc a lo hi, ρ, M => (evE Γ a ρ M).bnd fun v M1 => (if isMiss lo then .ok none M1 else asI (evE Γ lo ρ M1)).bnd fun l M2 =>
      (if isMiss hi then .ok none M2 else asI (evE Γ hi ρ M2)).bnd fun h M3 => slcop v l h M3
  | .stp a st, ρ, M => (evE Γ a ρ M).bnd fun v M1 => (asI (evE Γ st ρ M1)).bnd fun l M2 => stpT v (l.getD 0) M2
  | .rev a, ρ, M => (evE Γ a ρ M).bnd fun v M1 => match v with
    | .lst l => .ok (.lst l.reverse) M1
    | .loc n => ofO ((locL M1 n).map fun l => .lst l.reverse) M1
    | _ => .no
  | .call f es, ρ, M => (evEs Γ es ρ M).bnd fun l M1 => match Γ.fn f with
    | some F => F l M1
    | none => .no
  | .callK f np es ks vs perm, ρ, M => (evEs Γ es ρ M).bnd fun l M1 => (evEs Γ vs ρ M1).bnd fun r M2 => if l.length = np ∧ r.length = ks.length then callKP (Γ.fn f) (perm.mapM fun i => (l ++ r)[i]?) M2 else .no
  | .blt f es, ρ, M => (evEs Γ es ρ M).bnd fun l M1 => evB f l M1
  | .lof m es, ρ, M => (evEs Γ es ρ M).bnd fun l M1 => lofP m l M1
  | .lr m a b, ρ, M => (evE Γ a ρ M).bnd fun v M1 => (evE Γ b ρ M1).bnd fun w M2 => lrP m v w M2
  | .lz a b, ρ, M => (evE Γ a ρ M).bnd fun v M1 => (evE Γ b ρ M1).bnd fun w M2 => lzP v w M2
  | .up a, ρ, M => (evE Γ a ρ M).bnd fun v M1 => upP v M1
  | .addM a b, ρ, M => (evE Γ a ρ M).bnd fun v M1 => (evE Γ b ρ M1).bnd fun w M2 => addmP v w M2
  | .dsp m es, ρ, M => (noex (evEs Γ es ρ M)).bnd fun l M1 => dspP m l M1
  | .dof m es, ρ, M => (evEs Γ es ρ M).bnd fun l M1 => dofP m l M1
  | .isi a ts, ρ, M => (evE Γ a ρ M).bnd fun v M1 => ofO ((isAny M1 v ts).map .bl) M1
  | .mth T m o es, ρ, M => (evE Γ o ρ M).bnd fun v M1 => if tyP T v M1 then (evEs Γ es ρ M1).bnd fun l M2 => evM T m v l M2 else .no
  | .cpr k own tg it c r, ρ, M => (evI Γ it ρ M).bnd fun items M1 => (noex (loopC (fun x acc M => match bindG tg x (wipeP ρ own) with
      | none => .no
      | some ρ2 => (asB (evE Γ c ρ2 M)).bnd fun b M' => if b then evC Γ k r ρ2 acc M' else .ok acc M') items [] M1)).bnd fun l M2 => mkC k l M2
def evC (Γ : Sig) (k : CK) : Cl → PEnv → List PV → Sto → Res (List PV)
  | .elt e, ρ, acc, M => (evE Γ e ρ M).bnd fun v M1 => emitC k v acc M1
  | .for' tg it c r, ρ, acc, M => (evI Γ it ρ M).bnd fun items M1 => loopC (fun x acc M => match bindG tg x (wipeP ρ (tgN tg ++ clN r)) with
      | none => .no
      | some ρ2 => (asB (evE Γ c ρ2 M)).bnd fun b M' => if b then evC Γ k r ρ2 acc M' else .ok acc M') items acc M1
def evEs (Γ : Sig) : Es → PEnv → Sto → Res (List PV)
  | .nil, _, M => .ok [] M
  | .cons e es, ρ, M => (evE Γ e ρ M).bnd fun v M1 => (evEs Γ es ρ M1).bnd fun l M2 => .ok (v :: l) M2
  | .star e es, ρ, M => (evE Γ e ρ M).bnd fun v M1 => match seqOf M1 v with
    | some xs => (evEs Γ es ρ M1).bnd fun l M2 => .ok (xs ++ l) M2
    | none => .no
def evI (Γ : Sig) : It → PEnv → Sto → Res (List PV)
  | .seq e, ρ, M => (evE Γ e ρ M).bnd fun v M1 => ofO (itemsOf M1 v) M1
  | .fn f n es, ρ, M => (evEs Γ es ρ M).bnd fun l M1 => if l.length = n then evIt f l M1 else .no
end

/-! ### statements -/
inductive Flo where
  | nx
  | rt (v : PV)
  | bk
  | ct
inductive SRes where
  | ok (f : Flo) (ρ : PEnv) (M : Sto)
  | ex (e : EX) (ρ : PEnv) (M : Sto)
  | no
/-- a value is reckoned first -/
def Res.sb {α : Type} (r : Res α) (ρ : PEnv) (k : α → Sto → SRes) : SRes := match r with
  | .ok v M => k v M
  | .ex e M => .ex e ρ M
  | .no => .no
@[simp] theorem sb_ok {α : Type} {v : α} {M : Sto} {ρ : PEnv} {k : α → Sto → SRes} : (Res.ok v M).sb ρ k = k v M := rfl
@[simp] theorem sb_no {α : Type} {ρ : PEnv} {k : α → Sto → SRes} : (Res.no : Res α).sb ρ k = .no := rfl
@[simp] theorem sb_ex {α : Type} {e : EX} {M : Sto} {ρ : PEnv} {k : α → Sto → SRes} : (Res.ex e M : Res α).sb ρ k = .ex e ρ M := rfl
/-- then the next statement -/
def SRes.seq (r : SRes) (k : PEnv → Sto → SRes) : SRes := match r with
  | .ok .nx ρ M => k ρ M
  | r => r
@[simp] theorem seq_nx {ρ : PEnv} {M : Sto} {k : PEnv → Sto → SRes} : (SRes.ok .nx ρ M).seq k = k ρ M := rfl
@[simp] theorem seq_rt {v : PV} {ρ : PEnv} {M : Sto} {k : PEnv → Sto → SRes} : (SRes.ok (.rt v) ρ M).seq k = .ok (.rt v) ρ M := rfl
@[simp] theorem seq_bk {ρ : PEnv} {M : Sto} {k : PEnv → Sto → SRes} : (SRes.ok .bk ρ M).seq k = .ok .bk ρ M := rfl
@[simp] theorem seq_ct {ρ : PEnv} {M : Sto} {k : PEnv → Sto → SRes} : (SRes.ok .ct ρ M).seq k = .ok .ct ρ M := rfl
@[simp] theorem seq_no {k : PEnv → Sto → SRes} : SRes.no.seq k = .no := rfl

def forL (f : PV → PEnv → Sto → SRes) : List PV → PEnv → Sto → SRes
  | [], ρ, M => .ok .nx ρ M
  | x :: xs, ρ, M => match f x ρ M with
    | .ok .nx ρ1 M1 => forL f xs ρ1 M1
    | .ok .ct ρ1 M1 => forL f xs ρ1 M1
    | .ok .bk ρ1 M1 => .ok .nx ρ1 M1
    | r => r
def whileL (c : PEnv → Sto → Res Bool) (f : PEnv → Sto → SRes) : Nat → PEnv → Sto → SRes
  | 0, _, _ => .no
  | n + 1, ρ, M => (c ρ M).sb ρ fun k M1 => if k then (match f ρ M1 with
    | .ok .nx ρ1 M1 => whileL c f n ρ1 M1
    | .ok .ct ρ1 M1 => whileL c f n ρ1 M1
    | .ok .bk ρ1 M1 => .ok .nx ρ1 M1
    | r => r) else .ok .nx ρ M1
def fuel : Nat := 100000000

def subop (o i v : PV) (M : Sto) : Option Sto :=
  match o, i with
  | .loc n, .int j => match locL M n with
    | some xs => (ixN xs.length j).map fun k => M.set n (some (.lst (xs.set k v)))
    | none => none
  | .loc n, .str k => match M[n]? with
    | some (some (.dct ks l)) => if (ks.zip l).length < lim then some (M.set n (some (.dct ((pK (ks.zip l) (.inr k) v).map (·.1)) ((pK (ks.zip l) (.inr k) v).map (·.2))))) else none
    | _ => none
  | _, _ => none

/-- w, *ps = v -/
def starP (i j : Nat) (v : PV) (ρ : PEnv) (M : Sto) : SRes := match v with
  | .tup (x :: xs) => .ok .nx ((ρ.set i (some x)).set j (some (.lst xs))) M
  | _ => .no
mutual
def evS (Γ : Sig) : Sm → PEnv → Sto → SRes
  | .asg i e, ρ, M => (evE Γ e ρ M).sb ρ fun v M1 => .ok .nx (ρ.set i (some v)) M1
  | .asgT t e, ρ, M => (evE Γ e ρ M).sb ρ fun v M1 => match bindG (.tp t) v ρ with
    | some ρ1 => .ok .nx ρ1 M1
    | none => .no
  | .asgS i j e, ρ, M => (evE Γ e ρ M).sb ρ fun v M1 => starP i j v ρ M1
  | .par is es, ρ, M => (evEs Γ es ρ M).sb ρ fun l M1 => match setAll ρ is l with
    | some ρ1 => .ok .nx ρ1 M1
    | none => .no
  | .sub o i v, ρ, M => (evE Γ v ρ M).sb ρ fun x M1 => (evE Γ o ρ M1).sb ρ fun y M2 => (evE Γ i ρ M2).sb ρ fun z M3 => match subop y z x M3 with
    | some M4 => .ok .nx ρ M4
    | none => .no
  | .exp e, ρ, M => (evE Γ e ρ M).sb ρ fun _ M1 => .ok .nx ρ M1
  | .ret e, ρ, M => (evE Γ e ρ M).sb ρ fun v M1 => .ok (.rt v) ρ M1
  | .retN, ρ, M => .ok (.rt .non) ρ M
  | .ifs c a b, ρ, M => (asB (evE Γ c ρ M)).sb ρ fun k M1 => if k then evSs Γ a ρ M1 else evSs Γ b ρ M1
  | .for' tg it b, ρ, M => (evI Γ it ρ M).sb ρ fun items M1 => forL (fun x ρ M => match bindG tg x ρ with
    | some ρ1 => evSs Γ b ρ1 M
    | none => .no) items ρ M1
  | .whl c b, ρ, M => whileL (fun ρ M => asB (evE Γ c ρ M)) (fun ρ M => evSs Γ b ρ M) fuel ρ M
  | .brk, ρ, M => .ok .bk ρ M
  | .cnt, ρ, M => .ok .ct ρ M
  | .pas, ρ, M => .ok .nx ρ M
  | .frz i, ρ, M => match ρ[i]? with
    | some (some (.loc n)) => match locL M n with
      | some l => .ok .nx (ρ.set i (some (.lst l))) (M.set n none)
      | none => .no
    | _ => .no
def evSs (Γ : Sig) : Sms → PEnv → Sto → SRes
  | .nil, ρ, M => .ok .nx ρ M
  | .cons s r, ρ, M => (evS Γ s ρ M).seq fun ρ1 M1 => evSs Γ r ρ1 M1
end
/-- a def: how many parameters, how many names -/
structure Df where
  np : Nat
  nn : Nat
  body : Sms
def Df.ev (Γ : Sig) (d : Df) (l : List PV) (M : Sto) : Res PV :=
  if l.length = d.np then (match evSs Γ d.body (l.map some ++ List.replicate (d.nn - d.np) none) M with
    | .ok (.rt v) _ M1 => .ok v M1
    | .ok .nx _ M1 => .ok .non M1
    | .ex e _ M1 => .ex e M1
    | _ => .no) else .no
def Sig.add (Γ : Sig) (x : Str) (F : List PV → Sto → Res PV) : Sig := ⟨fun f => if f = x then some F else Γ.fn f, Γ.con⟩
theorem Sig.same {Γ : Sig} {x : Str} {F : List PV → Sto → Res PV} : (Γ.add x F).fn x = some F := if_pos rfl
theorem Sig.other {Γ : Sig} {x f : Str} {F : List PV → Sto → Res PV} (h : decide (f = x) = false) : (Γ.add x F).fn f = Γ.fn f := if_neg (of_decide_eq_false h)
/-- a def that calls itself, n deep -/
def recP (Γ : Sig) (x : Str) (d : Df) : Nat → List PV → Sto → Res PV
  | 0 => fun _ _ => .no
  | n + 1 => d.ev (Γ.add x (recP Γ x d n))
end Sk

/-! SkC: the evaluator as HandS's readings; values, operators. -/
namespace Sk
open PySem PySem.Spec PyProof.Rows L2

def XOk (C : Cfg) (G : Gh) (H : Hp) (e : EX) (cv : Value) (d : Option Addr) : Prop :=
  ∃ B, C.cls e.c = some B ∧ cv = .ref B ∧ (e.fs = [] ∨ ∃ dd xs, d = some dd ∧ G.fz dd ∧ H dd = some (.xd (e.fs.zip xs)) ∧ e.fs.length = e.vs.length ∧ RepL C G H e.vs xs)
abbrev XWish := Value → Option Addr → Hp → Prop

/-- what must hold so that the answer r serves Q -/
def Srv {α β : Type} (C : Cfg) (rel : Gh → Hp → α → β → Prop) (W : XWish) (G : Gh) (H : Hp) (r : Res α) (Q : β → Hp → Prop) : Prop :=
  match r with
  | .ok v M => ∀ G' H' x, Stp G H G' H' → SRep C G' H' M → rel G' H' v x → Q x H'
  | .ex e M => ∀ G' H' c d, Stp G H G' H' → SRep C G' H' M → XOk C G' H' e c d → W c d H'
  | .no => False
section
variable {α β : Type} {C : Cfg} {rel : Gh → Hp → α → β → Prop} {W : XWish} {G G' : Gh} {H H' : Hp}
theorem Srv.on {r : Res α} {Q : β → Hp → Prop} (s : Stp G H G' H') (h : Srv C rel W G H r Q) : Srv C rel W G' H' r Q := by
  cases r with
  | ok v M => exact fun G2 H2 x s2 => h G2 H2 x (s.trans s2)
  | ex e M => exact fun G2 H2 c d s2 => h G2 H2 c d (s.trans s2)
  | no => exact h
theorem Srv.mono {r : Res α} {Q Q' : β → Hp → Prop} (h : Srv C rel W G H r Q) (k : ∀ x H', Q x H' → Q' x H') : Srv C rel W G H r Q' := by
  cases r with
  | ok v M => exact fun G2 H2 x s2 a b => k _ _ (h G2 H2 x s2 a b)
  | ex e M => exact h
  | no => exact h
/-- the first part of two -/
theorem Srv.split {α' β' : Type} {rel' : Gh → Hp → α' → β' → Prop} {r : Res α} {k : α → Sto → Res α'} {Q : β' → Hp → Prop} (h : Srv C rel' W G H (r.bnd k) Q) :
    Srv C rel W G H r (fun x H1 => ∃ G1 v M1, Stp G H G1 H1 ∧ SRep C G1 H1 M1 ∧ rel G1 H1 v x ∧ Srv C rel' W G1 H1 (k v M1) Q) := by
  cases r with
  | ok v M =>
    intro G1 H1 x s S r
    have h : Srv C rel' W G H (k v M) Q := h
    exact ⟨G1, v, M, s, S, r, h.on s⟩
  | ex e M => exact h
  | no => exact h
theorem Srv.ok_now {v : α} {M : Sto} {x : β} {Q : β → Hp → Prop} (h : Srv C rel W G H (.ok v M) Q) (S : SRep C G H M) (r : rel G H v x) : Q x H := h G H x (.refl G H) S r
theorem Srv.ok_on {v : α} {M : Sto} {x : β} {Q : β → Hp → Prop} (h : Srv C rel W G H (.ok v M) Q) (s : Stp G H G' H') (S : SRep C G' H' M) (r : rel G' H' v x) : Q x H' := h G' H' x s S r
end

def relB : Gh → Hp → Bool → Bool → Prop := fun _ _ a b => a = b
/-- an expression, a test, arguments -/
def tE (C : Cfg) (f : PEnv → Sto → Res PV) (W : WX) : TE := fun σ H Q => ∃ G ρ M, SRep C G H M ∧ ERep C G H ρ σ ∧ Srv C (Rep C) (fun c d => W c d σ) G H (f ρ M) Q
def tT (C : Cfg) (f : PEnv → Sto → Res Bool) (W : WX) : TT := fun σ H Q => ∃ G ρ M, SRep C G H M ∧ ERep C G H ρ σ ∧ Srv C relB (fun c d => W c d σ) G H (f ρ M) Q
def tA (C : Cfg) (f : PEnv → Sto → Res (List PV)) (W : WX) : TA := fun σ H Q => ∃ G ρ M, SRep C G H M ∧ ERep C G H ρ σ ∧ Srv C (RepL C) (fun c d => W c d σ) G H (f ρ M) Q

theorem PE.weak {X : Cx} {e : Expr} {t t' : TE} (h : PE X e t) (k : ∀ σ H Q, t' σ H Q → t σ H Q) : PE X e t' := ⟨fun pins s σ H Q I q => h.run pins s σ H Q I (k σ H Q q)⟩
theorem PT.weak {X : Cx} {e : Expr} {t t' : TT} (h : PT X e t) (k : ∀ σ H Q, t' σ H Q → t σ H Q) : PT X e t' := ⟨fun pins s σ H Q I q => h.run pins s σ H Q I (k σ H Q q)⟩
theorem PA.weak {X : Cx} {e : List Expr} {t t' : TA} (h : PA X e t) (k : ∀ σ H Q, t' σ H Q → t σ H Q) : PA X e t' := ⟨fun p pins s σ H Q I q => h.run p pins s σ H Q I (k σ H Q q)⟩
theorem PS.weak {X : Cx} {e : Stmt} {t t' : TS} (h : PS X e t) (k : ∀ D σ H, t' D σ H → t D σ H) : PS X e t' := ⟨fun pins s σ H D I q => h.run pins s σ H D I (k D σ H q)⟩
theorem PSs.weak {X : Cx} {e : List Stmt} {t t' : TS} (h : PSs X e t) (k : ∀ D σ H, t' D σ H → t D σ H) : PSs X e t' := ⟨fun pins s σ H D I q => h.run pins s σ H D I (k D σ H q)⟩
theorem PI.weak {X : Cx} {tg e : Expr} {t t' : TI} (h : PI X tg e t) (k : ∀ σ H Q, t' σ H Q → t σ H Q) : PI X tg e t' := ⟨fun pins s σ H Q I q => h.run pins s σ H Q I (k σ H Q q)⟩

section
variable {X : Cx} {C : Cfg} {W : WX} {a b c : Expr} {f g h : PEnv → Sto → Res PV} {pos : Pos}
/-- an answer that does not look at the heap -/
theorem pe_const {e : Expr} {t : TE} {p : PV} {x : V} (he : PE X e t) (ht : ∀ σ H (Q : VK), Q x H → t σ H Q) (hr : ∀ G H, Rep C G H p x) : PE X e (tE C (fun _ M => .ok p M) W) :=
  PE.weak he fun σ H Q ⟨G, ρ, M, S, _, F⟩ => ht σ H Q (F.ok_now S (hr G H))
theorem pe_varP {i : Nat} {x : Str} (hN : X.N[i]? = some x) (hv : Vis X.env.scope x) (hd : (x == ("__debug__" : Str)) = false) (hcd : (x == ("__classdict__" : Str)) = false) :
    PE X (.Name x pos) (tE C (fun ρ M => match ρ[i]? with | some (some v) => .ok v M | _ => .no) W) :=
  PE.weak (pe_var hN hv hd hcd) fun σ H Q ⟨G, ρ, M, S, ER, F⟩ => by
    dsimp only at F
    split at F
    · rename_i v e
      obtain ⟨u, e2, r⟩ := ER.2 i v e
      exact ⟨u, e2, F.ok_now S r⟩
    · exact F.elim

/-! ### operators -/
/-- the operator's reading is served by what the evaluator reckons -/
def OpOk (C : Cfg) (r : R2) (k : PV → PV → Sto → Res PV) : Prop :=
  ∀ (W : XWish) (G : Gh) (H : Hp) (M : Sto) (v w : PV) (x y : V) (Q : VK), SRep C G H M → Rep C G H v x → Rep C G H w y → Srv C (Rep C) W G H (k v w M) Q → r x y H Q
theorem pe_two {e : Expr} {r : R2} {k : PV → PV → Sto → Res PV} (he : ∀ ta tb, PE X a ta → PE X b tb → PE X e (tOp r ta tb)) (ho : OpOk C r k) (ha : PE X a (tE C f W)) (hb : PE X b (tE C g W)) :
    PE X e (tE C (fun ρ M => (f ρ M).bnd fun v M1 => (g ρ M1).bnd fun w M2 => k v w M2) W) :=
  PE.weak (he _ _ ha hb) fun σ H Q ⟨G, ρ, M, S, ER, F⟩ => ⟨G, ρ, M, S, ER, (Srv.split F).mono fun x H1 ⟨G1, v, M1, s1, S1, r1, F1⟩ =>
    ⟨G1, ρ, M1, S1, ER.on s1.toStq, (Srv.split F1).mono fun y H2 ⟨G2, w, M2, s2, S2, r2, F2⟩ => ho _ G2 H2 M2 v w x y Q S2 (r1.on s2.toStq) r2 F2⟩⟩
def UnOk (C : Cfg) (r : V → Hp → VK → Prop) (k : PV → Sto → Res PV) : Prop :=
  ∀ (W : XWish) (G : Gh) (H : Hp) (M : Sto) (v : PV) (x : V) (Q : VK), SRep C G H M → Rep C G H v x → Srv C (Rep C) W G H (k v M) Q → r x H Q
theorem pe_one' {e : Expr} {r : V → Hp → VK → Prop} {k : PV → Sto → Res PV} (he : ∀ ta, PE X a ta → PE X e (tUn r ta)) (ho : UnOk C r k) (ha : PE X a (tE C f W)) :
    PE X e (tE C (fun ρ M => (f ρ M).bnd fun v M1 => k v M1) W) :=
  PE.weak (he _ ha) fun σ H Q ⟨G, ρ, M, S, ER, F⟩ => ⟨G, ρ, M, S, ER, (Srv.split F).mono fun x H1 ⟨G1, v, M1, s1, S1, r1, F1⟩ => ho _ G1 H1 M1 v x Q S1 r1 F1⟩
/-- two readings: either -/
theorem OpR.orL {F : Value → Value → Sem Value} {l : List R2} (h : ∀ r ∈ l, OpR X F r) : OpR X F (fun x y H Q => ∃ r ∈ l, r x y H Q) :=
  fun pins s σ H x y v u Q I rx ry ⟨r, hm, q⟩ => h r hm pins s σ H x y v u Q I rx ry q

/-! ### tests -/
theorem asB_bl {r : Res PV} {W : XWish} {G : Gh} {H : Hp} {Q : Bool → Hp → Prop} (F : Srv C relB W G H (asB r) Q) : Srv C (Rep C) W G H r (fun x H' => ∃ b, x = .bl b ∧ Q b H') := by
  cases r with
  | ok v M =>
    cases v with
    | bl b => exact fun G' H' x s S' r => ⟨b, Rep.bl_iff.mp r, F G' H' b s S' rfl⟩
    | _ => exact F.elim
  | ex e M => exact F
  | no => exact F
theorem pt_two {e : Expr} {r : R2} {k : PV → PV → Sto → Res PV} (he : ∀ ta tb, PE X a ta → PE X b tb → PT X e (tTest (tOp r ta tb))) (ho : OpOk C r k) (ha : PE X a (tE C f W)) (hb : PE X b (tE C g W)) :
    PT X e (tT C (fun ρ M => asB ((f ρ M).bnd fun v M1 => (g ρ M1).bnd fun w M2 => k v w M2)) W) :=
  PT.weak (he _ _ ha hb) fun σ H Q ⟨G, ρ, M, S, ER, F⟩ => ⟨G, ρ, M, S, ER, (Srv.split (asB_bl F)).mono fun x H1 ⟨G1, v, M1, s1, S1, r1, F1⟩ =>
      ⟨G1, ρ, M1, S1, ER.on s1.toStq, (Srv.split F1).mono fun y H2 ⟨G2, w, M2, s2, S2, r2, F2⟩ => ho _ G2 H2 M2 v w x y _ S2 (r1.on s2.toStq) r2 F2⟩⟩
/-- any expression whose value is a bool -/
theorem pt_valP (ha : PE X a (tE C f W)) (he : ∀ whole, isTrue a X.env whole = (do let v ← whole; standAt a.pos; holding [v] (truthy v))) : PT X a (tT C (fun ρ M => asB (f ρ M)) W) :=
  PT.weak (pt_val ha he) fun σ H Q ⟨G, ρ, M, S, ER, F⟩ => ⟨G, ρ, M, S, ER, (asB_bl F)⟩
end
end Sk

/-! SkD: the operators' rules over pure values. -/
namespace Sk
open PySem PySem.Spec PyProof.Rows L2

theorem lim_eq : sizeLine = lim := rfl
section
variable {C : Cfg} {W : XWish} {G : Gh} {H : Hp} {M : Sto}
theorem Srv.newL {l : List PV} {zs : List V} {Q : VK} (F : Srv C (Rep C) W G H (.ok (.lst l) M) Q) (S : SRep C G H M) (r : RepL C G H l zs) : ∀ p, H p = none → Q (.ref p) (upd H p (.lst zs)) := fun p hp => by
  obtain ⟨s, S'⟩ := S.laidFz (o := .lst zs) hp
  exact F.ok_on s S' (Rep.lst_iff.mpr ⟨p, zs, rfl, .inl ⟨.inr rfl, .inl upd_same⟩, r.on s.toStq⟩)
theorem Srv.newT {l : List PV} {zs : List V} {Q : VK} (F : Srv C (Rep C) W G H (.ok (.tup l) M) Q) (S : SRep C G H M) (r : RepL C G H l zs) : ∀ p, H p = none → Q (.ref p) (upd H p (.tup zs)) := fun p hp => by
  obtain ⟨s, S'⟩ := S.laidFz (o := .tup zs) hp
  exact F.ok_on s S' (Rep.tup_iff.mpr ⟨p, zs, rfl, .inl ⟨.inr rfl, .inl upd_same⟩, r.on s.toStq⟩)
theorem Srv.newMk {m : Bool} {l : List PV} {zs : List V} {Q : VK} (F : Srv C (Rep C) W G H (mkL m l M) Q) (S : SRep C G H M) (r : RepL C G H l zs) : ∀ p, H p = none → Q (.ref p) (upd H p (.lst zs)) := fun p hp => by
  cases m with
  | false => exact Srv.newL F S r p hp
  | true =>
    obtain ⟨s, S'⟩ := S.laidMu (m := .lst l) hp fun G' s' => ⟨zs, upd_same, r.on s'.toStq⟩
    exact F.ok_on s S' (Rep.loc_iff.mpr ⟨p, rfl, if_pos rfl⟩)
theorem Srv.bl {b : Bool} {Q : VK} (F : Srv C (Rep C) W G H (.ok (.bl b) M) Q) (S : SRep C G H M) : Q (.bl b) H := F.ok_now S (Rep.bl_iff.mpr rfl)
theorem Srv.int {i : Int} {Q : VK} (F : Srv C (Rep C) W G H (.ok (.int i) M) Q) (S : SRep C G H M) : Q (.int i) H := F.ok_now S (Rep.int_iff.mpr rfl)
theorem Srv.okIf {α β : Type} {rel : Gh → Hp → α → β → Prop} {c : Prop} [Decidable c] {v : α} {Q : β → Hp → Prop} (F : Srv C rel W G H (okIf c v M) Q) : c ∧ Srv C rel W G H (.ok v M) Q := by
  unfold Sk.okIf at F
  split at F
  · exact ⟨‹c›, F⟩
  · exact F.elim
theorem Srv.ofO {α β : Type} {rel : Gh → Hp → α → β → Prop} {o : Option α} {Q : β → Hp → Prop} (F : Srv C rel W G H (ofO o M) Q) : ∃ v, o = some v ∧ Srv C rel W G H (.ok v M) Q := by
  cases o with
  | none => exact F.elim
  | some v => exact ⟨v, rfl, F⟩

theorem loc_at {n : Nat} {l : List PV} {a : Addr} (S : SRep C G H M) (h : locL M n = some l) (hm : G.mu n = some a) : M[n]? = some (some (.lst l)) ∧ ∃ xs, H a = some (.lst xs) ∧ RepL C G H l xs := by
  unfold locL at h
  split at h
  · rename_i l' e
    cases h
    obtain ⟨b, e1, r⟩ := S.here n _ e
    rw [hm] at e1
    cases e1
    exact ⟨e, r⟩
  · cases h
theorem lst_sq {v : PV} {x : V} {l : List PV} (S : SRep C G H M) (r : Rep C G H v x) (h : lstOf M v = some l) : ∃ a xs, x = .ref a ∧ SqL C.K H a xs ∧ RepL C G H l xs := by
  cases v with
  | lst l' =>
    cases h
    obtain ⟨a, xs, e, f, r⟩ := Rep.lst_iff.mp r
    exact ⟨a, xs, e, f.sq, r⟩
  | loc n =>
    obtain ⟨a, e, f⟩ := Rep.loc_iff.mp r
    obtain ⟨_, xs, q, r⟩ := loc_at S h f
    exact ⟨a, xs, e, SqL.of q, r⟩
  | _ => cases h
theorem seq_sq {v : PV} {x : V} {l : List PV} (S : SRep C G H M) (r : Rep C G H v x) (h : seqOf M v = some l) : ∃ a xs, x = .ref a ∧ (SqL C.K H a xs ∨ SqT C.K H a xs) ∧ RepL C G H l xs := by
  cases v with
  | tup l' =>
    cases h
    obtain ⟨a, xs, e, f, r⟩ := Rep.tup_iff.mp r
    exact ⟨a, xs, e, .inr f.sq, r⟩
  | _ =>
    obtain ⟨a, xs, e, f, r⟩ := lst_sq S r h
    exact ⟨a, xs, e, .inl f, r⟩
theorem RepL.len {l : List PV} {xs : List V} (r : RepL C G H l xs) : xs.length = l.length := r.length.symm
end

/-! ### data -/
section
variable {C : Cfg} {G : Gh} {H : Hp} {M : Sto}
mutual
theorem dp_of : ∀ {v : PV} {x : V} {d : PyData}, Rep C G H v x → toD0 v = some d → Dp C.K H x d ∧ d.canLay0 = true
  | .non, _, _, r, h => by cases Rep.non_iff.mp r; cases h; exact ⟨.non, by simp only [PyData.canLay0]⟩
  | .bl b, _, _, r, h => by cases Rep.bl_iff.mp r; cases h; exact ⟨.bl b, by simp only [PyData.canLay0]⟩
  | .int i, _, _, r, h => by cases Rep.int_iff.mp r; cases h; exact ⟨.int i, by simp only [PyData.canLay0]⟩
  | .str s, _, _, r, h => by
    obtain ⟨e, f⟩ := Rep.str_iff.mp r
    subst e
    cases h
    exact ⟨.str s, by simp only [PyData.canLay0]; exact f.1⟩
  | .tup l, _, _, r, h => by
    obtain ⟨a, xs, e, f, rl⟩ := Rep.tup_iff.mp r
    subst e
    simp only [toD0, Option.map_eq_some_iff] at h
    obtain ⟨ds, h1, rfl⟩ := h
    obtain ⟨p, q⟩ := dpAll_of rl h1
    exact ⟨.tup f.sq p, by simp only [PyData.canLay0]; exact q⟩
  | .lst l, _, _, r, h => by
    obtain ⟨a, xs, e, f, rl⟩ := Rep.lst_iff.mp r
    subst e
    simp only [toD0, Option.map_eq_some_iff] at h
    obtain ⟨ds, h1, rfl⟩ := h
    obtain ⟨p, q⟩ := dpAll_of rl h1
    exact ⟨.lst f.sq p, by simp only [PyData.canLay0]; exact q⟩
  | .dct _ _, _, _, _, h => by cases h
  | .sts _, _, _, _, h => by cases h
  | .loc _, _, _, _, h => by cases h
  | .obj _ _ _, _, _, _, h => by cases h
theorem dpAll_of : ∀ {l : List PV} {xs : List V} {ds : List PyData}, RepL C G H l xs → toD0L l = some ds → DpAll C.K H xs ds ∧ PyData.canLayAll0 ds = true
  | [], _, _, r, h => by rw [r.nil_inv]; cases h; exact ⟨.nil, by simp only [PyData.canLayAll0]⟩
  | p :: l, _, _, r, h => by
    obtain ⟨x, xs, rfl, r1, r2⟩ := r.cons_inv
    simp only [toD0L, Option.bind_eq_some_iff, Option.map_eq_some_iff] at h
    obtain ⟨d, h1, ds, h2, rfl⟩ := h
    obtain ⟨p1, q1⟩ := dp_of r1 h1
    obtain ⟨p2, q2⟩ := dpAll_of r2 h2
    exact ⟨.cons p1 p2, by simp only [PyData.canLayAll0, q1, q2]; rfl⟩
end
theorem dp_ofM {v : PV} {x : V} {d : PyData} (S : SRep C G H M) (r : Rep C G H v x) (h : toD M v = some d) : Dp C.K H x d ∧ d.canLay0 = true := by
  cases v with
  | loc n =>
    simp only [toD, Option.bind_eq_some_iff, Option.map_eq_some_iff] at h
    obtain ⟨l, h1, ds, h2, rfl⟩ := h
    obtain ⟨a, e, f⟩ := Rep.loc_iff.mp r
    subst e
    obtain ⟨_, xs, q, r⟩ := loc_at S h1 f
    obtain ⟨p1, p2⟩ := dpAll_of r h2
    exact ⟨.lst (SqL.of q) p1, by simp only [PyData.canLay0]; exact p2⟩
  | _ => exact dp_of r h
theorem shaped_of {d : PyData} (h : d.canLay0 = true) (k : d.depth ≤ 64) : SeqAt.shaped d = true := by unfold SeqAt.shaped; rw [h]; simpa using k
theorem peq_some {v w : PV} {b : Bool} (h : peq M v w = some b) : ∃ d e, toD M v = some d ∧ toD M w = some e ∧ d.depth ≤ 64 ∧ e.depth ≤ 64 ∧ b = PyData.eqv d e := by
  unfold peq at h
  split at h
  · rename_i d e h1 h2
    split at h
    · rename_i k
      cases h
      exact ⟨d, e, h1, h2, k.1, k.2, rfl⟩
    · cases h
  · cases h
theorem ok_eq : OpOk C (rEqD C.K) (cmpop .eq) := by
  intro W G H M v w x y Q S rv rw' F
  obtain ⟨p, h, F⟩ := Srv.ofO F
  simp only [Option.map_eq_some_iff] at h
  obtain ⟨b, h, rfl⟩ := h
  obtain ⟨d, e, h1, h2, h3, h4, rfl⟩ := peq_some h
  obtain ⟨p1, c1⟩ := dp_ofM S rv h1
  obtain ⟨p2, c2⟩ := dp_ofM S rw' h2
  exact ⟨d, e, p1, p2, shaped_of c1 h3, shaped_of c2 h4, F.bl S⟩
theorem ok_ne : OpOk C (rNeD C.K) (cmpop .ne) := by
  intro W G H M v w x y Q S rv rw' F
  obtain ⟨p, h, F⟩ := Srv.ofO F
  simp only [Option.map_eq_some_iff] at h
  obtain ⟨b, h, rfl⟩ := h
  obtain ⟨d, e, h1, h2, h3, h4, rfl⟩ := peq_some h
  obtain ⟨p1, c1⟩ := dp_ofM S rv h1
  obtain ⟨p2, c2⟩ := dp_ofM S rw' h2
  exact ⟨d, e, p1, p2, shaped_of c1 h3, shaped_of c2 h4, F.bl S⟩
end

/-! ### arithmetic -/
section
variable {X : Cx} {C : Cfg}
theorem rv_int {G : Gh} {H : Hp} {i : Int} {x : V} (r : Rep C G H (.int i) x) : x = .int i := Rep.int_iff.mp r
/-- a list plus a list, each as it is read -/
def rCatS (K : PySem.W.Frag) : R2 := fun x y H Q => ∃ a b xs ys, x = .ref a ∧ y = .ref b ∧ SqL K H a xs ∧ SqL K H b ys ∧ xs.length + ys.length ≤ sizeLine ∧ ∀ p, H p = none → Q (.ref p) (upd H p (.lst (xs ++ ys)))
theorem op_catS : OpR X (binaryOp .Add) (rCatS X.K) := by
  rintro pins s σ H x y v u Q I rx ry ⟨a, b, xs, ys, rfl, rfl, ha, hb, hz, q⟩
  cases rx
  cases ry
  obtain ⟨i1, r1, ⟨⟨c1, d1, t1, l1⟩, n1, e1, k1, _, m1⟩, _⟩ := I.list ha
  obtain ⟨i2, r2, ⟨⟨c2, d2, t2, l2⟩, n2, e2, k2, _, m2⟩, _⟩ := I.list hb
  simp only at k1 m1 k2 m2
  subst k1 m1 k2 m2
  have hsz : i1.toArray.size + i2.toArray.size ≤ sizeLine := by
    rw [List.size_toArray, List.size_toArray, ← r1.length, ← r2.length]; exact hz
  refine concat_meets ⟨_, e1, rfl⟩ ⟨_, e2, rfl⟩ noFill_list_add seq_list_add PySem.F.slot_list_add PySem.F.entry_list_add (PySem.F.args_list_add_2 _ _)
    (list_addW a b i1.toArray i2.toArray n1 n2 d1 d2 l1 l2 hsz) ⟨e1, e2, ?_⟩
  rw [show i1.toArray ++ i2.toArray = (i1 ++ i2).toArray from by simp]
  exact ⟨.ref _, _, I.lnew (t' := s.toks) (r1.append r2) (by rw [List.length_append]; exact hz), rfl, q _ I.fresh⟩

def rAddP (K : PySem.W.Frag) : R2 := fun x y H Q =>
  (∃ i j, x = .int i ∧ y = .int j ∧ Q (.int (i + j)) H) ∨ (∃ i j, x = .str i ∧ y = .str j ∧ i.length + j.length ≤ sizeLine ∧ Q (.str (i ++ j)) H) ∨ rCatA K x y H Q ∨ rCatS K x y H Q
theorem op_addP : OpR X (binaryOp .Add) (rAddP X.K) := op_add.or (op_add_str.or (op_catA.or op_catS))
theorem strFine_append {x y : Str} (hx : StrFine x) (hy : StrFine y) (h : x.length + y.length ≤ lim) : StrFine (x ++ y) := by
  obtain ⟨⟨x⟩⟩ := x
  obtain ⟨⟨y⟩⟩ := y
  refine ⟨?_, ?_⟩
  · show (Array.all (⟨x⟩ ++ ⟨y⟩) _) = true
    have h1 : (Array.mk x).all (· < 0x110000) = true := hx.1
    have h2 : (Array.mk y).all (· < 0x110000) = true := hy.1
    rw [Array.all_append, h1, h2]; rfl
  · show (Array.mk x ++ Array.mk y).size ≤ sizeLine
    rw [Array.size_append]; exact h
theorem ok_add : OpOk C (rAddP C.K) (binop .add) := by
  intro W G H M v w x y Q S rv rw' F
  have F : Srv C (Rep C) W G H (addop v w M) Q := F
  unfold addop at F
  split at F
  · rename_i i j _
    exact .inl ⟨i, j, rv_int rv, rv_int rw', F.int S⟩
  · rename_i i j _
    obtain ⟨h, F⟩ := Srv.okIf F
    obtain ⟨e1, f1⟩ := Rep.str_iff.mp rv
    obtain ⟨e2, f2⟩ := Rep.str_iff.mp rw'
    exact .inr (.inl ⟨i, j, e1, e2, h, F.ok_now S (Rep.str_iff.mpr ⟨rfl, strFine_append f1 f2 h⟩)⟩)
  · rename_i l m _
    obtain ⟨h, F⟩ := Srv.okIf F
    obtain ⟨a, xs, e1, f1, r1⟩ := Rep.tup_iff.mp rv
    obtain ⟨b, ys, e2, f2, r2⟩ := Rep.tup_iff.mp rw'
    refine .inr (.inr (.inl ⟨a, b, xs, ys, e1, e2, f1.sq, f2.sq, by rw [← r1.length, ← r2.length]; exact h, fun ex => ?_, fun _ ey => ?_, fun _ _ => ?_⟩))
    · subst ex
      have : l = [] := by cases l with | nil => rfl | cons p l => exact absurd r1.length (by simp)
      subst this
      exact F.ok_now S (Rep.tup_iff.mpr ⟨b, ys, rfl, f2, r2⟩)
    · subst ey
      have : m = [] := by cases m with | nil => rfl | cons p l => exact absurd r2.length (by simp)
      subst this
      rw [List.append_nil] at F
      exact F.ok_now S (Rep.tup_iff.mpr ⟨a, xs, rfl, f1, r1⟩)
    · exact F.newT S (r1.append r2)
  · split at F
    · rename_i l m h1 h2
      obtain ⟨h, F⟩ := Srv.okIf F
      obtain ⟨a, xs, e1, f1, r1⟩ := lst_sq S rv h1
      obtain ⟨b, ys, e2, f2, r2⟩ := lst_sq S rw' h2
      exact .inr (.inr (.inr ⟨a, b, xs, ys, e1, e2, f1, f2, by rw [← r1.length, ← r2.length]; exact h, F.newL S (r1.append r2)⟩))
    · exact F.elim

theorem ok_addM : OpOk C (rAddP C.K) addmP := by
  intro W G H M v w x y Q S rv rw' F
  have F : Srv C (Rep C) W G H (addmP v w M) Q := F
  unfold addmP at F
  split at F
  · rename_i l m h1 h2
    split at F
    · rename_i h
      obtain ⟨a, xs, e1, f1, r1⟩ := lst_sq S rv h1
      obtain ⟨b, ys, e2, f2, r2⟩ := lst_sq S rw' h2
      exact .inr (.inr (.inr ⟨a, b, xs, ys, e1, e2, f1, f2, by rw [← r1.length, ← r2.length]; exact h, F.newMk S (r1.append r2)⟩))
    · exact F.elim
  · exact F.elim

/-! the other numbers -/
theorem intop_inv {W : XWish} {G : Gh} {H : Hp} {M : Sto} {k : Int → Int → Sto → Res PV} {v w : PV} {Q : VK} (F : Srv C (Rep C) W G H (intop k v w M) Q) : ∃ i j, v = .int i ∧ w = .int j ∧ Srv C (Rep C) W G H (k i j M) Q := by
  unfold intop at F
  split at F
  · split at F
    · exact ⟨_, _, rfl, rfl, F⟩
    · exact F.elim
  · exact F.elim
theorem ok_rI {cnd cnd' : Int → Int → Prop} [∀ i j, Decidable (cnd i j)] {g : Int → Int → PV} {gV : Int → Int → V} (hc : ∀ i j, cnd i j → cnd' i j) (hg : ∀ G H i j, Rep C G H (g i j) (gV i j)) : OpOk C (rI cnd' gV) (intop fun i j M => okIf (cnd i j) (g i j) M) := by
  intro W G H M v w x y Q S rv rw' F
  obtain ⟨i, j, rfl, rfl, F⟩ := intop_inv F
  obtain ⟨h, F⟩ := Srv.okIf F
  exact ⟨i, j, rv_int rv, rv_int rw', hc i j h, F.ok_now S (hg G H i j)⟩
theorem ok_rI0 {g : Int → Int → PV} {gV : Int → Int → V} (hg : ∀ G H i j, Rep C G H (g i j) (gV i j)) : OpOk C (rI0 gV) (intop fun i j M => .ok (g i j) M) := by
  intro W G H M v w x y Q S rv rw' F
  obtain ⟨i, j, rfl, rfl, F⟩ := intop_inv F
  exact ⟨i, j, rv_int rv, rv_int rw', F.ok_now S (hg G H i j)⟩
theorem ok_sub : OpOk C (rI0 fun i j => .int (i - j)) (binop .sub) := ok_rI0 fun _ _ _ _ => Rep.int_iff.mpr rfl
theorem strOk_fine {x : Str} (h : strOk x = true) : StrFine x := by
  unfold strOk at h
  simp only [Bool.and_eq_true, decide_eq_true_eq] at h
  exact ⟨h.1, h.2⟩
def rMulS : R2 := fun x y H Q => ∃ (z : Str) (n : Int), x = .str z ∧ y = .int n ∧ 2 ≤ n ∧ n ≤ 1000 ∧ z.length ≤ 10000 ∧ (repS z n.toNat).length ≤ sizeLine ∧ Q (.str (repS z n.toNat)) H
theorem op_mulS : OpR X (binaryOp .Mult) rMulS := by
  intro pins s σ H x y v u Q I rx ry h
  obtain ⟨z, n, rfl, rfl, h1, h2, h3, h4, q⟩ := h
  obtain ⟨t, rfl⟩ := rx
  obtain ⟨t', rfl⟩ := ry
  refine PySem.P.mul_str (by rw [decide_eq_false (by omega), decide_eq_false (by omega)]; rfl) (fun _ _ => ?_) (fun _ _ => ?_) ?_
  · have : (10000 : Int) ≤ (2 ^ 63 - 1) / n := by
      refine Int.le_ediv_of_mul_le (by omega) ?_
      omega
    omega
  · have hm : z.length * n.toNat ≤ 10000 * 1000 := Nat.mul_le_mul h3 (by omega)
    show decide (z.length * n.toNat > sizeLine) = false
    exact decide_eq_false (by have : sizeLine = 16777216 := rfl; omega)
  · rw [if_neg (by omega)]
    by_cases hz : z.length = 0
    · have e : repS z n.toNat = z := if_pos hz
      rw [e] at q
      rw [if_pos (by simp [hz])]
      exact ⟨.str z, H, I, ⟨_, rfl⟩, q⟩
    · have e : repS z n.toNat = ⟨(List.replicate n.toNat z.cps).foldl (· ++ ·) #[]⟩ := if_neg hz
      rw [e] at q h4
      rw [if_neg (by
        have : n ≠ 1 := by omega
        simp [hz, this])]
      exact ⟨h4, .str _, H, I.tok _, ⟨_, rfl⟩, q⟩
def rMulP : R2 := fun x y H Q => rI CMul (fun i j => .int (i * j)) x y H Q ∨ rMulS x y H Q
theorem op_mulP : OpR X (binaryOp .Mult) rMulP := op_mul.or op_mulS
theorem ok_mul0 : OpOk C (rI CMul fun i j => .int (i * j)) (intop fun i j M => okIf ((-(2 ^ 64) < i ∧ i < 2 ^ 64) ∨ (-(2 ^ 64) < j ∧ j < 2 ^ 64)) (.int (i * j)) M) := ok_rI (fun _ _ h => h) fun _ _ _ _ => Rep.int_iff.mpr rfl
theorem ok_mul : OpOk C rMulP (binop .mul) := by
  intro W G H M v w x y Q S rv rw' F
  change Srv C (Rep C) W G H (mulop v w M) Q at F
  unfold mulop at F
  split at F
  · rename_i z
    split at F
    · rename_i n
      obtain ⟨⟨h1, h2, h3, h4⟩, F⟩ := Srv.okIf F
      obtain ⟨e1, f1⟩ := Rep.str_iff.mp rv
      exact .inr ⟨z, n, e1, rv_int rw', h1, h2, h3, (strOk_fine h4).2, F.ok_now S (Rep.str_iff.mpr ⟨rfl, strOk_fine h4⟩)⟩
    · exact F.elim
  · exact .inl (ok_mul0 _ _ _ _ _ _ _ _ _ S rv rw' F)
theorem ok_fdiv : OpOk C (rI CDivW fun i j => .int (i / j)) (binop .fdiv) := ok_rI (fun i j h => wide_div (b := 64) h.1 (by have := h.2; omega) (by decide) (by decide)) fun _ _ _ _ => Rep.int_iff.mpr rfl
theorem ok_mod : OpOk C (rI (fun _ j => 0 < j) fun i j => .int (i % j)) (binop .mod) := ok_rI (fun _ _ h => h) fun _ _ _ _ => Rep.int_iff.mpr rfl
theorem ok_pow : OpOk C (rI CPow fun i j => .int (i ^ j.toNat)) (binop .pow) := ok_rI (fun _ _ h => h) fun _ _ _ _ => Rep.int_iff.mpr rfl
theorem ok_le : OpOk C (rI0 fun i j => .bl (decide (i ≤ j))) (cmpop .le) := ok_rI0 fun _ _ _ _ => Rep.bl_iff.mpr rfl
theorem ok_gt : OpOk C (rI0 fun i j => .bl (decide (j < i))) (cmpop .gt) := ok_rI0 fun _ _ _ _ => Rep.bl_iff.mpr rfl
theorem ok_ge : OpOk C (rI0 fun i j => .bl (decide (j ≤ i))) (cmpop .ge) := ok_rI0 fun _ _ _ _ => Rep.bl_iff.mpr rfl
def rLtP : R2 := fun x y H Q => rI0 (fun i j => .bl (decide (i < j))) x y H Q ∨ ∃ i j, x = .str i ∧ y = .str j ∧ Q (.bl (decide (i.cps.toList < j.cps.toList))) H
theorem op_ltP : OpR X (compareOp .Lt) rLtP := op_lt.or op_lt_str

/-! is -/
def rIsP (n : Bool) : R2 := fun x y H Q => (y = .non ∧ Q (.bl (xor n (decide (x = .non)))) H) ∨ ∃ a b, x = .bl a ∧ y = .bl b ∧ Q (.bl (xor n (decide (a = b)))) H
theorem Rep.not_non {G : Gh} {H : Hp} {v : PV} {x : V} (r : Rep C G H v x) (h : v ≠ .non) : x ≠ .non := by
  cases v with
  | non => exact absurd rfl h
  | bl b => rw [Rep.bl_iff.mp r]; exact fun z => nomatch z
  | int b => rw [Rep.int_iff.mp r]; exact fun z => nomatch z
  | str b => rw [(Rep.str_iff.mp r).1]; exact fun z => nomatch z
  | tup l => obtain ⟨a, xs, e, _⟩ := Rep.tup_iff.mp r; rw [e]; exact fun z => nomatch z
  | lst l => obtain ⟨a, xs, e, _⟩ := Rep.lst_iff.mp r; rw [e]; exact fun z => nomatch z
  | loc n => obtain ⟨a, e, _⟩ := Rep.loc_iff.mp r; rw [e]; exact fun z => nomatch z
  | dct ks l => simp only [Rep] at r; obtain ⟨a, xs, e, _⟩ := r; rw [e]; exact fun z => nomatch z
  | sts l => simp only [Rep] at r; obtain ⟨a, e, _⟩ := r; rw [e]; exact fun z => nomatch z
  | obj c fs l => simp only [Rep] at r; obtain ⟨a, B, dx, xs, e, _⟩ := r; rw [e]; exact fun z => nomatch z
theorem isop_ok {n : Bool} {G : Gh} {H : Hp} {v w : PV} {x y : V} {b : Bool} {Q : VK} (h : isop v w = some b) (rv : Rep C G H v x) (rw' : Rep C G H w y) (q : Q (.bl (xor n b)) H) : rIsP n x y H Q := by
  unfold isop at h
  split at h
  · cases h
    refine .inl ⟨Rep.non_iff.mp rw', ?_⟩
    have e : decide (x = V.non) = isNon v := by
      cases v with
      | non => rw [Rep.non_iff.mp rv]; rfl
      | _ => exact decide_eq_false (rv.not_non fun z => nomatch z)
    rw [e]; exact q
  · split at h
    · cases h
      exact .inr ⟨_, _, Rep.bl_iff.mp rv, Rep.bl_iff.mp rw', q⟩
    · cases h
  · cases h
theorem op_isP : OpR X (compareOp .Is) (rIsP false) := by
  have h := (op_isN (X := X)).or op_is_bl
  exact fun pins s σ H x y v u Q I rx ry q => h pins s σ H x y v u Q I rx ry (q.imp (fun ⟨a, b⟩ => ⟨a, by simpa using b⟩) fun ⟨a, b, c, d, e⟩ => ⟨a, b, c, d, by simpa using e⟩)
theorem op_isnP : OpR X (compareOp .IsNot) (rIsP true) := by
  have h := (op_notN (X := X)).or op_isnot_bl
  exact fun pins s σ H x y v u Q I rx ry q => h pins s σ H x y v u Q I rx ry (q.imp (fun ⟨a, b⟩ => ⟨a, by simpa using b⟩) fun ⟨a, b, c, d, e⟩ => ⟨a, b, c, d, by simpa using e⟩)
theorem ok_is : OpOk C (rIsP false) (cmpop .is) := by
  intro W G H M v w x y Q S rv rw' F
  obtain ⟨p, h, F⟩ := Srv.ofO F
  simp only [Option.map_eq_some_iff] at h
  obtain ⟨b, h, rfl⟩ := h
  exact isop_ok h rv rw' (by simpa using F.bl S)
theorem ok_isn : OpOk C (rIsP true) (cmpop .isn) := by
  intro W G H M v w x y Q S rv rw' F
  obtain ⟨p, h, F⟩ := Srv.ofO F
  simp only [Option.map_eq_some_iff] at h
  obtain ⟨b, h, rfl⟩ := h
  exact isop_ok h rv rw' (by simpa using F.bl S)

/-! in -/
/-- in a list or tuple of data -/
def rInSq (K : PySem.W.Frag) (n : Bool) : R2 := fun x y H Q => ∃ d ds, Dp K H x d ∧ (Dp K H y (.list ds) ∨ Dp K H y (.tuple ds)) ∧ SeqAt.shaped d = true ∧ SeqAt.shaped (.list ds) = true ∧ Q (.bl (xor n (ds.any fun z => PyData.eqv z d))) H
theorem op_inSq (hu : X.A.units + 65 < cLine) : OpR X (compareOp .In) (rInSq X.K false) := by
  rintro pins s σ H x y v u Q I rx ry ⟨d, ds, hd, he, sd, se, q⟩
  obtain ⟨as, r1⟩ := Dp.reads I d x v hd rx
  have c1 := SeqAt.canLay_of_shaped sd
  have c2 : PyData.canLayAll0 ds = true := by have h := SeqAt.canLay_of_shaped se; simpa only [PyData.canLay0] using h
  have rm : X.A.units + 1 + min (PyData.depthAll ds) d.depth < cLine := by
    have h1 := SeqAt.depth_of_shaped sd
    have h2 : min (PyData.depthAll ds) d.depth ≤ d.depth := Nat.min_le_right _ _
    omega
  have q : Q (.bl (ds.any fun z => PyData.eqv z d)) H := by simpa using q
  rcases he with he | he
  · obtain ⟨bs, r2⟩ := Dp.reads I (.list ds) y u he ry
    exact SeqAt.in_list_reads r2 r1 c2 c1 rm ⟨.bl _, _, I, rfl, q⟩
  · obtain ⟨bs, r2⟩ := Dp.reads I (.tuple ds) y u he ry
    exact SeqAt.in_tuple_reads r2 r1 c2 c1 rm ⟨.bl _, _, I, rfl, q⟩
theorem op_ninSq (hu : X.A.units + 65 < cLine) : OpR X (compareOp .NotIn) (rInSq X.K true) := by
  rintro pins s σ H x y v u Q I rx ry ⟨d, ds, hd, he, sd, se, q⟩
  obtain ⟨as, r1⟩ := Dp.reads I d x v hd rx
  have c1 := SeqAt.canLay_of_shaped sd
  have c2 : PyData.canLayAll0 ds = true := by have h := SeqAt.canLay_of_shaped se; simpa only [PyData.canLay0] using h
  have rm : X.A.units + 1 + min (PyData.depthAll ds) d.depth < cLine := by
    have h1 := SeqAt.depth_of_shaped sd
    have h2 : min (PyData.depthAll ds) d.depth ≤ d.depth := Nat.min_le_right _ _
    omega
  have q : Q (.bl (!ds.any fun z => PyData.eqv z d)) H := by simpa using q
  rcases he with he | he
  · obtain ⟨bs, r2⟩ := Dp.reads I (.list ds) y u he ry
    exact SeqAt.notIn_list_reads r2 r1 c2 c1 rm ⟨.bl _, _, I, rfl, q⟩
  · obtain ⟨bs, r2⟩ := Dp.reads I (.tuple ds) y u he ry
    exact SeqAt.notIn_tuple_reads r2 r1 c2 c1 rm ⟨.bl _, _, I, rfl, q⟩
/-- in a set of names -/
def rInSt (C : Cfg) (n : Bool) : R2 := fun x y H Q => ∃ a z l, x = .str z ∧ y = .ref a ∧ H a = some (.ext (SetAt C a l)) ∧ Q (.bl (xor n (decide (z ∈ l)))) H
theorem op_inSt (hP : C.P = X.prog) (hw : C.w = X.w) : OpR X (compareOp .In) (rInSt C false) := by
  rintro pins s σ H x y v u Q I rx ry ⟨a, z, l, rfl, rfl, h, q⟩
  obtain ⟨t, rfl⟩ := rx
  cases ry
  have h1 : ObjOk X.prog X.w H s.heap a (.ext (SetAt C a l)) := I.hok a _ h
  obtain ⟨S, n, hS, _, hm⟩ := h1.1
  rw [hP, hw] at hS
  refine wpAny_inSet_of (k := z) (show Value.isStrOf z (.str z t) = true by simp [Value.isStrOf]) rfl hS ⟨.bl _, _, I.tok _, rfl, ?_⟩
  have e : S z = decide (z ∈ l) := by
    by_cases hz : z ∈ l
    · rw [(hm z).mpr hz, decide_eq_true hz]
    · rw [decide_eq_false hz]
      cases hq : S z with
      | false => rfl
      | true => exact absurd ((hm z).mp hq) hz
  rw [e]; simpa using q
theorem op_ninSt (hP : C.P = X.prog) (hw : C.w = X.w) : OpR X (compareOp .NotIn) (rInSt C true) := by
  rintro pins s σ H x y v u Q I rx ry ⟨a, z, l, rfl, rfl, h, q⟩
  obtain ⟨t, rfl⟩ := rx
  cases ry
  have h1 : ObjOk X.prog X.w H s.heap a (.ext (SetAt C a l)) := I.hok a _ h
  obtain ⟨S, n, hS, _, hm⟩ := h1.1
  rw [hP, hw] at hS
  refine wpAny_notInSet_of (k := z) (show Value.isStrOf z (.str z t) = true by simp [Value.isStrOf]) rfl hS ⟨.bl _, _, I.tok _, rfl, ?_⟩
  have e : S z = decide (z ∈ l) := by
    by_cases hz : z ∈ l
    · rw [(hm z).mpr hz, decide_eq_true hz]
    · rw [decide_eq_false hz]
      cases hq : S z with
      | false => rfl
      | true => exact absurd ((hm z).mp hq) hz
  rw [e]; simpa using q
def rInP (C : Cfg) (n : Bool) : R2 := fun x y H Q =>
  (∃ (c : Nat) (z : Str), x = .str ⟨#[c]⟩ ∧ y = .str z ∧ Q (.bl (xor n (decide (c ∈ z.cps.toList)))) H) ∨ rInSt C n x y H Q ∨ rInSq C.K n x y H Q
theorem op_inP (hP : C.P = X.prog) (hw : C.w = X.w) (hK : C.K = X.K) (hu : X.A.units + 65 < cLine) : OpR X (compareOp .In) (rInP C false) := by
  have h := (op_in_sign (X := X)).or ((op_inSt hP hw).or (op_inSq hu))
  exact fun pins s σ H x y v u Q I rx ry q => h pins s σ H x y v u Q I rx ry (q.imp (fun ⟨a, b, c, d, e⟩ => ⟨a, b, c, d, by simpa using e⟩) fun z => z.imp id (by rw [hK]; exact id))
theorem op_ninP (hP : C.P = X.prog) (hw : C.w = X.w) (hK : C.K = X.K) (hu : X.A.units + 65 < cLine) : OpR X (compareOp .NotIn) (rInP C true) := by
  have h := (op_notIn_sign (X := X)).or ((op_ninSt hP hw).or (op_ninSq hu))
  exact fun pins s σ H x y v u Q I rx ry q => h pins s σ H x y v u Q I rx ry (q.imp (fun ⟨a, b, c, d, e⟩ => ⟨a, b, c, d, by simpa using e⟩) fun z => z.imp id (by rw [hK]; exact id))
theorem pin_ok {n : Bool} {G : Gh} {H : Hp} {M : Sto} {v w : PV} {x y : V} {b : Bool} {Q : VK} (S : SRep C G H M) (h : pin M v w = some b) (rv : Rep C G H v x) (rw' : Rep C G H w y) (q : Q (.bl (xor n b)) H) : rInP C n x y H Q := by
  unfold pin at h
  split at h
  · rename_i z
    split at h
    · rename_i c
      split at h
      · rename_i h1
        cases h
        obtain ⟨⟨l⟩⟩ := c
        match l, h1 with
        | [k], _ => exact .inl ⟨k, z, (Rep.str_iff.mp rv).1, (Rep.str_iff.mp rw').1, q⟩
      · cases h
    · cases h
  · rename_i l
    split at h
    · rename_i c
      cases h
      simp only [Rep] at rw'
      obtain ⟨a, e, _, hs⟩ := rw'
      exact .inr (.inl ⟨a, c, l, (Rep.str_iff.mp rv).1, e, hs, q⟩)
    · cases h
  · split at h
    · rename_i ds d h1 h2
      split at h
      · rename_i hd
        cases h
        obtain ⟨p1, c1⟩ := dp_ofM S rv h2
        simp only [Option.bind_eq_some_iff] at h1
        obtain ⟨l, h3, h4⟩ := h1
        obtain ⟨a, xs, e, f, r⟩ := seq_sq S rw' h3
        subst e
        obtain ⟨p2, c2⟩ := dpAll_of r h4
        have sl : SeqAt.shaped (.list ds) = true := shaped_of (by simp only [PyData.canLay0]; exact c2) hd.1
        exact .inr (.inr ⟨d, ds, p1, f.imp (fun f => .lst f p2) (fun f => .tup f p2), shaped_of c1 hd.2, sl, q⟩)
      · cases h
    · cases h
theorem ok_in : OpOk C (rInP C false) (cmpop .inn) := by
  intro W G H M v w x y Q S rv rw' F
  obtain ⟨p, h, F⟩ := Srv.ofO F
  simp only [Option.map_eq_some_iff] at h
  obtain ⟨b, h, rfl⟩ := h
  exact pin_ok S h rv rw' (by simpa using F.bl S)
theorem ok_nin : OpOk C (rInP C true) (cmpop .nin) := by
  intro W G H M v w x y Q S rv rw' F
  obtain ⟨p, h, F⟩ := Srv.ofO F
  simp only [Option.map_eq_some_iff] at h
  obtain ⟨b, h, rfl⟩ := h
  exact pin_ok S h rv rw' (by simpa using F.bl S)
end
end Sk

/-! SkSo: sorted over lists and tuples of alike data; < of alike data. -/
namespace Sk
open PySem PySem.Spec PyProof.Rows PySem.W L2

section
variable {prog : Program} {w : World} {A : Around} {E : Value → Shared → Prop} {s : Shared}
/-- what is gathered out of l is vs -/
def Gath (prog : Program) (w : World) (l : Addr) (vs : List Value) (s : Shared) : Prop :=
  ∀ (A : Around) (E : Value → Shared → Prop) (Q : List Value → Shared → Prop), Q vs { s with heap := (s.heap.push (seqObj "list" #[] 0)).update s.heap.objs.size (Obj.mapSeq (· ++ vs.toArray)) } → wpAny (model prog w) A (collect (.ref l)) Q E s
theorem Gath.list {l : Addr} {vs : List Value} (hl : s.heap.IsList l vs.toArray) (hz : vs.length ≤ sizeLine) : Gath prog w l vs s := fun _ _ _ h => collect_list hl h hz
theorem Gath.tuple {l : Addr} {vs : List Value} (hl : s.heap.IsTuple l vs.toArray) (hz : vs.length ≤ sizeLine) : Gath prog w l vs s := by
  intro A E Q h
  obtain ⟨ob, e1, e2, k, e3⟩ := id hl
  unfold collect
  refine wpAny_bind (wpAny_runValue (codeAny_builtin entry_proto_collect' ?_))
  show wpAny _ _ (do again (.builtin "list.__iadd__" ⟨[← newList [], .ref l], []⟩)) _ _ s
  refine wpAny_bind (wpAny_newList (wpAny_pure ⟨Code.quiet_builtin _ (by decide +kernel), codeAny_builtin entry_list_iadd' ?_⟩))
  show wpAny _ _ (Builtin.List.listExtendWith (.ref s.heap.objs.size) (.ref l) (.ref s.heap.objs.size)) _ _ { s with heap := s.heap.push (seqObj "list" #[] 0) }
  unfold Builtin.List.listExtendWith
  have up : (s.heap.push (seqObj "list" #[] 0)).get? l = some ob := Heap.get?_push_of_some _ e1
  refine wpAny_bind (wpAny_typeOf (T := "tuple") ⟨ob, up, e2⟩ ?_)
  have ht : (Value.type "tuple" == Value.type "tuple") = true := rfl
  rw [if_pos (by rw [ht]; simp)]
  refine wpAny_bind (listItems_at up e3 ?_)
  refine wpAny_bind (listItems_at (xs := #[]) (n := 0) (Heap.get?_push_size _ rfl) rfl ?_)
  rw [if_neg (by simp)]
  refine wpAny_bind (listUpdate_at (xs := #[]) (n := 0) (Heap.get?_push_size _ rfl) rfl ?_ (Nat.zero_le _) (by show (#[] ++ vs.toArray).size ≤ sizeLine + 1; simp only [Array.size_append, List.size_toArray, List.length_nil]; omega))
  refine wpAny_pure ?_
  show wpAny (model prog w) A (load s.heap.objs.size >>= fun o => match o.data with
      | .seq xs _ => pure xs.toList
      | _ => unsupported "internal:collect") Q E { s with heap := (s.heap.push (seqObj "list" #[] 0)).update s.heap.objs.size (Obj.mapSeq (· ++ vs.toArray)) }
  refine wpAny_bind (wpAny_load (get?_update_seq (Heap.get?_push_size _ rfl) _) ?_)
  show wpAny _ _ (pure ((#[] : Array Value) ++ vs.toArray).toList) Q E _
  rw [show ((#[] : Array Value) ++ vs.toArray).toList = vs by simp]
  exact wpAny_pure h
/-- sorted(..) of what is gathered -/
theorem srt_call {β : Type} {R : Value → β → Prop} {enc : β → PyData} {bs : List β} {l : Addr} {vs : List Value} {Q : Value → Shared → Prop} (hg : Gath prog w l vs s) (hL : vs.length ≤ sizeLine) (e : EachIs R vs bs) (er : EachIs (fun v b => ∃ as, Reads s.heap v (enc b) as) vs bs)
    (hal : AllAlike (bs.map enc)) (hk : Sortable (bs.map enc)) (hu : ∀ b, b ∈ bs → A.units + 2 + (enc b).depth < cLine)
    (h : ∀ (h' : Heap) (d : Addr) (n : Nat) (out : List Value), out.length = bs.length → EachIs R out (bs.mergeSort (dataLe false enc)) → (∀ b o, s.heap.get? b = some o → h'.get? b = some o) → s.heap.objs.size ≤ d → h'.get? d = some (seqObj "list" out.toArray n) → Q (.ref d) { s with heap := h' }) :
    wpAny (model prog w) A (call (.builtin "sorted") [.ref l]) Q E s := by
  have er' : EachIs (fun v b => ∃ as, Reads (sortingHeap (copyHeap s.heap vs) (s.heap.objs.size + 1) vs) v (enc b) as) vs bs := er.mono fun _ _ ⟨as, r⟩ => ⟨as, PyProof.Rows.Reads.keeps (fun _ _ => sorting_copy_old) r⟩
  refine call_function_entry_kw kind_sorted plain_sorted entry_sorted (args_sorted1 _) ?_
  unfold Builtin.«sorted»
  refine wpAny_bind (m := checkCount "sorted" 1 1 _) (wpAny_pure ?_)
  refine wpAny_bind (hg _ _ _ ?_)
  refine wpAny_bind (wpAny_newList ?_ hL)
  have hsz : ((s.heap.push (seqObj "list" #[] 0)).update s.heap.objs.size (Obj.mapSeq (· ++ vs.toArray))).objs.size = s.heap.objs.size + 1 := by rw [Heap.size_update, size_push']
  show wpAny _ _ _ _ _ { s with heap := copyHeap s.heap vs }
  rw [hsz]
  refine wpAny_bind (wpAny_holding (wpAny_call_entry_kw slot_list_sort ⟨_, copyHeap_at s.heap vs, rfl⟩ entry_list_sort ?body (args_list_sort _)))
  case body =>
    refine list_sort_vals (s := { s with heap := copyHeap s.heap vs }) (copyHeap_at s.heap vs) (SortsAt.data (s := { s with heap := sortingHeap (copyHeap s.heap vs) (s.heap.objs.size + 1) vs }) (PySem.W.each_map (R := fun v d => ∃ as, Reads (sortingHeap (copyHeap s.heap vs) (s.heap.objs.size + 1) vs) v d as) enc er') hal hk (bound_map hu)) hL ?_
    exact ⟨_, rfl, wpAny_pure ⟨_, rfl, h _ _ _ _ (by rw [sortVals_length false rfl]; exact e.length) (sortVals_data false e er' hal) (fun b o q => PyProof.Rows.sortedAll_old q) (Nat.le_succ _) (PyProof.Rows.sortedAll_at s.heap vs _).choose_spec⟩⟩
end

/-! ### as rules -/
def rSrt (K : PySem.W.Frag) : List V → Hp → VK → Prop := fun vs H Q => ∃ (a : Addr) (xs : List V) (ds : List PyData), vs = [V.ref a] ∧ (SqL K H a xs ∨ SqT K H a xs) ∧ DpAll K H xs ds ∧ AllAlike ds ∧ Sortable ds ∧ (∀ d ∈ ds, d.depth ≤ 63) ∧
  ∀ p, H p = none → Q (.ref p) (upd H p (.lst (((xs.zip ds).mergeSort (dataLe false Prod.snd)).map Prod.fst)))
section
variable {X : Cx} {pins : List (Addr × Obj)} {σ : L2.St} {H : Hp} {s : Shared}
theorem dpAll_each (I : Inv X pins σ H s) : ∀ {xs : List V} {ds : List PyData} {us : List Value}, DpAll X.K H xs ds → Vals xs us → EachIs (fun (v : Value) (b : V × PyData) => RelV b.1 v) us (xs.zip ds) ∧ EachIs (fun (v : Value) (b : V × PyData) => ∃ as, Reads s.heap v b.2 as) us (xs.zip ds) ∧ xs.length = ds.length
  | [], _, _, h, r => by cases h; cases r; exact ⟨.nil, .nil, rfl⟩
  | x :: xs, _, _, h, r => by
    cases h with
    | cons h1 h2 =>
      cases r with
      | cons r1 r2 =>
        obtain ⟨a, b, c⟩ := dpAll_each I h2 r2
        exact ⟨.cons r1 a, .cons (Dp.reads I _ _ _ h1 r1) b, by rw [List.length_cons, List.length_cons, c]⟩
theorem each_vals : ∀ {us : List Value} {bs : List (V × PyData)}, EachIs (fun (v : Value) (b : V × PyData) => RelV b.1 v) us bs → Vals (bs.map Prod.fst) us
  | _, _, .nil => .nil
  | _, _, .cons h t => .cons h (each_vals t)
theorem cr_srt (hu : X.A.units + 65 < cLine) : CallR X (.builtin "sorted") (rSrt X.K) := by
  intro pins s σ H vs us Q I r h
  obtain ⟨a, xs, ds, rfl, hs, hd, hal, hk, hdep, q⟩ := h
  obtain ⟨u, rfl, ru⟩ := vals1 r
  obtain rfl : u = Value.ref a := ru
  obtain ⟨its, rv, hz, hg⟩ : ∃ its : List Value, Vals xs its ∧ xs.length ≤ sizeLine ∧ Gath X.prog X.w a its s := by
    rcases hs with hs | hs
    · obtain ⟨its, rv, hl, hz⟩ := I.list hs
      exact ⟨its, rv, hz, .list hl.isList (by rw [← rv.length]; exact hz)⟩
    · obtain ⟨its, rv, hl, hz⟩ := I.tuple hs
      obtain ⟨o, ho, hc, n, hd⟩ := hl
      exact ⟨its, rv, hz, .tuple ⟨o, ho, hc, n, hd⟩ (by rw [← rv.length]; exact hz)⟩
  obtain ⟨e1, e2, e3⟩ := dpAll_each I hd rv
  have hm : (xs.zip ds).map Prod.snd = ds := List.map_snd_zip (Nat.le_of_eq e3.symm)
  refine srt_call (R := fun (v : Value) (b : V × PyData) => RelV b.1 v) (enc := Prod.snd) hg (by rw [← rv.length]; exact hz) e1 e2 (by rw [hm]; exact hal) (by rw [hm]; exact hk) (fun b hb => ?_) fun h' d n out hlen ho kp hdl hn => ?_
  · have := hdep b.2 (List.of_mem_zip (show (b.1, b.2) ∈ xs.zip ds from hb)).2
    have : X.A.units + 2 + b.2.depth ≤ X.A.units + 65 := by omega
    exact Nat.lt_of_le_of_lt this hu
  · refine ⟨.ref d, upd H d (.lst (((xs.zip ds).mergeSort (dataLe false Prod.snd)).map Prod.fst)), I.laid (t' := s.toks) kp hdl ⟨?_, out, n, each_vals ho, hn⟩, rfl, q d (I.hok.fresh hdl)⟩
    rw [List.length_map, (List.mergeSort_perm _ _).length_eq, List.length_zip]
    omega
/-! ### < -/
def rLtD (K : PySem.W.Frag) : R2 := fun x y H Q => ∃ d e, Dp K H x d ∧ Dp K H y e ∧ alike d e = true ∧ d ≠ .none ∧ d.depth ≤ 64 ∧ Q (.bl (dataLt d e)) H
theorem op_ltD (hu : X.A.units + 65 < cLine) : OpR X (compareOp .Lt) (rLtD X.K) := by
  intro pins s σ H x y v u Q I rx ry h
  obtain ⟨d, e, hd, he, h1, h2, h3, q⟩ := h
  obtain ⟨as, r1⟩ := Dp.reads I d x v hd rx
  obtain ⟨bs, r2⟩ := Dp.reads I e y u he ry
  refine PySem.W.lt_data r1 r2 h1 h2 ?_ ⟨.bl _, H, I, rfl, q⟩
  have : X.A.units + min d.depth e.depth ≤ X.A.units + 65 := by omega
  exact Nat.lt_of_le_of_lt this hu
end
section
variable {C : Cfg} {G : Gh} {H : Hp} {M : Sto}
theorem ltD_some {v w : PV} {b : Bool} (h : ltD M v w = some b) : ∃ d e, toD M v = some d ∧ toD M w = some e ∧ alike d e = true ∧ d ≠ .none ∧ d.depth ≤ 64 ∧ b = dataLt d e := by
  unfold ltD at h
  split at h
  · rename_i d e h1 h2
    split at h
    · rename_i k
      cases h
      exact ⟨d, e, h1, h2, k.1, fun z => by rw [z] at k; exact absurd k.2.1 (by decide), k.2.2, rfl⟩
    · cases h
  · cases h
theorem ok_ltD (K : PySem.W.Frag) (hK : C.K = K) : OpOk C (fun x y H Q => rLtP x y H Q ∨ rLtD K x y H Q) (cmpop .lt) := by
  intro W G H M v w x y Q S rv rw' F
  have F : Srv C (Rep C) W G H (ltop v w M) Q := F
  have gen : ∀ {v w : PV} {x y : V}, Rep C G H v x → Rep C G H w y → Srv C (Rep C) W G H (ofO ((ltD M v w).map .bl) M) Q → rLtP x y H Q ∨ rLtD K x y H Q := fun {v w x y} rv rw' F => by
    obtain ⟨p, h, F⟩ := Srv.ofO F
    simp only [Option.map_eq_some_iff] at h
    obtain ⟨b, h, rfl⟩ := h
    obtain ⟨d, e, h1, h2, h3, h4, h5, rfl⟩ := ltD_some h
    subst hK
    exact .inr ⟨d, e, (dp_ofM S rv h1).1, (dp_ofM S rw' h2).1, h3, h4, h5, F.bl S⟩
  unfold ltop at F
  split at F
  · split at F
    · exact .inl (.inl ⟨_, _, rv_int rv, rv_int rw', F.bl S⟩)
    · exact F.elim
  · split at F
    · exact .inl (.inr ⟨_, _, (Rep.str_iff.mp rv).1, (Rep.str_iff.mp rw').1, F.bl S⟩)
    · exact F.elim
  · exact gen rv rw' F
end
/-! ### sorted over pure values -/
section
variable {C : Cfg} {G : Gh} {H : Hp} {M : Sto}
theorem toD0L_each : ∀ {l : List PV} {ds : List PyData}, toD0L l = some ds → ∀ p ∈ l.zip ds, toD0 p.1 = some p.2
  | [], _, h, p, hp => by simp at hp
  | v :: l, ds, h, p, hp => by
    simp only [toD0L, Option.bind_eq_some_iff, Option.map_eq_some_iff] at h
    obtain ⟨d, h1, es, h2, rfl⟩ := h
    rw [List.zip_cons_cons] at hp
    rcases List.mem_cons.mp hp with rfl | hp
    · exact h1
    · exact toD0L_each h2 p hp
theorem toD0L_len : ∀ {l : List PV} {ds : List PyData}, toD0L l = some ds → l.length = ds.length
  | [], _, h => by cases h; rfl
  | v :: l, ds, h => by
    simp only [toD0L, Option.bind_eq_some_iff, Option.map_eq_some_iff] at h
    obtain ⟨d, h1, es, h2, rfl⟩ := h
    rw [List.length_cons, List.length_cons, toD0L_len h2]
theorem repL_zip : ∀ {l : List PV} {xs : List V}, RepL C G H l xs → ∀ t ∈ l.zip xs, Rep C G H t.1 t.2
  | [], _, h, t, ht => by simp at ht
  | p :: l, xs, h, t, ht => by
    obtain ⟨x, r, rfl, r1, r2⟩ := h.cons_inv
    rw [List.zip_cons_cons] at ht
    rcases List.mem_cons.mp ht with rfl | ht
    · exact r1
    · exact repL_zip r2 t ht
theorem repL_of {α : Type} (f : α → PV) (g : α → V) : ∀ {T : List α}, (∀ t ∈ T, Rep C G H (f t) (g t)) → RepL C G H (T.map f) (T.map g)
  | [], _ => .nil
  | t :: T, h => .cons (h t (List.mem_cons_self ..)) (repL_of f g fun u hu => h u (List.mem_cons_of_mem _ hu))
theorem alikeB_ok {ds : List PyData} (h : alikeB ds = true) : AllAlike ds := fun d hd e he => by
  unfold alikeB at h
  exact List.all_eq_true.mp (List.all_eq_true.mp h d hd) e he
theorem sortableB_ok {ds : List PyData} (h : sortableB ds = true) : Sortable ds := by
  unfold sortableB at h
  rw [Bool.or_eq_true] at h
  rcases h with h | h
  · refine .inl fun d hd => ?_
    have := List.all_eq_true.mp h d hd
    cases d with
    | tuple l => cases l with
      | nil => cases this
      | cons x r => exact ⟨x, r, rfl⟩
    | _ => cases this
  · refine .inr fun d hd => ?_
    have := List.all_eq_true.mp h d hd
    cases d with
    | tuple l => cases this
    | none => cases this
    | _ => exact ⟨(fun z => nomatch z), (fun l z => nomatch z)⟩
theorem sort_rep {l : List PV} {xs : List V} {ds : List PyData} (r : RepL C G H l xs) (h : toD0L l = some ds) : RepL C G H (l.mergeSort leP) (((xs.zip ds).mergeSort (dataLe false Prod.snd)).map Prod.fst) := by
  have n1 := r.length
  have n2 := toD0L_len h
  let T : List (PV × V × PyData) := l.zip (xs.zip ds)
  have t1 : T.map Prod.fst = l := List.map_fst_zip (by rw [List.length_zip]; omega)
  have t2 : T.map Prod.snd = xs.zip ds := List.map_snd_zip (by rw [List.length_zip]; omega)
  have hT : ∀ t ∈ T, Rep C G H t.1 t.2.1 ∧ toD0 t.1 = some t.2.2 := by
    intro t ht
    obtain ⟨i, hi⟩ := List.getElem?_of_mem ht
    have hi : (l.zip (xs.zip ds))[i]? = some t := hi
    rw [List.getElem?_zip_eq_some] at hi
    obtain ⟨a, b⟩ := hi
    rw [List.getElem?_zip_eq_some] at b
    obtain ⟨b, c⟩ := b
    refine ⟨repL_zip r (t.1, t.2.1) (List.mem_of_getElem? (i := i) (List.getElem?_zip_eq_some.mpr ⟨a, b⟩)), toD0L_each h (t.1, t.2.2) (List.mem_of_getElem? (i := i) (List.getElem?_zip_eq_some.mpr ⟨a, c⟩))⟩
  have s1 : (T.mergeSort (fun a b => dataLe false Prod.snd a.2 b.2)).map Prod.snd = (xs.zip ds).mergeSort (dataLe false Prod.snd) := by
    rw [List.map_mergeSort (s := dataLe false Prod.snd) (fun _ _ _ _ => rfl), t2]
  have s2 : (T.mergeSort (fun a b => dataLe false Prod.snd a.2 b.2)).map Prod.fst = l.mergeSort leP := by
    rw [List.map_mergeSort (s := leP) (fun a ha b hb => ?_), t1]
    unfold leP
    rw [(hT a ha).2, (hT b hb).2]
    rfl
  rw [← s1, ← s2, List.map_map]
  exact repL_of _ _ fun t ht => (hT t ((List.mergeSort_perm _ _).mem_iff.mp ht)).1
end
end Sk

/-! SkRp: repr of data with empty dicts within. -/
namespace Sk
open PySem PySem.Spec PyProof.Rows L2

mutual
inductive Dr (K : PySem.W.Frag) (H : Hp) : V → PyData → Prop
  | non : Dr K H .non .none
  | bl (b : Bool) : Dr K H (.bl b) (.bool b)
  | int (i : Int) : Dr K H (.int i) (.int i)
  | str (x : Str) : Dr K H (.str x) (.str x)
  | lst {a : Addr} {xs : List V} {ds : List PyData} : SqL K H a xs → DrAll K H xs ds → Dr K H (.ref a) (.list ds)
  | tup {a : Addr} {xs : List V} {ds : List PyData} : SqT K H a xs → DrAll K H xs ds → Dr K H (.ref a) (.tuple ds)
  | dct {a : Addr} : Rd H a (.dK []) → Dr K H (.ref a) (.dict [])
inductive DrAll (K : PySem.W.Frag) (H : Hp) : List V → List PyData → Prop
  | nil : DrAll K H [] []
  | cons {v : V} {vs : List V} {d : PyData} {ds : List PyData} : Dr K H v d → DrAll K H vs ds → DrAll K H (v :: vs) (d :: ds)
end
section
variable {X : Cx} {pins : List (Addr × Obj)} {σ : L2.St} {H : Hp} {s : Shared}
theorem dict_empty (I : Inv X pins σ H s) {a : Addr} (h : Rd H a (.dK [])) : (a == sysModules) = false ∧ ∃ o es n, s.heap.get? a = some o ∧ o.cls = .type "dict" ∧ o.data = .dict es n ∧ es = #[] := by
  obtain ⟨_, hs, vs, kv, o, es, ep, ho, hx, hd, _, hp, _⟩ := dk_rd I.hok h
  cases kv
  obtain ⟨l⟩ := es
  have hp : Pairs (mixKind X.prog X.w) l [] := hp
  cases hp
  exact ⟨hs, o, #[], ep, ho, hx.1, hd, rfl⟩
mutual
theorem Dr.reads (I : Inv X pins σ H s) : ∀ (d : PyData) (v : V) (u : Value), Dr X.K H v d → RelV v u → ∃ as, Reads s.heap u d as
  | .none, _, _, h, r => by cases h; cases r; exact ⟨_, Reads.none⟩
  | .bool b, _, _, h, r => by cases h; cases r; exact ⟨_, Reads.bool b⟩
  | .int i, _, _, h, r => by cases h; obtain ⟨t, rfl⟩ := r; exact ⟨_, Reads.int i t⟩
  | .str x, _, _, h, r => by cases h; obtain ⟨t, rfl⟩ := r; exact ⟨_, Reads.str x t⟩
  | .list ds, _, _, h, r => by
    cases h with
    | lst hs ha =>
      cases r
      obtain ⟨its, rv, ⟨o, n, ho, hc, _, hd⟩, _⟩ := I.list hs
      obtain ⟨as, hr⟩ := Dr.readsAll I ds _ its ha rv
      exact ⟨_, Reads.list ho hc hd hr⟩
  | .tuple ds, _, _, h, r => by
    cases h with
    | tup hs ha =>
      cases r
      obtain ⟨its, rv, ⟨o, ho, hc, n, hd⟩, _⟩ := I.tuple hs
      obtain ⟨as, hr⟩ := Dr.readsAll I ds _ its ha rv
      exact ⟨_, Reads.tuple ho hc hd hr⟩
  | .dict kvs, _, _, h, r => by
    cases h with
    | dct hd =>
      cases r
      obtain ⟨_, o, es, n, ho, hc, hdat, rfl⟩ := dict_empty I hd
      exact ⟨_, Reads.dict ho hc hdat ReadsAll.nil ReadsAll.nil⟩
theorem Dr.readsAll (I : Inv X pins σ H s) : ∀ (ds : List PyData) (vs : List V) (us : List Value), DrAll X.K H vs ds → Vals vs us → ∃ as, ReadsAll s.heap us ds as
  | [], _, _, h, r => by cases h; cases r; exact ⟨_, ReadsAll.nil⟩
  | d :: ds, _, _, h, r => by
    cases h with
    | cons h1 h2 =>
      cases r with
      | cons r1 r2 =>
        obtain ⟨as, q1⟩ := Dr.reads I d _ _ h1 r1
        obtain ⟨bs, q2⟩ := Dr.readsAll I ds _ _ h2 r2
        exact ⟨_, ReadsAll.cons q1 q2⟩
end
mutual
theorem Dr.shows (I : Inv X pins σ H s) : ∀ (d : PyData) (v : V) (u : Value), Dr X.K H v d → RelV v u → d.showable = true → d.shown.length ≤ sizeLine → ∃ bs, ReadAtMost s.heap d.depth bs ∧ ReprK X.prog X.w bs s.heap d.depth u d.shown
  | .none, _, _, h, r, _, _ => by cases h; cases r; exact ⟨[], (fun _ h => nomatch h), by simp only [PyData.shown]; exact .of_is ReprIs.none _ _ _⟩
  | .bool b, _, _, h, r, _, _ => by cases h; cases r; exact ⟨[], (fun _ h => nomatch h), by simp only [PyData.shown]; exact .of_is (ReprIs.bool b) _ _ _⟩
  | .int i, _, _, h, r, hs, _ => by cases h; obtain ⟨t, rfl⟩ := r; exact ⟨[], (fun _ h => nomatch h), by simp only [PyData.shown]; exact .of_is (ReprIs.int t (by simpa [PyData.showable] using hs)) _ _ _⟩
  | .str x, _, _, h, r, _, hz => by cases h; obtain ⟨t, rfl⟩ := r; exact ⟨[], (fun _ h => nomatch h), by simp only [PyData.shown]; exact .of_is (ReprIs.str x t (by simpa only [PyData.shown] using hz)) _ _ _⟩
  | .list ds, v, u, h, r, hs, hz => by
    obtain ⟨as, rd⟩ := Dr.reads I _ _ _ h r
    cases h with
    | lst hq ha =>
      cases r
      obtain ⟨its, rv, ⟨o, n, h1, h2, _, h3⟩, _⟩ := I.list hq
      have hz' : (listText (PyData.shownAll ds)).length ≤ sizeLine := by simpa only [PyData.shown] using hz
      obtain ⟨bs, hb, hk⟩ := Dr.showsAll I ds _ its ha rv (by simpa [PyData.showable] using hs) (fun t ht => Nat.le_trans (listText_mem_le ht) hz')
      have hna := not_mem_of_deeper rd (show PyData.depthAll ds < PyData.depth (.list ds) by simp only [PyData.depth]; omega) hb
      refine ⟨_ :: bs, ReadAtMost.cons rd (by simp only [PyData.depth]; omega) hb, ?_⟩
      simp only [PyData.depth, PyData.shown]
      cases its with
      | nil =>
        cases rv
        cases ha
        simp only [PyData.shownAll, listText_nil]
        exact ReprK.listEmpty h1 h2 h3
      | cons x l => exact ReprK.list h1 h2 h3 hna (by simpa using hk.length_eq) (fun i y e => hk.item i y (by simpa using e))
  | .tuple ds, v, u, h, r, hs, hz => by
    obtain ⟨as, rd⟩ := Dr.reads I _ _ _ h r
    cases h with
    | tup hq ha =>
      cases r
      obtain ⟨its, rv, ⟨o, h1, h2, n, h3⟩, _⟩ := I.tuple hq
      have hz' : (tupleText (PyData.shownAll ds)).length ≤ sizeLine := by simpa only [PyData.shown] using hz
      obtain ⟨bs, hb, hk⟩ := Dr.showsAll I ds _ its ha rv (by simpa [PyData.showable] using hs) (fun t ht => Nat.le_trans (tupleText_mem_le ht) hz')
      have hna := not_mem_of_deeper rd (show PyData.depthAll ds < PyData.depth (.tuple ds) by simp only [PyData.depth]; omega) hb
      refine ⟨_ :: bs, ReadAtMost.cons rd (by simp only [PyData.depth]; omega) hb, ?_⟩
      simp only [PyData.depth, PyData.shown]
      exact ReprK.tuple h1 h2 h3 hna hk
  | .dict kvs, v, u, h, r, hs, hz => by
    obtain ⟨as, rd⟩ := Dr.reads I _ _ _ h r
    cases h with
    | dct hd =>
      cases r
      obtain ⟨hsys, o, es, n, h1, h2, h3, rfl⟩ := dict_empty I hd
      refine ⟨[_], ReadAtMost.cons (bs := []) rd (n := 0) (Nat.zero_le _) (fun _ h => nomatch h), ?_⟩
      simp only [PyData.depth, PyData.depthKv, PyData.shown, PyData.shownKv]
      exact ReprK.dict (as := []) h1 h2 h3 hsys (fun h => nomatch h) .nil
theorem Dr.showsAll (I : Inv X pins σ H s) : ∀ (ds : List PyData) (vs : List V) (us : List Value), DrAll X.K H vs ds → Vals vs us → PyData.showableAll ds = true → (∀ t ∈ PyData.shownAll ds, t.length ≤ sizeLine) →
    ∃ bs, ReadAtMost s.heap (PyData.depthAll ds) bs ∧ ReprAllK X.prog X.w bs s.heap (PyData.depthAll ds) us (PyData.shownAll ds)
  | [], _, _, h, r, _, _ => by cases h; cases r; exact ⟨[], (fun _ h => nomatch h), by simp only [PyData.shownAll]; exact .nil⟩
  | d :: ds, _, _, h, r, hs, hz => by
    cases h with
    | cons h1 h2 =>
      cases r with
      | cons r1 r2 =>
        have hs' : d.showable = true ∧ PyData.showableAll ds = true := by simpa [PyData.showableAll] using hs
        obtain ⟨b1, hb1, k1⟩ := Dr.shows I d _ _ h1 r1 hs'.1 (hz _ (by simp only [PyData.shownAll]; exact List.mem_cons_self ..))
        obtain ⟨b2, hb2, k2⟩ := Dr.showsAll I ds _ _ h2 r2 hs'.2 (fun t ht => hz t (by simp only [PyData.shownAll]; exact List.mem_cons_of_mem _ ht))
        refine ⟨b1 ++ b2, ?_, ?_⟩
        · intro b hm
          simp only [PyData.depthAll]
          rcases List.mem_append.mp hm with hm | hm
          · obtain ⟨d', as', r', hd'⟩ := hb1 b hm
            exact ⟨d', as', r', Nat.le_trans hd' (Nat.le_max_left _ _)⟩
          · obtain ⟨d', as', r', hd'⟩ := hb2 b hm
            exact ⟨d', as', r', Nat.le_trans hd' (Nat.le_max_right _ _)⟩
        · simp only [PyData.depthAll, PyData.shownAll]
          exact .cons ((k1.more fun b hb => List.mem_append_left _ hb).level_le (Nat.le_max_left _ _)) (k2.more_le (fun b hb => List.mem_append_right _ hb) (Nat.le_max_right _ _))
end
def rReprR (K : PySem.W.Frag) : List V → Hp → VK → Prop := fun xs H Q => ∃ x d, xs = [x] ∧ Dr K H x d ∧ d.showable = true ∧ d.depth ≤ 64 ∧ d.shown.length ≤ sizeLine ∧ Q (.str d.shown) H
theorem cr_reprR (hgd : X.A.guards = some []) (hu : X.A.units + 65 < cLine) : CallR X (.builtin "repr") (rReprR X.K) := by
  rintro pins s σ H xs us Q I r ⟨x, d, rfl, hd, hs, hp, hz, q⟩
  obtain ⟨u, rfl, ru⟩ := vals1 r
  have rd := Dr.reads I d x u hd ru
  cases hd with
  | non =>
    cases ru
    refine PySem.P.repr_of_none ⟨.str _, H, I.tok _, ⟨_, rfl⟩, ?_⟩
    simpa only [PyData.shown] using q
  | bl b =>
    cases ru
    refine PySem.P.repr_of_bool ⟨.str _, H, I.tok _, ⟨_, rfl⟩, ?_⟩
    simpa only [PyData.shown] using q
  | int i =>
    obtain ⟨t, rfl⟩ := ru
    refine PySem.P.repr_of_int (by simpa only [PyData.showable, decide_eq_true_eq] using hs) ⟨.str _, H, I.tok _, ⟨_, rfl⟩, ?_⟩
    simpa only [PyData.shown] using q
  | str z =>
    obtain ⟨t, rfl⟩ := ru
    refine PySem.P.repr_of_str ⟨.str _, H, I.tok _, ⟨_, rfl⟩, ?_⟩ (by simpa only [PyData.shown] using hz)
    simpa only [PyData.shown] using q
  | @lst a ys ds hq hl =>
    obtain rfl : u = Value.ref a := ru
    obtain ⟨as, rd⟩ := rd
    obtain ⟨its, rv, ⟨o, n, h1, h2, _, h3⟩, _⟩ := I.list hq
    have hz' : (listText (PyData.shownAll ds)).length ≤ sizeLine := by simpa only [PyData.shown] using hz
    obtain ⟨bs, hb, hk⟩ := Dr.showsAll I ds _ its hl rv (by simpa [PyData.showable] using hs) (fun t ht => Nat.le_trans (listText_mem_le ht) hz')
    have hna := not_mem_of_deeper rd (show PyData.depthAll ds < PyData.depth (.list ds) by simp only [PyData.depth]; omega) hb
    refine call_repr_slot (by omega) ⟨o, h1, h2⟩ PySem.F.slot_list_repr.toG ?_
    simp only [PyData.depth] at hp
    simp only [PyData.shown] at q
    cases its with
    | nil =>
      cases rv
      cases hl
      simp only [PyData.shownAll, listText_nil] at q
      exact call_list_repr_empty ⟨o, h1, h2⟩ h1 h3 ⟨_, _, rfl, .str _, H, I.tok _, ⟨_, rfl⟩, q⟩
    | cons z l =>
      exact call_list_reprK h1 h2 h3 hna (by simpa using hk.length_eq) (fun i y e => hk.item i y (by simpa using e)) (show X.A.in1.guards = some [] from hgd) (fun b _ => Clear.nil b) (show X.A.units + 1 + (PyData.depthAll ds + 1) < cLine by omega) (fun _ _ e => e) (fun h' u tk hkk => ⟨_, _, rfl, .str _, H, I.kept (t' := tk) hkk, ⟨_, rfl⟩, q⟩) hz'
  | @tup a ys ds hq hl =>
    obtain rfl : u = Value.ref a := ru
    obtain ⟨as, rd⟩ := rd
    obtain ⟨its, rv, ⟨o, h1, h2, n, h3⟩, _⟩ := I.tuple hq
    have hz' : (tupleText (PyData.shownAll ds)).length ≤ sizeLine := by simpa only [PyData.shown] using hz
    obtain ⟨bs, hb, hk⟩ := Dr.showsAll I ds _ its hl rv (by simpa [PyData.showable] using hs) (fun t ht => Nat.le_trans (tupleText_mem_le ht) hz')
    have hna := not_mem_of_deeper rd (show PyData.depthAll ds < PyData.depth (.tuple ds) by simp only [PyData.depth]; omega) hb
    refine call_repr_slot (by omega) ⟨o, h1, h2⟩ PySem.F.slot_tuple_repr ?_
    simp only [PyData.depth] at hp
    simp only [PyData.shown] at q
    exact call_tuple_reprK h1 h2 h3 hna hk (show X.A.in1.guards = some [] from hgd) (fun b _ => Clear.nil b) (show X.A.units + 1 + (PyData.depthAll ds + 1) < cLine by omega) (fun _ _ e => e) (fun h' u tk hkk => ⟨_, _, rfl, .str _, H, I.kept (t' := tk) hkk, ⟨_, rfl⟩, q⟩) hz'
  | @dct a hd =>
    obtain rfl : u = Value.ref a := ru
    obtain ⟨hsys, o, es, n, h1, h2, h3, rfl⟩ := dict_empty I hd
    refine call_repr_slot (by omega) ⟨o, h1, h2⟩ PySem.F.slot_dict_repr ?_
    simp only [PyData.shown, PyData.shownKv] at q
    exact call_dict_reprK (as := []) (d := 0) h1 h2 h3 hsys (fun h => nomatch h) .nil (show X.A.in1.guards = some [] from hgd) (fun b _ => Clear.nil b) (show X.A.units + 1 + (0 + 1) < cLine by omega) (fun _ _ e => e) (fun h' u tk hkk => ⟨_, _, rfl, .str _, H, I.kept (t' := tk) hkk, ⟨_, rfl⟩, q⟩) (by decide +kernel)
end
section
variable {C : Cfg} {G : Gh} {H : Hp} {M : Sto}
mutual
theorem dr_of : ∀ {v : PV} {x : V} {d : PyData}, Rep C G H v x → toR v = some d → Dr C.K H x d
  | .non, _, _, r, h => by cases Rep.non_iff.mp r; cases h; exact .non
  | .bl b, _, _, r, h => by cases Rep.bl_iff.mp r; cases h; exact .bl b
  | .int i, _, _, r, h => by cases Rep.int_iff.mp r; cases h; exact .int i
  | .str s, _, _, r, h => by
    obtain ⟨e, f⟩ := Rep.str_iff.mp r
    subst e
    cases h
    exact .str s
  | .tup l, _, _, r, h => by
    obtain ⟨a, xs, e, f, rl⟩ := Rep.tup_iff.mp r
    subst e
    simp only [toR, Option.map_eq_some_iff] at h
    obtain ⟨ds, h1, rfl⟩ := h
    exact .tup f.sq (drAll_of rl h1)
  | .lst l, _, _, r, h => by
    obtain ⟨a, xs, e, f, rl⟩ := Rep.lst_iff.mp r
    subst e
    simp only [toR, Option.map_eq_some_iff] at h
    obtain ⟨ds, h1, rfl⟩ := h
    exact .lst f.sq (drAll_of rl h1)
  | .dct ks l, _, _, r, h => by
    cases ks with
    | cons _ _ => simp [toR] at h
    | nil =>
      cases l with
      | cons _ _ => simp [toR] at h
      | nil =>
        simp only [toR, Option.some.injEq] at h
        subst h
        simp only [Rep] at r
        obtain ⟨a, xs, rfl, _, hd, _, _⟩ := r
        exact .dct hd
  | .sts _, _, _, _, h => by cases h
  | .loc _, _, _, _, h => by cases h
  | .obj _ _ _, _, _, _, h => by cases h
theorem drAll_of : ∀ {l : List PV} {xs : List V} {ds : List PyData}, RepL C G H l xs → toRL l = some ds → DrAll C.K H xs ds
  | [], _, _, r, h => by
    cases h
    rw [r.nil_inv]
    exact .nil
  | p :: l, _, _, r, h => by
    obtain ⟨x, xs, rfl, r1, r2⟩ := r.cons_inv
    simp only [toRL, Option.bind_eq_some_iff, Option.map_eq_some_iff] at h
    obtain ⟨d, h1, ds, h2, rfl⟩ := h
    exact .cons (dr_of r1 h1) (drAll_of r2 h2)
end
theorem dr_ofM {v : PV} {x : V} {d : PyData} (S : SRep C G H M) (r : Rep C G H v x) (h : toRM M v = some d) : Dr C.K H x d := by
  cases v with
  | loc n =>
    simp only [toRM, Option.bind_eq_some_iff, Option.map_eq_some_iff] at h
    obtain ⟨l, h1, ds, h2, rfl⟩ := h
    obtain ⟨a, e, f⟩ := Rep.loc_iff.mp r
    subst e
    obtain ⟨_, xs, q, r⟩ := loc_at S h1 f
    exact .lst (SqL.of q) (drAll_of r h2)
  | _ => exact dr_of r h
end
end Sk

/-! SkE: items, slices, argument lists, displays, calls of built-ins. -/
namespace Sk
open PySem PySem.Spec PyProof.Rows L2

/-! ### dicts by pairs -/
section
variable {C : Cfg} {G G' : Gh} {H H' : Hp} {M : Sto}
def RK (C : Cfg) (G : Gh) (H : Hp) : List (Key × PV) → List (Key × V) → Prop
  | [], [] => True
  | p :: r, q :: t => p.1 = q.1 ∧ Rep C G H p.2 q.2 ∧ RK C G H r t
  | _, _ => False
theorem RK.of : ∀ {ks : List Key} {l : List PV} {xs : List V}, RepL C G H l xs → RK C G H (ks.zip l) (ks.zip xs)
  | [], _, _, _ => trivial
  | k :: ks, [], _, h => by rw [h.nil_inv]; trivial
  | k :: ks, p :: l, _, h => by
    obtain ⟨x, r, rfl, h1, h2⟩ := h.cons_inv
    exact ⟨rfl, h1, RK.of h2⟩
theorem RK.to : ∀ {a : List (Key × PV)} {b : List (Key × V)}, RK C G H a b → a.map (·.1) = b.map (·.1) ∧ RepL C G H (a.map (·.2)) (b.map (·.2))
  | [], [], _ => ⟨rfl, .nil⟩
  | p :: r, q :: t, h => by
    obtain ⟨h1, h2, h3⟩ := h
    obtain ⟨k1, k2⟩ := RK.to h3
    exact ⟨by rw [List.map_cons, List.map_cons, h1, k1], .cons h2 k2⟩
  | [], _ :: _, h => h.elim
  | _ :: _, [], h => h.elim
theorem RK.val : ∀ {a : List (Key × PV)} {b : List (Key × V)} {k : Key} {p : PV}, RK C G H a b → vK a k = some p → ∃ x, valV b k = some x ∧ Rep C G H p x
  | [], [], _, _, _, e => by cases e
  | p :: r, q :: t, k, v, h, e => by
    obtain ⟨h1, h2, h3⟩ := h
    unfold vK at e
    rw [List.find?_cons] at e
    by_cases hk : p.1 = k
    · rw [decide_eq_true hk] at e
      cases e
      exact ⟨q.2, valV_pos (h1 ▸ hk), h2⟩
    · rw [decide_eq_false hk] at e
      obtain ⟨x, k1, k2⟩ := RK.val h3 e
      exact ⟨x, (valV_neg (h1 ▸ hk)).trans k1, k2⟩
  | [], _ :: _, _, _, h, _ => h.elim
  | _ :: _, [], _, _, h, _ => h.elim
theorem RK.valN : ∀ {a : List (Key × PV)} {b : List (Key × V)} {k : Key}, RK C G H a b → vK a k = none → valV b k = none
  | [], [], _, _, _ => rfl
  | p :: r, q :: t, k, h, e => by
    obtain ⟨h1, h2, h3⟩ := h
    unfold vK at e
    rw [List.find?_cons] at e
    by_cases hk : p.1 = k
    · rw [decide_eq_true hk] at e
      cases e
    · rw [decide_eq_false hk] at e
      exact (valV_neg (h1 ▸ hk)).trans (RK.valN h3 e)
  | [], _ :: _, _, h, _ => h.elim
  | _ :: _, [], _, h, _ => h.elim
theorem RK.any {k : Key} : ∀ {a : List (Key × PV)} {b : List (Key × V)}, RK C G H a b → (a.any fun kv => decide (kv.1 = k)) = (b.any fun kv => decide (kv.1 = k))
  | [], [], _ => rfl
  | p :: r, q :: t, h => by rw [List.any_cons, List.any_cons, h.1, RK.any h.2.2]
  | [], _ :: _, h => h.elim
  | _ :: _, [], h => h.elim
theorem RK.put {k : Key} {p : PV} {x : V} {a : List (Key × PV)} {b : List (Key × V)} (h : RK C G H a b) (r : Rep C G H p x) : RK C G H (pK a k p) (putK b k x) := by
  unfold pK putK
  rw [h.any]
  split
  · have : ∀ {a : List (Key × PV)} {b : List (Key × V)}, RK C G H a b → RK C G H (a.map fun kv => if kv.1 = k then (kv.1, p) else kv) (b.map fun kv => if kv.1 = k then (kv.1, x) else kv) := by
      intro a
      induction a with
      | nil => intro b h; cases b with
        | nil => trivial
        | cons _ _ => exact h.elim
      | cons q t ih => intro b h; cases b with
        | nil => exact h.elim
        | cons u v =>
          obtain ⟨h1, h2, h3⟩ := h
          rw [List.map_cons, List.map_cons]
          refine ⟨?_, ?_, ih h3⟩
          · rw [h1]; split
            · rfl
            · exact h1
          · rw [h1]; split
            · exact r
            · exact h2
    exact this h
  · have : ∀ {a : List (Key × PV)} {b : List (Key × V)}, RK C G H a b → RK C G H (a ++ [(k, p)]) (b ++ [(k, x)]) := by
      intro a
      induction a with
      | nil => intro b h; cases b with
        | nil => exact ⟨rfl, r, trivial⟩
        | cons _ _ => exact h.elim
      | cons q t ih => intro b h; cases b with
        | nil => exact h.elim
        | cons u v => exact ⟨h.1, h.2.1, ih h.2.2⟩
    exact this h
theorem RK.merge : ∀ {m : List (Key × PV)} {n : List (Key × V)} {a : List (Key × PV)} {b : List (Key × V)}, RK C G H m n → RK C G H a b → RK C G H (mK a m) (mergeK b n)
  | [], [], _, _, _, h => h
  | p :: r, q :: t, a, b, h, k => by
    obtain ⟨h1, h2, h3⟩ := h
    show RK C G H (mK (pK a p.1 p.2) r) (mergeK (putK b q.1 q.2) t)
    rw [h1]
    exact RK.merge h3 (k.put h2)
  | [], _ :: _, _, _, h, _ => h.elim
  | _ :: _, [], _, _, h, _ => h.elim
theorem RK.length : ∀ {a : List (Key × PV)} {b : List (Key × V)}, RK C G H a b → a.length = b.length
  | [], [], _ => rfl
  | p :: r, q :: t, h => by rw [List.length_cons, List.length_cons, RK.length h.2.2]
  | [], _ :: _, h => h.elim
  | _ :: _, [], h => h.elim
theorem RK.on (s : Stq G H G' H') : ∀ {a : List (Key × PV)} {b : List (Key × V)}, RK C G H a b → RK C G' H' a b
  | [], [], _ => trivial
  | p :: r, q :: t, h => ⟨h.1, h.2.1.on s, RK.on s h.2.2⟩
  | [], _ :: _, h => h.elim
  | _ :: _, [], h => h.elim
theorem zip_pairs {α : Type} : ∀ a : List (Key × α), (a.map (·.1)).zip (a.map (·.2)) = a
  | [] => rfl
  | p :: r => by rw [List.map_cons, List.map_cons, List.zip_cons_cons, zip_pairs r]
/-- keys that Python may hold -/
def KsFine {α : Type} (a : List (Key × α)) : Prop := ∀ k ∈ a.map (·.1), KeyFine k
theorem KsFine.put {α : Type} {a : List (Key × α)} {k : Key} {v : α} (h : KsFine a) (hk : KeyFine k) : KsFine (pK a k v) := by
  unfold pK
  split
  · intro j hj
    rw [List.map_map] at hj
    obtain ⟨q, h1, h2⟩ := List.mem_map.mp hj
    refine h j (List.mem_map.mpr ⟨q, h1, ?_⟩)
    rw [← h2]
    show q.1 = (if q.1 = k then (q.1, v) else q).1
    split <;> rfl
  · intro j hj
    rw [List.map_append] at hj
    rcases List.mem_append.mp hj with hj | hj
    · exact h j hj
    · have : j = k := by simpa using hj
      rw [this]; exact hk
theorem KsFine.merge {α : Type} : ∀ {m a : List (Key × α)}, KsFine m → KsFine a → KsFine (mK a m)
  | [], _, _, h => h
  | p :: r, a, h, k => KsFine.merge (m := r) (fun j hj => h j (List.mem_cons_of_mem _ hj)) (k.put (h p.1 List.mem_cons_self))
theorem keyP_rep {p : PV} {x : V} {k : Key} (h : keyP p = some k) (r : Rep C G H p x) : x = kV k ∧ KeyFine k := by
  cases p with
  | int i => cases h; exact ⟨Rep.int_iff.mp r, trivial⟩
  | str z => cases h; exact Rep.str_iff.mp r
  | _ => cases h
theorem dct_at {v : PV} {x : V} {kvs : List (Key × PV)} (S : SRep C G H M) (r : Rep C G H v x) (h : dctOf M v = some kvs) : ∃ a ls, x = .ref a ∧ Rd H a (.dK ls) ∧ RK C G H kvs ls := by
  cases v with
  | dct ks l =>
    cases h
    simp only [Rep] at r
    obtain ⟨a, xs, e, _, d, _, r⟩ := r
    exact ⟨a, _, e, d, .of r⟩
  | loc n =>
    obtain ⟨a, e, f⟩ := Rep.loc_iff.mp r
    simp only [dctOf] at h
    split at h
    · rename_i ks l e2
      cases h
      obtain ⟨b, e1, xs, d, _, r⟩ := S.here n _ e2
      rw [f] at e1
      cases e1
      exact ⟨a, _, e, .inl d, .of r⟩
    · cases h
  | _ => cases h
/-- a new dict -/
theorem Srv.newD {W : XWish} {m : Bool} {kvs : List (Key × PV)} {ls : List (Key × V)} {Q : VK} (F : Srv C (Rep C) W G H (mkD m kvs M) Q) (S : SRep C G H M) (r : RK C G H kvs ls) (hf : KsFine kvs) : ∀ p, H p = none → Q (.ref p) (upd H p (.dK ls)) := fun p hp => by
  obtain ⟨e, rl⟩ := r.to
  have hz : (kvs.map (·.1)).zip (ls.map (·.2)) = ls := by rw [e]; exact zip_pairs ls
  cases m with
  | false =>
    obtain ⟨s, S'⟩ := S.laidFz (o := .dK ls) hp
    have F : Srv C (Rep C) W G H (.ok (.dct (kvs.map (·.1)) (kvs.map (·.2))) M) Q := F
    refine F.ok_on s S' ?_
    simp only [Rep]
    exact ⟨p, ls.map (·.2), rfl, .inr rfl, .inl (by rw [hz]; exact upd_same), ⟨by rw [List.length_map, List.length_map], fun k hk => hf k hk⟩, rl.on s.toStq⟩
  | true =>
    obtain ⟨s, S'⟩ := S.laidMu (o := .dK ls) (m := .dct (kvs.map (·.1)) (kvs.map (·.2))) hp fun G' s' => ⟨ls.map (·.2), by rw [hz]; exact upd_same, ⟨by rw [List.length_map, List.length_map], fun k hk => hf k hk⟩, rl.on s'.toStq⟩
    have F : Srv C (Rep C) W G H (.ok (.loc M.length) (M ++ [some (.dct (kvs.map (·.1)) (kvs.map (·.2)))])) Q := F
    exact F.ok_on s S' (Rep.loc_iff.mpr ⟨p, rfl, if_pos rfl⟩)
end

/-! ### items -/
section
variable {X : Cx} {C : Cfg} {G : Gh} {H : Hp} {M : Sto}
theorem atI_rep {l : List PV} {xs : List V} {i : Int} {p : PV} (r : RepL C G H l xs) (h : atI l i = some p) : ∃ x, atI xs i = some x ∧ Rep C G H p x := by
  unfold atI at h ⊢
  rw [r.length] at h
  cases e : ixN xs.length i with
  | none => rw [e] at h; cases h
  | some j =>
    rw [e] at h
    exact r.get (i := j) h
def rIxK : R2 := fun x y H Q => ∃ a v, x = .ref a ∧ DGet H a y (some v) ∧ Q v H
theorem ix_dctK (hu : X.A.units + 1 < cLine) : IxR X rIxK := by
  intro value slice pins s σ H x y v u Q I rx ry h hs
  obtain ⟨a, z, rfl, g, q⟩ := h
  obtain rfl : v = Value.ref a := rx
  exact tail_any (dict_typeIs I g) PySem.F.slot_dict_getitem.lookup (d_getItem hu I g ry fun r s3 I3 r3 => ⟨z, H, I3, r3, q⟩) hs
def rIxP (K : PySem.W.Frag) : R2 := fun x y H Q => rIxL K x y H Q ∨ rIxT K x y H Q ∨ rIxS x y H Q ∨ rIxK x y H Q
theorem ix_P (hu : X.A.units + 1 < cLine) : IxR X (rIxP X.K) := ix_list.or (ix_tup.or (ix_str.or (ix_dctK hu)))
theorem strFine_one {z : Str} {i : Int} {c : Nat} (hz : StrFine z) (h : atI z.cps.toList i = some c) : StrFine ⟨#[c]⟩ := by
  have hm : c ∈ z.cps.toList := by
    unfold atI at h
    cases e : ixN z.cps.toList.length i with
    | none => rw [e] at h; cases h
    | some j => rw [e] at h; exact List.mem_of_getElem? h
  have h1 : c < 0x110000 := by
    have := Array.all_eq_true_iff_forall_mem.mp hz.1 c (by simpa using hm)
    simpa using this
  refine ⟨?_, by rw [sizeLine_eq]; exact (by decide : 1 ≤ 16777216)⟩
  show Array.all #[c] _ = true
  simp [h1]
theorem ok_idx : OpOk C (rIxP C.K) idxop := by
  intro W G H M v w x y Q S rv rw' F
  unfold idxop at F
  split at F
  · rename_i i
    have ey := rv_int rw'
    split at F
    · rename_i z
      obtain ⟨p, h, F⟩ := Srv.ofO F
      simp only [Option.map_eq_some_iff] at h
      obtain ⟨c, h, rfl⟩ := h
      obtain ⟨e, f⟩ := Rep.str_iff.mp rv
      exact .inr (.inr (.inl ⟨z, i, c, e, ey, f.2, h, F.ok_now S (Rep.str_iff.mpr ⟨rfl, strFine_one f h⟩)⟩))
    · obtain ⟨p, h, F⟩ := Srv.ofO F
      simp only [Option.bind_eq_some_iff] at h
      obtain ⟨l, h1, h2⟩ := h
      obtain ⟨a, xs, e, f, r⟩ := seq_sq S rv h1
      obtain ⟨u, hu, ru⟩ := atI_rep r h2
      rcases f with f | f
      · exact .inl ⟨a, xs, i, u, e, ey, f, hu, F.ok_now S ru⟩
      · exact .inr (.inl ⟨a, xs, i, u, e, ey, f, hu, F.ok_now S ru⟩)
  · rename_i k
    obtain ⟨p, h, F⟩ := Srv.ofO F
    simp only [Option.bind_eq_some_iff] at h
    obtain ⟨kvs, h1, h2⟩ := h
    obtain ⟨a, ls, e, d, r⟩ := dct_at S rv h1
    obtain ⟨u, hu, ru⟩ := r.val h2
    exact .inr (.inr (.inr ⟨a, u, e, .inl ⟨ls, .inr k, d, (Rep.str_iff.mp rw').1, hu.symm⟩, F.ok_now S ru⟩))
  · exact F.elim

/-! ### slices -/
def relO : Gh → Hp → Option Int → Option Int → Prop := fun _ _ a b => a = b
def tO (C : Cfg) (f : PEnv → Sto → Res (Option Int)) (W : WX) : TO := fun σ H Q => ∃ G ρ M, SRep C G H M ∧ ERep C G H ρ σ ∧ Srv C relO (fun c d => W c d σ) G H (f ρ M) Q
theorem PO.weak {e : Option Expr} {t t' : TO} (h : PO X e t) (k : ∀ σ H Q, t' σ H Q → t σ H Q) : PO X e t' := ⟨fun pins s σ H Q I q => h.run pins s σ H Q I (k σ H Q q)⟩
variable {W : WX}
theorem po_noneP : PO X none (tO C (fun _ M => .ok none M) W) := PO.weak po_none fun σ H Q ⟨G, ρ, M, S, _, F⟩ => F.ok_now S rfl
theorem asI_int {r : Res PV} {W : XWish} {G : Gh} {H : Hp} {Q : Option Int → Hp → Prop} (F : Srv C relO W G H (asI r) Q) : Srv C (Rep C) W G H r (fun x H' => ∃ i, x = .int i ∧ Q (some i) H') := by
  cases r with
  | ok v M =>
    cases v with
    | int i => exact fun G' H' x s S' r => ⟨i, Rep.int_iff.mp r, F G' H' _ s S' rfl⟩
    | _ => exact F.elim
  | ex e M => exact F
  | no => exact F
theorem po_someP {e : Expr} {f : PEnv → Sto → Res PV} (h : PE X e (tE C f W)) : PO X (some e) (tO C (fun ρ M => asI (f ρ M)) W) :=
  PO.weak (po_some h) fun σ H Q ⟨G, ρ, M, S, ER, F⟩ => ⟨G, ρ, M, S, ER, asI_int F⟩
def rSlP (K : PySem.W.Frag) : V → Option Int → Option Int → Hp → VK → Prop := fun x lo hi H Q => rSlL K x lo hi H Q ∨ rSlA K x lo hi H Q ∨ rSlS x lo hi H Q
theorem sl_P : SlR X (rSlP X.K) := sl_list.or (sl_tupA.or sl_str)
theorem repL_cut {l : List PV} {xs : List V} (r : RepL C G H l xs) (lo hi : Option Int) : RepL C G H (cutP l lo hi) (cutV xs lo hi) := by
  unfold cutP cutV
  rw [r.length]
  exact (r.drop _).take _
theorem strFine_cut {z : Str} (h : StrFine z) (lo hi : Option Int) : StrFine (cutS z lo hi) := by
  unfold cutS
  refine ⟨?_, ?_⟩
  · rw [Array.all_eq_true_iff_forall_mem]
    intro c hc
    have hc' : c ∈ (z.cps.toList.drop (HT.sIx z.length 0 lo)).take (HT.sIx z.length z.length hi - HT.sIx z.length 0 lo) := by simpa using hc
    have := Array.all_eq_true_iff_forall_mem.mp h.1 c (by simpa using List.mem_of_mem_drop (List.mem_of_mem_take hc'))
    exact this
  · refine Nat.le_trans ?_ h.2
    show ((z.cps.toList.drop _).take _).toArray.size ≤ z.cps.size
    rw [List.size_toArray, List.length_take, List.length_drop, Array.length_toList]
    omega
theorem slc_ok {W : XWish} {v : PV} {x : V} {lo hi : Option Int} {Q : VK} (S : SRep C G H M) (rv : Rep C G H v x) (F : Srv C (Rep C) W G H (slcop v lo hi M) Q) : rSlP C.K x lo hi H Q := by
  unfold slcop at F
  split at F
  · rename_i z
    obtain ⟨e, f⟩ := Rep.str_iff.mp rv
    exact .inr (.inr ⟨z, e, f.2, F.ok_now S (Rep.str_iff.mpr ⟨rfl, strFine_cut f _ _⟩)⟩)
  · rename_i l
    obtain ⟨a, xs, e, f, r⟩ := Rep.tup_iff.mp rv
    have r' := repL_cut r lo hi
    refine .inr (.inl ⟨a, xs, e, f.sq, fun hw => ?_, fun _ => F.newT S r'⟩)
    have e1 : cutV xs lo hi = xs := by unfold cutV; rw [hw.1, hw.2]; simp
    have e2 : cutP l lo hi = l := by unfold cutP; rw [r.length, hw.1, hw.2, Nat.sub_zero, List.drop_zero]; exact List.take_of_length_le (by rw [r.length]; exact Nat.le_refl _)
    rw [e2] at F
    exact F.ok_now S (Rep.tup_iff.mpr ⟨a, xs, rfl, f, r⟩)
  · obtain ⟨p, h, F⟩ := Srv.ofO F
    simp only [Option.map_eq_some_iff] at h
    obtain ⟨l, h, rfl⟩ := h
    obtain ⟨a, xs, e, f, r⟩ := lst_sq S rv h
    exact .inl ⟨a, xs, e, f, F.newL S (repL_cut r lo hi)⟩
theorem pe_slcP {e : Expr} {lo hi : Option Expr} {f : PEnv → Sto → Res PV} {fl fh : PEnv → Sto → Res (Option Int)} {p2 pos : Pos} (hK : C.K = X.K) (he : PE X e (tE C f W)) (hl : PO X lo (tO C fl W)) (hu : PO X hi (tO C fh W)) :
    PE X (.Subscript e (.Slice lo hi none p2) pos) (tE C (fun ρ M => (f ρ M).bnd fun v M1 => (fl ρ M1).bnd fun l M2 => (fh ρ M2).bnd fun h M3 => slcop v l h M3) W) :=
  PE.weak (pe_slice sl_P he hl hu) fun σ H Q ⟨G, ρ, M, S, ER, F⟩ => ⟨G, ρ, M, S, ER, (Srv.split F).mono fun x H1 ⟨G1, v, M1, s1, S1, r1, F1⟩ =>
    ⟨G1, ρ, M1, S1, ER.on s1.toStq, (Srv.split F1).mono fun l H2 ⟨G2, l', M2, s2, S2, (el : l' = l), F2⟩ =>
      ⟨G2, ρ, M2, S2, (ER.on s1.toStq).on s2.toStq, (Srv.split F2).mono fun h H3 ⟨G3, h', M3, s3, S3, (eh : h' = h), F3⟩ => by
        subst el eh
        rw [← hK]
        exact slc_ok S3 ((r1.on s2.toStq).on s3.toStq) F3⟩⟩⟩
end

/-! ### argument lists -/
def isStar : Expr → Bool
  | .Starred _ _ => true
  | _ => false
theorem starEach_plain {e : Expr} {es : List Expr} {env : Env} (h : isStar e = false) : starEach (e :: es) env = (false, eval e env) :: starEach es env := by
  cases e <;> first | rfl | cases h
theorem no_star {pos : Pos} {env : Env} : ∀ {es : List Expr}, es.all (fun e => !isStar e) = true → (backTo pos (starEach es env)).any (·.1) = false
  | [], _ => rfl
  | e :: es, h => by
    simp only [List.all_cons, Bool.and_eq_true, Bool.not_eq_true'] at h
    rw [starEach_plain h.1]
    show (false || (backTo pos (starEach es env)).any (·.1)) = false
    rw [no_star h.2]; rfl
section
variable {X : Cx} {C : Cfg} {W : WX} {e : Expr} {es : List Expr} {f : PEnv → Sto → Res PV} {g : PEnv → Sto → Res (List PV)} {pos : Pos}
theorem pa_nilP : PA X [] (tA C (fun _ M => .ok [] M) W) := PA.weak pa_nil fun σ H Q ⟨G, ρ, M, S, _, F⟩ => F.ok_now S .nil
theorem pa_consP (hs : isStar e = false) (ha : PE X e (tE C f W)) (hr : PA X es (tA C g W)) : PA X (e :: es) (tA C (fun ρ M => (f ρ M).bnd fun v M1 => (g ρ M1).bnd fun l M2 => .ok (v :: l) M2) W) :=
  PA.weak (pa_cons ha hr (starEach_plain hs)) fun σ H Q ⟨G, ρ, M, S, ER, F⟩ => ⟨G, ρ, M, S, ER, (Srv.split F).mono fun x H1 ⟨G1, v, M1, s1, S1, r1, F1⟩ =>
    ⟨G1, ρ, M1, S1, ER.on s1.toStq, (Srv.split F1).mono fun xs H2 ⟨G2, l, M2, s2, S2, r2, F2⟩ => F2.ok_now S2 (.cons (r1.on s2.toStq) r2)⟩⟩
/-- *e -/
theorem pa_star {p : Pos} {te : TE} {t : TA} (ha : PE X e te) (hr : PA X es t) :
    PA X (.Starred e p :: es) (fun σ H Q => te σ H fun x H1 => ∃ a xs, x = .ref a ∧ (SqL X.K H1 a xs ∨ SqT X.K H1 a xs) ∧ t σ H1 fun ys H2 => Q (xs ++ ys) H2) := by
  refine ⟨fun pos pins s σ H Q I h => PySem.W.items_star (thn (ha.run pins s σ H _ I h) fun v s1 h1 => ?_)⟩
  obtain ⟨x, H1, I1, r1, a, xs, rfl, hq, q⟩ := h1
  obtain rfl : v = Value.ref a := r1
  have tail : ∀ (its : List Value), Vals xs its → ∀ h', (∀ b o, s1.heap.get? b = some o → h'.get? b = some o) →
      wpAny (model X.prog X.w) X.A (spliced (backTo pos (starEach es X.env))) (fun vs s3 => AP X pins σ Q (its ++ vs) s3) X.xe { s1 with heap := h' } := fun its rv h' hk =>
    thn (hr.run pos pins _ σ H1 _ (I1.kept (t' := s1.toks) hk) q) fun us s2 ⟨ys, H2, I2, r2, q2⟩ => ⟨xs ++ ys, H2, I2, rv.append r2, q2⟩
  unfold PySem.W.StarOf
  unfold notIterableAtAll
  rcases hq with hq | hq
  · obtain ⟨its, rv, hl, hz⟩ := I1.list hq
    obtain ⟨o, n, ho, hc, _, hd⟩ := id hl
    refine wpAny_bind (wpAny_specialOf hl.isList.typeIs slot_list_iter.lookup (wpAny_pure ⟨rfl, ?_⟩))
    exact wpAny_collect_seq a (.inl rfl) ho hc hd (fun h' hk => tail its rv h' hk) (by rw [List.size_toArray, ← rv.length]; exact hz)
  · obtain ⟨its, rv, hl, hz⟩ := I1.tuple hq
    obtain ⟨o, ho, hc, n, hd⟩ := id hl
    refine wpAny_bind (wpAny_specialOf (T := "tuple") ⟨o, ho, hc⟩ slot_tuple_iter.lookup (wpAny_pure ⟨rfl, ?_⟩))
    exact wpAny_collect_seq a (.inr rfl) ho hc hd (fun h' hk => tail its rv h' hk) (by rw [List.size_toArray, ← rv.length]; exact hz)
theorem pa_starP {p : Pos} (hK : C.K = X.K) (ha : PE X e (tE C f W)) (hr : PA X es (tA C g W)) : PA X (.Starred e p :: es) (tA C (fun ρ M => (f ρ M).bnd fun v M1 => match seqOf M1 v with
    | some xs => (g ρ M1).bnd fun l M2 => .ok (xs ++ l) M2
    | none => .no) W) :=
  PA.weak (pa_star ha hr) fun σ H Q ⟨G, ρ, M, S, ER, F⟩ => ⟨G, ρ, M, S, ER, (Srv.split F).mono fun x H1 ⟨G1, v, M1, s1, S1, r1, F1⟩ => by
    cases e1 : seqOf M1 v with
    | none => rw [e1] at F1; exact F1.elim
    | some l0 =>
      rw [e1] at F1
      obtain ⟨a, xs, e, hq, r⟩ := seq_sq S1 r1 e1
      exact ⟨a, xs, e, by rw [← hK]; exact hq, G1, ρ, M1, S1, ER.on s1.toStq, (Srv.split F1).mono fun ys H2 ⟨G2, l, M2, s2, S2, r2, F2⟩ => F2.ok_now S2 ((r.on s2.toStq).append r2)⟩⟩
/-- displays -/
theorem pe_tupP {k : Nat} (ha : PA X es (tA C g W)) : PE X (.Tuple es k pos) (tE C (fun ρ M => (g ρ M).bnd fun l M1 => okIf (l.length ≤ lim) (.tup l) M1) W) :=
  PE.weak (pe_tup ha) fun σ H Q ⟨G, ρ, M, S, ER, F⟩ => ⟨G, ρ, M, S, ER, (Srv.split F).mono fun xs H1 ⟨G1, l, M1, s1, S1, r1, F1⟩ => by
    obtain ⟨h, F1⟩ := Srv.okIf F1
    exact ⟨by rw [← r1.length]; exact h, F1.newT S1 r1⟩⟩
theorem pe_lstP {m : Bool} (ha : PA X es (tA C g W)) : PE X (.List es pos) (tE C (fun ρ M => (g ρ M).bnd fun l M1 => if l.length ≤ lim then mkL m l M1 else .no) W) :=
  PE.weak (pe_lst ha) fun σ H Q ⟨G, ρ, M, S, ER, F⟩ => ⟨G, ρ, M, S, ER, (Srv.split F).mono fun xs H1 ⟨G1, l, M1, s1, S1, r1, F1⟩ => by
    split at F1
    · exact ⟨by rw [← r1.length]; assumption, F1.newMk S1 r1⟩
    · exact F1.elim⟩

/-! ### built-ins by their names -/
def CallOk (C : Cfg) (r : List V → Hp → VK → Prop) (k : List PV → Sto → Res PV) : Prop :=
  ∀ (W : XWish) (G : Gh) (H : Hp) (M : Sto) (l : List PV) (xs : List V) (Q : VK), SRep C G H M → RepL C G H l xs → Srv C (Rep C) W G H (k l M) Q → r xs H Q
theorem pe_tCB {e : Expr} {r : List V → Hp → VK → Prop} {k : List PV → Sto → Res PV} {t : TA} (he : ∀ t, PA X es t → PE X e (tCB r t)) (hk : CallOk C r k) (ha : PA X es (tA C g W)) :
    PE X e (tE C (fun ρ M => (g ρ M).bnd fun l M1 => k l M1) W) :=
  PE.weak (he _ ha) fun σ H Q ⟨G, ρ, M, S, ER, F⟩ => ⟨G, ρ, M, S, ER, (Srv.split F).mono fun xs H1 ⟨G1, l, M1, s1, S1, r1, F1⟩ => hk _ G1 H1 M1 l xs Q S1 r1 F1⟩
end
section
variable {X : Cx} {C : Cfg} {G : Gh} {H : Hp} {M : Sto}
theorem RepL.one_inv {p : PV} {xs : List V} (r : RepL C G H [p] xs) : ∃ x, xs = [x] ∧ Rep C G H p x := by
  obtain ⟨x, t, rfl, h, n⟩ := r.cons_inv
  exact ⟨x, by rw [n.nil_inv], h⟩
theorem RepL.two_inv {p q : PV} {xs : List V} (r : RepL C G H [p, q] xs) : ∃ x y, xs = [x, y] ∧ Rep C G H p x ∧ Rep C G H q y := by
  obtain ⟨x, t, rfl, h, n⟩ := r.cons_inv
  obtain ⟨y, rfl, k⟩ := n.one_inv
  exact ⟨x, y, rfl, h, k⟩
def rLenP (K : PySem.W.Frag) : List V → Hp → VK → Prop := fun xs H Q => ∃ x n, xs = [x] ∧ ((∃ z, x = .str z ∧ z.length ≤ sizeLine ∧ n = z.length) ∨ ∃ a ys, x = .ref a ∧ (SqL K H a ys ∨ SqT K H a ys) ∧ n = ys.length) ∧ Q (.int (n : Nat)) H
theorem cr_lenP : CallR X (.builtin "len") (rLenP X.K) := by
  rintro pins s σ H xs us Q I r ⟨x, n, rfl, h, q⟩
  rcases h with ⟨z, rfl, hz, rfl⟩ | ⟨a, ys, rfl, hq, rfl⟩
  · exact call_len_str pins s σ H _ us Q I r ⟨z, rfl, hz, q⟩
  · exact call_len_seq pins s σ H _ us Q I r ⟨a, ys, rfl, hq, q⟩
theorem ok_len {k : List PV → Sto → Res PV} (hk : ∀ l M, k l M = match l with | [v] => ofO ((lenOf M v).map fun n => .int (n : Nat)) M | _ => .no) : CallOk C (rLenP C.K) k := by
  intro W G H M l xs Q S r F
  rw [hk] at F
  split at F
  · rename_i v
    obtain ⟨p, h, F⟩ := Srv.ofO F
    simp only [Option.map_eq_some_iff] at h
    obtain ⟨n, h, rfl⟩ := h
    obtain ⟨x, rfl, rx⟩ := r.one_inv
    refine ⟨x, n, rfl, ?_, F.int S⟩
    unfold lenOf at h
    split at h
    · rename_i z
      cases h
      obtain ⟨e, f⟩ := Rep.str_iff.mp rx
      exact .inl ⟨z, e, f.2, rfl⟩
    · simp only [Option.map_eq_some_iff] at h
      obtain ⟨l, h, rfl⟩ := h
      obtain ⟨a, ys, e, f, r⟩ := seq_sq S rx h
      exact .inr ⟨a, ys, e, f, r.length⟩
  · exact F.elim

theorem evB_len (l : List PV) (M : Sto) : evB "len" l M = match l with | [v] => ofO ((lenOf M v).map fun n => .int (n : Nat)) M | _ => .no := by unfold evB; rw [if_pos rfl]; try rfl
theorem evB_abs (l : List PV) (M : Sto) : evB "abs" l M = match l with | [.int i] => .ok (.int (if i < 0 then -i else i)) M | _ => .no := by unfold evB; rw [if_neg (by decide +kernel), if_pos rfl]; try rfl
theorem evB_min (l : List PV) (M : Sto) : evB "min" l M = match l with | [.int i, .int j] => .ok (.int (if j < i then j else i)) M | _ => .no := by
  unfold evB; rw [if_neg (by decide +kernel), if_neg (by decide +kernel), if_pos rfl]; try rfl
theorem evB_max (l : List PV) (M : Sto) : evB "max" l M = match l with | [.int i, .int j] => .ok (.int (if j > i then j else i)) M | _ => .no := by
  unfold evB; rw [if_neg (by decide +kernel), if_neg (by decide +kernel), if_neg (by decide +kernel), if_pos rfl]; try rfl
theorem evB_tuple (l : List PV) (M : Sto) : evB "tuple" l M = match l with | [v] => ofO ((seqOf M v).map .tup) M | _ => .no := by
  unfold evB; rw [if_neg (by decide +kernel), if_neg (by decide +kernel), if_neg (by decide +kernel), if_neg (by decide +kernel), if_pos rfl]; try rfl
theorem evB_all (l : List PV) (M : Sto) : evB "all" l M = match l with | [v] => ofO (((lstOf M v).bind blsOf).map fun bs => .bl (bs.all id)) M | _ => .no := by
  unfold evB; rw [if_neg (by decide +kernel), if_neg (by decide +kernel), if_neg (by decide +kernel), if_neg (by decide +kernel), if_neg (by decide +kernel), if_pos rfl]; try rfl
theorem evB_any (l : List PV) (M : Sto) : evB "any" l M = match l with | [v] => ofO (((lstOf M v).bind blsOf).map fun bs => .bl (bs.any id)) M | _ => .no := by
  unfold evB; rw [if_neg (by decide +kernel), if_neg (by decide +kernel), if_neg (by decide +kernel), if_neg (by decide +kernel), if_neg (by decide +kernel), if_neg (by decide +kernel), if_pos rfl]; try rfl
theorem ok_abs : CallOk C (fun xs H Q => ∃ i, xs = [.int i] ∧ Q (.int (if i < 0 then -i else i)) H) (evB "abs") := by
  intro W G H M l xs Q S r F
  rw [evB_abs] at F
  split at F
  · obtain ⟨x, rfl, rx⟩ := r.one_inv
    exact ⟨_, by rw [rv_int rx], F.int S⟩
  · exact F.elim
theorem ok_min : CallOk C (fun xs H Q => ∃ i j, xs = [.int i, .int j] ∧ Q (.int (if j < i then j else i)) H) (evB "min") := by
  intro W G H M l xs Q S r F
  rw [evB_min] at F
  split at F
  · obtain ⟨x, y, rfl, rx, ry⟩ := r.two_inv
    exact ⟨_, _, by rw [rv_int rx, rv_int ry], F.int S⟩
  · exact F.elim
theorem ok_max : CallOk C (fun xs H Q => ∃ i j, xs = [.int i, .int j] ∧ Q (.int (if j > i then j else i)) H) (evB "max") := by
  intro W G H M l xs Q S r F
  rw [evB_max] at F
  split at F
  · obtain ⟨x, y, rfl, rx, ry⟩ := r.two_inv
    exact ⟨_, _, by rw [rv_int rx, rv_int ry], F.int S⟩
  · exact F.elim
def rTupP (K : PySem.W.Frag) : List V → Hp → VK → Prop := fun xs H Q => ∃ p ys, xs = [.ref p] ∧ ((SqL K H p ys ∧ ∀ l, H l = none → Q (.ref l) (upd H l (.tup ys))) ∨ (SqT K H p ys ∧ Q (.ref p) H))
theorem ok_tuple : CallOk C (rTupP C.K) (evB "tuple") := by
  intro W G H M l xs Q S r F
  rw [evB_tuple] at F
  split at F
  · rename_i v
    obtain ⟨p, h, F⟩ := Srv.ofO F
    simp only [Option.map_eq_some_iff] at h
    obtain ⟨l, h, rfl⟩ := h
    obtain ⟨x, rfl, rx⟩ := r.one_inv
    by_cases ht : ∃ l', v = .tup l'
    · obtain ⟨l', rfl⟩ := ht
      cases h
      obtain ⟨a, ys, e, f, r⟩ := Rep.tup_iff.mp rx
      exact ⟨a, ys, by rw [e], .inr ⟨f.sq, F.ok_now S (Rep.tup_iff.mpr ⟨a, ys, rfl, f, r⟩)⟩⟩
    · have h : lstOf M v = some l := by
        cases v with
        | tup l' => exact absurd ⟨l', rfl⟩ ht
        | _ => exact h
      obtain ⟨a, ys, e, f, r⟩ := lst_sq S rx h
      exact ⟨a, ys, by rw [e], .inl ⟨f, F.newT S r⟩⟩
  · exact F.elim
theorem bls_rep : ∀ {l : List PV} {xs : List V} {bs : List Bool}, RepL C G H l xs → blsOf l = some bs → xs = bs.map V.bl
  | [], _, _, r, h => by cases h; exact r.nil_inv
  | p :: l, _, _, r, h => by
    obtain ⟨x, xs, rfl, r1, r2⟩ := r.cons_inv
    cases p with
    | bl b =>
      simp only [blsOf, Option.map_eq_some_iff] at h
      obtain ⟨bs, h, rfl⟩ := h
      rw [Rep.bl_iff.mp r1, bls_rep r2 h]; rfl
    | _ => cases h
theorem strs_rep : ∀ {l : List PV} {xs : List V} {bs : List Str}, RepL C G H l xs → strsOf l = some bs → xs = bs.map V.str ∧ ∀ b ∈ bs, StrFine b
  | [], _, _, r, h => by cases h; exact ⟨r.nil_inv, fun _ z => nomatch z⟩
  | p :: l, _, _, r, h => by
    obtain ⟨x, xs, rfl, r1, r2⟩ := r.cons_inv
    cases p with
    | str b =>
      simp only [strsOf, Option.map_eq_some_iff] at h
      obtain ⟨bs, h, rfl⟩ := h
      obtain ⟨e1, f1⟩ := Rep.str_iff.mp r1
      obtain ⟨e2, f2⟩ := strs_rep r2 h
      refine ⟨by rw [e1, e2]; rfl, fun c hc => ?_⟩
      rcases List.mem_cons.mp hc with rfl | hc
      · exact f1
      · exact f2 c hc
    | _ => cases h
theorem ok_all : CallOk C (rAll C.K) (evB "all") := by
  intro W G H M l xs Q S r F
  rw [evB_all] at F
  split at F
  · obtain ⟨p, h, F⟩ := Srv.ofO F
    simp only [Option.map_eq_some_iff, Option.bind_eq_some_iff] at h
    obtain ⟨bs, ⟨l, h1, h2⟩, rfl⟩ := h
    obtain ⟨x, rfl, rx⟩ := r.one_inv
    obtain ⟨a, ys, rfl, f, r⟩ := lst_sq S rx h1
    exact ⟨a, bs, rfl, by rw [← bls_rep r h2]; exact f, F.bl S⟩
  · exact F.elim
theorem ok_any : CallOk C (rAny C.K) (evB "any") := by
  intro W G H M l xs Q S r F
  rw [evB_any] at F
  split at F
  · obtain ⟨p, h, F⟩ := Srv.ofO F
    simp only [Option.map_eq_some_iff, Option.bind_eq_some_iff] at h
    obtain ⟨bs, ⟨l, h1, h2⟩, rfl⟩ := h
    obtain ⟨x, rfl, rx⟩ := r.one_inv
    obtain ⟨a, ys, rfl, f, r⟩ := lst_sq S rx h1
    exact ⟨a, bs, rfl, by rw [← bls_rep r h2]; exact f, F.bl S⟩
  · exact F.elim
theorem evB_repr (l : List PV) (M : Sto) : evB "repr" l M = match l with | [v] => ofO ((toRM M v).bind shownOf) M | _ => .no := by
  unfold evB; rw [if_neg (by decide +kernel), if_neg (by decide +kernel), if_neg (by decide +kernel), if_neg (by decide +kernel), if_neg (by decide +kernel), if_neg (by decide +kernel), if_neg (by decide +kernel), if_pos rfl]; try rfl
theorem ok_repr : CallOk C (rReprR C.K) (evB "repr") := by
  intro W G H M l xs Q S r F
  rw [evB_repr] at F
  split at F
  · obtain ⟨p, h, F⟩ := Srv.ofO F
    simp only [Option.bind_eq_some_iff] at h
    obtain ⟨d, h1, h2⟩ := h
    unfold shownOf at h2
    split at h2
    · rename_i hc
      cases h2
      obtain ⟨x, rfl, rx⟩ := r.one_inv
      exact ⟨x, d, rfl, dr_ofM S rx h1, hc.1, hc.2.1, hc.2.2.1, F.ok_now S (Rep.str_iff.mpr ⟨rfl, hc.2.2.2, hc.2.2.1⟩)⟩
    · cases h2
  · exact F.elim
theorem evB_str (l : List PV) (M : Sto) : evB "str" l M = match l with | [.int i] => okIf (i.natAbs.log2 < 1920 ∧ strOk (toString i) = true) (.str (toString i)) M | _ => .no := by
  unfold evB; rw [if_neg (by decide +kernel), if_neg (by decide +kernel), if_neg (by decide +kernel), if_neg (by decide +kernel), if_neg (by decide +kernel), if_neg (by decide +kernel), if_neg (by decide +kernel), if_neg (by decide +kernel), if_pos rfl]; try rfl
theorem ok_strI : CallOk C (fun xs H Q => ∃ i, xs = [.int i] ∧ i.natAbs.log2 < 1920 ∧ Q (.str (toString i)) H) (evB "str") := by
  intro W G H M l xs Q S r F
  rw [evB_str] at F
  split at F
  · obtain ⟨x, rfl, rx⟩ := r.one_inv
    obtain ⟨c, F⟩ := Srv.okIf F
    exact ⟨_, by rw [rv_int rx], c.1, F.ok_now S (Rep.str_iff.mpr ⟨rfl, strOk_fine c.2⟩)⟩
  · exact F.elim
theorem evB_srt (l : List PV) (M : Sto) : evB "sorted" l M = match l with | [v] => ofO (((seqOf M v).bind srtL).map .lst) M | _ => .no := by
  unfold evB; rw [if_neg (by decide +kernel), if_neg (by decide +kernel), if_neg (by decide +kernel), if_neg (by decide +kernel), if_neg (by decide +kernel), if_neg (by decide +kernel), if_neg (by decide +kernel), if_neg (by decide +kernel), if_neg (by decide +kernel), if_pos rfl]; try rfl
theorem ok_srt : CallOk C (rSrt C.K) (evB "sorted") := by
  intro W G H M l xs Q S r F
  rw [evB_srt] at F
  split at F
  · obtain ⟨p, h, F⟩ := Srv.ofO F
    simp only [Option.map_eq_some_iff, Option.bind_eq_some_iff] at h
    obtain ⟨o, ⟨l, h1, h2⟩, rfl⟩ := h
    unfold srtL at h2
    rw [Option.bind_eq_some_iff] at h2
    obtain ⟨ds, h2, h3⟩ := h2
    split at h3
    · rename_i hc
      cases h3
      obtain ⟨x, rfl, rx⟩ := r.one_inv
      obtain ⟨a, ys, rfl, f, r⟩ := seq_sq S rx h1
      exact ⟨a, ys, ds, rfl, f, (dpAll_of r h2).1, alikeB_ok hc.1, sortableB_ok hc.2.1, fun d hd => of_decide_eq_true (List.all_eq_true.mp hc.2.2 d hd), F.newL S (sort_rep r h2)⟩
    · cases h3
  · exact F.elim
/-- which built-ins are carried -/
def bltOk (x : Str) : Bool := decide (x ∈ (["len", "abs", "min", "max", "tuple", "all", "any", "repr", "str", "sorted"] : List Str))
theorem blt_rule {x : Str} (hx : bltOk x = true) (hK : C.K = X.K) (hc : X.calm = true) (hgd : X.A.guards = some []) (hu : X.A.units + 65 < cLine) (hg : Gl X x) (hm : X.mg x = none) :
    ∃ r, (∀ (e : Expr) (es : List Expr) (t : TA) (p pos : Pos), isStar e = false → es.all (fun e => !isStar e) = true → PA X (e :: es) t → PE X (.Call (.Name x p) (e :: es) [] pos) (tCB r t)) ∧ CallOk C r (evB x) := by
  have hx : x ∈ (["len", "abs", "min", "max", "tuple", "all", "any", "repr", "str", "sorted"] : List Str) := of_decide_eq_true hx
  simp only [List.mem_cons, List.not_mem_nil, or_false] at hx
  rcases hx with rfl | rfl | rfl | rfl | rfl | rfl | rfl | rfl | rfl | rfl
  · exact ⟨rLenP C.K, fun e es t p pos h1 h2 ha => by rw [hK]; exact pe_callB cr_lenP hg hm (by decide +kernel) ha (by decide +kernel) (by decide +kernel) (starEach_plain h1) (no_star h2), ok_len evB_len⟩
  · exact ⟨_, fun e es t p pos h1 h2 ha => pe_callB call_abs hg hm (by decide +kernel) ha (by decide +kernel) (by decide +kernel) (starEach_plain h1) (no_star h2), ok_abs⟩
  · exact ⟨_, fun e es t p pos h1 h2 ha => pe_callB (call_min2 hc) hg hm (by decide +kernel) ha (by decide +kernel) (by decide +kernel) (starEach_plain h1) (no_star h2), ok_min⟩
  · exact ⟨_, fun e es t p pos h1 h2 ha => pe_callB (call_max2 hc) hg hm (by decide +kernel) ha (by decide +kernel) (by decide +kernel) (starEach_plain h1) (no_star h2), ok_max⟩
  · exact ⟨rTupP C.K, fun e es t p pos h1 h2 ha => by rw [hK]; exact pe_callTy call_tuple_of hg hm (by decide +kernel) ha (by decide +kernel) (by decide +kernel) (starEach_plain h1) (no_star h2), ok_tuple⟩
  · exact ⟨rAll C.K, fun e es t p pos h1 h2 ha => by rw [hK]; exact pe_callB (cr_all hc) hg hm (by decide +kernel) ha (by decide +kernel) (by decide +kernel) (starEach_plain h1) (no_star h2), ok_all⟩
  · exact ⟨rAny C.K, fun e es t p pos h1 h2 ha => by rw [hK]; exact pe_callB (cr_any hc) hg hm (by decide +kernel) ha (by decide +kernel) (by decide +kernel) (starEach_plain h1) (no_star h2), ok_any⟩
  · exact ⟨rReprR C.K, fun e es t p pos h1 h2 ha => by rw [hK]; exact pe_callB (cr_reprR hgd hu) hg hm (by decide +kernel) ha (by decide +kernel) (by decide +kernel) (starEach_plain h1) (no_star h2), ok_repr⟩
  · exact ⟨_, fun e es t p pos h1 h2 ha => pe_callTy call_str_int hg hm (by decide +kernel) ha (by decide +kernel) (by decide +kernel) (starEach_plain h1) (no_star h2), ok_strI⟩
  · exact ⟨rSrt C.K, fun e es t p pos h1 h2 ha => by rw [hK]; exact pe_callB (cr_srt hu) hg hm (by decide +kernel) ha (by decide +kernel) (by decide +kernel) (starEach_plain h1) (no_star h2), ok_srt⟩
end
end Sk

/-! SkF: what loops and comprehensions walk. -/
namespace Sk
open PySem PySem.Spec PyProof.Rows PySem.W L2

/-! ### lists and tuples alike -/
inductive Kd where | l | t
def Kd.sq (κ : Kd) (K : PySem.W.Frag) (H : Hp) (a : Addr) (xs : List V) : Prop := match κ with
  | .l => SqL K H a xs
  | .t => SqT K H a xs
def Kd.hit (κ : Kd) (h : Heap) (it a : Addr) (i : Nat) : Prop := match κ with
  | .l => h.IsListIter it a i
  | .t => h.IsTupleIter it a i
def Kd.has (κ : Kd) (h : Heap) (a : Addr) (items : Array Value) : Prop := match κ with
  | .l => h.IsList a items
  | .t => h.IsTuple a items
def Kd.obj (κ : Kd) (a : Addr) : Obj := match κ with
  | .l => { cls := .type "list_iterator", data := .fields #[.ref a, .int 0 0] }
  | .t => { cls := .type "tuple_iterator", data := .fields #[.ref a, .int 0 0] }
section
variable {X : Cx} {pins : List (Addr × Obj)} {σ : L2.St} {H : Hp} {s : Shared} {κ : Kd} {a it : Addr} {xs : List V}
theorem Kd.get (I : L2.Inv X pins σ H s) (h : κ.sq X.K H a xs) : ∃ its : List Value, Vals xs its ∧ κ.has s.heap a its.toArray ∧ xs.length ≤ sizeLine := by
  cases κ with
  | l => obtain ⟨its, r, p, z⟩ := I.list h; exact ⟨its, r, p.isList, z⟩
  | t => obtain ⟨its, r, p, z⟩ := I.tuple h; exact ⟨its, r, p, z⟩
theorem Kd.inj {ys : List V} (I : L2.Inv X pins σ H s) (h : κ.sq X.K H a xs) (h' : κ.sq X.K H a ys) : xs = ys := by
  cases κ with
  | l => exact I.list_inj h h'
  | t => exact I.tuple_inj h h'
theorem Kd.hit_obj {h : Heap} {i : Nat} (k : κ.hit h it a i) : ∃ o, h.get? it = some o ∧ ∀ v, o.data ≠ .cell v := by
  cases κ with
  | l => obtain ⟨o, e, _, d⟩ := k; exact ⟨o, e, fun v z => by rw [d] at z; cases z⟩
  | t => obtain ⟨o, e, _, d⟩ := k; exact ⟨o, e, fun v z => by rw [d] at z; cases z⟩
theorem Kd.hit_at {h h' : Heap} {i : Nat} (k : κ.hit h it a i) (e : ∀ o, h.get? it = some o → h'.get? it = some o) : κ.hit h' it a i := by
  cases κ with
  | l => exact Heap.IsListIter.at k e
  | t => exact Heap.IsTupleIter.at k e
theorem Kd.lt {h : Heap} {items : Array Value} (k : κ.has h a items) : a < h.objs.size := by
  cases κ with
  | l => obtain ⟨o, e, _⟩ := k; exact Heap.lt_size e
  | t => obtain ⟨o, e, _⟩ := k; exact Heap.lt_size e
theorem Kd.draws {prog : Program} {w : World} {A : Around} (hh : A.handled = none) (hne : a ≠ it) (items : Array Value) :
    Draws prog w A it [it, a] items.size (fun i v => items[i]? = some v) (fun i h => κ.hit h it a i ∧ κ.has h a items) := by
  cases κ with
  | l => exact Draws.list hh it a hne items
  | t => exact Draws.tuple hh it a hne items
theorem Kd.begins (κ : Kd) (a : Addr) (items : Array Value) : Begins (.ref a) (κ.obj a) fun h => κ.has h a items := by
  cases κ with
  | l => exact begins_list a items
  | t => exact begins_tuple a items
theorem Kd.first {h : Heap} (e : h.get? it = some (κ.obj a)) : κ.hit h it a 0 := by
  cases κ with
  | l => exact ⟨_, e, rfl, rfl⟩
  | t => exact ⟨_, e, rfl, rfl⟩
end

/-! ### enumerate -/
theorem meets_enumerate_one {v : Value} {o : Obj} {Hh : Heap → Prop} (B : Begins v o Hh) :
    Meets (Builtin.«enumerate.__new__» ⟨[.type "enumerate", v], []⟩) (fun _ R s => Hh s.heap ∧
      R (.ok (.ret (.ref (s.heap.push o).objs.size))) { s with heap := (s.heap.push o).push { cls := .type "enumerate", data := .fields #[.none, .bool false, .ref s.heap.objs.size, rawInt 0, .none, .none] } }) :=
  .of_wp fun prog w A R s h => by
    obtain ⟨hp, g, d, tk, os⟩ := s
    obtain ⟨h1, h⟩ := h
    have hsub := sub_enumerate
    have it1 : ∀ {A' : Around} {E : Value → Shared → Prop} {Q : Value → Shared → Prop}, Q (.ref hp.objs.size) ⟨hp.push o, g, d, tk, os⟩ → wpAny (model prog w) A' (pyIter v) Q E ⟨hp, g, d, tk, os⟩ := fun q => B.iter prog w _ _ ⟨hp, g, d, tk, os⟩ _ h1 q
    wp_walk using it1
    refine wpAny_stack_any fun st => wpAny_pure ?_
    split
    · rename_i c _ _ _ _ _
      cases (c == Value.type "enumerate") <;> (wp_walk using it1; exact ⟨_, rfl, h⟩)
    · wp_walk using it1
      exact ⟨_, rfl, h⟩
theorem call_enumerate_one {prog : Program} {w : World} {A : Around} {E : Value → Shared → Prop} {s : Shared} {v : Value} {o : Obj} {Hh : Heap → Prop} {Q : Value → Shared → Prop} (B : Begins v o Hh) (h1 : Hh s.heap)
    (h : ∀ h', IsEnum h' (s.heap.objs.size + 1) s.heap.objs.size 0 .none → h'.get? s.heap.objs.size = some o → (∀ b o, s.heap.get? b = some o → h'.get? b = some o) → Q (.ref (s.heap.objs.size + 1)) { s with heap := h' }) :
    wpAny (model prog w) A (call (.type "enumerate") [v]) Q E s := by
  refine callType_new F.called_enumerate (by decide) (F.typeCall_enumerate_1 _) (F.newCall_enumerate_1 _) (fun obj => F.args_object_init_2 obj _) F.entry_enumerate_new (meets_enumerate_one B) ⟨h1, ?_⟩
  have z : (s.heap.push o).objs.size = s.heap.objs.size + 1 := Heap.size_push ..
  show _ ∧ _
  rw [z]
  have e : IsEnum ((s.heap.push o).push { cls := .type "enumerate", data := .fields #[.none, .bool false, .ref s.heap.objs.size, rawInt 0, .none, .none] }) (s.heap.objs.size + 1) s.heap.objs.size 0 .none := by
    have q := Heap.get?_push_size (s.heap.push o) (o := { cls := .type "enumerate", data := .fields #[.none, .bool false, .ref s.heap.objs.size, rawInt 0, .none, .none] }) rfl
    rw [z] at q
    exact q
  exact ⟨⟨_, e, rfl⟩, h _ e (Heap.get?_push_of_some _ (Heap.get?_push_size _ B.free)) fun b o x => Heap.get?_push_of_some _ (Heap.get?_push_of_some _ x)⟩

/-- each item with its number, in a new pair -/
def ItE (κ : Kd) (K : PySem.W.Frag) (a : Addr) : L2.It :=
  ⟨fun i H => ∃ (xs : List V) (x : V), κ.sq K H a xs ∧ xs[i]? = some x, fun i H v H' => ∃ T x, v = .ref T ∧ H T = none ∧ H' = upd H T (.tup [.int (i : Nat), x]) ∧ ∀ xs, κ.sq K H a xs → xs[i]? = some x, fun i H => ∃ xs : List V, κ.sq K H a xs ∧ xs.length = i⟩
theorem turn_enumK {P : Program} {w : World} {K : PySem.W.Frag} {elts : List Expr} {kk : Nat} {tpos : Pos} (κ : Kd) (a e it : Addr) (ha : a < e) (hai : a < it) :
    Turn P w K (.Tuple elts kk tpos) (ItE κ K a) [e, it] e (fun i h => (∃ old, IsEnum h e it ((i : Nat) : Int) old) ∧ κ.hit h it a i ∧ e ≠ it) where
  mem := by simp
  obj := by
    rintro i h ⟨⟨old, he⟩, hi, _⟩ b hb
    rcases (show b = e ∨ b = it by simpa using hb) with z | z
    · rw [z]; refine ⟨_, he, ?_⟩; intro v q; cases q
    · rw [z]; exact Kd.hit_obj hi
  keep := by
    rintro i h h' ⟨⟨old, he⟩, hi, ne⟩ k
    exact ⟨⟨old, k e (by simp) _ he⟩, Kd.hit_at hi fun o q => k it (by simp) o q, ne⟩
  item := by
    rintro X rfl rfl rfl hc i pins s σ H E I hf ⟨⟨old, he⟩, hit, ne⟩ ⟨xs, x, hq, hx⟩
    obtain ⟨its, rv, hs, hz⟩ := Kd.get I hq
    have el : e < s.heap.objs.size := Heap.lt_size he
    have il : it < s.heap.objs.size := by obtain ⟨o, q, _⟩ := Kd.hit_obj hit; exact Heap.lt_size q
    have hlt : i < its.toArray.size := by rw [List.size_toArray, ← rv.length]; exact (List.getElem?_eq_some_iff.mp hx).1
    have nea : e ∉ [it, a] := by simp only [List.mem_cons, List.not_mem_nil, or_false, not_or]; exact ⟨ne, Nat.ne_of_gt ha⟩
    refine wpAny_pyNext_enum_itemC (Kd.draws (A := X.A.in1) (κ := κ) (I.ok.hd hc) (Nat.ne_of_lt hai) its.toArray) he ⟨hit, hs⟩ hlt ne nea fun u h' tk hu ho st hT hsz hk => ?_
    have ru : RelV x u := by
      obtain ⟨u', hu', ru⟩ := rv.get hx
      have q : its[i]? = some u := by simpa using hu
      rw [hu'] at q; cases q; exact ru
    refine ⟨_, rfl, wpAny_letOwnedTupleGo_enum (s := { s with heap := h', toks := tk + 1 }) ho fun h'' he' sb => ?_⟩
    have hT2 : h''.get? s.heap.objs.size = some { cls := .type "tuple", data := .seq #[.int i tk, u] } := (sb.2 _ (Nat.ne_of_gt el)).trans hT
    have new : ObjOk X.prog X.w (upd H s.heap.objs.size (.tup [.int (i : Nat), x])) h'' s.heap.objs.size (.tup [.int (i : Nat), x]) :=
      ⟨by show 2 ≤ sizeLine; decide, [.int i tk, u], .cons ⟨_, rfl⟩ (.cons ru .nil), ⟨_, hT2, rfl, _, rfl⟩⟩
    have I1 : L2.Inv X pins σ (upd H s.heap.objs.size (.tup [.int (i : Nat), x])) { s with heap := h'', toks := tk + 1 } :=
      I.turnedNew (ch := [e, it]) (fun b ob hb q => (sb.2 b (fun z => hb (by simp [z]))).trans (hk b ob (fun z => hb (by simp [z])) (fun z => hb (by simp [z])) q)) hf (Nat.le_refl _) new
    refine ⟨.ref s.heap.objs.size, _, I1, rfl, ⟨_, x, rfl, I.hok.fresh (Nat.le_refl _), rfl, fun ys hy => by rw [Kd.inj I hy hq]; exact hx⟩, ⟨⟨u, ?_⟩, Kd.hit_at st.1 fun o q => (sb.2 it (Ne.symm ne)).trans q, ne⟩, fun b hb => ?_⟩
    · rw [show ((i + 1 : Nat) : Int) = (i : Int) + 1 by omega]; exact he'
    · have hb' : b < s.heap.objs.size := by
        rcases (show b = e ∨ b = it by simpa using hb) with z | z
        · rw [z]; exact el
        · rw [z]; exact il
      rw [upd_ne (Nat.ne_of_lt hb')]
      exact (hf b hb).1
  done := by
    rintro X rfl rfl rfl hc i pins s σ H E I hf ⟨⟨old, he⟩, hit, ne⟩ ⟨xs, hq, hx⟩
    obtain ⟨its, rv, hs, hz⟩ := Kd.get I hq
    have hn : i = its.toArray.size := by rw [List.size_toArray, ← rv.length]; exact hx.symm
    obtain ⟨f0, f1, f2, f3, f4, f5⟩ := hf it (by simp)
    refine wpAny_pyNext_enum_endD (Kd.draws (A := X.A.in1) (κ := κ) (I.ok.hd hc) (Nat.ne_of_lt hai) its.toArray) he (by rw [← hn]; exact ⟨hit, hs⟩) fun h' eb => ⟨rfl, I.turned (t' := s.toks) (fun b o hb q => eb b o hb q) f0 f1 f3 f4 f5⟩
  self := by
    rintro A i s Q E ⟨⟨_, he⟩, _⟩ h
    exact wpAny_pyIter_enum he h
def iEnumK (K : PySem.W.Frag) (ta : TA) : TI := fun σ H R => ta σ H fun vs H1 => ∃ (κ : Kd) (a : Addr) (xs : List V), vs = [.ref a] ∧ κ.sq K H1 a xs ∧ R (ItE κ K a) H1
theorem pi_enumK {X : Cx} {e : Expr} {ta : TA} {p pos tpos : Pos} {elts : List Expr} {kk : Nat} (hg : Gl X "enumerate") (hm : X.mg "enumerate" = none) (ha : PA X [e] ta) (hs : starEach [e] X.env = [(false, eval e X.env)]) :
    PI X (.Tuple elts kk tpos) (.Call (.Name "enumerate" p) [e] [] pos) (iEnumK X.K ta) := by
  refine ⟨fun pins s σ H R I h => ?_⟩
  refine Call_ (ld_blt I hg hm boot_enumerate (PyProof.Rows.callWith_type1 (thn (ha.run pos pins s σ H _ I h) fun us s1 ⟨vs, H1, I1, r1, q1⟩ => ?_) hs rfl))
  obtain ⟨κ, a, xs, rfl, hq, q⟩ := q1
  obtain ⟨u, rfl, ru⟩ := vals1 r1
  obtain rfl : u = Value.ref a := ru
  obtain ⟨its, rv, hs1, hz⟩ := Kd.get I1 hq
  have la := Kd.lt hs1
  refine call_enumerate_one (Kd.begins κ a its.toArray) hs1 fun h' he hit hk => wpAny_pyIter_enum he ?_
  refine ⟨s1.heap.objs.size + 1, [s1.heap.objs.size + 1, s1.heap.objs.size], _, _, H1, rfl, I1.kept (t' := s1.toks) hk, turn_enumK κ a (s1.heap.objs.size + 1) s1.heap.objs.size (Nat.lt_succ_of_lt la) la, ⟨⟨.none, he⟩, Kd.first hit, Nat.succ_ne_self _⟩, fun b hb => ?_, q⟩
  have hle : s1.heap.objs.size ≤ b := by
    rcases (show b = s1.heap.objs.size + 1 ∨ b = s1.heap.objs.size by simpa using hb) with z | z
    · rw [z]; exact Nat.le_add_right _ _
    · rw [z]; exact Nat.le_refl _
  exact I1.fpOk hle (I1.hok.fresh hle)

/-! ### zip of two, each a list or a tuple -/
def ItZ (κ κ' : Kd) (K : PySem.W.Frag) (a b : Addr) : L2.It :=
  ⟨fun i H => ∃ (xs ys : List V) (x y : V), κ.sq K H a xs ∧ κ'.sq K H b ys ∧ xs[i]? = some x ∧ ys[i]? = some y,
    fun i H v H' => ∃ T x y, v = .ref T ∧ H T = none ∧ H' = upd H T (.tup [x, y]) ∧ (∀ xs, κ.sq K H a xs → xs[i]? = some x) ∧ ∀ ys, κ'.sq K H b ys → ys[i]? = some y,
    fun i H => ∃ xs ys : List V, κ.sq K H a xs ∧ κ'.sq K H b ys ∧ i ≤ xs.length ∧ i ≤ ys.length ∧ (i = xs.length ∨ i = ys.length)⟩
theorem turn_zipK {P : Program} {w : World} {K : PySem.W.Frag} {elts : List Expr} {kk : Nat} {tpos : Pos} (κ κ' : Kd) {a b z TI TO i1 i2 : Addr} (D : ZipSep2 z TI TO i1 i2 [i1, a] [i2, b]) (n1 : a ≠ i1) (n2 : b ≠ i2) :
    Turn P w K (.Tuple elts kk tpos) (ItZ κ κ' K a b) [z, TI, TO, i1, i2] z (fun i h => IsZip h z TI TO .none ∧ IsTupOf2 h TI (.ref i1) (.ref i2) ∧ (∃ x y, IsTupOf2 h TO x y) ∧ κ.hit h i1 a i ∧ κ'.hit h i2 b i) where
  mem := by simp
  obj := by
    rintro i h ⟨hz, hTI, ⟨x, y, hTO⟩, h1, h2⟩ c hc
    rcases (show c = z ∨ c = TI ∨ c = TO ∨ c = i1 ∨ c = i2 by simpa using hc) with q | q | q | q | q
    · rw [q]; refine ⟨_, hz, ?_⟩; intro v q; cases q
    · rw [q]; refine ⟨_, hTI, ?_⟩; intro v q; cases q
    · rw [q]; refine ⟨_, hTO, ?_⟩; intro v q; cases q
    · rw [q]; exact Kd.hit_obj h1
    · rw [q]; exact Kd.hit_obj h2
  keep := by
    rintro i h h' ⟨hz, hTI, ⟨x, y, hTO⟩, h1, h2⟩ k
    exact ⟨k z (by simp) _ hz, k TI (by simp) _ hTI, ⟨x, y, k TO (by simp) _ hTO⟩, Kd.hit_at h1 fun o q => k i1 (by simp) o q, Kd.hit_at h2 fun o q => k i2 (by simp) o q⟩
  item := by
    rintro X rfl rfl rfl hc i pins s σ H E I hf ⟨hz, hTI, ⟨x0, y0, hTO⟩, h1, h2⟩ ⟨xs, ys, x, y, hqx, hqy, hx, hy⟩
    obtain ⟨its, rv, p, _⟩ := Kd.get I hqx
    obtain ⟨its2, rv2, p2, _⟩ := Kd.get I hqy
    have l1 : i < its.toArray.size := by rw [List.size_toArray, ← rv.length]; exact (List.getElem?_eq_some_iff.mp hx).1
    have l2 : i < its2.toArray.size := by rw [List.size_toArray, ← rv2.length]; exact (List.getElem?_eq_some_iff.mp hy).1
    have zl : z < s.heap.objs.size := Heap.lt_size hz
    refine wpAny_pyNext_zipD2_item D (Kd.draws (A := X.A.in1) (κ := κ) (I.ok.hd hc) n1 its.toArray) (Kd.draws (A := X.A.in1) (κ := κ') (I.ok.hd hc) n2 its2.toArray) hz hTI hTO ⟨h1, p⟩ ⟨h2, p2⟩ l1 l2 fun u v h' tk hu hv z' TO' s1' s2' hT hsz hk => ?_
    have ru : RelV x u := by
      obtain ⟨u', hu', ru⟩ := rv.get hx
      have q : its[i]? = some u := by simpa using hu
      rw [hu'] at q; cases q; exact ru
    have rw2 : RelV y v := by
      obtain ⟨u', hu', ru⟩ := rv2.get hy
      have q : its2[i]? = some v := by simpa using hv
      rw [hu'] at q; cases q; exact ru
    refine ⟨_, rfl, wpAny_letOwnedTupleGo_zip (s := { s with heap := h', toks := tk }) z' fun h'' z'' sb => ?_⟩
    have hT2 : h''.get? s.heap.objs.size = some { cls := .type "tuple", data := .seq #[u, v] } := (sb.2 _ (Nat.ne_of_gt zl)).trans hT
    have new : ObjOk X.prog X.w (upd H s.heap.objs.size (.tup [x, y])) h'' s.heap.objs.size (.tup [x, y]) := ⟨by show 2 ≤ sizeLine; decide, [u, v], .cons ru (.cons rw2 .nil), ⟨_, hT2, rfl, _, rfl⟩⟩
    have I1 : L2.Inv X pins σ (upd H s.heap.objs.size (.tup [x, y])) { s with heap := h'', toks := tk } :=
      I.turnedNew (t' := tk) (ch := [z, TI, TO, i1, i2]) (fun c o hb q => (sb.2 c (fun e => hb (by simp [e]))).trans (hk c o (fun e => hb (by simp [e])) (fun e => hb (by simp [e])) (fun e => hb (by simp [e])) (fun e => hb (by simp [e])) q)) hf (Nat.le_refl _) new
    refine ⟨.ref s.heap.objs.size, _, I1, rfl, ⟨_, x, y, rfl, I.hok.fresh (Nat.le_refl _), rfl, fun l hl => by rw [Kd.inj I hl hqx]; exact hx, fun l hl => by rw [Kd.inj I hl hqy]; exact hy⟩, ⟨z'', ?_, ⟨u, v, ?_⟩, ?_, ?_⟩, fun c hcm => ?_⟩
    · exact (sb.2 _ D.TIz).trans (hk _ _ D.TIz D.TITO D.TIi1 D.TIi2 hTI)
    · exact (sb.2 _ D.TOz).trans TO'
    · exact Kd.hit_at s1'.1 fun o q => (sb.2 _ (Ne.symm D.zi1)).trans q
    · exact Kd.hit_at s2'.1 fun o q => (sb.2 _ (Ne.symm D.zi2)).trans q
    · have hlt : c < s.heap.objs.size := by
        rcases (show c = z ∨ c = TI ∨ c = TO ∨ c = i1 ∨ c = i2 by simpa using hcm) with q | q | q | q | q
        · rw [q]; exact zl
        · rw [q]; exact Heap.lt_size hTI
        · rw [q]; exact Heap.lt_size hTO
        · rw [q]; obtain ⟨_, e1, _⟩ := Kd.hit_obj h1; exact Heap.lt_size e1
        · rw [q]; obtain ⟨_, e2, _⟩ := Kd.hit_obj h2; exact Heap.lt_size e2
      rw [upd_ne (Nat.ne_of_lt hlt)]
      exact (hf c hcm).1
  done := by
    rintro X rfl rfl rfl hc i pins s σ H E I hf ⟨hz, hTI, ⟨x0, y0, hTO⟩, h1, h2⟩ ⟨xs, ys, hqx, hqy, b1, b2, hend⟩
    obtain ⟨its, rv, p, _⟩ := Kd.get I hqx
    obtain ⟨its2, rv2, p2, _⟩ := Kd.get I hqy
    have e1 : its.toArray.size = xs.length := by rw [List.size_toArray, ← rv.length]
    have e2 : its2.toArray.size = ys.length := by rw [List.size_toArray, ← rv2.length]
    exact wpAny_pyNext_zipD2_end D (Kd.draws (A := X.A.in1) (κ := κ) (I.ok.hd hc) n1 its.toArray) (Kd.draws (A := X.A.in1) (κ := κ') (I.ok.hd hc) n2 its2.toArray) hz hTI hTO ⟨h1, p⟩ ⟨h2, p2⟩ (by omega) (by omega) (by omega) fun h' tk hk =>
      ⟨rfl, I.turnedL (t' := tk) (ch := [z, TI, TO, i1, i2]) (fun c o hb q => hk c o (fun e => hb (by simp [e])) (fun e => hb (by simp [e])) (fun e => hb (by simp [e])) (fun e => hb (by simp [e])) q) hf⟩
  self := fun A i s Q E st h => wpAny_pyIter_zip st.1 h
def iZipK (K : PySem.W.Frag) (ta : TA) : TI := fun σ H R => ta σ H fun vs H1 => ∃ (κ κ' : Kd) (a b : Addr) (xs ys : List V), vs = [.ref a, .ref b] ∧ κ.sq K H1 a xs ∧ κ'.sq K H1 b ys ∧ R (ItZ κ κ' K a b) H1
theorem pi_zipK {X : Cx} {e e2 : Expr} {ta : TA} {p pos tpos : Pos} {elts : List Expr} {kk : Nat} (hg : Gl X "zip") (hm : X.mg "zip" = none) (ha : PA X [e, e2] ta)
    (hs : starEach [e, e2] X.env = (false, eval e X.env) :: starEach [e2] X.env) (hpl : (backTo pos (starEach [e2] X.env)).any (·.1) = false) :
    PI X (.Tuple elts kk tpos) (.Call (.Name "zip" p) [e, e2] [] pos) (iZipK X.K ta) := by
  refine ⟨fun pins s σ H R I h => ?_⟩
  refine Call_ (ld_blt I hg hm PyProof.Rows.boot_zip (PyProof.Rows.callWith_type1 (thn (ha.run pos pins s σ H _ I h) fun us s1 ⟨vs, H1, I1, r1, q1⟩ => ?_) hs hpl))
  obtain ⟨κ, κ', a, b, xs, ys, rfl, hqx, hqy, q⟩ := q1
  obtain ⟨u, v, rfl, ru, rv⟩ := vals2 r1
  obtain rfl : u = Value.ref a := ru
  obtain rfl : v = Value.ref b := rv
  obtain ⟨its, _, p1, _⟩ := Kd.get I1 hqx
  obtain ⟨its2, _, p2, _⟩ := Kd.get I1 hqy
  have la := Kd.lt p1
  have lb := Kd.lt p2
  refine zip_begins2 (Kd.begins κ a its.toArray) (Kd.begins κ' b its2.toArray) p1 p2 fun h' hz hTI hTO h1 h2 hsz hk => wpAny_pyIter_zip hz ?_
  refine ⟨s1.heap.objs.size + 4, [s1.heap.objs.size + 4, s1.heap.objs.size + 2, s1.heap.objs.size + 3, s1.heap.objs.size, s1.heap.objs.size + 1], _, _, H1, rfl, I1.kept (t' := s1.toks) hk,
    turn_zipK κ κ' (zip_sep2 (fp1 := [a]) (fp2 := [b]) (fun c hc => by rw [List.mem_singleton.mp hc]; exact la) (fun c hc => by rw [List.mem_singleton.mp hc]; exact lb)) (Nat.ne_of_lt la) (Nat.ne_of_lt (Nat.lt_succ_of_lt lb)), ⟨hz, hTI, ⟨_, _, hTO⟩, Kd.first h1, Kd.first h2⟩, fun c hcm => ?_, q⟩
  have hle : s1.heap.objs.size ≤ c := by
    rcases (show c = s1.heap.objs.size + 4 ∨ c = s1.heap.objs.size + 2 ∨ c = s1.heap.objs.size + 3 ∨ c = s1.heap.objs.size ∨ c = s1.heap.objs.size + 1 by simpa using hcm) with z | z | z | z | z
    · rw [z]; exact Nat.le_add_right _ _
    · rw [z]; exact Nat.le_add_right _ _
    · rw [z]; exact Nat.le_add_right _ _
    · rw [z]; exact Nat.le_refl _
    · rw [z]; exact Nat.le_add_right _ _
  exact I1.fpOk hle (I1.hok.fresh hle)

/-! ### a value walked as it is -/
def iVal (K : PySem.W.Frag) (te : TE) : TI := fun σ H R => te σ H fun x H1 => (∃ a xs, x = .ref a ∧ SqL K H1 a xs ∧ R (Itl K a) H1) ∨ (∃ a xs, x = .ref a ∧ SqT K H1 a xs ∧ R (Itt K a) H1) ∨ ∃ z, x = .str z ∧ R (Its z) H1
theorem pi_val {X : Cx} {tg e : Expr} {te : TE} (he : PE X e te) : PI X tg e (iVal X.K te) := by
  refine ⟨fun pins s σ H R I h => thn (he.run pins s σ H _ I h) fun v s1 ⟨x, H1, I1, r1, q1⟩ => ?_⟩
  rcases q1 with ⟨a, xs, rfl, hq, q⟩ | ⟨a, xs, rfl, hq, q⟩ | ⟨z, rfl, q⟩
  · obtain rfl : v = Value.ref a := r1
    obtain ⟨its, rv, p, _⟩ := I1.list hq
    exact wpAny_pyIter_list p.isList (pi_one (tk := s1.toks) I1 _ (turn_list a _) ⟨_, Heap.get?_push_size _ rfl, rfl, rfl⟩ q)
  · obtain rfl : v = Value.ref a := r1
    obtain ⟨its, rv, p, _⟩ := I1.tuple hq
    exact wpAny_pyIter_tuple (show s1.heap.IsTuple a its.toArray from p) (pi_one (tk := s1.toks) I1 _ (turn_tuple a _) ⟨_, Heap.get?_push_size _ rfl, rfl, rfl⟩ q)
  · obtain ⟨t, rfl⟩ := r1
    cases ha : z.cps.all (· < 128)
    · exact wpAny_pyIter_wide ha (pi_one (tk := s1.toks) I1 _ (turn_str _ z t "str_iterator" (.inr rfl)) ⟨_, Heap.get?_push_size _ rfl, rfl, rfl⟩ q)
    · exact wpAny_pyIter_ascii ha (pi_one (tk := s1.toks) I1 _ (turn_str _ z t "str_ascii_iterator" (.inl rfl)) ⟨_, Heap.get?_push_size _ rfl, rfl, rfl⟩ q)
end Sk

/-! SkG: names stored, items walked, statements. -/
namespace Sk
open PySem PySem.Spec PyProof.Rows PySem.W L2

/-! ### slots forgotten -/
section
variable {C : Cfg} {G G' : Gh} {H H' : Hp} {M : Sto} {ρ : PEnv} {σ : L2.St}
theorem ERep.wipe (h : ERep C G H ρ σ) : ∀ vs : List Nat, ERep C G H (wipeP ρ vs) (L2.wipe σ vs)
  | [] => h
  | v :: vs => by unfold wipeP L2.wipe; exact (h.wipe vs).forget
theorem wipe_in {σ : L2.St} {i : Nat} : ∀ {vs : List Nat}, i ∈ vs → (L2.wipe σ vs)[i]? = if i < σ.length then some none else none
  | v :: vs, h => by
    unfold L2.wipe
    by_cases e : v = i
    · subst e
      by_cases hl : v < σ.length
      · rw [if_pos hl]; exact List.getElem?_set_self (by rw [L2.wipe_length]; exact hl)
      · rw [if_neg hl]; exact List.getElem?_eq_none (by rw [List.length_set, L2.wipe_length]; omega)
    · rw [List.getElem?_set_ne e]
      exact wipe_in ((List.mem_cons.mp h).resolve_left fun z => e z.symm)
theorem wipe_ext {σ σ' : L2.St} {vs : List Nat} (hl : σ'.length = σ.length) (h : ∀ i, i ∉ vs → σ'[i]? = σ[i]?) : L2.wipe σ' vs = L2.wipe σ vs := by
  refine List.ext_getElem? fun i => ?_
  by_cases hi : i ∈ vs
  · rw [wipe_in hi, wipe_in hi, hl]
  · rw [L2.wipe_out hi, L2.wipe_out hi]; exact h i hi
theorem wipe_two {σ σ' : L2.St} {vs : List Nat} (hl : σ'.length = σ.length) (h : ∀ i, i ∉ vs → σ'[i]? = (L2.wipe σ vs)[i]?) : L2.wipe σ' vs = L2.wipe σ vs :=
  wipe_ext hl fun i hi => (h i hi).trans (L2.wipe_out hi)
end

/-! ### targets -/
def tG (C : Cfg) (vs : List Nat) (b : PV → PEnv → Option PEnv) : TG := fun v σ H Q => ∃ G ρ p ρ', ERep C G H ρ σ ∧ Rep C G H p v ∧ b p ρ = some ρ' ∧
  ∀ σ', ERep C G H ρ' σ' → σ'.length = σ.length → (∀ i, i ∉ vs → σ'[i]? = σ[i]?) → Q σ' H
def tGs (C : Cfg) (vs : List Nat) (b : List PV → PEnv → Option PEnv) : TGs := fun v σ H Q => ∃ G ρ p ρ', ERep C G H ρ σ ∧ RepL C G H p v ∧ b p ρ = some ρ' ∧
  ∀ σ', ERep C G H ρ' σ' → σ'.length = σ.length → (∀ i, i ∉ vs → σ'[i]? = σ[i]?) → Q σ' H
theorem PG.weak {X : Cx} {e : Expr} {t t' : TG} (h : PG X e t) (k : ∀ v σ H Q, t' v σ H Q → t v σ H Q) : PG X e t' := ⟨fun pins s σ H v u Q I r q => h.run pins s σ H v u Q I r (k v σ H Q q)⟩
theorem PGs.weak {X : Cx} {e : List Expr} {t t' : TGs} (h : PGs X e t) (k : ∀ v σ H Q, t' v σ H Q → t v σ H Q) : PGs X e t' := ⟨fun pins s σ H v u Q I r q => h.run pins s σ H v u Q I r (k v σ H Q q)⟩
section
variable {X : Cx} {C : Cfg} {vs : List Nat} {pos : Pos}
theorem pg_nmP {i : Nat} {x : Str} (hN : X.N.Nodup) (hi : X.N[i]? = some x) (hx : Loc X.env.scope x) (hf : X.fn x = true ∨ X.env.scope.names.lookup x = some .local) (hv : i ∈ vs) : PG X (.Name x pos) (tG C vs (bindG (.nm i))) :=
  PG.weak (pg_name hN hi hx hf) fun v σ H Q ⟨G, ρ, p, ρ', ER, r, e, q⟩ => by
    have e : some (ρ.set i (some p)) = some ρ' := e
    cases e
    exact q _ (ER.set r) (List.length_set ..) fun j hj => List.getElem?_set_ne (fun z => hj (by rw [← z]; exact hv))
theorem pgs_nilP : PGs X [] (tGs C vs (bindGs .nil)) :=
  PGs.weak pgs_nil fun v σ H Q ⟨G, ρ, p, ρ', ER, r, e, q⟩ => by
    cases p with
    | nil =>
      have e : some ρ = some ρ' := e
      cases e
      exact ⟨r.nil_inv, q σ ER rfl fun _ _ => rfl⟩
    | cons a l => cases e
theorem each_plain {e : Expr} {es : List Expr} {env : Env} (h : isStar e = false) : (assignEach (e :: es) env).map (·.2) = assign e env :: (assignEach es env).map (·.2) := by
  cases e <;> first | rfl | cases h
theorem each_len {env : Env} : ∀ {es : List Expr}, (assignEach es env).length = es.length
  | [] => rfl
  | e :: es => by
    have ih : (assignEach es env).length = es.length := each_len
    cases e <;> exact congrArg Nat.succ ih
theorem each_cons {e : Expr} {es : List Expr} {env : Env} (h : isStar e = false) : assignEach (e :: es) env = (false, assign e env) :: assignEach es env := by
  cases e <;> first | rfl | cases h
theorem each_none {env : Env} : ∀ {es : List Expr}, es.all (fun e => !isStar e) = true → (assignEach es env).findIdx? (·.1) = none
  | [], _ => rfl
  | e :: es, h => by
    simp only [List.all_cons, Bool.and_eq_true, Bool.not_eq_true'] at h
    have ih : (assignEach es env).findIdx? (·.1) = none := each_none h.2
    rw [each_cons h.1, List.findIdx?_cons, ih]; rfl
theorem pgs_consP {e : Expr} {es : List Expr} {t : Tg} {l : Tgs} (hs : isStar e = false) (h1 : PG X e (tG C vs (bindG t))) (h2 : PGs X es (tGs C vs (bindGs l))) : PGs X (e :: es) (tGs C vs (bindGs (.cons t l))) :=
  PGs.weak (pgs_cons h1 h2 (each_plain hs)) fun v σ H Q ⟨G, ρ, p, ρ', ER, r, e, q⟩ => by
    cases p with
    | nil => cases e
    | cons a ps =>
      obtain ⟨x, xs, rfl, r1, r2⟩ := r.cons_inv
      have e : (bindG t a ρ).bind (fun ρ' => bindGs l ps ρ') = some ρ' := e
      rw [Option.bind_eq_some_iff] at e
      obtain ⟨ρ1, e1, e2⟩ := e
      exact ⟨x, xs, rfl, G, ρ, a, ρ1, ER, r1, e1, fun σ1 ER1 l1 k1 => ⟨G, ρ1, ps, ρ', ER1, r2, e2, fun σ2 ER2 l2 k2 => q σ2 ER2 (l2.trans l1) fun i hi => (k2 i hi).trans (k1 i hi)⟩⟩
def Tgs.len : Tgs → Nat
  | .nil => 0
  | .cons _ l => l.len + 1
theorem bindGs_len : ∀ {l : Tgs} {xs : List PV} {ρ ρ' : PEnv}, bindGs l xs ρ = some ρ' → xs.length = l.len
  | .nil, [], _, _, _ => rfl
  | .nil, _ :: _, _, _, h => nomatch h
  | .cons _ _, [], _, _, h => nomatch h
  | .cons t l, x :: xs, ρ, ρ', h => by
    have h : (bindG t x ρ).bind (fun ρ' => bindGs l xs ρ') = some ρ' := h
    rw [Option.bind_eq_some_iff] at h
    obtain ⟨_, _, h⟩ := h
    rw [List.length_cons, bindGs_len h]; rfl
theorem pg_tpP {es : List Expr} {k : Nat} {l : Tgs} (hc : X.calm = true) (hK : C.K = X.K) (hl : l.len = es.length) (hs : es.all (fun e => !isStar e) = true) (h : PGs X es (tGs C vs (bindGs l))) : PG X (.Tuple es k pos) (tG C vs (bindG (.tp l))) :=
  PG.weak (pg_tup (n := es.length) hc h each_len (each_none hs)) fun v σ H Q ⟨G, ρ, p, ρ', ER, r, e, q⟩ => by
    cases p with
    | tup xs =>
      have e : bindGs l xs ρ = some ρ' := e
      obtain ⟨a, ys, rfl, f, r⟩ := Rep.tup_iff.mp r
      exact ⟨a, ys, rfl, by rw [← hK]; exact f.sq, by rw [← r.length, bindGs_len e, hl], G, ρ, xs, ρ', ER, r, e, q⟩
    | _ => cases e
end

/-! ### what is walked -/
structure ItOk (C : Cfg) (J : L2.It) (G : Gh) (H : Hp) (items : List PV) : Prop where
  go : ∀ G' H' (i : Nat) p, Stq G H G' H' → items[i]? = some p → J.go i H'
  yl : ∀ G' H' (i : Nat) p x H'' M, Stq G H G' H' → items[i]? = some p → J.yld i H' x H'' → SRep C G' H' M → ∃ G'', Stp G' H' G'' H'' ∧ SRep C G'' H'' M ∧ Rep C G'' H'' p x
  st : ∀ G' H', Stq G H G' H' → J.stop items.length H'
theorem Stq.trans {G G1 G2 : Gh} {H H1 H2 : Hp} (a : Stq G H G1 H1) (b : Stq G1 H1 G2 H2) : Stq G H G2 H2 where
  fz := fun c h => b.fz c (a.fz c h)
  mu := fun n c h => b.mu n c (a.mu n c h)
  rd := fun c u h r => b.rd c u (a.fz c h) (a.rd c u h r)
  at' := fun c u h r n => b.at' c u (a.fz c h) (a.at' c u h r n) n
theorem Stq.refl (G : Gh) (H : Hp) : Stq G H G H := (Stp.refl G H).toStq
section
variable {C : Cfg} {G G' : Gh} {H H' : Hp} {M : Sto} {J : L2.It} {items : List PV}
theorem ItOk.on (s : Stq G H G' H') (h : ItOk C J G H items) : ItOk C J G' H' items :=
  ⟨fun G2 H2 i p s2 => h.go G2 H2 i p (s.trans s2), fun G2 H2 i p x H3 M s2 => h.yl G2 H2 i p x H3 M (s.trans s2), fun G2 H2 s2 => h.st G2 H2 (s.trans s2)⟩
theorem RepL.at_ {l : List PV} {xs : List V} {i : Nat} {p : PV} {x : V} (r : RepL C G H l xs) (e : l[i]? = some p) (e' : xs[i]? = some x) : Rep C G H p x := by
  obtain ⟨y, k, r⟩ := r.get e
  rw [e'] at k; cases k; exact r
theorem it_l {a : Addr} {xs : List V} {K : PySem.W.Frag} (hK : C.K = K) (f : FzL C G H a xs) (r : RepL C G H items xs) : ItOk C (Itl K a) G H items := by
  subst hK
  refine ⟨fun G' H' i p s e => ?_, fun G' H' i p x H'' M s e y S => ?_, fun G' H' s => ⟨xs, (f.on s).sq, by rw [r.length]; exact Nat.le_refl _⟩⟩
  · obtain ⟨x, k, _⟩ := r.get e
    exact ⟨xs, x, (f.on s).sq, k⟩
  · obtain ⟨rfl, y⟩ := y
    exact ⟨G', .refl _ _, S, (r.on s).at_ e (y xs (f.on s).sq)⟩
theorem it_t {a : Addr} {xs : List V} {K : PySem.W.Frag} (hK : C.K = K) (f : FzT C G H a xs) (r : RepL C G H items xs) : ItOk C (Itt K a) G H items := by
  subst hK
  refine ⟨fun G' H' i p s e => ?_, fun G' H' i p x H'' M s e y S => ?_, fun G' H' s => ⟨xs, (f.on s).sq, by rw [r.length]; exact Nat.le_refl _⟩⟩
  · obtain ⟨x, k, _⟩ := r.get e
    exact ⟨xs, x, (f.on s).sq, k⟩
  · obtain ⟨rfl, y⟩ := y
    exact ⟨G', .refl _ _, S, (r.on s).at_ e (y xs (f.on s).sq)⟩
theorem signs_at {z : Str} {i : Nat} {p : PV} (e : (signs z)[i]? = some p) : ∃ c, z.cps[i]? = some c ∧ p = .str ⟨#[c]⟩ := by
  unfold signs at e
  rw [List.getElem?_map, Option.map_eq_some_iff] at e
  obtain ⟨c, h, rfl⟩ := e
  exact ⟨c, by simpa using h, rfl⟩
theorem strFine_mem {z : Str} {i c : Nat} (hz : StrFine z) (h : z.cps[i]? = some c) : StrFine ⟨#[c]⟩ := by
  have hm : c ∈ z.cps := Array.mem_of_getElem? h
  have h1 : c < 0x110000 := by
    have := Array.all_eq_true_iff_forall_mem.mp hz.1 c hm
    simpa using this
  refine ⟨?_, by rw [sizeLine_eq]; exact (by decide : 1 ≤ 16777216)⟩
  show Array.all #[c] _ = true
  simp [h1]
theorem it_s {z : Str} (hz : StrFine z) : ItOk C (Its z) G H (signs z) := by
  refine ⟨fun G' H' i p s e => ?_, fun G' H' i p x H'' M s e y S => ?_, fun G' H' s => ?_⟩
  · obtain ⟨c, h, _⟩ := signs_at e
    exact (Array.getElem?_eq_some_iff.mp h).1
  · obtain ⟨rfl, c, h, rfl⟩ := y
    obtain ⟨c', h', rfl⟩ := signs_at e
    rw [h] at h'; cases h'
    exact ⟨G', .refl _ _, S, Rep.str_iff.mpr ⟨rfl, strFine_mem hz h⟩⟩
  · show z.cps.size ≤ (signs z).length
    unfold signs
    rw [List.length_map, Array.length_toList]; exact Nat.le_refl _
theorem it_r {lo : Int} {n : Nat} : ItOk C (Itr lo n) G H (rngL lo n) := by
  refine ⟨fun G' H' i p s e => ?_, fun G' H' i p x H'' M s e y S => ?_, fun G' H' s => ?_⟩
  · have h := (List.getElem?_eq_some_iff.mp e).1
    unfold rngL at h
    rw [List.length_map, List.length_range] at h; exact h
  · obtain ⟨rfl, rfl⟩ := y
    unfold rngL at e
    rw [List.getElem?_map, Option.map_eq_some_iff] at e
    obtain ⟨c, h, rfl⟩ := e
    rw [List.getElem?_range (by have := (List.getElem?_eq_some_iff.mp h).1; simpa using this)] at h
    cases h
    exact ⟨G', .refl _ _, S, Rep.int_iff.mpr rfl⟩
  · show n ≤ (rngL lo n).length
    unfold rngL
    rw [List.length_map, List.length_range]; exact Nat.le_refl _
/-- frozen, of either kind -/
def Kd.fz (κ : Kd) (C : Cfg) (G : Gh) (H : Hp) (a : Addr) (xs : List V) : Prop := match κ with
  | .l => FzL C G H a xs
  | .t => FzT C G H a xs
theorem kdfz_on {κ : Kd} {a : Addr} {xs : List V} (s : Stq G H G' H') (h : κ.fz C G H a xs) : κ.fz C G' H' a xs := by
  cases κ
  · exact FzL.on s h
  · exact FzT.on s h
theorem kdfz_sq {κ : Kd} {a : Addr} {xs : List V} (h : κ.fz C G H a xs) : κ.sq C.K H a xs := by
  cases κ
  · exact FzL.sq h
  · exact FzT.sq h
theorem pair_new {x y : V} {p q : PV} {T : Addr} (S : SRep C G H M) (hn : H T = none) (r1 : Rep C G H p x) (r2 : Rep C G H q y) :
    ∃ G'', Stp G H G'' (upd H T (.tup [x, y])) ∧ SRep C G'' (upd H T (.tup [x, y])) M ∧ Rep C G'' (upd H T (.tup [x, y])) (.tup [p, q]) (.ref T) := by
  obtain ⟨s, S'⟩ := S.laidFz (o := .tup [x, y]) hn
  exact ⟨_, s, S', Rep.tup_iff.mpr ⟨T, [x, y], rfl, .inl ⟨.inr rfl, .inl upd_same⟩, .cons (r1.on s.toStq) (.one (r2.on s.toStq))⟩⟩
theorem it_e {κ : Kd} {a : Addr} {xs : List V} {K : PySem.W.Frag} (hK : C.K = K) (f : κ.fz C G H a xs) (r : RepL C G H items xs) : ItOk C (ItE κ K a) G H (enumL items) := by
  subst hK
  have look : ∀ {i : Nat} {p : PV}, (enumL items)[i]? = some p → ∃ q, items[i]? = some q ∧ p = .tup [.int (i : Nat), q] := fun {i p} e => by
    unfold enumL at e
    rw [List.getElem?_map, Option.map_eq_some_iff] at e
    obtain ⟨c, h, rfl⟩ := e
    rw [List.getElem?_zipIdx, Option.map_eq_some_iff] at h
    obtain ⟨q, h, rfl⟩ := h
    exact ⟨q, h, by simp⟩
  refine ⟨fun G' H' i p s e => ?_, fun G' H' i p x H'' M s e y S => ?_, fun G' H' s => ⟨xs, (kdfz_sq (kdfz_on s f)), by unfold enumL; rw [List.length_map, List.length_zipIdx, r.length]⟩⟩
  · obtain ⟨q, h, _⟩ := look e
    obtain ⟨x, k, _⟩ := r.get h
    exact ⟨xs, x, (kdfz_sq (kdfz_on s f)), k⟩
  · obtain ⟨T, z, rfl, hn, rfl, hz⟩ := y
    obtain ⟨q, h, rfl⟩ := look e
    exact pair_new S hn (Rep.int_iff.mpr rfl) ((r.on s).at_ h (hz xs (kdfz_sq (kdfz_on s f))))
theorem it_z {κ κ' : Kd} {a b : Addr} {xs ys : List V} {m : List PV} {K : PySem.W.Frag} (hK : C.K = K) (f : κ.fz C G H a xs) (r : RepL C G H items xs) (f' : κ'.fz C G H b ys) (r' : RepL C G H m ys) : ItOk C (ItZ κ κ' K a b) G H (zipL items m) := by
  subst hK
  have look : ∀ {i : Nat} {p : PV}, (zipL items m)[i]? = some p → ∃ u v, items[i]? = some u ∧ m[i]? = some v ∧ p = .tup [u, v] := fun {i p} e => by
    unfold zipL at e
    rw [List.getElem?_map, Option.map_eq_some_iff] at e
    obtain ⟨c, h, rfl⟩ := e
    rw [List.getElem?_zip_eq_some] at h
    exact ⟨c.1, c.2, h.1, h.2, rfl⟩
  have len : (zipL items m).length = min xs.length ys.length := by unfold zipL; rw [List.length_map, List.length_zip, r.length, r'.length]
  refine ⟨fun G' H' i p s e => ?_, fun G' H' i p x H'' M s e y S => ?_, fun G' H' s => ⟨xs, ys, (kdfz_sq (kdfz_on s f)), (kdfz_sq (kdfz_on s f')), by rw [len]; omega, by rw [len]; omega, by rw [len]; omega⟩⟩
  · obtain ⟨u, v, h1, h2, _⟩ := look e
    obtain ⟨x, k, _⟩ := r.get h1
    obtain ⟨y, k', _⟩ := r'.get h2
    exact ⟨xs, ys, x, y, (kdfz_sq (kdfz_on s f)), (kdfz_sq (kdfz_on s f')), k, k'⟩
  · obtain ⟨T, z, z', rfl, hn, rfl, hz, hz'⟩ := y
    obtain ⟨u, v, h1, h2, rfl⟩ := look e
    exact pair_new S hn ((r.on s).at_ h1 (hz xs (kdfz_sq (kdfz_on s f)))) ((r'.on s).at_ h2 (hz' ys (kdfz_sq (kdfz_on s f'))))
end
def relI (C : Cfg) : Gh → Hp → List PV → L2.It → Prop := fun G H items J => ItOk C J G H items
def tI (C : Cfg) (f : PEnv → Sto → Res (List PV)) (W : WX) : TI := fun σ H R => ∃ G ρ M, SRep C G H M ∧ ERep C G H ρ σ ∧ Srv C (relI C) (fun c d => W c d σ) G H (f ρ M) R
section
variable {X : Cx} {C : Cfg} {W : WX} {tg e e2 : Expr} {f g : PEnv → Sto → Res PV} {pos : Pos}
theorem pi_seqP (hK : C.K = X.K) (he : PE X e (tE C f W)) : PI X tg e (tI C (fun ρ M => (f ρ M).bnd fun v M1 => ofO (itemsOf M1 v) M1) W) :=
  PI.weak (pi_val he) fun σ H R ⟨G, ρ, M, S, ER, F⟩ => ⟨G, ρ, M, S, ER, (Srv.split F).mono fun x H1 ⟨G1, v, M1, s1, S1, r1, F1⟩ => by
    obtain ⟨l, h, F1⟩ := Srv.ofO F1
    cases v with
    | tup l' =>
      cases h
      obtain ⟨a, xs, rfl, f, r⟩ := Rep.tup_iff.mp r1
      exact .inr (.inl ⟨a, xs, rfl, by rw [← hK]; exact f.sq, F1.ok_now S1 (it_t hK f r)⟩)
    | lst l' =>
      cases h
      obtain ⟨a, xs, rfl, f, r⟩ := Rep.lst_iff.mp r1
      exact .inl ⟨a, xs, rfl, by rw [← hK]; exact f.sq, F1.ok_now S1 (it_l hK f r)⟩
    | str z =>
      cases h
      obtain ⟨rfl, f⟩ := Rep.str_iff.mp r1
      exact .inr (.inr ⟨z, rfl, F1.ok_now S1 (it_s f)⟩)
    | _ => cases h⟩
/-- the items of what stands for good -/
theorem kd_of {v : PV} {l : List PV} {x : V} {G : Gh} {H : Hp} (h : kdOf v = some l) (r : Rep C G H v x) : ∃ (κ : Kd) (a : Addr) (xs : List V), x = .ref a ∧ κ.fz C G H a xs ∧ RepL C G H l xs := by
  cases v with
  | tup l' =>
    cases h
    obtain ⟨a, xs, e, f, r⟩ := Rep.tup_iff.mp r
    exact ⟨.t, a, xs, e, f, r⟩
  | lst l' =>
    cases h
    obtain ⟨a, xs, e, f, r⟩ := Rep.lst_iff.mp r
    exact ⟨.l, a, xs, e, f, r⟩
  | _ => cases h
theorem evIt_range (l : List PV) (M : Sto) : evIt "range" l M = match l with
    | [.int j] => if -(2 ^ 62) ≤ j ∧ j < 2 ^ 62 then .ok (rngL 0 j.toNat) M else .no
    | [.int i, .int j] => if -(2 ^ 62) ≤ i ∧ i < 2 ^ 62 ∧ -(2 ^ 62) ≤ j ∧ j < 2 ^ 62 then .ok (rngL i (j - i).toNat) M else .no
    | _ => .no := by unfold evIt; rw [if_pos rfl]; try rfl
theorem evIt_enum (l : List PV) (M : Sto) : evIt "enumerate" l M = match l with
    | [v] => ofO ((kdOf v).map enumL) M
    | _ => .no := by unfold evIt; rw [if_neg (by decide +kernel), if_pos rfl]; try rfl
theorem evIt_zip (l : List PV) (M : Sto) : evIt "zip" l M = match l with
    | [v, w] => ofO ((kdOf v).bind fun l => (kdOf w).map fun m => zipL l m) M
    | _ => .no := by unfold evIt; rw [if_neg (by decide +kernel), if_neg (by decide +kernel), if_pos rfl]; try rfl
theorem pi_rngP {p : Pos} {ga : PEnv → Sto → Res (List PV)} (hg : Gl X "range") (hm : X.mg "range" = none) (hs : isStar e = false) (ha : PA X [e] (tA C ga W)) :
    PI X tg (.Call (.Name "range" p) [e] [] pos) (tI C (fun ρ M => (ga ρ M).bnd fun l M1 => match l with
      | [v] => evIt "range" [v] M1
      | _ => .no) W) :=
  PI.weak (pi_range1 hg hm ha (starEach_plain hs)) fun σ H R ⟨G, ρ, M, S, ER, F⟩ => ⟨G, ρ, M, S, ER, (Srv.split F).mono fun xs H1 ⟨G1, l, M1, s1, S1, r1, F1⟩ => by
    split at F1
    · rw [evIt_range] at F1
      obtain ⟨x, rfl, rx⟩ := r1.one_inv
      split at F1
      · rename_i heq
        cases heq
        split at F1
        · rename_i hj
          exact ⟨_, by rw [rv_int rx], hj.1, hj.2, F1.ok_now S1 it_r⟩
        · exact F1.elim
      · rename_i heq
        cases heq
      · exact F1.elim
    · exact F1.elim⟩
theorem pi_rng2P {p : Pos} {ga : PEnv → Sto → Res (List PV)} (hg : Gl X "range") (hm : X.mg "range" = none) (hs : isStar e = false) (hs2 : isStar e2 = false) (ha : PA X [e, e2] (tA C ga W)) :
    PI X tg (.Call (.Name "range" p) [e, e2] [] pos) (tI C (fun ρ M => (ga ρ M).bnd fun l M1 => match l with
      | [v, w] => evIt "range" [v, w] M1
      | _ => .no) W) :=
  PI.weak (pi_range2 hg hm ha (by rw [starEach_plain hs, starEach_plain hs2]; rfl) (by rw [starEach_plain hs2]; rfl)) fun σ H R ⟨G, ρ, M, S, ER, F⟩ => ⟨G, ρ, M, S, ER, (Srv.split F).mono fun xs H1 ⟨G1, l, M1, s1, S1, r1, F1⟩ => by
    split at F1
    · rw [evIt_range] at F1
      obtain ⟨x, y, rfl, rx, ry⟩ := r1.two_inv
      split at F1
      · rename_i heq
        cases heq
      · rename_i heq
        cases heq
        split at F1
        · rename_i hj
          exact ⟨_, _, by rw [rv_int rx, rv_int ry], hj, F1.ok_now S1 it_r⟩
        · exact F1.elim
      · exact F1.elim
    · exact F1.elim⟩
theorem pi_enmP {p tpos : Pos} {elts : List Expr} {kk : Nat} {ga : PEnv → Sto → Res (List PV)} (hK : C.K = X.K) (hg : Gl X "enumerate") (hm : X.mg "enumerate" = none) (hs : isStar e = false) (ha : PA X [e] (tA C ga W)) :
    PI X (.Tuple elts kk tpos) (.Call (.Name "enumerate" p) [e] [] pos) (tI C (fun ρ M => (ga ρ M).bnd fun l M1 => evIt "enumerate" l M1) W) :=
  PI.weak (pi_enumK hg hm ha (starEach_plain hs)) fun σ H R ⟨G, ρ, M, S, ER, F⟩ => ⟨G, ρ, M, S, ER, (Srv.split F).mono fun xs H1 ⟨G1, l, M1, s1, S1, r1, F1⟩ => by
    rw [evIt_enum] at F1
    split at F1
    · obtain ⟨x, rfl, rx⟩ := r1.one_inv
      obtain ⟨l, h, F1⟩ := Srv.ofO F1
      rw [Option.map_eq_some_iff] at h
      obtain ⟨l, h, rfl⟩ := h
      obtain ⟨κ, a, ys, rfl, f, r⟩ := kd_of h rx
      exact ⟨κ, a, ys, rfl, by rw [← hK]; exact kdfz_sq f, F1.ok_now S1 (it_e hK f r)⟩
    · exact F1.elim⟩
theorem pi_zipP {p tpos : Pos} {elts : List Expr} {kk : Nat} {ga : PEnv → Sto → Res (List PV)} (hK : C.K = X.K) (hg : Gl X "zip") (hm : X.mg "zip" = none) (hs : isStar e = false) (hs2 : isStar e2 = false) (ha : PA X [e, e2] (tA C ga W)) :
    PI X (.Tuple elts kk tpos) (.Call (.Name "zip" p) [e, e2] [] pos) (tI C (fun ρ M => (ga ρ M).bnd fun l M1 => evIt "zip" l M1) W) :=
  PI.weak (pi_zipK hg hm ha (starEach_plain hs) (no_star (by simp [hs2]))) fun σ H R ⟨G, ρ, M, S, ER, F⟩ => ⟨G, ρ, M, S, ER, (Srv.split F).mono fun xs H1 ⟨G1, l, M1, s1, S1, r1, F1⟩ => by
    rw [evIt_zip] at F1
    split at F1
    · obtain ⟨x, y, rfl, rx, ry⟩ := r1.two_inv
      obtain ⟨l, h, F1⟩ := Srv.ofO F1
      rw [Option.bind_eq_some_iff] at h
      obtain ⟨l, h, h2⟩ := h
      rw [Option.map_eq_some_iff] at h2
      obtain ⟨m, h2, rfl⟩ := h2
      obtain ⟨κ, a, ys, rfl, f, r⟩ := kd_of h rx
      obtain ⟨κ', b, zs, rfl, f', r'⟩ := kd_of h2 ry
      exact ⟨κ, κ', a, b, ys, zs, rfl, by rw [← hK]; exact kdfz_sq f, by rw [← hK]; exact kdfz_sq f', F1.ok_now S1 (it_z hK f r f' r')⟩
    · exact F1.elim⟩
end
end Sk

/-! SkH: statements. -/
namespace Sk
open PySem PySem.Spec PyProof.Rows PySem.W L2

def SrvS (C : Cfg) (W : WX) (D : Ends) (G : Gh) (H : Hp) (r : SRes) : Prop :=
  match r with
  | .ok .nx ρ M => ∀ G' H' σ', Stp G H G' H' → SRep C G' H' M → ERep C G' H' ρ σ' → D.nx σ' H'
  | .ok (.rt v) _ M => ∀ G' H' x, Stp G H G' H' → SRep C G' H' M → Rep C G' H' v x → D.rt x H'
  | .ok .bk ρ M => ∀ G' H' σ', Stp G H G' H' → SRep C G' H' M → ERep C G' H' ρ σ' → D.bk σ' H'
  | .ok .ct ρ M => ∀ G' H' σ', Stp G H G' H' → SRep C G' H' M → ERep C G' H' ρ σ' → D.ct σ' H'
  | .ex e ρ M => ∀ G' H' σ' c d, Stp G H G' H' → SRep C G' H' M → ERep C G' H' ρ σ' → XOk C G' H' e c d → W c d σ' H'
  | .no => False
def tS (C : Cfg) (f : PEnv → Sto → SRes) (W : WX) : TS := fun D σ H => ∃ G ρ M, SRep C G H M ∧ ERep C G H ρ σ ∧ SrvS C W D G H (f ρ M)
section
variable {C : Cfg} {W : WX} {D : Ends} {G G' : Gh} {H H' : Hp} {M : Sto} {ρ : PEnv} {σ : L2.St}
theorem SrvS.on {r : SRes} (s : Stp G H G' H') (h : SrvS C W D G H r) : SrvS C W D G' H' r := by
  cases r with
  | ok f ρ M =>
    cases f with
    | rt v => exact fun G2 H2 x s2 => h G2 H2 x (s.trans s2)
    | _ => exact fun G2 H2 x s2 => h G2 H2 x (s.trans s2)
  | ex e ρ M => exact fun G2 H2 x c d s2 => h G2 H2 x c d (s.trans s2)
  | no => exact h
/-- a value first -/
theorem SrvS.sb {α β : Type} {rel : Gh → Hp → α → β → Prop} {r : Res α} {k : α → Sto → SRes} (ER : ERep C G H ρ σ) (h : SrvS C W D G H (r.sb ρ k)) :
    Srv C rel (fun c d => W c d σ) G H r (fun x H1 => ∃ G1 v M1, Stp G H G1 H1 ∧ SRep C G1 H1 M1 ∧ rel G1 H1 v x ∧ SrvS C W D G1 H1 (k v M1)) := by
  cases r with
  | ok v M => exact fun G1 H1 x s S r => ⟨G1, v, M, s, S, r, SrvS.on s h⟩
  | ex e M => exact fun G1 H1 c d s S x => h G1 H1 σ c d s S (ER.on s.toStq) x
  | no => exact h
theorem SrvS.nx_now {σ' : L2.St} (h : SrvS C W D G H (.ok .nx ρ M)) (S : SRep C G H M) (ER : ERep C G H ρ σ') : D.nx σ' H := h G H σ' (.refl G H) S ER
/-- then the rest -/
theorem SrvS.seq {r : SRes} {k : PEnv → Sto → SRes} (h : SrvS C W D G H (r.seq k)) : SrvS C W { D with nx := tS C k W D } G H r := by
  cases r with
  | ok f ρ M =>
    cases f with
    | nx => exact fun G1 H1 σ1 s S ER => ⟨G1, ρ, M, S, ER, SrvS.on s h⟩
    | rt v => exact h
    | bk => exact h
    | ct => exact h
  | ex e ρ M => exact h
  | no => exact h
/-- a loop's turn: next and continue alike -/
theorem SrvS.turn {r : SRes} {N : L2.St → Hp → Prop} {k : PEnv → Sto → SRes}
    (h : SrvS C W D G H (match r with
      | .ok .nx ρ1 M1 => k ρ1 M1
      | .ok .ct ρ1 M1 => k ρ1 M1
      | .ok .bk ρ1 M1 => .ok .nx ρ1 M1
      | r => r)) (hN : ∀ G1 H1 σ1 ρ1 M1, Stp G H G1 H1 → SRep C G1 H1 M1 → ERep C G1 H1 ρ1 σ1 → SrvS C W D G1 H1 (k ρ1 M1) → N σ1 H1) : SrvS C W { D with nx := N, ct := N, bk := D.nx } G H r := by
  cases r with
  | ok f ρ M =>
    cases f with
    | nx => exact fun G1 H1 σ1 s S ER => hN G1 H1 σ1 ρ M s S ER (SrvS.on s h)
    | rt v => exact h
    | bk => exact h
    | ct => exact fun G1 H1 σ1 s S ER => hN G1 H1 σ1 ρ M s S ER (SrvS.on s h)
  | ex e ρ M => exact h
  | no => exact h
end

/-! ### no comprehension is stored, no pair is unpacked here -/
def isComp : Expr → Bool
  | .ListComp _ _ _ _ => true
  | .SetComp _ _ _ _ => true
  | .DictComp _ _ _ _ _ => true
  | _ => false
def isSlice : Expr → Bool
  | .Slice _ _ _ _ => true
  | _ => false
def isTupE : Expr → Bool
  | .Tuple _ _ _ => true
  | _ => false
theorem sw_plain {e : Expr} {t : Option Expr} {l : Nat} {env : Env} (h : isComp e = false) : swapsWith e t l env = pure false := by
  cases e <;> first | rfl | cases h
theorem sws_plain {e t : Expr} {l : Nat} {env : Env} (h : isComp e = false) : swapsWithSole [t] e l env = pure false := sw_plain h
theorem sto_plain {e t : Expr} {env : Env} (h : isTupE e = false) : swappedStores [t] e env = pure none := by
  cases e <;> first | (cases h; done) | (cases t <;> rfl)
section
variable {X : Cx} {C : Cfg} {W : WX} {e : Expr} {f : PEnv → Sto → Res PV} {pos : Pos}
theorem ps_asgP {i : Nat} {x : Str} {pos' : Pos} (hN : X.N.Nodup) (hi : X.N[i]? = some x) (hx : Loc X.env.scope x) (hf : X.fn x = true ∨ X.env.scope.names.lookup x = some .local) (hs : isComp e = false) (he : PE X e (tE C f W)) :
    PS X (.Assign [.Name x pos'] e pos) (tS C (fun ρ M => (f ρ M).sb ρ fun v M1 => .ok .nx (ρ.set i (some v)) M1) W) :=
  PS.weak (ps_set hN hi hx he (sw_plain hs) hf) fun D σ H ⟨G, ρ, M, S, ER, F⟩ => ⟨G, ρ, M, S, ER, (SrvS.sb ER F).mono fun x H1 ⟨G1, v, M1, s1, S1, r1, F1⟩ => F1.nx_now S1 ((ER.on s1.toStq).set r1)⟩
theorem ps_asgTP {tg : Expr} {vs : List Nat} {t : Tgs} (hg : PG X tg (tG C vs (bindG (.tp t)))) (htg : isStar tg = false) (hs : isComp e = false) (ht : swappedStores [tg] e X.env = pure none) (he : PE X e (tE C f W)) :
    PS X (.Assign [tg] e pos) (tS C (fun ρ M => (f ρ M).sb ρ fun v M1 => match bindG (.tp t) v ρ with
      | some ρ1 => .ok .nx ρ1 M1
      | none => .no) W) :=
  PS.weak (ps_asg he hg (sws_plain hs) ht (each_plain htg)) fun D σ H ⟨G, ρ, M, S, ER, F⟩ => ⟨G, ρ, M, S, ER, (SrvS.sb ER F).mono fun x H1 ⟨G1, v, M1, s1, S1, r1, F1⟩ => by
    cases hb : bindG (.tp t) v ρ with
    | none => simp only [hb] at F1; exact F1.elim
    | some ρ1 =>
      simp only [hb] at F1
      exact ⟨G1, ρ, v, ρ1, ER.on s1.toStq, r1, hb, fun σ' ER' _ _ => F1.nx_now S1 ER'⟩⟩
theorem ps_expP (hs : isComp e = false) (he : PE X e (tE C f W)) : PS X (.Expr e pos) (tS C (fun ρ M => (f ρ M).sb ρ fun _ M1 => .ok .nx ρ M1) W) :=
  PS.weak (ps_expr he (sw_plain hs)) fun D σ H ⟨G, ρ, M, S, ER, F⟩ => ⟨G, ρ, M, S, ER, (SrvS.sb ER F).mono fun x H1 ⟨G1, v, M1, s1, S1, r1, F1⟩ => F1.nx_now S1 (ER.on s1.toStq)⟩
theorem ps_retP (he : PE X e (tE C f W)) : PS X (.Return (some e) pos) (tS C (fun ρ M => (f ρ M).sb ρ fun v M1 => .ok (.rt v) ρ M1) W) :=
  PS.weak (ps_ret he) fun D σ H ⟨G, ρ, M, S, ER, F⟩ => ⟨G, ρ, M, S, ER, (SrvS.sb ER F).mono fun x H1 ⟨G1, v, M1, s1, S1, r1, F1⟩ => F1 G1 H1 x (.refl _ _) S1 r1⟩
theorem ps_retNP : PS X (.Return none pos) (tS C (fun ρ M => .ok (.rt .non) ρ M) W) :=
  PS.weak ps_retN fun D σ H ⟨G, ρ, M, S, ER, F⟩ => F G H .non (.refl _ _) S (Rep.non_iff.mpr rfl)
theorem ps_pasP : PS X (.Pass pos) (tS C (fun ρ M => .ok .nx ρ M) W) := PS.weak ps_pass fun D σ H ⟨G, ρ, M, S, ER, F⟩ => F.nx_now S ER
theorem ps_docP {x j pos'} : PS X (.Expr (.Constant (.str x) j pos) pos') (tS C (fun ρ M => .ok .nx ρ M) W) := PS.weak ps_doc fun D σ H ⟨G, ρ, M, S, ER, F⟩ => F.nx_now S ER
theorem ps_brkP : PS X (.Break pos) (tS C (fun ρ M => .ok .bk ρ M) W) := PS.weak ps_break fun D σ H ⟨G, ρ, M, S, ER, F⟩ => F G H σ (.refl _ _) S ER
theorem ps_cntP : PS X (.Continue pos) (tS C (fun ρ M => .ok .ct ρ M) W) := PS.weak ps_continue fun D σ H ⟨G, ρ, M, S, ER, F⟩ => F G H σ (.refl _ _) S ER
theorem ps_ifP {a b : List Stmt} {fc : PEnv → Sto → Res Bool} {fa fb : PEnv → Sto → SRes} (hc : PT X e (tT C fc W)) (ha : PSs X a (tS C fa W)) (hb : PSs X b (tS C fb W)) :
    PS X (.If e a b pos) (tS C (fun ρ M => (fc ρ M).sb ρ fun k M1 => if k then fa ρ M1 else fb ρ M1) W) :=
  PS.weak (ps_if hc ha hb) fun D σ H ⟨G, ρ, M, S, ER, F⟩ => ⟨G, ρ, M, S, ER, (SrvS.sb ER F).mono fun x H1 ⟨G1, v, M1, s1, S1, (r1 : v = x), F1⟩ => by
    subst r1
    cases v with
    | true => exact ⟨G1, ρ, M1, S1, ER.on s1.toStq, F1⟩
    | false => exact ⟨G1, ρ, M1, S1, ER.on s1.toStq, F1⟩⟩
theorem pss_nilP : PSs X [] (tS C (fun ρ M => .ok .nx ρ M) W) := PSs.weak pss_nil fun D σ H ⟨G, ρ, M, S, ER, F⟩ => F.nx_now S ER
theorem pss_consP {st : Stmt} {rest : List Stmt} {g h : PEnv → Sto → SRes} (h1 : PS X st (tS C g W)) (h2 : PSs X rest (tS C h W)) : PSs X (st :: rest) (tS C (fun ρ M => (g ρ M).seq fun ρ1 M1 => h ρ1 M1) W) :=
  PSs.weak (pss_cons h1 h2) fun D σ H ⟨G, ρ, M, S, ER, F⟩ => ⟨G, ρ, M, S, ER, SrvS.seq F⟩
/-- while -/
theorem ps_whlP {body : List Stmt} {fc : PEnv → Sto → Res Bool} {fb : PEnv → Sto → SRes} {n : Nat} (hp : PassesOwn (model X.prog X.w) X.A X.env X.xe) (hc : PT X e (tT C fc W)) (hb : PSs X body (tS C fb W)) :
    PS X (.While e body [] pos) (tS C (fun ρ M => whileL fc fb n ρ M) W) :=
  PS.weak (ps_while hp hc hb) fun D σ H ⟨G, ρ, M, S, ER, F⟩ => by
    refine ⟨fun m σ H => ∃ G ρ M, SRep C G H M ∧ ERep C G H ρ σ ∧ SrvS C W D G H (whileL fc fb m ρ M), ⟨n, G, ρ, M, S, ER, F⟩, ?_⟩
    rintro m σ H ⟨G, ρ, M, S, ER, F⟩
    cases m with
    | zero => exact F.elim
    | succ m =>
      have F : SrvS C W D G H ((fc ρ M).sb ρ fun k M1 => if k then (match fb ρ M1 with
        | .ok .nx ρ1 M1 => whileL fc fb m ρ1 M1
        | .ok .ct ρ1 M1 => whileL fc fb m ρ1 M1
        | .ok .bk ρ1 M1 => .ok .nx ρ1 M1
        | r => r) else .ok .nx ρ M1) := F
      refine ⟨G, ρ, M, S, ER, (SrvS.sb ER F).mono fun x H1 ⟨G1, v, M1, s1, S1, (r1 : v = x), F1⟩ => ?_⟩
      subst r1
      cases v with
      | false =>
        rw [if_neg (by decide)] at F1 ⊢
        exact F1.nx_now S1 (ER.on s1.toStq)
      | true =>
        rw [if_pos rfl] at F1 ⊢
        refine ⟨fun σ' H' => ∃ G ρ M, SRep C G H' M ∧ ERep C G H' ρ σ' ∧ SrvS C W D G H' (whileL fc fb m ρ M), fun σ' H' h => ⟨m, Nat.lt_succ_self _, h⟩, G1, ρ, M1, S1, ER.on s1.toStq, SrvS.turn F1 fun G2 H2 σ2 ρ2 M2 s2 S2 ER2 F2 => ⟨G2, ρ2, M2, S2, ER2, F2⟩⟩
/-- for -/
theorem ps_forP {tg iter : Expr} {body : List Stmt} {fi : PEnv → Sto → Res (List PV)} {b : PV → PEnv → Option PEnv} {vs : List Nat} {fb : PEnv → Sto → SRes} (hp : PassesOwn (model X.prog X.w) X.A X.env X.xe) (hc : X.calm = true) (hi : PI X tg iter (tI C fi W)) (hg : PG X tg (tG C vs b)) (hb : PSs X body (tS C fb W))
    (hs : ∀ x, foldedSetIterable iter X.env x = pure x) :
    PS X (.For tg iter body [] pos) (tS C (fun ρ M => (fi ρ M).sb ρ fun items M1 => forL (fun x ρ M => match b x ρ with
      | some ρ1 => fb ρ1 M
      | none => .no) items ρ M1) W) :=
  PS.weak (ps_for hp hc hi hg hb hs) fun D σ H ⟨G, ρ, M, S, ER, F⟩ => ⟨G, ρ, M, S, ER, (SrvS.sb ER F).mono fun J H1 ⟨G1, items, M1, s1, S1, r1, F1⟩ => by
    generalize hF : (fun x ρ M => match b x ρ with
      | some ρ1 => fb ρ1 M
      | none => SRes.no) = step at F1
    refine ⟨fun i m σ H => m = items.length - i ∧ i ≤ items.length ∧ ∃ G ρ M, SRep C G H M ∧ ERep C G H ρ σ ∧ ItOk C J G H items ∧ SrvS C W D G H (forL step (items.drop i) ρ M), ⟨_, rfl, Nat.zero_le _, G1, ρ, M1, S1, ER.on s1.toStq, r1, F1⟩, ?_⟩
    rintro i m σ H ⟨rfl, hi, G, ρ, M, S, ER, it, F⟩
    by_cases hlt : i < items.length
    · have hd : items.drop i = items[i] :: items.drop (i + 1) := List.drop_eq_getElem_cons hlt
      have hx : items[i]? = some items[i] := List.getElem?_eq_getElem hlt
      rw [hd] at F
      refine .inr ⟨it.go G H i _ (.refl _ _) hx, fun σ' H' => i + 1 ≤ items.length ∧ ∃ G ρ M, SRep C G H' M ∧ ERep C G H' ρ σ' ∧ ItOk C J G H' items ∧ SrvS C W D G H' (forL step (items.drop (i + 1)) ρ M), fun σ' H' ⟨h1, h2⟩ => ⟨_, by omega, rfl, h1, h2⟩, fun x H' y => ?_⟩
      obtain ⟨G2, s2, S2, r2⟩ := it.yl G H i _ x H' M (.refl _ _) hx y S
      have F : SrvS C W D G H (match step items[i] ρ M with
        | .ok .nx ρ1 M1 => forL step (items.drop (i + 1)) ρ1 M1
        | .ok .ct ρ1 M1 => forL step (items.drop (i + 1)) ρ1 M1
        | .ok .bk ρ1 M1 => .ok .nx ρ1 M1
        | r => r) := F
      cases hb : b items[i] ρ with
      | none =>
        have e : step items[i] ρ M = .no := by rw [← hF]; simp only [hb]
        rw [e] at F
        exact F.elim
      | some ρ1 =>
        have e : step items[i] ρ M = fb ρ1 M := by rw [← hF]; simp only [hb]
        rw [e] at F
        refine ⟨G2, ρ, _, ρ1, ER.on s2.toStq, r2, hb, fun σ' ER' _ _ => ⟨G2, ρ1, M, S2, ER', SrvS.turn (SrvS.on s2 F) fun G3 H3 σ3 ρ3 M3 s3 S3 ER3 F3 => ⟨hlt, G3, ρ3, M3, S3, ER3, (it.on s2.toStq).on s3.toStq, F3⟩⟩⟩
    · have e : i = items.length := by omega
      subst e
      rw [List.drop_length] at F
      have F : SrvS C W D G H (.ok .nx ρ M) := F
      exact .inl ⟨it.st G H (.refl _ _), F.nx_now S ER⟩⟩
/-- a list's place, or a dict's key -/
def rSetP : V → V → V → Hp → (Hp → Prop) → Prop := fun o i v H Q => rSetL o i v H Q ∨ ∃ a H4, o = .ref a ∧ DPut H a i v H4 ∧ Q H4
theorem set_P (hu : X.A.units + 1 < cLine) : PSet X rSetP := by
  rintro pins s σ H o i v ov iv u Q I ro ri rv (h | ⟨a, H4, rfl, g, q⟩)
  · exact set_list pins s σ H o i v ov iv u Q I ro ri rv h
  · obtain rfl : ov = Value.ref a := ro
    exact d_setItem hu I g ri rv fun s1 I1 => ⟨H4, I1, q⟩
/-- o[i] = v -/
theorem ps_subP {o i : Expr} {fo fi : PEnv → Sto → Res PV} {spos : Pos} (hu : X.A.units + 1 < cLine) (hsl : isSlice i = false) (hs : isComp e = false) (ho : PE X o (tE C fo W)) (hi : PE X i (tE C fi W)) (he : PE X e (tE C f W)) :
    PS X (.Assign [.Subscript o i spos] e pos) (tS C (fun ρ M => (f ρ M).sb ρ fun x M1 => (fo ρ M1).sb ρ fun y M2 => (fi ρ M2).sb ρ fun z M3 => match subop y z x M3 with
      | some M4 => .ok .nx ρ M4
      | none => .no) W) :=
  PS.weak (ps_asg he (pg_sub ho hi (set_P hu) (fun v => by cases i <;> first | rfl | cases hsl)) (sws_plain hs) (by cases e <;> rfl)) fun D σ H ⟨G, ρ, M, S, ER, F⟩ => ⟨G, ρ, M, S, ER, (SrvS.sb ER F).mono fun x H1 ⟨G1, v, M1, s1, S1, r1, F1⟩ =>
    ⟨G1, ρ, M1, S1, ER.on s1.toStq, (SrvS.sb (ER.on s1.toStq) F1).mono fun y H2 ⟨G2, u, M2, s2, S2, r2, F2⟩ => ⟨G2, ρ, M2, S2, (ER.on s1.toStq).on s2.toStq, (SrvS.sb ((ER.on s1.toStq).on s2.toStq) F2).mono fun z H3 ⟨G3, t, M3, s3, S3, r3, F3⟩ => by
      cases hb : subop u t v M3 with
      | none => simp only [hb] at F3; exact F3.elim
      | some M4 =>
        simp only [hb] at F3
        unfold subop at hb
        cases u with
        | loc n =>
         cases t with
         | int j =>
          dsimp only at hb
          split at hb
          · rename_i xs hl
            rw [Option.map_eq_some_iff] at hb
            obtain ⟨k, hk, rfl⟩ := hb
            obtain ⟨a, rfl, hm⟩ := Rep.loc_iff.mp (r2.on s3.toStq)
            obtain ⟨hM, ys, hy, ry⟩ := loc_at S3 hl hm
            have rv := (r1.on s2.toStq).on s3.toStq
            obtain ⟨s4, S4⟩ := S3.write (m' := .lst (xs.set k v)) (o := .lst (ys.set k x)) hM hm fun s => ⟨_, upd_same, (ry.set k rv).on s.toStq⟩
            exact .inl ⟨a, ys, j, k, rfl, rv_int r3, hy, by rw [← ry.length]; exact hk, (SrvS.on s4 F3).nx_now S4 ((((ER.on s1.toStq).on s2.toStq).on s3.toStq).on s4.toStq)⟩
          · cases hb
         | str k =>
          dsimp only at hb
          split at hb
          · rename_i ks l hM
            split at hb
            · rename_i hlt
              cases hb
              obtain ⟨a, rfl, hm⟩ := Rep.loc_iff.mp (r2.on s3.toStq)
              obtain ⟨b, e1, xs, hy, hf, rl⟩ := S3.here n _ hM
              rw [hm] at e1
              cases e1
              have rv := (r1.on s2.toStq).on s3.toStq
              obtain ⟨ek, fk⟩ := Rep.str_iff.mp r3
              have rk := (RK.of (ks := ks) rl).put (k := .inr k) rv
              have hfk : KsFine (ks.zip l) := fun j hj => hf.2 j (by
                rw [List.map_fst_zip (Nat.le_of_eq hf.1)] at hj
                exact hj)
              obtain ⟨e, rl2⟩ := rk.to
              obtain ⟨s4, S4⟩ := S3.write (m' := .dct ((pK (ks.zip l) (.inr k) v).map (·.1)) ((pK (ks.zip l) (.inr k) v).map (·.2))) (o := .dK (putK (ks.zip xs) (.inr k) x)) hM hm fun s =>
                ⟨(putK (ks.zip xs) (.inr k) x).map (·.2), by rw [e, zip_pairs]; exact upd_same, ⟨by rw [List.length_map, List.length_map], fun j hj => hfk.put (k := .inr k) fk j hj⟩, rl2.on s.toStq⟩
              exact .inr ⟨a, _, rfl, .inl ⟨ks.zip xs, .inr k, hy, ek, by rw [← (RK.of (ks := ks) rl).length]; exact hlt, rfl⟩, (SrvS.on s4 F3).nx_now S4 ((((ER.on s1.toStq).on s2.toStq).on s3.toStq).on s4.toStq)⟩
            · cases hb
          · cases hb
         | _ => cases hb
        | _ => cases hb⟩⟩⟩
/-- ghost: what stands at name i changes no more -/
theorem pss_frz {rest : List Stmt} {i : Nat} {h : PEnv → Sto → SRes} (h2 : PSs X rest (tS C h W)) : PSs X rest (tS C (fun ρ M => (match ρ[i]? with
    | some (some (.loc n)) => (match locL M n with
      | some l => SRes.ok .nx (ρ.set i (some (.lst l))) (M.set n none)
      | none => .no)
    | _ => .no).seq fun ρ1 M1 => h ρ1 M1) W) :=
  PSs.weak h2 fun D σ H ⟨G, ρ, M, S, ER, F⟩ => by
    dsimp only at F
    split at F
    · rename_i n e
      split at F
      · rename_i l hl
        obtain ⟨v, e2, r⟩ := ER.2 i _ e
        obtain ⟨a, rfl, hm⟩ := Rep.loc_iff.mp r
        obtain ⟨hM, ys, hy, ry⟩ := loc_at S hl hm
        obtain ⟨s, S'⟩ := S.freeze hM hm
        have ER' := (ER.on s.toStq).set (i := i) (p := .lst l) (v := .ref a) (Rep.lst_iff.mpr ⟨a, ys, rfl, .inl ⟨.inr rfl, .inl hy⟩, ry.on s.toStq⟩)
        have hset : σ.set i (some (.ref a)) = σ := by
          refine List.ext_getElem? fun j => ?_
          by_cases hj : i = j
          · subst hj
            rw [e2, List.getElem?_set_self (List.getElem?_eq_some_iff.mp e2).1]
          · rw [List.getElem?_set_ne hj]
        rw [hset] at ER'
        exact ⟨_, _, _, S', ER', SrvS.on s F⟩
      · exact F.elim
    · exact F.elim
end
end Sk

/-! SkSr: w, *ps = a tuple. -/
namespace Sk
open PySem PySem.Spec PyProof.Rows L2

section
variable {prog : Program} {w : World} {A : Around} {E : Value → Shared → Prop}
theorem walks_shift {I : Addr} {fp wr : List Addr} {n : Nat} {P : Nat → Value → Prop} {St : Nat → Heap → Prop} (W : Walks prog w A I fp wr n P St) (k : Nat) (hk : k ≤ n) :
    Walks prog w A I fp wr (n - k) (fun i v => P (k + i) v) (fun i h => St (k + i) h) where
  sub := W.sub
  frame := fun i h h' st hh => W.frame _ h h' st hh
  item := fun i s Q E hi st hQ => W.item (k + i) s Q E (by omega) st hQ
  done := fun s Q E st hQ => W.done s Q E (by rw [show k + (n - k) = n from by omega] at st; exact st) hQ
  self := fun i s Q E st hQ => W.self (k + i) s Q E st hQ
theorem unpack_star1 {s : Shared} {t : Addr} {items : Array Value} {Q : List Value → Shared → Prop} (hh : A.handled = none) (ht : IsTup s.heap t items) (h1 : 1 ≤ items.size) (hz : items.size ≤ sizeLine)
    (hQ : ∀ (h' : Heap) (tk : Nat), (∀ b o, s.heap.get? b = some o → h'.get? b = some o) → Q [items[0], .ref h'.objs.size] { s with heap := h'.push { cls := .type "list", data := .seq (items.toList.drop 1).toArray }, toks := tk }) :
    wpAny (model prog w) A (unpackItems (.ref t) 2 (some 1)) Q E s := by
  have hlt : t ≠ s.heap.objs.size := by obtain ⟨o, ho, _⟩ := ht; exact Nat.ne_of_lt (Heap.lt_size ho)
  unfold unpackItems
  refine wpAny_bind ?_
  unfold notIterableAtAll
  refine wpAny_bind (wpAny_specialOf ht.typeIs slot_tuple_iter.lookup ?_)
  refine wpAny_pure ?_
  simp only [Bool.false_eq_true, if_false]
  refine wpAny_bind (wpAny_holding (iter_tuple ht ?_))
  refine wpAny_bind (wpAny_holding (draw_tuple hlt 1 0 _ _ ⟨_, Heap.get?_push_size _ rfl, rfl, rfl⟩ (ht.push _) (by omega) fun h₁ hit₁ hs₁ => ?_))
  have hone : List.take 1 (List.drop 0 items.toList) = [items[0]] := by
    rw [List.drop_zero, List.take_one]
    rw [List.head?_eq_getElem?, Array.getElem?_toList]
    simp [Array.getElem?_eq_getElem (show 0 < items.size by omega)]
  rw [hone]
  rw [if_neg (by simp)]
  have ht₁ : IsTup h₁ t items := (ht.push _).extBut hs₁.extBut hlt
  have hI : s.heap.objs.size < h₁.objs.size := by obtain ⟨o, ho, _⟩ := hit₁; exact Heap.lt_size ho
  have hT : t < h₁.objs.size := by obtain ⟨o, ho, _⟩ := ht₁; exact Heap.lt_size ho
  refine wpAny_bind (wpAny_holding (wpAny_collect_iter (T := "tuple_iterator") (.inr (.inr (.inr rfl))) (walks_shift (Walks.tuple (A := A.in1) (show A.in1.handled = none from hh) s.heap.objs.size t hlt items) 1 h1).toS (fun i s st => st.1.typeIs) ⟨hit₁, ht₁⟩ (fun b hb => ?_) (List.mem_cons_self ..) (fun s' acc hm hacc => ?_) (by omega)))
  · simp only [List.mem_cons, List.not_mem_nil, or_false] at hb
    rcases hb with rfl | rfl
    · exact hI
    · exact hT
  · rw [if_neg (by simp)]
    have he : acc.toList = items.toList.drop 1 := by
      apply List.ext_getElem?
      intro i
      rw [Array.getElem?_toList, List.getElem?_drop, Array.getElem?_toList]
      by_cases hi : i < acc.size
      · have q := hacc.2 i acc[i] (by simp [hi])
        rw [q]; simp [hi]
      · have hs := hacc.1
        have e1 : acc[i]? = none := by simp; omega
        have e2 : items[1 + i]? = none := by simp; omega
        rw [e1, e2]
    rw [he]
    rw [Moved.eq_with hm]
    have e3 : List.take ((List.drop 1 items.toList).length - (2 - 1 - 1)) (List.drop 1 items.toList) = List.drop 1 items.toList := List.take_of_length_le (by simp)
    have e4 : List.drop ((List.drop 1 items.toList).length - (2 - 1 - 1)) (List.drop 1 items.toList) = [] := List.drop_of_length_le (by simp)
    simp only [e3, e4]
    refine wpAny_bind (wpAny_newList ?_ (by rw [List.length_drop, Array.length_toList]; omega))
    refine wpAny_pure ?_
    refine hQ s'.heap s'.toks fun b o hb => ?_
    have hbI : b ≠ s.heap.objs.size := Nat.ne_of_lt (Heap.lt_size hb)
    exact hm.heap b o (by simp [hbI]) (hs₁.extBut b o hbI (Heap.get?_push_of_some _ hb))
end
section
variable {X : Cx} {pos px py sp : Pos}
/-- w, *ps = a tuple -/
def gStar1 (K : PySem.W.Frag) (i j : Nat) : TG := fun v σ H Q => ∃ a x xs, v = .ref a ∧ SqT K H a (x :: xs) ∧ ∀ p, H p = none → Q ((σ.set i (some x)).set j (some (.ref p))) (upd H p (.lst xs))
theorem pg_star1 {x y : Str} {i j k : Nat} (hc : X.calm = true) (gi : PG X (.Name x px) (gName i)) (gj : PG X (.Name y py) (gName j)) : PG X (.Tuple [.Name x px, .Starred (.Name y py) sp] k pos) (gStar1 X.K i j) := by
  refine ⟨fun pins s σ H v u Q I r h => ?_⟩
  obtain ⟨a, z, zs, rfl, hq, h⟩ := h
  cases r
  obtain ⟨its, rv, ht, hz⟩ := I.tuple hq
  cases rv with
  | @cons _ u0 _ us r0 rr =>
    rw [assign_Tuple]
    refine wpAny_bind (wpAny_standAt ?_)
    unfold PySem.unpack
    refine wpAny_bind (wpAny_holding (unpack_star1 (I.ok.hd hc) ht (by simp) (by have := rr.length; simp only [List.length_cons] at hz; simp; omega) fun h' tk hk => ?_))
    have I1 : Inv X pins σ H { s with heap := h', toks := tk } := I.kept (t' := tk) hk
    have hf := I1.fresh
    have I2 := I1.lnew (t' := tk) rr (by simp only [List.length_cons] at hz; have := rr.length; omega)
    refine assignInOrder_cons (thn (gi.run pins _ σ _ z u0 (fun σ1 H1 => σ1 = σ.set i (some z) ∧ H1 = upd H h'.objs.size (.lst zs)) I2 (by simpa using r0) ⟨rfl, rfl⟩) fun _ s1 ⟨σ1, H1, I3, q⟩ => ?_)
    obtain ⟨rfl, rfl⟩ := q
    exact assignInOrder_cons (thn (gj.run pins s1 _ _ (.ref h'.objs.size) (.ref h'.objs.size) Q I3 rfl (h _ hf)) fun _ s2 q => assignInOrder_nil q)
variable {C : Cfg} {W : WX} {e : Expr} {f : PEnv → Sto → Res PV}
theorem ps_asgSP {tg : Expr} {i j : Nat} (hK : C.K = X.K) (hg : PG X tg (gStar1 X.K i j)) (htg : isStar tg = false) (hs : isComp e = false) (ht : swappedStores [tg] e X.env = pure none) (he : PE X e (tE C f W)) :
    PS X (.Assign [tg] e pos) (tS C (fun ρ M => (f ρ M).sb ρ fun v M1 => starP i j v ρ M1) W) :=
  PS.weak (ps_asg he hg (sws_plain hs) ht (each_plain htg)) fun D σ H ⟨G, ρ, M, S, ER, F⟩ => ⟨G, ρ, M, S, ER, (SrvS.sb ER F).mono fun x H1 ⟨G1, v, M1, s1, S1, r1, F1⟩ => by
    unfold starP at F1
    split at F1
    · rename_i p ps
      obtain ⟨a, xs, rfl, hf, hr⟩ := Rep.tup_iff.mp r1
      obtain ⟨y, ys, rfl, hy, hys⟩ := RepL.cons_inv hr
      refine ⟨a, y, ys, rfl, by rw [← hK]; exact hf.sq, fun q hq => ?_⟩
      obtain ⟨s2, S2⟩ := S1.laidFz (o := .lst ys) hq
      refine F1 _ _ _ s2 S2 ?_
      exact (((ER.on s1.toStq).on s2.toStq).set (hy.on s2.toStq)).set (Rep.lst_iff.mpr ⟨q, ys, rfl, .inl ⟨.inr rfl, .inl upd_same⟩, hys.on s2.toStq⟩)
    · exact F1.elim⟩
end
end Sk

/-! SkI: comprehensions, of lists and of sets of names, with any number of clauses. -/
namespace Sk
open PySem PySem.Spec PyProof.Rows PySem.W L2

/-! ### the model's own steps -/
def cmp (k : CK) (elt : Expr) (gs : List Comprehension) (sc : Scope) (pos : Pos) : Expr := match k with
  | .ls _ => .ListComp elt gs sc pos
  | .st => .SetComp elt gs sc pos
def tst (l : List Expr) (env : Env) : Sem Bool :=
  forIn l true fun c r => if r = true then do let ok ← isTrue c env (eval c env); pure (ForInStep.yield ok) else pure (ForInStep.yield r)
/-- a turn, told by its parts -/
def cTurn (g : Comprehension) (body next : Sem Fin) (itv : Value) (env : Env) : Sem Fin :=
  standAt g.iter.pos >>= fun _ => pyNext itv >>= fun r => match r with
    | none => pure (Fin.done .next)
    | some v => letOwnedTupleGo g.target itv v >>= fun _ => assign g.target env v >>= fun _ => tst g.ifs env >>= fun ok =>
        if ok = true then body else next
def emS (k : CK) (elt : Expr) (acc : Value) (env : Env) : Sem Unit := match k with
  | .ls _ => eval elt env >>= fun v => call (.builtin "list.append") [acc, v] >>= fun _ => pure ()
  | .st => eval elt env >>= fun v => standAt elt.pos >>= fun _ => call (.builtin "set.add") [acc, v] >>= fun _ => pure ()
def nextS (e : Expr) (g : Comprehension) (d : Nat) (acc : Value) (env : Env) (next : Sem Fin) : Sem Fin :=
  eval g.iter env >>= fun x => standAt g.iter.pos >>= fun _ => foldedSetIterable g.iter env x >>= fun x => holding [x] (pyIter x) >>= fun it => runOwn (.compStart e d it acc env) env >>= fun _ => next
theorem turn_last {k : CK} {elt tg iter : Expr} {ifs : List Expr} {gs : List Comprehension} {sc : Scope} {pos : Pos} {d : Nat} {itv acc : Value} {env : Env} (h : gs[d]? = some ⟨tg, iter, ifs, 0⟩) (h1 : gs[d + 1]? = none) :
    compTurn (cmp k elt gs sc pos) d itv acc env = cTurn ⟨tg, iter, ifs, 0⟩ (emS k elt acc env >>= fun _ => again (.compLoop (cmp k elt gs sc pos) d itv acc env)) (again (.compLoop (cmp k elt gs sc pos) d itv acc env)) itv env := by
  cases k <;> (unfold cmp compTurn; simp only [h, h1]; rfl)
theorem turn_more {k : CK} {elt tg iter tg' iter' : Expr} {ifs ifs' : List Expr} {gs : List Comprehension} {sc : Scope} {pos : Pos} {d : Nat} {itv acc : Value} {env : Env} (h : gs[d]? = some ⟨tg, iter, ifs, 0⟩) (h1 : gs[d + 1]? = some ⟨tg', iter', ifs', 0⟩) :
    compTurn (cmp k elt gs sc pos) d itv acc env = cTurn ⟨tg, iter, ifs, 0⟩ (nextS (cmp k elt gs sc pos) ⟨tg', iter', ifs', 0⟩ (d + 1) acc env (again (.compLoop (cmp k elt gs sc pos) d itv acc env))) (again (.compLoop (cmp k elt gs sc pos) d itv acc env)) itv env := by
  cases k <;> (unfold cmp compTurn; simp only [h, h1]; rfl)
section
variable {P : Program} {w : World} {A : Around} {R : Result → Shared → Prop} {s : Shared} {env : Env}
abbrev Nope : Value → Shared → Prop := fun _ _ => False
theorem nope {α : Type} {t : Sem α} {Q : α → Shared → Prop} {E : Value → Shared → Prop} (h : wpAny (model P w) A t Q Nope s) : wpAny (model P w) A t Q E s := wpAny_mono h (fun _ _ x => x) fun _ _ z => False.elim z
theorem loop_cl {k : CK} {elt : Expr} {gs : List Comprehension} {sc : Scope} {pos : Pos} {d : Nat} {itv acc : Value} {g : Comprehension} {body : Sem Fin} (ht : compTurn (cmp k elt gs sc pos) d itv acc env = cTurn g body (again (.compLoop (cmp k elt gs sc pos) d itv acc env)) itv env) (I : Nat → Shared → Prop)
    (turn : ∀ n s, I n s → wpAny (model P w) A (pyNext itv) (fun r s1 => match r with
      | none => R (.ok .next) s1
      | some v => wpAny (model P w) A (letOwnedTupleGo g.target itv v) (fun _ s2 => wpAny (model P w) A (assign g.target env v) (fun _ s3 => wpAny (model P w) A (tst g.ifs env) (fun ok s4 =>
          if ok = true then wpAny (model P w) A body (fun fin s5 => fin = Fin.again (.compLoop (cmp k elt gs sc pos) d itv acc env) ∧ ∃ m, m < n ∧ I m s5) Nope s4 else ∃ m, m < n ∧ I m s4) Nope s3) Nope s2) Nope s1) Nope s)
    (n : Nat) (h : I n s) : codeAny (model P w) A (.compLoop (cmp k elt gs sc pos) d itv acc env) R s := by
  refine codeAny_loop (by cases k <;> rfl) I (fun n s hI => ?_) n h
  have hu : A.under (.compLoop (cmp k elt gs sc pos) d itv acc env) = A := by cases k <;> rfl
  have hd : (model P w).den (.compLoop (cmp k elt gs sc pos) d itv acc env) = (compTurn (cmp k elt gs sc pos) d itv acc env).onRaise (fun x => do noteFrame x env; theTreesLotGoes x) := by cases k <;> rfl
  rw [hu, hd]
  refine wpAny_noted ?_
  rw [ht]
  unfold cTurn
  refine wpAny_bind (wpAny_standAt (wpAny_bind (nope (wpAny_mono (turn n s hI) (fun r s1 h1 => ?_) fun _ _ z => z))))
  cases r with
  | none => exact wpAny_pure h1
  | some v =>
    refine wpAny_bind (nope (wpAny_mono h1 (fun _ s2 h2 => ?_) fun _ _ z => z))
    refine wpAny_bind (nope (wpAny_mono h2 (fun _ s3 h3 => ?_) fun _ _ z => z))
    refine wpAny_bind (nope (wpAny_mono h3 (fun ok s4 h4 => ?_) fun _ _ z => z))
    cases ok with
    | false => exact wpAny_pure ⟨rfl, h4⟩
    | true => exact nope (wpAny_mono h4 (fun fin s5 h5 => by rw [h5.1]; exact ⟨rfl, h5.2⟩) fun _ _ z => z)
theorem start_cl {k : CK} {elt tg iter : Expr} {ifs : List Expr} {gs : List Comprehension} {sc : Scope} {pos : Pos} {d : Nat} {it acc : Value} (hd : gs[d]? = some ⟨tg, iter, ifs, 0⟩)
    (h0 : codeAny (model P w) A (.compLoop (cmp k elt gs sc pos) d it acc env) R s) (h : wpAny (model P w) A (pyIter it) (fun it' s' => codeAny (model P w) A (.compLoop (cmp k elt gs sc pos) d it' acc env) R s') Nope s) :
    codeAny (model P w) A (.compStart (cmp k elt gs sc pos) d it acc env) R s := by
  refine codeAny_of_tree ?_
  have hu : A.under (.compStart (cmp k elt gs sc pos) d it acc env) = A := by cases k <;> rfl
  have hde : (model P w).den (.compStart (cmp k elt gs sc pos) d it acc env) = (compStart (cmp k elt gs sc pos) d it acc env).onRaise (fun x => do noteFrame x env; standAt theWindowsPlace) := by cases k <;> rfl
  rw [hu, hde]
  refine wpAny_notedAt ?_
  have hcl : clausesOf (cmp k elt gs sc pos) = gs := by cases k <;> rfl
  have hq : (Code.compLoop (cmp k elt gs sc pos) d it acc env).quiet = true := by cases k <;> rfl
  unfold compStart
  rw [hcl, hd]
  show wpAny _ _ (ask >>= _) _ _ s
  refine wpAny_bind (wpAny_askSetting (wpAny_ite ?_))
  split
  · first
      | exact wpAny_bind (wpAny_pure (wpAny_pure (And.intro hq h0)))
      | exact wpAny_pure (And.intro hq h0)
  · first
      | exact wpAny_bind (wpAny_rule (wpAny_bind (wpAny_standAt (wpAny_bind (nope (wpAny_mono h (fun it' s' q => wpAny_pure (And.intro (by cases k <;> rfl) q)) fun _ _ z => z))))))
      | (refine wpAny_bind (wpAny_rule ?_); show wpAny _ _ (standAt iter.pos >>= _) _ _ s; exact wpAny_bind (wpAny_standAt (wpAny_bind (nope (wpAny_mono h (fun it' s' q => wpAny_pure (And.intro (by cases k <;> rfl) q)) fun _ _ z => z)))))
/-- the next clause is begun -/
theorem next_cl {e : Expr} {g : Comprehension} {d : Nat} {acc : Value} {next : Sem Fin} {Q : Fin → Shared → Prop} (hs : ∀ x, foldedSetIterable g.iter env x = pure x)
    (h : wpAny (model P w) A (eval g.iter env) (fun x s1 => wpAny (model P w) A (pyIter x) (fun it s2 => codeAny (model P w) A (.compStart e d it acc env) (fun r s3 => match r with
      | .ok _ => wpAny (model P w) A next Q Nope s3
      | .error _ => False) s2) Nope s1) Nope s) : wpAny (model P w) A (nextS e g d acc env next) Q Nope s := by
  unfold nextS
  refine wpAny_bind (wpAny_mono h (fun x s1 h1 => ?_) fun _ _ z => z)
  refine wpAny_bind (wpAny_standAt (wpAny_bind (wpAny_of_eq (hs x) (wpAny_bind (wpAny_holding (wpAny_mono h1 (fun it s2 h2 => ?_) fun _ _ z => z))))))
  refine wpAny_bind (wpAny_runOwn ?_)
  rw [Around.mark_none]
  refine codeAny_mono h2 fun r s3 h3 => ?_
  cases r with
  | ok f => exact h3
  | error e => exact h3.elim
end
end Sk

/-! SkJ: a comprehension as the evaluator reckons it. -/
namespace Sk
open PySem PySem.Spec PyProof.Rows PySem.W L2

/-! ### what the loop keeps for itself -/
def AccAt (C : Cfg) (k : CK) (G : Gh) (H : Hp) (D : Addr) (acc : List PV) : Prop := match k with
  | .ls _ => ∃ xs, H D = some (.lst xs) ∧ RepL C G H acc xs
  | .st => ∃ ss, strsOf acc = some ss ∧ (∀ x ∈ ss, StrFine x) ∧ H D = some (.ext (SetAt C D ss))
def SrvA (C : Cfg) (k : CK) (D : Addr) (G : Gh) (H : Hp) (r : Res (List PV)) (Q : Hp → Prop) : Prop := match r with
  | .ok acc M => ∀ G' H', Stp G H G' H' → SRep C (G'.addFr D) H' M → AccAt C k G' H' D acc → Q H'
  | _ => False
section
variable {C : Cfg} {k : CK} {D : Addr} {G G' : Gh} {H H' : Hp} {M : Sto} {Q : Hp → Prop} {acc : List PV}
theorem stq_fr : Stq G H (G.addFr D) H := ⟨fun _ h => h, fun _ _ h => h, fun _ _ _ h => h, fun _ _ _ h _ => h⟩
theorem stq_unfr : Stq (G.addFr D) H G H := ⟨fun _ h => h, fun _ _ h => h, fun _ _ _ h => h, fun _ _ _ h _ => h⟩
theorem Stp.base {G2 : Gh} (s : Stp (G.addFr D) H G2 H') : ∃ G1, G2 = G1.addFr D ∧ Stp G H G1 H' ∧ H' D = H D := by
  refine ⟨{ G2 with fr := G.fr }, ?_, ⟨⟨s.fz, s.mu, s.rd, s.at'⟩, rfl, fun a h => s.kp a (.inl h)⟩, s.kp D (.inr rfl)⟩
  have h : G2.fr = fun a => G.fr a ∨ a = D := s.fr
  cases G2
  simp only [Gh.addFr] at h ⊢
  rw [h]
theorem AccAt.on (s : Stq G H G' H') (hD : H' D = H D) (h : AccAt C k G H D acc) : AccAt C k G' H' D acc := by
  cases k with
  | ls m => obtain ⟨xs, e, r⟩ := h; exact ⟨xs, hD.trans e, r.on s⟩
  | st => obtain ⟨ss, e, f, r⟩ := h; exact ⟨ss, e, f, hD.trans r⟩
theorem SrvA.on {r : Res (List PV)} (s : Stp G H G' H') (h : SrvA C k D G H r Q) : SrvA C k D G' H' r Q := by
  cases r with
  | ok v M => exact fun G2 H2 s2 => h G2 H2 (s.trans s2)
  | _ => exact h.elim
theorem SrvA.split {α β : Type} {rel : Gh → Hp → α → β → Prop} {W : XWish} {r : Res α} {kk : α → Sto → Res (List PV)} (h : SrvA C k D G H (r.bnd kk) Q) :
    Srv C rel W (G.addFr D) H r (fun x H1 => ∃ G1 v M1, Stp G H G1 H1 ∧ H1 D = H D ∧ SRep C (G1.addFr D) H1 M1 ∧ rel (G1.addFr D) H1 v x ∧ SrvA C k D G1 H1 (kk v M1) Q) := by
  cases r with
  | ok v M =>
    intro G2 H1 x s S r
    obtain ⟨G1, rfl, s1, e⟩ := s.base
    exact ⟨G1, v, M, s1, e, S, r, SrvA.on s1 h⟩
  | ex e M => exact h.elim
  | no => exact h
/-- the loop's own object is changed -/
theorem SRep.writeFr {o : HO} (S : SRep C (G.addFr D) H M) (nf : ¬ G.fr D) : Stp G H G (upd H D o) ∧ SRep C (G.addFr D) (upd H D o) M := by
  have nz : ¬ G.fz D := fun z => (S.fzN D z).2 (.inr rfl)
  have nm : ∀ n a, G.mu n = some a → a ≠ D := fun n a e z => (S.muN n a e).2.2 (.inr z)
  have s : Stq G H G (upd H D o) := ⟨fun _ h => h, fun _ _ h => h, fun a u h r => by
      have na : a ≠ D := ne_of_not h nz
      rcases r with r | ⟨v, r⟩
      · exact .inl (by rw [upd_ne na]; exact r)
      · exact .inr ⟨v, by rw [upd_ne na]; exact r⟩,
    fun a u h r _ => by rw [upd_ne (ne_of_not h nz)]; exact r⟩
  refine ⟨⟨s, rfl, fun a h => upd_ne (ne_of_not h nf)⟩, fun n u e => ?_, fun n a e => ?_, S.inj, S.live, fun a h => ?_, fun a h => ?_⟩
  · obtain ⟨a, e1, r⟩ := S.here n u e
    exact ⟨a, e1, r.on (stq_unfr.trans (s.trans stq_fr)) (upd_ne (nm n a e1))⟩
  · obtain ⟨x, y, z⟩ := S.muN n a e
    exact ⟨x, by rw [upd_ne (nm n a e)]; exact y, z⟩
  · exact ⟨by rw [upd_ne (ne_of_not h nz)]; exact (S.fzN a h).1, (S.fzN a h).2⟩
  · by_cases z : a = D
    · rw [z, upd_same]; simp
    · rw [upd_ne z]; exact S.frN a h
/-- the loop is over: its list stands for good, or is an object of the store -/
theorem SRep.doneFz (S : SRep C (G.addFr D) H M) (nf : ¬ G.fr D) : Stp G H (G.addFz D) H ∧ SRep C (G.addFz D) H M := by
  have nz : ¬ G.fz D := fun z => (S.fzN D z).2 (.inr rfl)
  have nm : ∀ n a, G.mu n = some a → a ≠ D := fun n a e z => (S.muN n a e).2.2 (.inr z)
  have s : Stq G H (G.addFz D) H := ⟨fun _ h => .inl h, fun _ _ h => h, fun _ _ _ h => h, fun _ _ _ h _ => h⟩
  refine ⟨⟨s, rfl, fun _ _ => rfl⟩, fun n u e => ?_, fun n a e => ?_, S.inj, fun n o a e1 e2 z => ?_, fun a h => ?_, fun a h => S.frN a (.inl h)⟩
  · obtain ⟨a, e1, r⟩ := S.here n u e
    exact ⟨a, e1, r.on (stq_unfr.trans s) rfl⟩
  · obtain ⟨x, y, z⟩ := S.muN n a e
    exact ⟨x, y, fun q => z (.inl q)⟩
  · rcases z with z | z
    · exact S.live n o a e1 e2 z
    · exact nm n a e2 z
  · rcases h with h | rfl
    · exact ⟨(S.fzN a h).1, fun q => (S.fzN a h).2 (.inl q)⟩
    · exact ⟨S.frN a (.inr rfl), nf⟩
theorem SRep.doneMu {m : MO} (S : SRep C (G.addFr D) H M) (nf : ¬ G.fr D) (hr : ∀ G', Stq G H G' H → MRep C G' H D m) : Stp G H (G.addMu M.length D) H ∧ SRep C (G.addMu M.length D) H (M ++ [some m]) := by
  have nz : ¬ G.fz D := fun z => (S.fzN D z).2 (.inr rfl)
  have nm : ∀ n a, G.mu n = some a → a ≠ D := fun n a e z => (S.muN n a e).2.2 (.inr z)
  have nl : ∀ n a, G.mu n = some a → n ≠ M.length := fun n a e => Nat.ne_of_lt (S.muN n a e).1
  have s : Stq G H (G.addMu M.length D) H := ⟨fun _ h => h, fun n a h => by
    show (if n = M.length then some D else G.mu n) = some a
    rw [if_neg (nl n a h)]; exact h, fun _ _ _ h => h, fun _ _ _ h _ => h⟩
  have mu' : ∀ n a, (G.addMu M.length D).mu n = some a → (n = M.length ∧ a = D) ∨ (n ≠ M.length ∧ G.mu n = some a) := fun n a e => by
    have e : (if n = M.length then some D else G.mu n) = some a := e
    by_cases hl : n = M.length
    · rw [if_pos hl] at e; cases e; exact .inl ⟨hl, rfl⟩
    · rw [if_neg hl] at e; exact .inr ⟨hl, e⟩
  refine ⟨⟨s, rfl, fun _ _ => rfl⟩, fun n u e => ?_, fun n a e => ?_, fun n k a e1 e2 => ?_, fun n u a e1 e2 z => ?_, fun a h => ⟨(S.fzN a h).1, fun q => (S.fzN a h).2 (.inl q)⟩, fun a h => S.frN a (.inl h)⟩
  · by_cases hl : n = M.length
    · subst hl
      rw [List.getElem?_append_right (Nat.le_refl _), Nat.sub_self] at e
      have e : some (some m) = some (some u) := e
      cases e
      exact ⟨D, if_pos rfl, hr _ s⟩
    · have hlt : n < M.length := by
        have := (List.getElem?_eq_some_iff.mp e).1
        rw [List.length_append, List.length_singleton] at this
        omega
      rw [List.getElem?_append_left hlt] at e
      obtain ⟨a, e1, r⟩ := S.here n u e
      exact ⟨a, s.mu n a e1, r.on (stq_unfr.trans s) rfl⟩
  · rw [List.length_append, List.length_singleton]
    rcases mu' n a e with ⟨h1, rfl⟩ | ⟨_, h2⟩
    · exact ⟨by omega, S.frN a (.inr rfl), nf⟩
    · obtain ⟨x, y, z⟩ := S.muN n a h2
      exact ⟨by omega, y, fun q => z (.inl q)⟩
  · rcases mu' n a e1 with ⟨h1, h2⟩ | ⟨h1, h2⟩ <;> rcases mu' k a e2 with ⟨k1, k2⟩ | ⟨k1, k2⟩
    · rw [h1, k1]
    · exact absurd h2 (nm k a k2)
    · exact absurd k2 (nm n a h2)
    · exact S.inj n k a h2 k2
  · have z : G.fz a := z
    rcases mu' n a e2 with ⟨_, rfl⟩ | ⟨h1, h2⟩
    · exact nz z
    · have hlt : n < M.length := (S.muN n a h2).1
      rw [List.getElem?_append_left hlt] at e1
      exact S.live n u a e1 h2 z
end

/-! ### a name into a set of names -/
theorem setAt_at {C : Cfg} {a : Addr} {l : List Str} {h h' : Heap} (R : SetAt C a l h) (k : ∀ o, h.get? a = some o → h'.get? a = some o) : SetAt C a l h' := by
  obtain ⟨S, n, ⟨o, es, ep, t, ho, r⟩, z⟩ := R
  exact ⟨S, n, ⟨o, es, ep, t, k o ho, r⟩, z⟩
theorem setAt_new {C : Cfg} {P : Program} {w : World} {H : Hp} {h : Heap} {a : Addr} {l : List Str} (R : SetAt C a l h) : ObjOk P w H h a (.ext (SetAt C a l)) := by
  have ⟨S, n, ⟨o, _, _, _, ho, _⟩, _⟩ := R
  exact ⟨R, ⟨o, ho⟩, fun h1 h2 p k => setAt_at p k⟩
theorem setAt_add {X : Cx} {C : Cfg} {pins : List (Addr × Obj)} {σ : L2.St} {H : Hp} {s : Shared} {E : Value → Shared → Prop} {D : Addr} {l : List Str} {y : Str} {t : Tok} {Q : Value → Shared → Prop} (hP : C.P = X.prog) (hw : C.w = X.w) (I : L2.Inv X pins σ H s)
    (hD : H D = some (.ext (SetAt C D l))) (room : l.length + 1 < 4096) (h : ∀ s', L2.Inv X pins σ (upd H D (.ext (SetAt C D (l ++ [y])))) s' → Q .none s') : wpAny (model X.prog X.w) X.A (call (.builtin "set.add") [.ref D, .str y t]) Q E s := by
  have h1 : ObjOk X.prog X.w H s.heap D (.ext (SetAt C D l)) := I.hok D _ hD
  obtain ⟨S, n, hS, hn, hm⟩ := h1.1
  have hS' := hS
  rw [hP, hw] at hS'
  refine PySem.call_set_add (k := y) (show Value.isStrOf y (.str y t) = true by simp [Value.isStrOf]) rfl hS' (Nat.lt_of_le_of_lt (Nat.succ_le_succ hn) room) fun h' sb new => ?_
  have new : h'.SetOf (strKind C.P C.w) D (fun k' => S k' || decide (k' = y)) (if S y then n else n + 1) := by rw [hP, hw]; exact new
  have R : SetAt C D (l ++ [y]) h' := ⟨_, _, new, by rw [List.length_append, List.length_singleton]; split <;> omega, fun x => by
    rw [Bool.or_eq_true, decide_eq_true_eq, hm x, List.mem_append, List.mem_singleton]⟩
  have he : ∃ u, h'.get? D = some u := by
    obtain ⟨o, _, _, _, ho, _⟩ := new
    exact ⟨o, ho⟩
  exact h _ (I.write (e := D) (t' := s.toks + 1) (by rw [hD]; trivial) (.inl rfl) (fun b u hb hu => (sb.2 b hb).trans hu) he (setAt_new R))
end Sk

/-! SkK: the clauses of a comprehension, and the whole. -/
namespace Sk
open PySem PySem.Spec PyProof.Rows PySem.W L2

abbrev Wn : WX := fun _ _ _ _ => False
def bodyS (k : CK) (elt : Expr) (gs : List Comprehension) (sc : Scope) (pos : Pos) (d : Nat) (acc : Value) (env : Env) (next : Sem Fin) : Sem Fin := match gs[d]? with
  | some g => nextS (cmp k elt gs sc pos) g d acc env next
  | none => emS k elt acc env >>= fun _ => next
/-- what follows clause d - 1 does as fc says; only the names vs are touched -/
def ClOk (X : Cx) (C : Cfg) (k : CK) (elt : Expr) (gs : List Comprehension) (sc : Scope) (pos : Pos) (D : Addr) (d : Nat) (vs : List Nat) (fc : PEnv → List PV → Sto → Res (List PV)) : Prop :=
  ∀ (pins : List (Addr × Obj)) (s : Shared) (σ : L2.St) (H : Hp) (G : Gh) (ρ : PEnv) (M : Sto) (acc : List PV) (Q : Hp → Prop) (next : Sem Fin) (Q2 : Fin → Shared → Prop), L2.Inv X pins σ H s → SRep C (G.addFr D) H M → ¬ G.fr D → ERep C G H ρ σ → AccAt C k G H D acc →
    SrvA C k D G H (fc ρ acc M) Q → (∀ s' H' σ', L2.Inv X pins σ' H' s' → σ'.length = σ.length → (∀ i, i ∉ vs → σ'[i]? = σ[i]?) → Q H' → wpAny (model X.prog X.w) X.A next Q2 Nope s') →
    wpAny (model X.prog X.w) X.A (bodyS k elt gs sc pos d (.ref D) X.env next) Q2 Nope s
section
variable {X : Cx} {C : Cfg} {k : CK} {elt : Expr} {gs : List Comprehension} {sc : Scope} {pos : Pos} {D : Addr} {d : Nat}
theorem cl_elt {fe : PEnv → Sto → Res PV} (hx : X.xe = Nope) (hP : C.P = X.prog) (hw : C.w = X.w) (hd : gs[d]? = none) (he : PE X elt (tE C fe Wn)) :
    ClOk X C k elt gs sc pos D d [] (fun ρ acc M => (fe ρ M).bnd fun v M1 => emitC k v acc M1) := by
  intro pins s σ H G ρ M acc Q next Q2 I S nf ER A F hn
  unfold bodyS
  rw [hd]
  dsimp only
  have run := he.run pins s σ H _ I ⟨G.addFr D, ρ, M, S, ER.on stq_fr, SrvA.split F⟩
  rw [hx] at run
  cases k with
  | ls m =>
    unfold emS
    dsimp only
    refine wpAny_bind (wpAny_bind (wpAny_mono run (fun v s1 h1 => ?_) fun _ _ z => z))
    obtain ⟨x, H1, I1, r1, G1, p, M1, s1', eD, S1, rp, F1⟩ := h1
    obtain ⟨xs, hD, ra⟩ := A
    have hD1 : H1 D = some (.lst xs) := eD.trans hD
    have F1 : SrvA C (.ls m) D G1 H1 (okIf (acc.length < lim) (acc ++ [p]) M1) Q := F1
    unfold okIf at F1
    split at F1
    · rename_i hlt
      refine wpAny_bind (app_ok I1 hD1 (by rw [← ra.length]; exact hlt) r1 fun s2 I2 => wpAny_pure ?_)
      have nf1 : ¬ G1.fr D := by rw [s1'.fr]; exact nf
      obtain ⟨s3, S3⟩ := S1.writeFr (o := .lst (xs ++ [x])) nf1
      exact hn s2 _ σ I2 rfl (fun _ _ => rfl) (F1 G1 _ s3 S3 ⟨_, upd_same, ((ra.on s1'.toStq).append (.one (rp.on stq_unfr))).on s3.toStq⟩)
    · exact F1.elim
  | st =>
    unfold emS
    dsimp only
    refine wpAny_bind (wpAny_bind (wpAny_mono run (fun v s1 h1 => ?_) fun _ _ z => z))
    obtain ⟨x, H1, I1, r1, G1, p, M1, s1', eD, S1, rp, F1⟩ := h1
    obtain ⟨ss, hss, hfine, hD⟩ := A
    have hD1 : H1 D = some (.ext (SetAt C D ss)) := eD.trans hD
    cases p with
    | str y =>
      have F1 : SrvA C .st D G1 H1 (okIf (acc.length + 1 < 4096) (acc ++ [.str y]) M1) Q := F1
      unfold okIf at F1
      split at F1
      · rename_i hlt
        obtain ⟨rfl, fy⟩ := Rep.str_iff.mp rp
        obtain ⟨t, rfl⟩ := r1
        have hlen : ∀ {l : List PV} {ss : List Str}, strsOf l = some ss → ss.length = l.length := by
          intro l
          induction l with
          | nil => intro ss h; cases h; rfl
          | cons a l ih =>
            intro ss h
            cases a with
            | str a =>
              simp only [strsOf, Option.map_eq_some_iff] at h
              obtain ⟨r, h, rfl⟩ := h
              rw [List.length_cons, List.length_cons, ih h]
            | _ => cases h
        have happ : ∀ {l : List PV} {ss : List Str}, strsOf l = some ss → strsOf (l ++ [.str y]) = some (ss ++ [y]) := by
          intro l
          induction l with
          | nil => intro ss h; cases h; rfl
          | cons a l ih =>
            intro ss h
            cases a with
            | str a =>
              simp only [strsOf, Option.map_eq_some_iff] at h
              obtain ⟨r, h, rfl⟩ := h
              show (strsOf (l ++ [.str y])).map (a :: ·) = _
              rw [ih h]; rfl
            | _ => cases h
        refine wpAny_bind (wpAny_standAt (wpAny_bind (setAt_add hP hw I1 hD1 (by rw [hlen hss]; exact hlt) fun s2 I2 => wpAny_pure ?_)))
        have nf1 : ¬ G1.fr D := by rw [s1'.fr]; exact nf
        obtain ⟨s3, S3⟩ := S1.writeFr (o := .ext (SetAt C D (ss ++ [y]))) nf1
        exact hn s2 _ σ I2 rfl (fun _ _ => rfl) (F1 G1 _ s3 S3 ⟨_, happ hss, fun z hz => (List.mem_append.mp hz).elim (hfine z) fun q => by rw [List.mem_singleton.mp q]; exact fy, upd_same⟩)
      · exact F1.elim
    | _ => exact F1.elim
/-- the loop of clause d -/
theorem loop_ok {tg iter : Expr} {ifs : List Expr} {ws vs : List Nat} {b : PV → PEnv → Option PEnv} {fc : PEnv → Sto → Res Bool} {fr : PEnv → List PV → Sto → Res (List PV)} {items acc : List PV} {pins : List (Addr × Obj)} {s : Shared} {σ : L2.St} {H : Hp} {G : Gh} {ρ : PEnv} {M : Sto}
    {Q : Hp → Prop} {R : Result → Shared → Prop} {it : Addr} {fp : List Addr} {tn : Nat → Heap → Prop} {J : L2.It}
    (hx : X.xe = Nope) (hc : X.calm = true) (hd : gs[d]? = some ⟨tg, iter, ifs, 0⟩) (hn : gs[d + 1]? = none ∨ ∃ tg' iter' ifs', gs[d + 1]? = some ⟨tg', iter', ifs', 0⟩)
    (pg : PG X tg (tG C ws b)) (pt : PTs X ifs (tT C fc Wn)) (body : ClOk X C k elt gs sc pos D (d + 1) vs fr) (hv : ∀ i ∈ vs, i ∈ ws)
    (T : Turn X.prog X.w X.K tg J fp it tn) (stat : ∀ H', (∀ b ∈ fp, H' b = none) → ∀ b ∈ fp, FpOk X pins H' b)
    (I : L2.Inv X pins (wipe σ ws) H s) (st : tn 0 s.heap) (n0 : ∀ b ∈ fp, H b = none) (S : SRep C (G.addFr D) H M) (nf : ¬ G.fr D) (ER : ERep C G H ρ (wipe σ ws)) (hit : ItOk C J G H items) (A : AccAt C k G H D acc)
    (F : SrvA C k D G H (loopC (fun x acc M => match b x ρ with
      | none => .no
      | some ρ2 => (fc ρ2 M).bnd fun t M' => if t then fr ρ2 acc M' else .ok acc M') items acc M) Q)
    (hR : ∀ s' H', L2.Inv X pins (wipe σ ws) H' s' → Q H' → R (.ok .next) s') : codeAny (model X.prog X.w) X.A (.compLoop (cmp k elt gs sc pos) d (.ref it) (.ref D) X.env) R s := by
  generalize hst : (fun x acc M => match b x ρ with
      | none => Res.no
      | some ρ2 => (fc ρ2 M).bnd fun t M' => if t then fr ρ2 acc M' else .ok acc M') = step at F
  have ht : compTurn (cmp k elt gs sc pos) d (.ref it) (.ref D) X.env = cTurn ⟨tg, iter, ifs, 0⟩ (bodyS k elt gs sc pos (d + 1) (.ref D) X.env (again (.compLoop (cmp k elt gs sc pos) d (.ref it) (.ref D) X.env))) (again (.compLoop (cmp k elt gs sc pos) d (.ref it) (.ref D) X.env)) (.ref it) X.env := by
    rcases hn with hn | ⟨tg', iter', ifs', hn⟩
    · rw [turn_last hd hn]; unfold bodyS; rw [hn]
    · rw [turn_more hd hn]; unfold bodyS; rw [hn]
  refine loop_cl ht (fun n s' => ∃ i H G M acc, n = items.length - i ∧ i ≤ items.length ∧ L2.Inv X pins (wipe σ ws) H s' ∧ tn i s'.heap ∧ (∀ b ∈ fp, H b = none) ∧ SRep C (G.addFr D) H M ∧ ¬ G.fr D ∧ ERep C G H ρ (wipe σ ws) ∧ ItOk C J G H items ∧ AccAt C k G H D acc ∧
    SrvA C k D G H (loopC step (items.drop i) acc M) Q) ?_ _ ⟨0, H, G, M, acc, rfl, Nat.zero_le _, I, st, n0, S, nf, ER, hit, A, F⟩
  clear I st n0 S nf ER hit A F acc H G M s
  rintro n s ⟨i, H, G, M, acc, rfl, hi, I, st, n0, S, nf, ER, hit, A, F⟩
  by_cases hlt : i < items.length
  · have hdr : items.drop i = items[i] :: items.drop (i + 1) := List.drop_eq_getElem_cons hlt
    have hxi : items[i]? = some items[i] := List.getElem?_eq_getElem hlt
    rw [hdr] at F
    have F : SrvA C k D G H ((step items[i] acc M).bnd fun acc1 M1 => loopC step (items.drop (i + 1)) acc1 M1) Q := F
    refine wpAny_mono (T.item X rfl rfl rfl hc i pins s _ H Nope I (stat H n0) st (hit.go G H i _ (.refl _ _) hxi)) (fun r s1 h1 => ?_) fun _ _ z => z
    obtain ⟨u, rfl, h1⟩ := h1
    refine wpAny_mono h1 (fun _ s2 h2 => ?_) fun _ _ z => z
    obtain ⟨x, H2, I2, r2, y2, st2, n2⟩ := h2
    obtain ⟨G2', s2', S2, rx⟩ := hit.yl (G.addFr D) H i _ x H2 M stq_fr hxi y2 S
    obtain ⟨G2, rfl, s2', eD2⟩ := s2'.base
    have ER2 := ER.on s2'.toStq
    have nf2 : ¬ G2.fr D := by rw [s2'.fr]; exact nf
    have A2 := A.on s2'.toStq eD2
    have F2 := SrvA.on s2' F
    have I2' := I2.pinned (stat H2 n2) (T.obj _ _ st2)
    cases hb : b items[i] ρ with
    | none =>
      have e : step items[i] acc M = .no := by rw [← hst]; simp only [hb]
      rw [e] at F2
      exact F2.elim
    | some ρ2 =>
      have e : step items[i] acc M = (fc ρ2 M).bnd fun t M' => if t then fr ρ2 acc M' else .ok acc M' := by rw [← hst]; simp only [hb]
      rw [e] at F2
      have run1 := pg.run _ s2 _ H2 x u (fun σ' H' => H' = H2 ∧ ERep C (G2.addFr D) H2 ρ2 σ' ∧ σ'.length = (wipe σ ws).length ∧ ∀ i, i ∉ ws → σ'[i]? = (wipe σ ws)[i]?) I2' r2 ⟨G2.addFr D, ρ, items[i], ρ2, ER2.on stq_fr, rx, hb, fun σ' e1 e2 e3 => ⟨rfl, e1, e2, e3⟩⟩
      rw [hx] at run1
      refine wpAny_mono run1 (fun _ s3 h3 => ?_) fun _ _ z => z
      obtain ⟨σ3, H3, I3, rfl, ER3, l3, k3⟩ := h3
      have hassoc : ((fc ρ2 M).bnd fun t M' => if t then fr ρ2 acc M' else .ok acc M').bnd (fun acc1 M1 => loopC step (items.drop (i + 1)) acc1 M1) = (fc ρ2 M).bnd fun t M' => (if t then fr ρ2 acc M' else .ok acc M').bnd fun acc1 M1 => loopC step (items.drop (i + 1)) acc1 M1 := by
        cases fc ρ2 M <;> rfl
      rw [hassoc] at F2
      have run2 := pt.run _ s3 σ3 H3 _ I3 ⟨G2.addFr D, ρ2, M, S2, ER3, SrvA.split F2⟩
      rw [hx] at run2
      refine wpAny_mono run2 (fun t s4 h4 => ?_) fun _ _ z => z
      obtain ⟨H4, I4, G4, t', M4, s4', eD4, S4, (et : t' = t), F4⟩ := h4
      subst et
      have ER4 : ERep C G4 H4 ρ2 σ3 := (ER3.on stq_unfr).on s4'.toStq
      have nf4 : ¬ G4.fr D := by rw [s4'.fr]; exact nf2
      have A4 := A2.on s4'.toStq eD4
      -- the end of the turn
      have fin : ∀ {s' : Shared} {H' : Hp} {σ' : L2.St}, L2.Inv X (pins ++ pinsAt fp s2.heap) σ' H' s' → σ'.length = (wipe σ ws).length → (∀ i, i ∉ ws → σ'[i]? = (wipe σ ws)[i]?) →
          (∃ G' M' acc', Stp G4 H4 G' H' ∧ SRep C (G'.addFr D) H' M' ∧ AccAt C k G' H' D acc' ∧ SrvA C k D G' H' (loopC step (items.drop (i + 1)) acc' M') Q) →
          ∃ m, m < items.length - i ∧ ∃ i H G M acc, m = items.length - i ∧ i ≤ items.length ∧ L2.Inv X pins (wipe σ ws) H s' ∧ tn i s'.heap ∧ (∀ b ∈ fp, H b = none) ∧ SRep C (G.addFr D) H M ∧ ¬ G.fr D ∧ ERep C G H ρ (wipe σ ws) ∧ ItOk C J G H items ∧ AccAt C k G H D acc ∧ SrvA C k D G H (loopC step (items.drop i) acc M) Q := by
        rintro s' H' σ' I' l' k' ⟨G', M', acc', s5, S5, A5, F5⟩
        have pin' : ∀ b ∈ fp, ∀ o, s2.heap.get? b = some o → s'.heap.get? b = some o ∧ H' b = none := fun b hb o e =>
          let z := I'.pin (b, o) (List.mem_append_right _ (List.mem_append_right _ (mem_pinsAt hb e)))
          ⟨z.1, z.2.1⟩
        refine ⟨_, by omega, i + 1, H', G', M', acc', rfl, hlt, I'.unpinned.weak l'.symm (fun j v e => ?_), T.keep _ _ _ st2 fun b hb o e => (pin' b hb o e).1, fun b hb => ?_, S5, by rw [s5.fr]; exact nf4, ((ER2.on s4'.toStq).on s5.toStq), (((hit.on s2'.toStq).on s4'.toStq).on s5.toStq), A5, F5⟩
        · obtain ⟨e1, e2⟩ := wipe_some e
          rw [k' j e2]; exact e
        · obtain ⟨o, e, _⟩ := T.obj _ _ st2 b hb
          exact (pin' b hb o e).2
      cases t' with
      | false =>
        simp only [Bool.false_eq_true, if_false] at F4 ⊢
        exact fin I4 l3 k3 ⟨G4, M4, acc, .refl _ _, S4, A4, F4⟩
      | true =>
        simp only [if_true] at F4 ⊢
        refine body _ s4 σ3 H4 G4 ρ2 M4 acc (fun H' => ∃ G' M' acc', Stp G4 H4 G' H' ∧ SRep C (G'.addFr D) H' M' ∧ AccAt C k G' H' D acc' ∧ SrvA C k D G' H' (loopC step (items.drop (i + 1)) acc' M') Q) _ _ I4 S4 nf4 ER4 A4 ?_ fun s5 H5 σ5 I5 l5 k5 q5 => ?_
        · revert F4
          cases fr ρ2 acc M4 with
          | ok acc1 M1 => exact fun F4 G5 H5 s5 S5 A5 => ⟨G5, M1, acc1, s5, S5, A5, SrvA.on s5 F4⟩
          | ex e M1 => exact fun F4 => F4.elim
          | no => exact fun F4 => F4.elim
        · exact wpAny_pure ⟨rfl, fin I5 (l5.trans l3) (fun j hj => (k5 j fun z => hj (hv j z)).trans (k3 j hj)) q5⟩
  · have e : i = items.length := by omega
    subst e
    rw [List.drop_length] at F
    refine wpAny_mono (T.done X rfl rfl rfl hc _ pins s _ H Nope I (stat H n0) st (hit.st G H (.refl _ _))) (fun r s1 h1 => ?_) fun _ _ z => z
    obtain ⟨rfl, I1⟩ := h1
    exact hR s1 H I1 (F G H (.refl _ _) S A)
/-- a further clause -/
theorem cl_for {tg iter : Expr} {ifs : List Expr} {us vs ws : List Nat} {b : PV → PEnv → Option PEnv} {fi : PEnv → Sto → Res (List PV)} {fc : PEnv → Sto → Res Bool} {fr : PEnv → List PV → Sto → Res (List PV)}
    (hx : X.xe = Nope) (hc : X.calm = true) (hd : gs[d]? = some ⟨tg, iter, ifs, 0⟩) (hn : gs[d + 1]? = none ∨ ∃ tg' iter' ifs', gs[d + 1]? = some ⟨tg', iter', ifs', 0⟩)
    (pi : PI X tg iter (tI C fi Wn)) (pg : PG X tg (tG C us b)) (pt : PTs X ifs (tT C fc Wn)) (body : ClOk X C k elt gs sc pos D (d + 1) vs fr) (hu : ∀ i ∈ us, i ∈ ws) (hv : ∀ i ∈ vs, i ∈ ws) (hs : ∀ x, foldedSetIterable iter X.env x = pure x) :
    ClOk X C k elt gs sc pos D d ws (fun ρ acc M => (fi ρ M).bnd fun items M1 => loopC (fun x acc M => match b x (wipeP ρ ws) with
      | none => .no
      | some ρ2 => (fc ρ2 M).bnd fun t M' => if t then fr ρ2 acc M' else .ok acc M') items acc M1) := by
  intro pins s σ H G ρ M acc Q next Q2 I S nf ER A F hnx
  unfold bodyS
  rw [hd]
  have run := pi.run pins s σ H _ I ⟨G.addFr D, ρ, M, S, ER.on stq_fr, SrvA.split F⟩
  rw [hx] at run
  refine next_cl hs (wpAny_mono run (fun x s1 h1 => wpAny_mono h1 (fun itv s2 h2 => ?_) fun _ _ z => z) fun _ _ z => z)
  obtain ⟨it, fp, tn, J, H2, rfl, I2, T, st2, f2, G2, items, M2, s2', eD, S2, hit, F2⟩ := h2
  have pg' : PG X tg (tG C ws b) := PG.weak pg fun v σ H Q ⟨G, ρ, p, ρ', a1, a2, a3, a4⟩ => ⟨G, ρ, p, ρ', a1, a2, a3, fun σ' b1 b2 b3 => a4 σ' b1 b2 fun i hi => b3 i fun z => hi (hu i z)⟩
  have nf2 : ¬ G2.fr D := by rw [s2'.fr]; exact nf
  have I2w := I2.weak (wipe_length σ ws) (fun j v e => (wipe_some e).1)
  have loop := loop_ok (R := fun r s3 => match r with
    | .ok _ => wpAny (model X.prog X.w) X.A next Q2 Nope s3
    | .error _ => False) hx hc hd hn pg' pt body hv T (fun H' hn' b hb => ⟨hn' b hb, (f2 b hb).2⟩) I2w st2 (fun b hb => (f2 b hb).1) S2 nf2 ((ER.on s2'.toStq).wipe ws) (hit.on stq_unfr) (A.on s2'.toStq eD) F2
    (fun s' H' I' q => hnx s' H' _ I' (wipe_length σ ws) (fun i hi => wipe_out hi) q)
  exact start_cl hd loop (T.self X.A 0 _ _ _ st2 loop)
end
end Sk

/-! SkL: the whole comprehension. -/
namespace Sk
open PySem PySem.Spec PyProof.Rows PySem.W L2

def newAcc (k : CK) : Sem Value := match k with
  | .ls _ => newList []
  | .st => newSet (.type "set")
def accO (C : Cfg) (k : CK) (D : Addr) : HO := match k with
  | .ls _ => .lst []
  | .st => .ext (SetAt C D [])
section
variable {X : Cx} {C : Cfg} {k : CK} {W : WX}
theorem newAcc_ok {pins : List (Addr × Obj)} {σ : L2.St} {H : Hp} {s : Shared} {E : Value → Shared → Prop} {Q : Value → Shared → Prop} (hP : C.P = X.prog) (hw : C.w = X.w) (I : L2.Inv X pins σ H s)
    (h : ∀ s', s.heap.objs.size < s'.heap.objs.size → (∀ b o, s.heap.get? b = some o → s'.heap.get? b = some o) → L2.Inv X pins σ (upd H s.heap.objs.size (accO C k s.heap.objs.size)) s' → Q (.ref s.heap.objs.size) s') : wpAny (model X.prog X.w) X.A (newAcc k) Q E s := by
  cases k with
  | ls m =>
    exact wpAny_newObj_type (h _ (by rw [Heap.size_push]; exact Nat.lt_succ_self _) (fun b o e => Heap.get?_push_of_some _ e) (I.laid (t' := s.toks) (fun b o e => Heap.get?_push_of_some _ e) (Nat.le_refl _) ⟨Nat.zero_le _, [], 0, .nil, Heap.get?_push_size _ rfl⟩)) (by show 0 ≤ sizeLine; decide)
  | st =>
    refine PpSet.newSet_ok ?_
    have new : SetAt C s.heap.objs.size [] (s.heap.push { cls := .type "set", dict := none, data := .set #[] 0 (.fresh 0 0 (!X.w.params.followText "set-order")) }) :=
      ⟨fun _ => false, 0, (setObjOf_fresh (prog := C.P) (w := C.w) _).setOf (Heap.get?_push_size _ rfl) (by decide), Nat.le_refl _, fun x => by simp⟩
    exact h _ (by rw [Heap.size_push]; exact Nat.lt_succ_self _) (fun b o e => Heap.get?_push_of_some _ e) (I.laid (t' := s.toks) (fun b o e => Heap.get?_push_of_some _ e) (Nat.le_refl _) (setAt_new new))
theorem acc_begin {G G' : Gh} {H H' : Hp} {D : Addr} : AccAt C k G (upd H D (accO C k D)) D [] := by
  cases k with
  | ls m => exact ⟨[], upd_same, .nil⟩
  | st => exact ⟨[], rfl, (fun _ z => by cases z), upd_same⟩
/-- the end: the loop's object becomes the value -/
theorem acc_end {G : Gh} {H : Hp} {D : Addr} {M : Sto} {r : Res (List PV)} {Q : VK} {Wx : XWish} (S : SRep C G H M) (hn : H D = none) (F : Srv C (Rep C) Wx G H ((noex r).bnd fun l M2 => mkC k l M2) Q) :
    SrvA C k D G (upd H D (accO C k D)) r (fun H' => Q (.ref D) H') := by
  have s0 : Stp G H G (upd H D (accO C k D)) := .laid S hn (fun _ h => h) rfl fun _ _ h => h
  cases r with
  | ex e M => exact F.elim
  | no => exact F.elim
  | ok l M2 =>
    intro G' H' s S' A
    have nf : ¬ G'.fr D := by rw [s.fr]; exact (S.newNe hn).2.1
    have F : Srv C (Rep C) Wx G' H' (mkC k l M2) Q := Srv.on (s0.trans s) F
    cases k with
    | ls m =>
      obtain ⟨xs, e, ra⟩ := A
      cases m with
      | false =>
        obtain ⟨s1, S1⟩ := S'.doneFz nf
        have F : Srv C (Rep C) Wx G' H' (.ok (.lst l) M2) Q := F
        exact F.ok_on s1 S1 (Rep.lst_iff.mpr ⟨D, xs, rfl, .inl ⟨.inr rfl, .inl e⟩, ra.on s1.toStq⟩)
      | true =>
        obtain ⟨s1, S1⟩ := S'.doneMu (m := .lst l) nf fun G2 s2 => ⟨xs, e, ra.on s2⟩
        have F : Srv C (Rep C) Wx G' H' (.ok (.loc M2.length) (M2 ++ [some (.lst l)])) Q := F
        exact F.ok_on s1 S1 (Rep.loc_iff.mpr ⟨D, rfl, if_pos rfl⟩)
    | st =>
      obtain ⟨ss, e1, f, e⟩ := A
      have F : Srv C (Rep C) Wx G' H' (match strsOf l with
        | some ss => .ok (.sts ss) M2
        | none => .no) Q := F
      rw [e1] at F
      obtain ⟨s1, S1⟩ := S'.doneFz nf
      have F : Srv C (Rep C) Wx G' H' (.ok (.sts ss) M2) Q := F
      exact F.ok_on s1 S1 (by simp only [Rep]; exact ⟨D, rfl, .inr rfl, e⟩)
theorem comp_core {pins : List (Addr × Obj)} {s : Shared} {σ : L2.St} {H : Hp} {Q : VK} {elt tg iter : Expr} {ifs : List Expr} {rest : List Comprehension} {scope : Scope} {own : List (Str × Nat)} {pos pos' : Pos} {us vs : List Nat} {fi : PEnv → Sto → Res (List PV)} {b : PV → PEnv → Option PEnv}
    {fc : PEnv → Sto → Res Bool} {fr : PEnv → List PV → Sto → Res (List PV)} {use : Option (Value → Sem Unit)} {Qf : Value → Shared → Prop}
    (hP : C.P = X.prog) (hw : C.w = X.w) (hc : X.calm = true) (hN : X.N.Nodup) (I : L2.Inv X pins σ H s) (hi : PI X tg iter (tI C fi W)) (ok : BlkOk X.N X.env.scope scope own)
    (hn : rest[0]? = none ∨ ∃ tg' iter' ifs', rest[0]? = some ⟨tg', iter', ifs', 0⟩) (hu : ∀ i ∈ us, i ∈ own.map (·.2)) (hv : ∀ i ∈ vs, i ∈ own.map (·.2))
    (hb : ∀ (s : Shared) (H : Hp) (L : Addr) (cl : List (Str × Addr)) (fp : List Addr) (D : Addr), PG (X.blk s H scope (compEnvC scope cl L X.env) fp) tg (tG C us b) ∧ PTs (X.blk s H scope (compEnvC scope cl L X.env) fp) ifs (tT C fc Wn) ∧
      ClOk (X.blk s H scope (compEnvC scope cl L X.env) fp) C k elt (⟨tg, iter, ifs, 0⟩ :: rest) scope pos D 1 vs fr)
    (hs : ∀ x, foldedSetIterable iter X.env x = pure x)
    (h : tE C (fun ρ M => (fi ρ M).bnd fun items M1 => (noex (loopC (fun x acc M => match b x (wipeP ρ (own.map (·.2))) with
      | none => .no
      | some ρ2 => (fc ρ2 M).bnd fun t M' => if t then fr ρ2 acc M' else .ok acc M') items [] M1)).bnd fun l M2 => mkC k l M2) W σ H Q)
    (hRR : ∀ D L s' m H', L2.Inv X pins σ H' s' → Q (.ref D) H' → s'.heap.Ns L m → FpOk X pins H' L → compPost (model X.prog X.w) X.A X.xe use Qf (.ref D) L (.ok .next) s') :
    wpAny (model X.prog X.w) X.A (comprehension (cmp k elt (⟨tg, iter, ifs, 0⟩ :: rest) scope pos) scope X.env pos' (newAcc k) false (eval iter X.env) use) Qf X.xe s := by
  obtain ⟨G, ρ, M, S, ER, F⟩ := h
  have hfree : ∀ y ∈ scope.names, y.2 = .free → ∃ c, X.env.cells.lookup y.1 = some c := fun y hy e => (ok.free y hy e).elim (fun q => I.ok.has _ (.inl q)) fun q => I.ok.has _ (.inr q)
  have run := hi.run pins s σ H _ I ⟨G, ρ, M, S, ER, Srv.split F⟩
  refine wpAny_comprehension_free (use := use) (g := ⟨tg, iter, ifs, 0⟩) (gs := rest) (by cases k <;> rfl) hs (closure_ok hfree) ok.kind (fun y hy e => by rw [ok.uniq y hy, e]) (thn run fun xv s1 hx => thn hx fun itv s2 h2 => ?_)
  obtain ⟨it, fp, tn, J, H2, rfl, I2, T, st2, f2, G2, items, M2, s02, S2, hit, F2⟩ := h2
  refine newAcc_ok hP hw I2 fun s3 hlt kp I3 => newEnv_comp ?_
  generalize hD : s2.heap.objs.size = D at I3 hlt
  have hDn : H2 D = none := I2.hok.fresh (Nat.le_of_eq hD)
  have F3 := acc_end S2 hDn F2
  obtain ⟨S3, q3⟩ := S2.laidFr (o := accO C k D) hDn
  have sp3 : Stp G2 H2 G2 (upd H2 D (accO C k D)) := .laid S2 hDn (fun _ h => h) rfl fun _ _ h => h
  have nf := (S2.newNe hDn).2.1
  have f3 : ∀ b ∈ fp, FpOk X pins (upd H2 D (accO C k D)) b ∧ b < s3.heap.objs.size := fun b hb => by
    obtain ⟨o, e, _⟩ := T.obj _ _ st2 b hb
    have hl := Heap.lt_size e
    exact ⟨⟨by rw [upd_ne (by rw [← hD]; exact Nat.ne_of_lt hl)]; exact (f2 b hb).1, (f2 b hb).2⟩, Nat.lt_trans (by rw [← hD]; exact hl) hlt⟩
  have I4 := block_start I3 ok hN f3
  have st4 : tn 0 (pushCells (s3.heap.push { cls := .type "dict", data := .dict #[] }) scope.names) := T.keep _ _ _ st2 fun b _ o e => pushCells_keeps _ _ _ _ (Heap.get?_push_of_some _ (kp b o e))
  have parts := hb s3 (upd H2 D (accO C k D)) s3.heap.objs.size (cellsFrom (s3.heap.objs.size + 1) scope.names (cloFrom X.env.cells scope.names [])) fp D
  have nfp : ∀ b ∈ fp, (upd H2 D (accO C k D)) b = none := fun b hb => (f3 b hb).1.1
  show codeAny _ _ (.compStart (cmp k elt (⟨tg, iter, ifs, 0⟩ :: rest) scope pos) 0 (.ref it) (.ref D) (compEnvC scope (cellsFrom (s3.heap.objs.size + 1) scope.names (cloFrom X.env.cells scope.names [])) s3.heap.objs.size X.env)) (compPost (model X.prog X.w) X.A X.xe use Qf (.ref D) s3.heap.objs.size) { s3 with heap := pushCells (s3.heap.push { cls := .type "dict", data := .dict #[] }) scope.names }
  generalize hce : compEnvC scope (cellsFrom (s3.heap.objs.size + 1) scope.names (cloFrom X.env.cells scope.names [])) s3.heap.objs.size X.env = ce at I4 parts ⊢
  have cL : ce.locals = s3.heap.objs.size := by subst hce; rfl
  have A3 : AccAt C k G2 (upd H2 D (accO C k D)) D [] := acc_begin (G' := G2) (H' := H2)
  have ER3 : ERep C G2 (upd H2 D (accO C k D)) ρ σ := (ER.on s02.toStq).on sp3.toStq
  have hit3 : ItOk C J G2 (upd H2 D (accO C k D)) items := hit.on sp3.toStq
  generalize hH3 : upd H2 D (accO C k D) = H3 at I3 I4 parts nfp f3 F3 S3 A3 ER3 hit3
  have loop := loop_ok (X := X.blk s3 H3 scope ce fp) (C := C) (k := k) (elt := elt) (gs := ⟨tg, iter, ifs, 0⟩ :: rest) (sc := scope) (pos := pos) (D := D) (d := 0) (R := compPost (model X.prog X.w) X.A X.xe use Qf (.ref D) s3.heap.objs.size) rfl hc rfl hn
    (PG.weak parts.1 fun v σ H Q ⟨G, ρ, p, ρ', a1, a2, a3, a4⟩ => ⟨G, ρ, p, ρ', a1, a2, a3, fun σ' b1 b2 b3 => a4 σ' b1 b2 fun i hi => b3 i fun z => hi (hu i z)⟩) parts.2.1 parts.2.2 hv T
    (fun H' hn' b hb => ⟨hn' b hb, (I4.ok.exf b hb).1, I4.ok.exfs b hb, .inl hb, fun x c e => (I4.ok.exf b hb).2 x c e, fun p hp => absurd (show p ∈ ([] : List (Addr × Obj)) ++ [] from hp) (by simp)⟩)
    I4 st4 nfp S3 nf (ER3.wipe _) hit3 A3 F3 (fun s6 H5 I6 q6 => ?_)
  · exact start_cl rfl loop (T.self X.A 0 _ _ _ st4 loop)
  · have I7 : L2.Inv X pins σ H5 s6 := I3.call' (ch := fp) I6.os I6.base I6.hok I6.bare fun b hb => ⟨(f3 b hb).1.2.2.2.1, (f3 b hb).1.2.1, (f3 b hb).1.2.2.2.2.1, (f3 b hb).1.2.2.2.2.2⟩
    have nC : H5 s3.heap.objs.size = none := by
      have z : H5 ce.locals = none := I6.free
      rw [cL] at z
      exact z
    obtain ⟨m, hns, _⟩ := I6.loc
    have hns : s6.heap.Ns ce.locals m := hns
    rw [cL] at hns
    exact hRR D s3.heap.objs.size s6 m H5 I7 q6 hns (I3.fpOk (Nat.le_refl _) nC)
end
end Sk

/-! SkM: tests, comprehensions as values and stored, pairs stored, methods, isinstance. -/
namespace Sk
open PySem PySem.Spec PyProof.Rows PySem.W L2

/-! ### not, and, or, chains -/
theorem asB_bnd {α : Type} {r : Res α} {k : α → Sto → Res PV} : asB (r.bnd k) = r.bnd fun v M => asB (k v M) := by cases r <;> rfl
section
variable {X : Cx} {C : Cfg} {W : WX} {a b c : Expr} {f g h : PEnv → Sto → Res PV} {pos : Pos} {rest : List Expr}
theorem pe_notP (ha : PE X a (tE C f W)) : PE X (.UnaryOp .Not a pos) (tE C (fun ρ M => (asB (f ρ M)).bnd fun k M1 => .ok (.bl (!k)) M1) W) :=
  PE.weak (pe_not ha) fun σ H Q ⟨G, ρ, M, S, ER, F⟩ => ⟨G, ρ, M, S, ER, (asB_bl (Srv.split (rel := relB) F)).mono fun x H1 ⟨k, e, G1, v, M1, s1, S1, (r1 : v = k), F1⟩ => ⟨k, e, by subst r1; exact F1.bl S1⟩⟩
theorem pe_andP (ha : PE X a (tE C f W)) (hb : PE X (.BoolOp .And (b :: rest) pos) (tE C g W)) : PE X (.BoolOp .And (a :: b :: rest) pos) (tE C (fun ρ M => (asB (f ρ M)).bnd fun k M1 => if k then g ρ M1 else .ok (.bl false) M1) W) :=
  PE.weak (pe_and ha hb) fun σ H Q ⟨G, ρ, M, S, ER, F⟩ => ⟨G, ρ, M, S, ER, (asB_bl (Srv.split (rel := relB) F)).mono fun x H1 ⟨k, e, G1, v, M1, s1, S1, (r1 : v = k), F1⟩ => ⟨k, e, by
    subst r1
    cases v with
    | true => exact ⟨G1, ρ, M1, S1, ER.on s1.toStq, F1⟩
    | false => exact F1.bl S1⟩⟩
theorem pe_orP (ha : PE X a (tE C f W)) (hb : PE X (.BoolOp .Or (b :: rest) pos) (tE C g W)) : PE X (.BoolOp .Or (a :: b :: rest) pos) (tE C (fun ρ M => (asB (f ρ M)).bnd fun k M1 => if k then .ok (.bl true) M1 else g ρ M1) W) :=
  PE.weak (pe_or ha hb) fun σ H Q ⟨G, ρ, M, S, ER, F⟩ => ⟨G, ρ, M, S, ER, (asB_bl (Srv.split (rel := relB) F)).mono fun x H1 ⟨k, e, G1, v, M1, s1, S1, (r1 : v = k), F1⟩ => ⟨k, e, by
    subst r1
    cases v with
    | true => exact F1.bl S1
    | false => exact ⟨G1, ρ, M1, S1, ER.on s1.toStq, F1⟩⟩⟩
theorem pe_iteP {fc : PEnv → Sto → Res Bool} (hc : PT X c (tT C fc W)) (ha : PE X a (tE C f W)) (hb : PE X b (tE C g W)) : PE X (.IfExp c a b pos) (tE C (fun ρ M => (fc ρ M).bnd fun k M1 => if k then f ρ M1 else g ρ M1) W) :=
  PE.weak (pe_ifExp hc ha hb) fun σ H Q ⟨G, ρ, M, S, ER, F⟩ => ⟨G, ρ, M, S, ER, (Srv.split F).mono fun x H1 ⟨G1, v, M1, s1, S1, (r1 : v = x), F1⟩ => by
    subst r1
    cases v with
    | true => exact ⟨G1, ρ, M1, S1, ER.on s1.toStq, F1⟩
    | false => exact ⟨G1, ρ, M1, S1, ER.on s1.toStq, F1⟩⟩
theorem pe_negP (ha : PE X a (tE C f W)) : PE X (.UnaryOp .USub a pos) (tE C (fun ρ M => (f ρ M).bnd fun v M1 => match v with
    | .int i => .ok (.int (-i)) M1
    | _ => .no) W) :=
  pe_one' (k := fun v M1 => match v with
    | .int i => .ok (.int (-i)) M1
    | _ => .no) (fun ta h => pe_un un_neg h) (fun W G H M v x Q S r F => by
    cases v with
    | int i => exact ⟨i, rv_int r, F.int S⟩
    | _ => exact F.elim) ha
/-- tests -/
theorem pt_notP {ft : PEnv → Sto → Res Bool} (ha : PT X a (tT C ft W)) : PT X (.UnaryOp .Not a pos) (tT C (fun ρ M => (ft ρ M).bnd fun k M1 => .ok (!k) M1) W) :=
  PT.weak (pt_not ha) fun σ H Q ⟨G, ρ, M, S, ER, F⟩ => ⟨G, ρ, M, S, ER, (Srv.split F).mono fun x H1 ⟨G1, v, M1, s1, S1, (r1 : v = x), F1⟩ => by subst r1; exact F1.ok_now S1 rfl⟩
theorem pw_and1P {ft : PEnv → Sto → Res Bool} (ha : PT X a (tT C ft W)) : PW X (.BoolOp .And [a] pos) (tT C ft W) := pw_and1 ha
theorem pw_or1P {ft : PEnv → Sto → Res Bool} (ha : PT X a (tT C ft W)) : PW X (.BoolOp .Or [a] pos) (tT C ft W) := pw_or1 ha
theorem PW.weak {X : Cx} {e : Expr} {t t' : TT} (h : PW X e t) (k : ∀ σ H Q, t' σ H Q → t σ H Q) : PW X e t' := ⟨fun wh pins s σ H Q I q => h.run wh pins s σ H Q I (k σ H Q q)⟩
theorem pw_andP {ft gt : PEnv → Sto → Res Bool} (ha : PT X a (tT C ft W)) (hb : PW X (.BoolOp .And (b :: rest) pos) (tT C gt W)) : PW X (.BoolOp .And (a :: b :: rest) pos) (tT C (fun ρ M => (ft ρ M).bnd fun k M1 => if k then gt ρ M1 else .ok false M1) W) :=
  PW.weak (pw_and ha hb) fun σ H Q ⟨G, ρ, M, S, ER, F⟩ => ⟨G, ρ, M, S, ER, (Srv.split F).mono fun x H1 ⟨G1, v, M1, s1, S1, (r1 : v = x), F1⟩ => by
    subst r1
    cases v with
    | true => exact ⟨G1, ρ, M1, S1, ER.on s1.toStq, F1⟩
    | false => exact F1.ok_now S1 rfl⟩
theorem pw_orP {ft gt : PEnv → Sto → Res Bool} (ha : PT X a (tT C ft W)) (hb : PW X (.BoolOp .Or (b :: rest) pos) (tT C gt W)) : PW X (.BoolOp .Or (a :: b :: rest) pos) (tT C (fun ρ M => (ft ρ M).bnd fun k M1 => if k then .ok true M1 else gt ρ M1) W) :=
  PW.weak (pw_or ha hb) fun σ H Q ⟨G, ρ, M, S, ER, F⟩ => ⟨G, ρ, M, S, ER, (Srv.split F).mono fun x H1 ⟨G1, v, M1, s1, S1, (r1 : v = x), F1⟩ => by
    subst r1
    cases v with
    | true => exact F1.ok_now S1 rfl
    | false => exact ⟨G1, ρ, M1, S1, ER.on s1.toStq, F1⟩⟩
theorem pt_iteP {fc ft gt : PEnv → Sto → Res Bool} {t : TT} (he : PT X c t) (ht : ∀ σ H Q, tT C ft W σ H Q → t σ H Q) : PT X c (tT C ft W) := PT.weak he ht
/-- a op1 b op2 c -/
def chn (k k' : PV → PV → Sto → Res PV) (f g h : PEnv → Sto → Res PV) : PEnv → Sto → Res PV := fun ρ M => (f ρ M).bnd fun v M1 => (g ρ M1).bnd fun w M2 => (asB (k v w M2)).bnd fun t M3 =>
  if t then (h ρ M3).bnd fun z M4 => k' w z M4 else .ok (.bl false) M3
theorem chain_ok {r r' : R2} {k k' : PV → PV → Sto → Res PV} (ho : OpOk C r k) (ho' : OpOk C r' k') : ∀ σ H Q, tE C (chn k k' f g h) W σ H Q → tChain r r' (tE C f W) (tE C g W) (tE C h W) σ H Q :=
  fun σ H Q ⟨G, ρ, M, S, ER, F⟩ => ⟨G, ρ, M, S, ER, (Srv.split F).mono fun x H1 ⟨G1, v, M1, s1, S1, r1, F1⟩ =>
    ⟨G1, ρ, M1, S1, ER.on s1.toStq, (Srv.split F1).mono fun y H2 ⟨G2, w, M2, s2, S2, r2, F2⟩ => ho _ G2 H2 M2 v w x y _ S2 (r1.on s2.toStq) r2 ((asB_bl (Srv.split (rel := relB) F2)).mono fun z H3 ⟨t, e, G3, u, M3, s3, S3, (r3 : u = t), F3⟩ => ⟨t, e, by
      subst r3
      cases u with
      | false => exact F3.bl S3
      | true => exact ⟨G3, ρ, M3, S3, ((ER.on s1.toStq).on s2.toStq).on s3.toStq, (Srv.split F3).mono fun q H4 ⟨G4, z, M4, s4, S4, r4, F4⟩ => ho' _ G4 H4 M4 w z y q Q S4 ((r2.on s3.toStq).on s4.toStq) r4 F4⟩⟩)⟩⟩
theorem pe_chnP {op op' : CmpOp} {r r' : R2} {k k' : PV → PV → Sto → Res PV} (o1 : OpR X (compareOp op) r) (o2 : OpR X (compareOp op') r') (ho : OpOk C r k) (ho' : OpOk C r' k') (ha : PE X a (tE C f W)) (hb : PE X b (tE C g W)) (hc : PE X c (tE C h W)) (hm : lastMarks [op, op'] [b, c] = false) :
    PE X (.Compare a [op, op'] [b, c] pos) (tE C (chn k k' f g h) W) := PE.weak (pe_chain o1 o2 ha hb hc hm) (chain_ok ho ho')
theorem pt_chnP {op op' : CmpOp} {r r' : R2} {k k' : PV → PV → Sto → Res PV} (o1 : OpR X (compareOp op) r) (o2 : OpR X (compareOp op') r') (ho : OpOk C r k) (ho' : OpOk C r' k') (ha : PE X a (tE C f W)) (hb : PE X b (tE C g W)) (hc : PE X c (tE C h W)) (hm : lastMarks [op, op'] [b, c] = false) :
    PT X (.Compare a [op, op'] [b, c] pos) (tT C (fun ρ M => asB (chn k k' f g h ρ M)) W) :=
  PT.weak (pt_chain o1 o2 ha hb hc hm) fun σ H Q ⟨G, ρ, M, S, ER, F⟩ => chain_ok ho ho' σ H _ ⟨G, ρ, M, S, ER, asB_bl F⟩
end

/-! ### comprehensions -/
theorem pts_nilP {X : Cx} {C : Cfg} {W : WX} : PTs X [] (tT C (fun _ M => asB (.ok (.bl true) M)) W) := ⟨fun pins s σ H Q I ⟨G, ρ, M, S, ER, F⟩ => pts_nil.run pins s σ H Q I (F.ok_now (v := true) S rfl)⟩
section
variable {X : Cx} {C : Cfg} {W : WX} {k : CK}
theorem pe_cmpP {elt tg iter : Expr} {ifs : List Expr} {rest : List Comprehension} {scope : Scope} {own : List (Str × Nat)} {pos : Pos} {us vs : List Nat} {fi : PEnv → Sto → Res (List PV)} {b : PV → PEnv → Option PEnv} {fc : PEnv → Sto → Res Bool} {fr : PEnv → List PV → Sto → Res (List PV)}
    (hP : C.P = X.prog) (hw : C.w = X.w) (hc : X.calm = true) (hN : X.N.Nodup) (hi : PI X tg iter (tI C fi W)) (ok : BlkOk X.N X.env.scope scope own)
    (hn : rest[0]? = none ∨ ∃ tg' iter' ifs', rest[0]? = some ⟨tg', iter', ifs', 0⟩) (hu : ∀ i ∈ us, i ∈ own.map (·.2)) (hv : ∀ i ∈ vs, i ∈ own.map (·.2))
    (hb : ∀ (s : Shared) (H : Hp) (L : Addr) (cl : List (Str × Addr)) (fp : List Addr) (D : Addr), PG (X.blk s H scope (compEnvC scope cl L X.env) fp) tg (tG C us b) ∧ PTs (X.blk s H scope (compEnvC scope cl L X.env) fp) ifs (tT C fc Wn) ∧
      ClOk (X.blk s H scope (compEnvC scope cl L X.env) fp) C k elt (⟨tg, iter, ifs, 0⟩ :: rest) scope pos D 1 vs fr)
    (hs : ∀ x, foldedSetIterable iter X.env x = pure x) :
    PE X (cmp k elt (⟨tg, iter, ifs, 0⟩ :: rest) scope pos) (tE C (fun ρ M => (fi ρ M).bnd fun items M1 => (noex (loopC (fun x acc M => match b x (wipeP ρ (own.map (·.2))) with
      | none => .no
      | some ρ2 => (fc ρ2 M).bnd fun t M' => if t then fr ρ2 acc M' else .ok acc M') items [] M1)).bnd fun l M2 => mkC k l M2) W) := by
  refine ⟨fun pins s σ H Q I h => ?_⟩
  have he : eval (cmp k elt (⟨tg, iter, ifs, 0⟩ :: rest) scope pos) X.env = comprehension (cmp k elt (⟨tg, iter, ifs, 0⟩ :: rest) scope pos) scope X.env (firstIterPos (⟨tg, iter, ifs, 0⟩ :: rest) pos) (newAcc k) false (eval iter X.env) none := by cases k <;> rfl
  rw [he]
  refine comp_core hP hw hc hN I hi ok hn hu hv hb hs h fun D L s' m H' I' q hns f => ⟨m, hns, fun h'' sb => ?_⟩
  obtain ⟨f0, f1, f2, f3, f4, f5⟩ := f
  exact ⟨.ref D, H', I'.turned (t' := s'.toks) (fun b o hb e => (sb.2 b hb).trans e) f0 f1 f3 f4 f5, rfl, q⟩
theorem swc {elt : Expr} {gs : List Comprehension} {scope : Scope} {pos py : Pos} {y : Str} {l : Nat} {env : Env} (hk : env.scope.kind = .function) (hy : env.scope.names.lookup y = some .local) (hl : (py.line == pos.line) = true)
    (ha : (scope.names.any fun (n, k) => n == y && (k == .local || k == .cell)) = false) : swapsWith (cmp k elt gs scope pos) (some (.Name y py)) l env = pure true := by
  have ky : env.kindOf y = some .local := hy
  have hb : env.blockKind = .function := by unfold Env.blockKind; rw [hk]; rfl
  cases k <;> (unfold cmp swapsWith; simp only [hb, ky, ha, Expr.pos, hl]; rfl)
theorem ps_cmpP {i : Nat} {y : Str} {py spos : Pos} {elt tg iter : Expr} {ifs : List Expr} {rest : List Comprehension} {scope : Scope} {own : List (Str × Nat)} {pos : Pos} {us vs : List Nat} {fi : PEnv → Sto → Res (List PV)} {b : PV → PEnv → Option PEnv} {fc : PEnv → Sto → Res Bool} {fr : PEnv → List PV → Sto → Res (List PV)}
    (hP : C.P = X.prog) (hw : C.w = X.w) (hc : X.calm = true) (hN : X.N.Nodup) (hy : X.N[i]? = some y) (hyl : X.env.scope.names.lookup y = some .local) (hk : X.env.scope.kind = .function) (hl : (py.line == pos.line) = true) (ha : (scope.names.any fun (n, k) => n == y && (k == .local || k == .cell)) = false)
    (hi : PI X tg iter (tI C fi W)) (ok : BlkOk X.N X.env.scope scope own)
    (hn : rest[0]? = none ∨ ∃ tg' iter' ifs', rest[0]? = some ⟨tg', iter', ifs', 0⟩) (hu : ∀ i ∈ us, i ∈ own.map (·.2)) (hv : ∀ i ∈ vs, i ∈ own.map (·.2))
    (hb : ∀ (s : Shared) (H : Hp) (L : Addr) (cl : List (Str × Addr)) (fp : List Addr) (D : Addr), PG (X.blk s H scope (compEnvC scope cl L X.env) fp) tg (tG C us b) ∧ PTs (X.blk s H scope (compEnvC scope cl L X.env) fp) ifs (tT C fc Wn) ∧
      ClOk (X.blk s H scope (compEnvC scope cl L X.env) fp) C k elt (⟨tg, iter, ifs, 0⟩ :: rest) scope pos D 1 vs fr)
    (hs : ∀ x, foldedSetIterable iter X.env x = pure x) :
    PS X (.Assign [.Name y py] (cmp k elt (⟨tg, iter, ifs, 0⟩ :: rest) scope pos) spos) (tS C (fun ρ M => ((fi ρ M).bnd fun items M1 => (noex (loopC (fun x acc M => match b x (wipeP ρ (own.map (·.2))) with
      | none => .no
      | some ρ2 => (fc ρ2 M).bnd fun t M' => if t then fr ρ2 acc M' else .ok acc M') items [] M1)).bnd fun l M2 => mkC k l M2).sb ρ fun v M1 => .ok .nx (ρ.set i (some v)) M1) W) := by
  refine ⟨fun pins s σ H D I ⟨G, ρ, M, S, ER, F⟩ => ?_⟩
  rw [exec_Assign_Name_used _ _ _ _ (swc hk hyl hl ha)]
  have he : evalThenUse (cmp k elt (⟨tg, iter, ifs, 0⟩ :: rest) scope pos) X.env (assign (.Name y py) X.env) = (comprehension (cmp k elt (⟨tg, iter, ifs, 0⟩ :: rest) scope pos) scope X.env (firstIterPos (⟨tg, iter, ifs, 0⟩ :: rest) pos) (newAcc k) false (eval iter X.env) (some (assign (.Name y py) X.env)) >>= fun _ => pure ()) := by
    cases k <;> rfl
  rw [he]
  refine wpAny_bind (wpAny_standAt (wpAny_bind (wpAny_bind (thn (comp_core (Q := fun x H1 => ∃ G1 v M1, SRep C G1 H1 M1 ∧ Rep C G1 H1 v x ∧ ERep C G1 H1 ρ σ ∧ SrvS C W D G1 H1 (.ok .nx (ρ.set i (some v)) M1)) (Qf := fun _ s' => SP X pins D .next s') hP hw hc hN I hi ok hn hu hv hb hs ⟨G, ρ, M, S, ER, (SrvS.sb ER F).mono fun x H1 ⟨G1, v, M1, s1, S1, r1, F1⟩ => ⟨G1, v, M1, S1, r1, ER.on s1.toStq, F1⟩⟩ fun L Cc s' m H' I' q hns f => ?_) fun _ s' hq => wpAny_pure (wpAny_pure hq)))))
  obtain ⟨G1, v, M1, S1, r1, ER1, F1⟩ := q
  show wpAny _ _ (assign (.Name y py) X.env (.ref L)) _ _ _
  refine wpAny_assign_Name (store_ok2 (v := V.ref L) I' hN hy (.inl hyl) rfl (fun s2 I2 ⟨a, sb, ha⟩ => ?_) (.inr hyl))
  obtain ⟨f0, f1, f2, f3, f4, f5⟩ := f
  have haC : Cc ≠ a := ha.elim (fun z => by rw [z]; exact f1) fun z e => f4 y a z e.symm
  exact ⟨m, hns.sameBut sb haC, fun h3 sb3 => ⟨_, H', I2.turned (t' := s2.toks) (fun b o hb e => (sb3.2 b hb).trans e) f0 f1 f3 f4 f5, F1.nx_now S1 (ER1.set r1)⟩⟩
end
end Sk

/-! SkN: pairs stored, methods, isinstance, list(..), reversed slices. -/
namespace Sk
open PySem PySem.Spec PyProof.Rows PySem.W L2

/-! ### a, b = x, y -/
theorem any_star : ∀ {l : List Expr}, l.all (fun e => !isStar e) = true → (l.any fun | .Starred .. => true | _ => false) = false
  | [], _ => rfl
  | e :: l, h => by
    simp only [List.all_cons, Bool.and_eq_true, Bool.not_eq_true'] at h
    have ih := any_star h.2
    have h1 := h.1
    rw [List.any_cons, ih, Bool.or_false]
    cases e <;> first | rfl | cases h1
theorem if_no {α : Type} {c d : Bool} {x y z : α} (h : d = false) (hc : c = d) (e : y = z) : (if c = true then x else y) = z := by
  subst hc; rw [h, if_neg Bool.false_ne_true]; exact e
theorem sw2 {x y : Str} {px py pt pt2 : Pos} {kt k2 : Nat} {a b : Expr} {env : Env} (hk : env.scope.kind = .function) (hx : env.scope.names.lookup x = some .local) (hy : env.scope.names.lookup y = some .local) (hl : (py.line == px.line) = true) (hne : (x == y) = false)
    (hs : [a, b].all (fun e => !isStar e) = true) (h1 : [a, b].all (foldedForSure 8) = false) (h2 : [a, b].all (constantsAlone 8) = false) : swappedStores [.Tuple [.Name x px, .Name y py] kt pt] (.Tuple [a, b] k2 pt2) env = pure (some [x, y]) := by
  have kx : env.kindOf x = some .local := hx
  have ky : env.kindOf y = some .local := hy
  have hb : env.blockKind = .function := by unfold Env.blockKind; rw [hk]; rfl
  have hne' : (y == x) = false := by
    cases q : (y == x) with
    | false => rfl
    | true => rw [LawfulBEq.eq_of_beq q, beq_self_eq_true] at hne; cases hne
  unfold swappedStores
  simp only [hb, h1, h2, kx, ky, hl, List.length_cons, List.length_nil, List.filterMap_cons, List.filterMap_nil, List.head?_cons, Option.map_some, Option.getD_some, Expr.pos, beq_self_eq_true, Bool.and_self, if_true]
  have he : ([x, y] : List Str).eraseDups.length = 2 := by
    have : ([x, y] : List Str).eraseDups = [x, y] := by
      simp only [List.eraseDups_cons, List.filter_cons, List.filter_nil, hne', Bool.not_false, if_true, List.eraseDups_nil]
    rw [this]; rfl
  simp only [he]
  exact if_no rfl rfl (if_no (any_star hs) rfl (if_no rfl rfl (if_no rfl rfl (if_no rfl rfl rfl))))
theorem sw3 {x y z : Str} {px py pz pt pt2 : Pos} {kt k2 : Nat} {a b c : Expr} {env : Env} (hk : env.scope.kind = .function) (hx : env.scope.names.lookup x = some .local) (hy : env.scope.names.lookup y = some .local) (hz : env.scope.names.lookup z = some .local) (hl : (py.line == px.line) = true) (hl2 : (pz.line == px.line) = true)
    (hne : ([x, y, z] : List Str).eraseDups.length = 3)
    (hs : [a, b, c].all (fun e => !isStar e) = true) (h1 : [a, b, c].all (foldedForSure 8) = false) (h2 : [a, b, c].all (constantsAlone 8) = false) : swappedStores [.Tuple [.Name x px, .Name y py, .Name z pz] kt pt] (.Tuple [a, b, c] k2 pt2) env = pure (some [x, y, z]) := by
  have kx : env.kindOf x = some .local := hx
  have ky : env.kindOf y = some .local := hy
  have kz : env.kindOf z = some .local := hz
  have hb : env.blockKind = .function := by unfold Env.blockKind; rw [hk]; rfl
  unfold swappedStores
  simp only [hb, h1, h2, kx, ky, kz, hl, hl2, List.length_cons, List.length_nil, List.filterMap_cons, List.filterMap_nil, List.head?_cons, Option.map_some, Option.getD_some, Expr.pos, beq_self_eq_true, Bool.and_self, if_true, hne]
  exact if_no rfl rfl (if_no (any_star hs) rfl (if_no rfl rfl (if_no rfl rfl (if_no rfl rfl rfl))))
section
variable {X : Cx} {C : Cfg} {W : WX} {pos : Pos}
theorem ps_par2P {i j : Nat} {x y : Str} {a b : Expr} {px py pt pt2 : Pos} {kt k2 : Nat} {ga : PEnv → Sto → Res (List PV)} (hc : X.calm = true) (hN : X.N.Nodup) (hi : X.N[i]? = some x) (hj : X.N[j]? = some y) (hk : X.env.scope.kind = .function)
    (hx : X.env.scope.names.lookup x = some .local) (hy : X.env.scope.names.lookup y = some .local) (hl : (py.line == px.line) = true) (hne : (x == y) = false)
    (hs : [a, b].all (fun e => !isStar e) = true) (h1 : [a, b].all (foldedForSure 8) = false) (h2 : [a, b].all (constantsAlone 8) = false) (ha : PA X [a, b] (tA C ga W)) :
    PS X (.Assign [.Tuple [.Name x px, .Name y py] kt pt] (.Tuple [a, b] k2 pt2) pos) (tS C (fun ρ M => (ga ρ M).sb ρ fun l M1 => match setAll ρ [i, j] l with
      | some ρ1 => .ok .nx ρ1 M1
      | none => .no) W) := by
  have hij : i ≠ j := fun z => by
    subst z
    rw [hi] at hj
    cases hj
    rw [beq_self_eq_true] at hne
    cases hne
  refine PS.weak (ps_par hc hN hi hj hij hx hy ha (sw2 hk hx hy hl hne hs h1 h2)) fun D σ H ⟨G, ρ, M, S, ER, F⟩ => ⟨G, ρ, M, S, ER, (SrvS.sb ER F).mono fun vs H1 ⟨G1, l, M1, s1, S1, r1, F1⟩ => ?_⟩
  match l, r1, F1 with
  | [p, q], r1, F1 =>
    obtain ⟨u, v, rfl, ru, rv⟩ := r1.two_inv
    exact ⟨u, v, rfl, SrvS.nx_now (ρ := (ρ.set i (some p)).set j (some q)) F1 S1 (((ER.on s1.toStq).set ru).set rv)⟩
  | [], r1, F1 => exact F1.elim
  | [p], r1, F1 => exact F1.elim
  | p :: q :: r :: l, r1, F1 => exact F1.elim
theorem ps_par3P {i j l : Nat} {x y z : Str} {a b c : Expr} {px py pz pt pt2 : Pos} {kt k2 : Nat} {ga : PEnv → Sto → Res (List PV)} (hc : X.calm = true) (hN : X.N.Nodup) (hi : X.N[i]? = some x) (hj : X.N[j]? = some y) (hl : X.N[l]? = some z) (hk : X.env.scope.kind = .function)
    (hij : i ≠ j) (hil : i ≠ l) (hjl : j ≠ l)
    (hx : X.env.scope.names.lookup x = some .local) (hy : X.env.scope.names.lookup y = some .local) (hz : X.env.scope.names.lookup z = some .local) (hl1 : (py.line == px.line) = true) (hl2 : (pz.line == px.line) = true) (hne : ([x, y, z] : List Str).eraseDups.length = 3)
    (hs : [a, b, c].all (fun e => !isStar e) = true) (h1 : [a, b, c].all (foldedForSure 8) = false) (h2 : [a, b, c].all (constantsAlone 8) = false) (ha : PA X [a, b, c] (tA C ga W)) :
    PS X (.Assign [.Tuple [.Name x px, .Name y py, .Name z pz] kt pt] (.Tuple [a, b, c] k2 pt2) pos) (tS C (fun ρ M => (ga ρ M).sb ρ fun vs M1 => match setAll ρ [i, j, l] vs with
      | some ρ1 => .ok .nx ρ1 M1
      | none => .no) W) := by
  refine PS.weak (ps_par3 hc hN hi hj hl hij hil hjl hx hy hz ha (sw3 hk hx hy hz hl1 hl2 hne hs h1 h2)) fun D σ H ⟨G, ρ, M, S, ER, F⟩ => ⟨G, ρ, M, S, ER, (SrvS.sb ER F).mono fun vs H1 ⟨G1, l', M1, s1, S1, r1, F1⟩ => ?_⟩
  match l', r1, F1 with
  | [p, q, r], r1, F1 =>
    obtain ⟨u, t, rfl, ru, n⟩ := r1.cons_inv
    obtain ⟨v, w, rfl, rv, rw'⟩ := n.two_inv
    exact ⟨u, v, w, rfl, SrvS.nx_now (ρ := ((ρ.set i (some p)).set j (some q)).set l (some r)) F1 S1 ((((ER.on s1.toStq).set ru).set rv).set rw')⟩
  | [], r1, F1 => exact F1.elim
  | [p], r1, F1 => exact F1.elim
  | [p, q], r1, F1 => exact F1.elim
  | p :: q :: r :: s :: l, r1, F1 => exact F1.elim

/-! ### methods -/
def plainO : Expr → Bool
  | .Name _ _ => true
  | .Constant _ _ _ => true
  | .Subscript _ _ _ => true
  | _ => false
theorem base_plain {o : Expr} {name : Str} {env : Env} (h : plainO o = true) : attributeBase o name env (eval o env) = eval o env := by
  cases o <;> first | rfl | cases h
theorem pe_upP {X : Cx} {C : Cfg} {W : WX} {o : Expr} {apos pos : Pos} {f : PEnv → Sto → Res PV} (h : plainO o = true) (hl : (apos.endLine == pos.line) = true) (ho : PE X o (tE C f W)) : PE X (.Call (.Attribute o "upper" apos) [] [] pos) (tE C (fun ρ M => (f ρ M).bnd fun v M1 => upP v M1) W) :=
  pe_one' (k := fun v M1 => upP v M1) (fun ta h2 => pe_upper h2 (base_plain h) hl) (fun W G H M v x Q S r F => by
    cases v with
    | str z =>
      obtain ⟨c, F⟩ := Srv.okIf F
      obtain ⟨e, _⟩ := Rep.str_iff.mp r
      exact ⟨⟨z, e⟩, z, e, rfl, c.1, F.ok_now S (Rep.str_iff.mpr ⟨rfl, strOk_fine c.2⟩)⟩
    | _ => exact F.elim) ho
def MthOk (C : Cfg) (T : String) (Tn : Str) (r : V → List V → Hp → VK → Prop) (m : Str) : Prop :=
  (∀ G H M v x, SRep C G H M → Rep C G H v x → tyP Tn v M = true → tyV C.K T x H) ∧
  ∀ (W : XWish) G H M v x l xs Q, SRep C G H M → Rep C G H v x → RepL C G H l xs → Srv C (Rep C) W G H (evM Tn m v l M) Q → r x xs H Q
theorem mth_rep {T : String} {Tn m : Str} {r : V → List V → Hp → VK → Prop} {o e : Expr} {es : List Expr} {f : PEnv → Sto → Res PV} {ga : PEnv → Sto → Res (List PV)} {t : TE} (hK : C.K = X.K) (hm : MthOk C T Tn r m)
    (h : ∀ ta tl, PE X o ta → PA X (e :: es) tl → PE X (.Call (.Attribute o m pos) (e :: es) [] pos) (tBM X.K T r ta tl)) : True := trivial
theorem tm_ok {T : String} {Tn m : Str} {r : V → List V → Hp → VK → Prop} {f : PEnv → Sto → Res PV} {ga : PEnv → Sto → Res (List PV)} (hK : C.K = X.K) (hm : MthOk C T Tn r m) :
    ∀ σ H Q, tE C (fun ρ M => (f ρ M).bnd fun v M1 => if tyP Tn v M1 then (ga ρ M1).bnd fun l M2 => evM Tn m v l M2 else .no) W σ H Q → tBM X.K T r (tE C f W) (tA C ga W) σ H Q :=
  fun σ H Q ⟨G, ρ, M, S, ER, F⟩ => ⟨G, ρ, M, S, ER, (Srv.split F).mono fun x H1 ⟨G1, v, M1, s1, S1, r1, F1⟩ => by
    split at F1
    · rename_i ht
      exact ⟨by rw [← hK]; exact hm.1 G1 H1 M1 v x S1 r1 ht, G1, ρ, M1, S1, ER.on s1.toStq, (Srv.split F1).mono fun xs H2 ⟨G2, l, M2, s2, S2, r2, F2⟩ => hm.2 _ G2 H2 M2 v x l xs Q S2 (r1.on s2.toStq) r2 F2⟩
    · exact F1.elim⟩
theorem ty_list {G : Gh} {H : Hp} {M : Sto} {v : PV} {x : V} (S : SRep C G H M) (r : Rep C G H v x) (h : tyP "list" v M = true) : tyV C.K "list" x H := by
  unfold tyP at h
  rw [if_pos rfl] at h
  obtain ⟨l, hl⟩ := Option.isSome_iff_exists.mp h
  obtain ⟨a, xs, rfl, f, _⟩ := lst_sq S r hl
  exact .inl ⟨rfl, xs, f⟩
theorem ty_str {G : Gh} {H : Hp} {M : Sto} {v : PV} {x : V} (r : Rep C G H v x) (h : tyP "str" v M = true) : tyV C.K "str" x H := by
  unfold tyP at h
  rw [if_neg (by decide +kernel), if_pos rfl] at h
  cases v with
  | str z => rw [(Rep.str_iff.mp r).1]; exact rfl
  | _ => cases h
theorem evM_append (v : PV) (l : List PV) (M : Sto) : evM "list" "append" v l M = match v, l with
      | .loc n, [x] => (match locL M n with
        | some xs => okIf (xs.length < lim) .non (M.set n (some (.lst (xs ++ [x]))))
        | none => .no)
      | _, _ => .no := by unfold evM; rw [if_pos rfl, if_pos rfl]; try rfl
theorem evM_pop (v : PV) (l : List PV) (M : Sto) : evM "list" "pop" v l M = match v, l with
      | .loc n, [.int i] => (match locL M n with
        | some xs => if 0 ≤ i ∧ i < 2 ^ 62 then (match xs[i.toNat]? with
          | some y => .ok y (M.set n (some (.lst (xs.eraseIdx i.toNat))))
          | none => .no) else .no
        | none => .no)
      | _, _ => .no := by unfold evM; rw [if_pos rfl, if_neg (by decide +kernel), if_pos rfl]; try rfl
theorem evM_index (v : PV) (l : List PV) (M : Sto) : evM "list" "index" v l M = match l with
      | [x] => ofO (((lstOf M v).bind fun _ => (toD M x).bind fun d => firstEq M v d).map fun j => .int (j : Nat)) M
      | _ => .no := by unfold evM; rw [if_pos rfl, if_neg (by decide +kernel), if_neg (by decide +kernel), if_pos rfl]; try rfl
theorem evM_join (v : PV) (l : List PV) (M : Sto) : evM "str" "join" v l M = match v, l with
      | .str a, [x] => (match (seqOf M x).bind strsOf with
        | some ys => okIf ((ys.map (·.length)).sum + ys.length * a.length ≤ lim) (.str (Txt.join a ys)) M
        | none => .no)
      | _, _ => .no := by unfold evM; rw [if_neg (by decide +kernel), if_pos rfl, if_pos rfl]; try rfl
theorem RepL.erase {G : Gh} {H : Hp} : ∀ {l : List PV} {xs : List V} (n : Nat), RepL C G H l xs → RepL C G H (l.eraseIdx n) (xs.eraseIdx n)
  | [], _, _, h => by rw [h.nil_inv]; exact .nil
  | p :: l, _, 0, h => by obtain ⟨x, r, rfl, _, h2⟩ := h.cons_inv; exact h2
  | p :: l, _, n + 1, h => by obtain ⟨x, r, rfl, h1, h2⟩ := h.cons_inv; exact .cons h1 (RepL.erase n h2)
theorem mo_append : MthOk C "list" "list" rAppend "append" := by
  refine ⟨fun G H M v x S r h => ty_list S r h, fun W G H M v x l xs Q S rv rl F => ?_⟩
  rw [evM_append] at F
  split at F
  · rename_i n p
    obtain ⟨y, rfl, ry⟩ := rl.one_inv
    split at F
    · rename_i ys hl
      obtain ⟨a, rfl, hm⟩ := Rep.loc_iff.mp rv
      obtain ⟨hM, zs, hy, rz⟩ := loc_at S hl hm
      unfold okIf at F
      split at F
      · rename_i hlt
        obtain ⟨s, S'⟩ := S.write (m' := .lst (ys ++ [p])) (o := .lst (zs ++ [y])) hM hm fun s => ⟨_, upd_same, (rz.append (.one ry)).on s.toStq⟩
        exact ⟨a, zs, y, rfl, rfl, hy, by rw [← rz.length]; exact hlt, F.ok_on s S' (Rep.non_iff.mpr rfl)⟩
      · exact F.elim
    · exact F.elim
  · exact F.elim
theorem mo_pop : MthOk C "list" "list" rPopAt "pop" := by
  refine ⟨fun G H M v x S r h => ty_list S r h, fun W G H M v x l xs Q S rv rl F => ?_⟩
  rw [evM_pop] at F
  split at F
  · rename_i n i
    obtain ⟨y, rfl, ry⟩ := rl.one_inv
    split at F
    · rename_i ys hl
      obtain ⟨a, rfl, hm⟩ := Rep.loc_iff.mp rv
      obtain ⟨hM, zs, hy, rz⟩ := loc_at S hl hm
      split at F
      · rename_i hi
        split at F
        · rename_i p hp
          obtain ⟨z, hz, r⟩ := rz.get hp
          have hlt : i.toNat < zs.length := (List.getElem?_eq_some_iff.mp hz).1
          obtain ⟨s, S'⟩ := S.write (m' := .lst (ys.eraseIdx i.toNat)) (o := .lst (zs.eraseIdx i.toNat)) hM hm fun s => ⟨_, upd_same, (rz.erase _).on s.toStq⟩
          refine ⟨a, zs, i, i.toNat, z, rfl, by rw [rv_int ry], hy, by omega, by omega, ?_, hz, F.ok_on s S' (r.on s.toStq)⟩
          unfold seqIndex?
          have h1 : ¬ i < 0 := by omega
          have h2 : i < zs.length := by omega
          simp [h1, h2, hi.1]
        · exact F.elim
      · exact F.elim
    · exact F.elim
  · exact F.elim
theorem mo_index : MthOk C "list" "list" (rIndexD C.K) "index" := by
  refine ⟨fun G H M v x S r h => ty_list S r h, fun W G H M v x l xs Q S rv rl F => ?_⟩
  rw [evM_index] at F
  split at F
  · rename_i p
    obtain ⟨y, rfl, ry⟩ := rl.one_inv
    obtain ⟨q, h, F⟩ := Srv.ofO F
    rw [Option.map_eq_some_iff] at h
    obtain ⟨j, h, rfl⟩ := h
    rw [Option.bind_eq_some_iff] at h
    obtain ⟨l', hl, h⟩ := h
    rw [Option.bind_eq_some_iff] at h
    obtain ⟨d, hd, h⟩ := h
    obtain ⟨a, zs, rfl, f, r⟩ := lst_sq S rv hl
    have hsq : seqOf M v = some l' := by
      cases v with
      | tup z => cases hl
      | _ => exact hl
    unfold firstEq at h
    rw [hsq, Option.bind_some] at h
    rw [Option.bind_eq_some_iff] at h
    obtain ⟨ds, h1, h⟩ := h
    split at h
    · rename_i hdep
      obtain ⟨p1, c1⟩ := dp_ofM S ry hd
      obtain ⟨p2, c2⟩ := dpAll_of r h1
      rw [List.findIdx?_eq_some_iff_getElem] at h
      obtain ⟨hj, he, hno⟩ := h
      refine ⟨a, y, d, ds, j, ds[j], rfl, rfl, .lst f p2, p1, shaped_of (by simp only [PyData.canLay0]; exact c2) hdep.1, shaped_of c1 hdep.2, List.getElem?_eq_getElem hj, he, fun m z' hm hz => ?_, F.int S⟩
      have hml : m < ds.length := Nat.lt_trans hm hj
      rw [List.getElem?_eq_getElem hml] at hz
      cases hz
      simpa using hno m hm
    · cases h
  · exact F.elim
theorem all_app {p : Nat → Bool} (x y : Str) : (x ++ y).cps.all p = (x.cps.all p && y.cps.all p) := by
  obtain ⟨⟨x⟩⟩ := x
  obtain ⟨⟨y⟩⟩ := y
  show (Array.mk x ++ Array.mk y).all p = _
  rw [Array.all_append]
theorem strFine_join {a : Str} {ys : List Str} (ha : StrFine a) (hy : ∀ y ∈ ys, StrFine y) (hz : (ys.map (·.length)).sum + ys.length * a.length ≤ lim) : StrFine (Txt.join a ys) := by
  have e : Txt.join a ys = Str.join a ys := StrLaws.glued_eq_join a ys
  rw [e]
  refine ⟨?_, Nat.le_trans (StrLaws.join_length_le a ys) hz⟩
  clear hz e
  induction ys with
  | nil => show (("" : Str).cps.all (· < 0x110000)) = true; decide +kernel
  | cons x r ih =>
    cases r with
    | nil => exact (hy x (by simp)).1
    | cons y r =>
      show (x ++ a ++ Str.join a (y :: r)).cps.all (· < 0x110000) = true
      rw [all_app, all_app, (hy x (by simp)).1, ha.1, ih fun z hz => hy z (List.mem_cons_of_mem _ hz)]
      rfl
def rJoinP (K : PySem.W.Frag) : V → List V → Hp → VK → Prop := fun x xs H Q => ∃ a p, ∃ ys : List Str, x = .str a ∧ xs = [.ref p] ∧ (SqL K H p (ys.map V.str) ∨ SqT K H p (ys.map V.str)) ∧
    (ys.map (·.length)).sum + ys.length * a.length ≤ 16777216 ∧ Q (.str (Txt.join a ys)) H
theorem mo_join : MthOk C "str" "str" (rJoinP C.K) "join" := by
  refine ⟨fun G H M v x S r h => ty_str r h, fun W G H M v x l xs Q S rv rl F => ?_⟩
  rw [evM_join] at F
  split at F
  · rename_i a p
    obtain ⟨y, rfl, ry⟩ := rl.one_inv
    split at F
    · rename_i ys h
      rw [Option.bind_eq_some_iff] at h
      obtain ⟨l', h1, h2⟩ := h
      obtain ⟨q, zs, rfl, f, r⟩ := seq_sq S ry h1
      obtain ⟨rfl, hf⟩ := strs_rep r h2
      obtain ⟨rfl, fa⟩ := Rep.str_iff.mp rv
      obtain ⟨hz, F⟩ := Srv.okIf F
      exact ⟨a, q, ys, rfl, rfl, f, hz, F.ok_now S (Rep.str_iff.mpr ⟨rfl, strFine_join fa hf hz⟩)⟩
    · exact F.elim
  · exact F.elim
/-- which methods are carried -/
def mthOk (T m : Str) : Bool := decide ((T, m) ∈ ([("list", "append"), ("list", "pop"), ("list", "index"), ("str", "join")] : List (Str × Str)))
theorem few_args {e : Expr} {es : List Expr} {env : Env} {pos : Pos} (h : (e :: es).all (fun e => !isStar e) = true) (hl : (e :: es).length < 28) : ((backTo pos (starEach (e :: es) env)).all (fun x => !x.1) && (backToKw pos (keywordEach [] env)).all (fun x => x.1.isSome)
      && decide ((e :: es).length + ([] : List Keyword).length + (if ([] : List Keyword).isEmpty then 0 else 1) < 30)) = true := by
  have h1 : (backTo pos (starEach (e :: es) env)).all (fun x => !x.1) = true := by
    have := no_star (pos := pos) (env := env) h
    rw [List.all_eq_not_any_not]
    simp only [Bool.not_not]
    rw [this]; rfl
  have h2 : (decide ((e :: es).length + ([] : List Keyword).length + (if ([] : List Keyword).isEmpty then 0 else 1) < 30)) = true := by
    apply decide_eq_true
    show (e :: es).length + 0 + 0 < 30
    omega
  rw [h1, h2]; rfl
theorem mth_rule {T m : Str} {W : WX} (hm : mthOk T m = true) (hK : C.K = X.K) (hu : X.A.units + 65 < cLine) {o e : Expr} {es : List Expr} {f : PEnv → Sto → Res PV} {ga : PEnv → Sto → Res (List PV)} {apos cpos : Pos} (ho : plainO o = true) (hs : (e :: es).all (fun e => !isStar e) = true) (hl : (e :: es).length < 28) (hline : (apos.endLine == cpos.line) = true)
    (h1 : PE X o (tE C f W)) (h2 : PA X (e :: es) (tA C ga W)) : PE X (.Call (.Attribute o m apos) (e :: es) [] cpos) (tE C (fun ρ M => (f ρ M).bnd fun v M1 => if tyP T v M1 then (ga ρ M1).bnd fun l M2 => evM T m v l M2 else .no) W) := by
  have hm : (T, m) ∈ ([("list", "append"), ("list", "pop"), ("list", "index"), ("str", "join")] : List (Str × Str)) := of_decide_eq_true hm
  have hse : isStar e = false := by simp only [List.all_cons, Bool.and_eq_true, Bool.not_eq_true'] at hs; exact hs.1
  have hss : es.all (fun e => !isStar e) = true := by simp only [List.all_cons, Bool.and_eq_true] at hs; exact hs.2
  simp only [List.mem_cons, List.not_mem_nil, or_false, Prod.mk.injEq] at hm
  rcases hm with ⟨rfl, rfl⟩ | ⟨rfl, rfl⟩ | ⟨rfl, rfl⟩ | ⟨rfl, rfl⟩
  · exact PE.weak (pe_bm PySem.F.plainAttrs_list PySem.F.slot_list_append PySem.F.type_list_append mt_append h1 h2 (base_plain ho) (few_args hs hl) hline (starEach_plain hse) (no_star hss)) (tm_ok hK mo_append)
  · exact PE.weak (pe_bm PySem.F.plainAttrs_list PySem.F.slot_list_pop PySem.F.type_list_pop mt_popAt h1 h2 (base_plain ho) (few_args hs hl) hline (starEach_plain hse) (no_star hss)) (tm_ok hK mo_pop)
  · exact PE.weak (pe_bm PySem.F.plainAttrs_list PySem.F.slot_list_index PySem.F.type_list_index (mt_indexD hu) h1 h2 (base_plain ho) (few_args hs hl) hline (starEach_plain hse) (no_star hss)) (tm_ok hK (by rw [← hK]; exact mo_index))
  · exact PE.weak (pe_bm PySem.F.plainAttrs_str PySem.F.slot_str_join PySem.F.type_str_join mt_join h1 h2 (base_plain ho) (few_args hs hl) hline (starEach_plain hse) (no_star hss)) (tm_ok hK (by rw [← hK]; exact mo_join))
end
end Sk

/-! SkO: isinstance, list(..), lists turned round. -/
namespace Sk
open PySem PySem.Spec PyProof.Rows PySem.W L2

section
variable {X : Cx} {C : Cfg} {W : WX}
/-- the type of a value -/
def tyN (M : Sto) : PV → Option String
  | .non => some "NoneType"
  | .bl _ => some "bool"
  | .int _ => some "int"
  | .str _ => some "str"
  | .tup _ => some "tuple"
  | .lst _ => some "list"
  | .dct _ _ => some "dict"
  | .loc n => (locL M n).map fun _ => "list"
  | _ => none
theorem tyx_of {G : Gh} {H : Hp} {M : Sto} {v : PV} {x : V} {n : String} (S : SRep C G H M) (r : Rep C G H v x) (h : tyN M v = some n) : TyX C.K H x (.type n) := by
  cases v with
  | non => cases h; rw [Rep.non_iff.mp r]; exact .base .non
  | bl b => cases h; rw [Rep.bl_iff.mp r]; exact .base (.bl b)
  | int b => cases h; rw [Rep.int_iff.mp r]; exact .base (.int b)
  | str b => cases h; rw [(Rep.str_iff.mp r).1]; exact .base (.str b)
  | tup l =>
    cases h
    obtain ⟨a, xs, rfl, f, _⟩ := Rep.tup_iff.mp r
    rcases f with ⟨_, f | ⟨o, f⟩⟩ | ⟨o, its, n, hk, hc, _⟩
    · exact .base (.tup f)
    · exact .fTuple f
    · exact .kTuple hk hc
  | lst l =>
    cases h
    obtain ⟨a, xs, rfl, f, _⟩ := Rep.lst_iff.mp r
    rcases f with ⟨_, f | ⟨o, f⟩⟩ | ⟨o, its, n, hk, hc, _⟩
    · exact .base (.lst f)
    · exact .base (.frz f)
    · exact .kList hk hc
  | dct ks l =>
    cases h
    simp only [Rep] at r
    obtain ⟨a, xs, rfl, _, d, _⟩ := r
    rcases d with d | ⟨o, d⟩
    · exact .base (.dK d)
    · exact .fDict d
  | loc m =>
    have h : (locL M m).map (fun _ => "list") = some n := h
    rw [Option.map_eq_some_iff] at h
    obtain ⟨l, hl, rfl⟩ := h
    obtain ⟨a, rfl, hm⟩ := Rep.loc_iff.mp r
    obtain ⟨_, xs, hx, _⟩ := loc_at S hl hm
    exact .base (.lst hx)
  | _ => cases h
theorem isOf_ty {M : Sto} {v : PV} {T : Str} {b : Bool} (h : isOf M v T = some b) : ∃ n, tyN M v = some n := by
  cases v with
  | loc m =>
    have h : (match M[m]? with
      | some (some (.lst _)) => some (decide (T = ("list" : Str)))
      | _ => none) = some b := h
    split at h
    · rename_i l e
      refine ⟨"list", ?_⟩
      show (locL M m).map (fun _ => "list") = _
      unfold locL; rw [e]; rfl
    · cases h
  | non => exact ⟨_, rfl⟩
  | bl _ => exact ⟨_, rfl⟩
  | int _ => exact ⟨_, rfl⟩
  | str _ => exact ⟨_, rfl⟩
  | tup _ => exact ⟨_, rfl⟩
  | lst _ => exact ⟨_, rfl⟩
  | dct _ _ => exact ⟨_, rfl⟩
  | _ => cases h
def ty6 : List (Str × String) := [("int", "int"), ("bool", "bool"), ("str", "str"), ("tuple", "tuple"), ("list", "list"), ("dict", "dict")]
theorem isOf_kit {M : Sto} {v : PV} {T : Str} {Ts n : String} {b : Bool} {K : PySem.W.Frag} (hT : (T, Ts) ∈ ty6) (h : isOf M v T = some b) (hn : tyN M v = some n) : PySem.W.kitOne K (.type n) (.type Ts) = some b := by
  have key : ∀ (n : String), n ∈ ["NoneType", "bool", "int", "str", "tuple", "list", "dict"] → (match n with
      | "NoneType" => some false
      | "bool" => some (decide (T = ("bool" : Str)) || decide (T = ("int" : Str)))
      | "int" => some (decide (T = ("int" : Str)))
      | "str" => some (decide (T = ("str" : Str)))
      | "tuple" => some (decide (T = ("tuple" : Str)))
      | "list" => some (decide (T = ("list" : Str)))
      | "dict" => some (decide (T = ("dict" : Str)))
      | _ => none) = some b → PySem.W.kitOne K (.type n) (.type Ts) = some b := by
    intro n hn hb
    simp only [ty6, List.mem_cons, List.not_mem_nil, or_false, Prod.mk.injEq] at hT
    simp only [List.mem_cons, List.not_mem_nil, or_false] at hn
    rcases hn with rfl | rfl | rfl | rfl | rfl | rfl | rfl <;> rcases hT with ⟨rfl, rfl⟩ | ⟨rfl, rfl⟩ | ⟨rfl, rfl⟩ | ⟨rfl, rfl⟩ | ⟨rfl, rfl⟩ | ⟨rfl, rfl⟩ <;>
      (rw [← hb]; exact kit_ty (by decide +kernel))
  cases v with
  | non => cases hn; exact key _ (by decide) h
  | bl _ => cases hn; exact key _ (by decide) h
  | int _ => cases hn; exact key _ (by decide) h
  | str _ => cases hn; exact key _ (by decide) h
  | tup _ => cases hn; exact key _ (by decide) h
  | lst _ => cases hn; exact key _ (by decide) h
  | dct _ _ => cases hn; exact key _ (by decide) h
  | loc m =>
    have hn : (locL M m).map (fun _ => "list") = some n := hn
    rw [Option.map_eq_some_iff] at hn
    obtain ⟨l, hl, rfl⟩ := hn
    refine key _ (by decide) ?_
    have h : (match M[m]? with
      | some (some (.lst _)) => some (decide (T = ("list" : Str)))
      | _ => none) = some b := h
    split at h
    · exact h
    · cases h
  | _ => cases hn
def isiOk (T : Str) : Bool := decide (T ∈ ty6.map (·.1))
/-- isinstance(e, T) -/
theorem pe_isiP {T : Str} {e : Expr} {f : PEnv → Sto → Res PV} {p p2 pos : Pos} (hT : isiOk T = true) (hK : C.K = X.K) (hg : Gl X "isinstance") (hm : X.mg "isinstance" = none) (hgT : Gl X T) (hmT : X.mg T = none) (hs : isStar e = false) (he : PE X e (tE C f W)) :
    PE X (.Call (.Name "isinstance" p) [e, .Name T p2] [] pos) (tE C (fun ρ M => (f ρ M).bnd fun v M1 => ofO ((isAny M1 v [T]).map .bl) M1) W) := by
  have hT : T ∈ ty6.map (·.1) := of_decide_eq_true hT
  obtain ⟨⟨T', Ts⟩, hmem, rfl⟩ := List.mem_map.mp hT
  have hT2 := hmem
  simp only [ty6, List.mem_cons, List.not_mem_nil, or_false, Prod.mk.injEq] at hmem
  have facts : bootBuiltins T' = some (.type Ts) ∧ T' ≠ "__name__" ∧ (T' == ("__debug__" : Str)) = false := by
    rcases hmem with ⟨rfl, rfl⟩ | ⟨rfl, rfl⟩ | ⟨rfl, rfl⟩ | ⟨rfl, rfl⟩ | ⟨rfl, rfl⟩ | ⟨rfl, rfl⟩ <;> exact ⟨by decide +kernel, by decide +kernel, by decide +kernel⟩
  have hname : PE X (.Name T' p2) (tC (.ty Ts)) := pe_bltn hgT hmT facts.1 rfl facts.2.1 facts.2.2
  refine PE.weak (pe_callB call_isi hg hm (by decide +kernel) (pa_cons he (pa_cons hname pa_nil (starEach_plain rfl)) (starEach_plain hs)) (by decide +kernel) (by decide +kernel) (starEach_plain hs) (no_star (by simp [isStar]))) fun σ H Q ⟨G, ρ, M, S, ER, F⟩ =>
    ⟨G, ρ, M, S, ER, (Srv.split F).mono fun x H1 ⟨G1, v, M1, s1, S1, r1, F1⟩ => ?_⟩
  obtain ⟨q, h, F1⟩ := Srv.ofO F1
  rw [Option.map_eq_some_iff] at h
  obtain ⟨b, h, rfl⟩ := h
  have h : (isOf M1 v T').bind (fun b => (some false).map fun c => b || c) = some b := h
  rw [Option.bind_eq_some_iff] at h
  obtain ⟨b', h, hb⟩ := h
  have hb : some (b' || false) = some b := hb
  rw [Bool.or_false] at hb
  cases hb
  obtain ⟨n, hn⟩ := isOf_ty h
  exact ⟨x, .ty Ts, _, _, b, rfl, .ty Ts, by rw [← hK]; exact tyx_of S1 r1 hn, isOf_kit hT2 h hn, F1.bl S1⟩
/-- list(e) -/
theorem pe_lofP {m : Bool} {e : Expr} {ga : PEnv → Sto → Res (List PV)} {p pos : Pos} (hK : C.K = X.K) (hg : Gl X "list") (hm : X.mg "list" = none) (hs : isStar e = false) (ha : PA X [e] (tA C ga W)) :
    PE X (.Call (.Name "list" p) [e] [] pos) (tE C (fun ρ M => (ga ρ M).bnd fun l M1 => lofP m l M1) W) :=
  PE.weak (pe_callTy call_list_of hg hm (by decide +kernel) ha (by decide +kernel) (by decide +kernel) (starEach_plain hs) rfl) fun σ H Q ⟨G, ρ, M, S, ER, F⟩ => ⟨G, ρ, M, S, ER, (Srv.split F).mono fun xs H1 ⟨G1, l, M1, s1, S1, r1, F1⟩ => by
    unfold lofP at F1
    split at F1
    · obtain ⟨x, rfl, rx⟩ := r1.one_inv
      split at F1
      · rename_i l hl
        obtain ⟨a, ys, rfl, f, r⟩ := seq_sq S1 rx hl
        exact ⟨a, ys, rfl, by rw [← hK]; exact f, F1.newMk S1 r⟩
      · exact F1.elim
    · exact F1.elim⟩
/-- e[::-1], a list -/
theorem pe_revP {e : Expr} {f : PEnv → Sto → Res PV} {k : Nat} {p1 p2 p3 pos : Pos} (hK : C.K = X.K) (he : PE X e (tE C f W)) :
    PE X (.Subscript e (.Slice none none (some (.UnaryOp .USub (.Constant (.int 1) k p1) p2)) p3) pos) (tE C (fun ρ M => (f ρ M).bnd fun v M1 => match v with
      | .lst l => .ok (.lst l.reverse) M1
      | .loc n => ofO ((locL M1 n).map fun l => .lst l.reverse) M1
      | _ => .no) W) :=
  PE.weak (pe_revL he) fun σ H Q ⟨G, ρ, M, S, ER, F⟩ => ⟨G, ρ, M, S, ER, (Srv.split F).mono fun x H1 ⟨G1, v, M1, s1, S1, r1, F1⟩ => by
    have key : ∀ l, lstOf M1 v = some l → Srv C (Rep C) (fun c d => W c d σ) G1 H1 (.ok (.lst l.reverse) M1) Q → ∃ a xs, x = .ref a ∧ SqL X.K H1 a xs ∧ ∀ p, H1 p = none → Q (.ref p) (upd H1 p (.lst xs.reverse)) := fun l hl F => by
      obtain ⟨a, xs, rfl, f, r⟩ := lst_sq S1 r1 hl
      exact ⟨a, xs, rfl, by rw [← hK]; exact f, F.newL S1 r.reverse⟩
    cases v with
    | lst l => exact key l rfl F1
    | loc n =>
      obtain ⟨q, h, F1⟩ := Srv.ofO F1
      rw [Option.map_eq_some_iff] at h
      obtain ⟨l, h, rfl⟩ := h
      exact key l h F1
    | _ => exact F1.elim⟩
end
end Sk

/-! SkY: dict displays, dict(..), list(range(..)). -/
namespace Sk
open PySem PySem.Spec PyProof.Rows PySem.W L2

section
variable {C : Cfg} {G G' : Gh} {H H' : Hp} {M : Sto} {D : Addr}
/-- the display's dict is ready -/
theorem Srv.doneD {W : XWish} {m : Bool} {kvs : List (Key × PV)} {ls : List (Key × V)} {Q : VK} (F : Srv C (Rep C) W G H (mkD m kvs M) Q) (S : SRep C (G.addFr D) H M) (nf : ¬ G.fr D) (e : H D = some (.dK ls)) (r : RK C G H kvs ls) (hf : KsFine kvs) : Q (.ref D) H := by
  obtain ⟨ek, rl⟩ := r.to
  have hz : (kvs.map (·.1)).zip (ls.map (·.2)) = ls := by rw [ek]; exact zip_pairs ls
  cases m with
  | false =>
    obtain ⟨s1, S1⟩ := S.doneFz nf
    have F : Srv C (Rep C) W G H (.ok (.dct (kvs.map (·.1)) (kvs.map (·.2))) M) Q := F
    refine F.ok_on s1 S1 ?_
    simp only [Rep]
    exact ⟨D, ls.map (·.2), rfl, .inr rfl, .inl (by rw [hz]; exact e), ⟨by rw [List.length_map, List.length_map], fun k hk => hf k hk⟩, rl.on s1.toStq⟩
  | true =>
    obtain ⟨s1, S1⟩ := S.doneMu (m := .dct (kvs.map (·.1)) (kvs.map (·.2))) nf fun G2 s2 => ⟨ls.map (·.2), by rw [hz]; exact e, ⟨by rw [List.length_map, List.length_map], fun k hk => hf k hk⟩, rl.on s2⟩
    have F : Srv C (Rep C) W G H (.ok (.loc M.length) (M ++ [some (.dct (kvs.map (·.1)) (kvs.map (·.2)))])) Q := F
    exact F.ok_on s1 S1 (Rep.loc_iff.mpr ⟨D, rfl, if_pos rfl⟩)

/-! ### pairs by turns -/
def trsOf (C : Cfg) (Γ : Sig) : Es → List (TE × TE)
  | .cons k (.cons v r) => (tE C (evE Γ k) Wn, tE C (evE Γ v) Wn) :: trsOf C Γ r
  | _ => []
def evenB : Es → Bool
  | .nil => true
  | .cons _ (.cons _ r) => evenB r
  | _ => false
def flatV : List (V × V) → List V
  | [] => []
  | p :: r => p.1 :: p.2 :: flatV r
theorem flatV_inj : ∀ {a b : List (V × V)}, flatV a = flatV b → a = b
  | [], [], _ => rfl
  | p :: r, q :: t, h => by
    simp only [flatV, List.cons.injEq] at h
    obtain ⟨h1, h2, h3⟩ := h
    rw [flatV_inj h3, Prod.ext h1 h2]
  | [], _ :: _, h => by simp [flatV] at h
  | _ :: _, [], h => by simp [flatV] at h
theorem pairs_serve {Γ : Sig} {ρ : PEnv} {σ : L2.St} : ∀ {es : Es} {G : Gh} {H : Hp} {M : Sto} {Q : List V → Hp → Prop} {P : List (V × V) → Hp → Prop}, evenB es = true → SRep C G H M → ERep C G H ρ σ → Srv C (RepL C) (fun c d H => Wn c d σ H) G H (evEs Γ es ρ M) Q → (∀ ps H1, Q (flatV ps) H1 → P ps H1) → tPairs (trsOf C Γ es) σ H P
  | .nil, G, H, M, Q, P, _, S, ER, F, hP => hP [] H (F.ok_now S .nil)
  | .cons k (.cons v r), G, H, M, Q, P, h, S, ER, F, hP => by
    show tE C (evE Γ k) Wn σ H fun x H1 => tE C (evE Γ v) Wn σ H1 fun y H2 => tPairs (trsOf C Γ r) σ H2 fun ps H3 => P ((x, y) :: ps) H3
    have F : Srv C (RepL C) (fun c d H => Wn c d σ H) G H ((evE Γ k ρ M).bnd fun u M1 => ((evE Γ v ρ M1).bnd fun w M2 => (evEs Γ r ρ M2).bnd fun l M3 => .ok (w :: l) M3).bnd fun l M4 => .ok (u :: l) M4) Q := by
      simp only [evEs] at F; exact F
    refine ⟨G, ρ, M, S, ER, (Srv.split F).mono fun x H1 ⟨G1, u, M1, s1, S1, r1, F1⟩ => ⟨G1, ρ, M1, S1, ER.on s1.toStq, ?_⟩⟩
    have F1 : Srv C (RepL C) (fun c d H => Wn c d σ H) G1 H1 ((evE Γ v ρ M1).bnd fun w M2 => (evEs Γ r ρ M2).bnd fun l M3 => .ok (u :: w :: l) M3) Q := by
      have e : (((evE Γ v ρ M1).bnd fun w M2 => (evEs Γ r ρ M2).bnd fun l M3 => Res.ok (w :: l) M3).bnd fun l M4 => Res.ok (u :: l) M4) = (evE Γ v ρ M1).bnd fun w M2 => (evEs Γ r ρ M2).bnd fun l M3 => .ok (u :: w :: l) M3 := by
        cases evE Γ v ρ M1 with
        | ok w M2 => simp only [bnd_ok]; cases evEs Γ r ρ M2 <;> rfl
        | ex e M2 => rfl
        | no => rfl
      rw [e] at F1; exact F1
    refine (Srv.split F1).mono fun y H2 ⟨G2, w, M2, s2, S2, r2, F2⟩ => ?_
    refine pairs_serve (es := r) (G := G2) (H := H2) (M := M2) (Q := fun l H3 => Q (x :: y :: l) H3) h S2 ((ER.on s1.toStq).on s2.toStq) ((Srv.split F2).mono fun l H3 ⟨G3, l', M3, s3, S3, r3, F3⟩ => ?_) fun ps H3 q => hP ((x, y) :: ps) H3 q
    exact F3.ok_now S3 (.cons ((r1.on s2.toStq).on s3.toStq) (.cons (r2.on s3.toStq) r3))
  | .cons _ .nil, _, _, _, _, _, h, _, _, _, _ => by cases h
  | .cons _ (.star _ _), _, _, _, _, _, h, _, _, _, _ => by cases h
  | .star _ _, _, _, _, _, _, h, _, _, _, _ => by cases h
theorem pairsP_rep : ∀ {l : List PV} {xs : List V} {kvs : List (Key × PV)}, RepL C G H l xs → pairsP l = some kvs → ∃ ls : List (Key × V), xs = flatV (ls.map fun kv => (kV kv.1, kv.2)) ∧ RK C G H kvs ls ∧ KsFine kvs
  | [], _, _, r, h => by
    cases h
    exact ⟨[], r.nil_inv, trivial, fun _ z => nomatch z⟩
  | [_], _, _, r, h => by cases h
  | k :: v :: l, _, _, r, h => by
    obtain ⟨x, xs, rfl, r1, r2⟩ := r.cons_inv
    obtain ⟨y, ys, rfl, r3, r4⟩ := r2.cons_inv
    simp only [pairsP, Option.bind_eq_some_iff, Option.map_eq_some_iff] at h
    obtain ⟨k', h1, kvs, h2, rfl⟩ := h
    obtain ⟨ls, rfl, rk, hf⟩ := pairsP_rep r4 h2
    obtain ⟨rfl, fk⟩ := keyP_rep h1 r1
    exact ⟨(k', y) :: ls, rfl, ⟨rfl, r3, rk⟩, fun j hj => (List.mem_cons.mp hj).elim (fun z => by rw [z]; exact fk) fun z => hf j z⟩
end
section
variable {X : Cx} {C : Cfg} {Γ : Sig} {pos : Pos}
theorem pe_dspP {m : Bool} {es : Es} {keys : List (Option Expr)} {values : List Expr} (hev : evenB es = true) (h : PPs X pos keys values (trsOf C Γ es)) (hall : keys.all (·.isSome) = true) (hl : keys.length = values.length) (h0 : keys ≠ []) (h15 : keys.length ≤ 15) :
    PE X (.Dict keys values pos) (tE C (fun ρ M => (noex (evEs Γ es ρ M)).bnd fun l M1 => dspP m l M1) Wn) :=
  PE.weak (pe_disp h hall hl h0 h15) fun σ H Q ⟨G, ρ, M, S, ER, F⟩ p hp => by
    obtain ⟨S0, q0⟩ := S.laidFr (o := .dK []) hp
    have s0 : Stp G H G (upd H p (.dK [])) := .laid S hp (fun _ h => h) rfl fun _ _ h => h
    have nf := (S.newNe hp).2.1
    have F : Srv C (Rep C) (fun c d => Wn c d σ) G H ((noex (evEs Γ es ρ M)).bnd fun l M1 => dspP m l M1) Q := F
    have key : Srv C (RepL C) (fun c d H => Wn c d σ H) (G.addFr p) (upd H p (.dK [])) (evEs Γ es ρ M) (fun xs H2 => H2 p = some (.dK []) ∧ ∃ ls : List (Key × V), xs = flatV (ls.map fun kv => (kV kv.1, kv.2)) ∧ ls.length ≤ 15 ∧ Q (.ref p) (upd H2 p (.dK (mergeK [] ls)))) := by
      revert F
      cases evEs Γ es ρ M with
      | no => exact fun F => F
      | ex e M1 => exact fun F => False.elim F
      | ok l M1 =>
        intro F G2 H2 xs s S2 rl
        obtain ⟨G1, rfl, s1, e⟩ := s.base
        have e : H2 p = some (.dK []) := e.trans upd_same
        have F : Srv C (Rep C) (fun c d => Wn c d σ) G H (dspP m l M1) Q := F
        unfold dspP at F
        split at F
        · rename_i kvs hk
          split at F
          · rename_i h15
            obtain ⟨ls, rfl, rk, hf⟩ := pairsP_rep rl hk
            refine ⟨e, ls, rfl, by rw [← rk.length]; exact h15, ?_⟩
            have nf1 : ¬ G1.fr p := by rw [s1.fr]; exact nf
            obtain ⟨s3, S3⟩ := S2.writeFr (o := .dK (mergeK [] ls)) nf1
            exact Srv.doneD (Srv.on ((s0.trans s1).trans s3) F) S3 nf1 upd_same (((rk.on stq_unfr).on s3.toStq).merge (show RK C G1 (upd H2 p (.dK (mergeK [] ls))) [] [] from trivial)) (hf.merge fun _ z => nomatch z)
          · exact F.elim
        · exact F.elim
    exact pairs_serve hev S0 (ER.on q0) key fun ps H2 ⟨e, ls, eq, hl, q⟩ => ⟨e, ls, flatV_inj eq, hl, q⟩
theorem pe_dspN {m : Bool} : PE X (.Dict [] [] pos) (tE C (fun ρ M => (noex (evEs Γ .nil ρ M)).bnd fun l M1 => dspP m l M1) Wn) :=
  PE.weak pe_dnewK fun σ H Q ⟨G, ρ, M, S, ER, F⟩ => by
    have F : Srv C (Rep C) (fun c d => Wn c d σ) G H (mkD m (mK [] []) M) Q := by
      simp only [evEs, noex, bnd_ok, dspP, pairsP, List.length_nil, Nat.zero_le, if_true] at F
      exact F
    exact Srv.newD (ls := []) F S trivial fun _ z => nomatch z
variable {W : WX}
theorem pairsT_rep : ∀ {G : Gh} {H : Hp} {l : List PV} {xs : List V} {kvs : List (Key × PV)}, RepL C G H l xs → pairsT l = some kvs → ∃ (ps : List Addr) (ls : List (Key × V)), xs = ps.map V.ref ∧ Paired (fun p (kv : Key × V) => SqT C.K H p [kV kv.1, kv.2]) ps ls ∧ RK C G H kvs ls ∧ KsFine kvs
  | G, H, [], _, _, r, h => by
    cases h
    exact ⟨[], [], r.nil_inv, .nil, trivial, fun _ z => nomatch z⟩
  | G, H, v :: l, _, _, r, h => by
    obtain ⟨x, xs, rfl, r1, r2⟩ := r.cons_inv
    unfold pairsT at h
    split at h
    · rename_i heq; cases heq
    · rename_i k w t heq
      cases heq
      simp only [Option.bind_eq_some_iff, Option.map_eq_some_iff] at h
      obtain ⟨k', h1, kvs, h2, rfl⟩ := h
      obtain ⟨ps, ls, rfl, hp, rk, hf⟩ := pairsT_rep r2 h2
      obtain ⟨a, ys, rfl, f, rl⟩ := Rep.tup_iff.mp r1
      obtain ⟨y, z, rfl, q1, q2⟩ := rl.two_inv
      obtain ⟨rfl, fk⟩ := keyP_rep h1 q1
      exact ⟨a :: ps, (k', z) :: ls, rfl, .cons f.sq hp, ⟨rfl, q2, rk⟩, fun j hj => (List.mem_cons.mp hj).elim (fun z => by rw [z]; exact fk) fun z => hf j z⟩
    · cases h
/-- dict(e) of a list of pairs -/
theorem pe_dofP {m : Bool} {e : Expr} {ga : PEnv → Sto → Res (List PV)} {p pos : Pos} (hK : C.K = X.K) (hc : X.calm = true) (hg : Gl X "dict") (hm : X.mg "dict" = none) (hs : isStar e = false) (ha : PA X [e] (tA C ga W)) :
    PE X (.Call (.Name "dict" p) [e] [] pos) (tE C (fun ρ M => (ga ρ M).bnd fun l M1 => dofP m l M1) W) :=
  PE.weak (pe_callTy (call_dictP hc) hg hm (by decide +kernel) ha (by decide +kernel) (by decide +kernel) (starEach_plain hs) rfl) fun σ H Q ⟨G, ρ, M, S, ER, F⟩ => ⟨G, ρ, M, S, ER, (Srv.split F).mono fun xs H1 ⟨G1, l, M1, s1, S1, r1, F1⟩ => by
    unfold dofP at F1
    split at F1
    · obtain ⟨x, rfl, rx⟩ := r1.one_inv
      split at F1
      · rename_i kvs hl
        rw [Option.bind_eq_some_iff] at hl
        obtain ⟨l, h1, h2⟩ := hl
        obtain ⟨a, ys, rfl, f, r⟩ := lst_sq S1 rx h1
        obtain ⟨ps, ls, rfl, hp, rk, hf⟩ := pairsT_rep r h2
        exact ⟨a, ps, ls, rfl, by rw [← hK]; exact f, by rw [← hK]; exact hp, Srv.newD F1 S1 (rk.merge (show RK C G1 H1 [] [] from trivial)) (hf.merge fun _ z => nomatch z)⟩
      · exact F1.elim
    · exact F1.elim⟩
theorem rng_rep {G : Gh} {H : Hp} (a : Int) (n : Nat) : RepL C G H (rngL a n) ((List.range n).map fun i => V.int (a + (i : Nat))) := by
  unfold rngL
  induction List.range n with
  | nil => exact .nil
  | cons i l ih => exact .cons (Rep.int_iff.mpr rfl) ih
/-- list(range(a, b)) -/
theorem pe_lr2P {m : Bool} {a b : Expr} {fa fb : PEnv → Sto → Res PV} {p p2 pos pos2 : Pos} (hc : X.calm = true) (hg : Gl X "list") (hm : X.mg "list" = none) (hg2 : Gl X "range") (hm2 : X.mg "range" = none) (h1 : isStar a = false) (h2 : isStar b = false) (ha : PE X a (tE C fa W)) (hb : PE X b (tE C fb W)) :
    PE X (.Call (.Name "list" p) [.Call (.Name "range" p2) [a, b] [] pos2] [] pos) (tE C (fun ρ M => (fa ρ M).bnd fun v M1 => (fb ρ M1).bnd fun w M2 => lrP m v w M2) W) :=
  PE.weak (pe_listRg hc hg hm (prg_2 hg2 hm2 ha hb (starEach_plain h1) (starEach_plain h2) (no_star (by simp [h2])))) fun σ H Q ⟨G, ρ, M, S, ER, F⟩ => ⟨G, ρ, M, S, ER, (Srv.split F).mono fun x H1 ⟨G1, v, M1, s1, S1, r1, F1⟩ => ⟨G1, ρ, M1, S1, ER.on s1.toStq, (Srv.split F1).mono fun y H2 ⟨G2, w, M2, s2, S2, r2, F2⟩ => by
    cases v with
    | int i => cases w with
      | int k =>
        unfold lrP at F2
        dsimp only at F2
        split at F2
        · rename_i hc
          exact ⟨i, k, rv_int (r1.on s2.toStq), rv_int r2, ⟨hc.1, hc.2.1, hc.2.2.1, hc.2.2.2.1, hc.2.2.2.2⟩, F2.newMk S2 (rng_rep i _)⟩
        · exact F2.elim
      | _ => exact F2.elim
    | _ => exact F2.elim⟩⟩
theorem pe_lr1P {m : Bool} {b : Expr} {fb : PEnv → Sto → Res PV} {p p2 pos pos2 : Pos} (hc : X.calm = true) (hg : Gl X "list") (hm : X.mg "list" = none) (hg2 : Gl X "range") (hm2 : X.mg "range" = none) (h2 : isStar b = false) (hb : PE X b (tE C fb W)) :
    PE X (.Call (.Name "list" p) [.Call (.Name "range" p2) [b] [] pos2] [] pos) (tE C (fun ρ M => (fb ρ M).bnd fun w M2 => lrP m (.int 0) w M2) W) :=
  PE.weak (pe_listRg hc hg hm (prg_1 hg2 hm2 hb (starEach_plain h2))) fun σ H Q ⟨G, ρ, M, S, ER, F⟩ => ⟨G, ρ, M, S, ER, (Srv.split F).mono fun y H2 ⟨G2, w, M2, s2, S2, r2, F2⟩ => by
    cases w with
    | int k =>
      unfold lrP at F2
      dsimp only at F2
      split at F2
      · rename_i hc
        exact ⟨k, rv_int r2, ⟨hc.1, hc.2.1, hc.2.2.1, hc.2.2.2.1, hc.2.2.2.2⟩, F2.newMk S2 (rng_rep 0 _)⟩
      · exact F2.elim
    | _ => exact F2.elim⟩
end
end Sk

/-! SkZi: list(zip(a, b)) of two lists. -/
namespace Sk
open PySem PySem.Spec PyProof.Rows PySem.W L2

theorem zl_no_len : typeLookup (.type "zip") "__len__" = pure none := by rw [typeLookup_type, builtinLookup_eq_fast]; kernel_rfl
theorem zl_no_hint : typeLookup (.type "zip") "__length_hint__" = pure none := by rw [typeLookup_type, builtinLookup_eq_fast]; kernel_rfl
abbrev lobj (acc : Array Value) (c : Nat) : Obj := { cls := .type "list", dict := none, data := .seq acc c, slots := #[] }
/-- the zip, i pairs out -/
structure ZState (z TI TO i1 i2 l1 l2 S : Addr) (xs ys : Array Value) (i : Nat) (h : Heap) : Prop where
  ti : IsPair h TI (.ref i1) (.ref i2)
  a1 : h.IsListIter i1 l1 i
  a2 : h.IsListIter i2 l2 i
  b1 : h.IsList l1 xs
  b2 : h.IsList l2 ys
  tl : ∃ o, h.get? TO = some o
  st : (IsZip h z TI TO .none ∧ ∃ a b, IsPair h TO a b) ∨ ∃ T f oT, IsZipHeld h z TI TO T f ∧ h.get? T = some oT ∧ T ≠ z ∧ T ≠ i1 ∧ T ≠ i2 ∧ T ≠ S
/-- the pairs that are out -/
def ZOut (h : Heap) (S : Addr) (xs ys : Array Value) (acc : Array Value) (i : Nat) : Prop :=
  ∃ as : List Addr, acc.toList = as.map Value.ref ∧ as.Nodup ∧ as.length = i ∧ ∀ (j : Nat) (T : Addr), as[j]? = some T → S < T ∧ ∃ x y, IsPair h T x y ∧ xs[j]? = some x ∧ ys[j]? = some y
section
variable {prog : Program} {w : World} {A : Around} {R : Result → Shared → Prop} {z TI TO i1 i2 l1 l2 S : Addr} {xs ys : Array Value}
theorem ZOut.size {h : Heap} {acc : Array Value} {i : Nat} (o : ZOut h S xs ys acc i) : acc.size = i := by
  obtain ⟨as, e, _, hl, _⟩ := o
  rw [← Array.length_toList, e, List.length_map, hl]
theorem ZOut.on {h h' : Heap} {acc : Array Value} {i : Nat} (o : ZOut h S xs ys acc i) (k : ∀ b ob, S < b → h.get? b = some ob → h'.get? b = some ob) : ZOut h' S xs ys acc i :=
  let ⟨as, e, nd, hl, q⟩ := o
  ⟨as, e, nd, hl, fun j T hj => let ⟨n, x, y, e2, r⟩ := q j T hj; ⟨n, x, y, k T _ n e2, r⟩⟩
theorem ZOut.push {h h' : Heap} {acc : Array Value} {i : Nat} {T : Addr} {x y : Value} (o : ZOut h S xs ys acc i) (k : ∀ b ob, S < b → h.get? b = some ob → h'.get? b = some ob) (new : ∀ U ob, h.get? U = some ob → U ≠ T) (p : IsPair h' T x y) (hx : xs[i]? = some x) (hy : ys[i]? = some y) (hT : S < T) : ZOut h' S xs ys (acc.push (.ref T)) (i + 1) := by
  obtain ⟨as, e, nd, hl, q⟩ := o
  refine ⟨as ++ [T], by rw [Array.toList_push, e]; simp, List.nodup_append.mpr ⟨nd, by simp, fun a ha b hb z => ?_⟩, by rw [List.length_append, hl]; rfl, fun j U hj => ?_⟩
  · obtain ⟨m, hm⟩ := List.getElem?_of_mem ha
    obtain ⟨_, x, y, e2, _⟩ := q m a hm
    rw [List.mem_singleton.mp hb] at z
    exact new a _ e2 z
  · by_cases hji : j < as.length
    · rw [List.getElem?_append_left hji] at hj
      obtain ⟨n, x, y, e2, r⟩ := q j U hj
      exact ⟨n, x, y, k U _ n e2, r⟩
    · rw [List.getElem?_append_right (by omega)] at hj
      have h0 : j - as.length = 0 := by
        have := (List.getElem?_eq_some_iff.mp hj).1
        simp at this; omega
      rw [h0] at hj
      cases hj
      have : j = i := by omega
      subst this
      exact ⟨hT, x, y, p, hx, hy⟩
theorem zl_loop (hh : A.handled = none) (D : ZipApart z TI TO i1 i2 l1 l2) (hS : z < S ∧ TI < S ∧ TO < S ∧ i1 < S ∧ i2 < S ∧ l1 < S ∧ l2 < S) (n : Nat) (hn : n = min xs.size ys.size) (hz : n ≤ sizeLine) (res : Value) (h0 : Heap) :
    ∀ (k i : Nat) (s : Shared) (acc : Array Value) (c : Nat), n - i = k → i ≤ n → ZState z TI TO i1 i2 l1 l2 S xs ys i s.heap → s.heap.get? S = some (lobj acc c) → ZOut s.heap S xs ys acc i → (∀ b o, b ≠ z → b ≠ TO → b ≠ i1 → b ≠ i2 → b ≠ S → h0.get? b = some o → s.heap.get? b = some o) →
      (∀ h acc c, h.get? S = some (lobj acc c) → ZOut h S xs ys acc n → (∀ b o, b ≠ z → b ≠ TO → b ≠ i1 → b ≠ i2 → b ≠ S → h0.get? b = some o → h.get? b = some o) → R (.ok (.ret res)) { s with heap := h }) →
      codeAny (model prog w) A (.builtin "list.extend.loop" ⟨[.ref S, .ref z, res], []⟩) R s := by
  obtain ⟨mz, mTI, mTO, m1, m2, ml1, ml2⟩ := hS
  have nz : S ≠ z := Nat.ne_of_gt mz
  have nTI : S ≠ TI := Nat.ne_of_gt mTI
  have nTO : S ≠ TO := Nat.ne_of_gt mTO
  have n1 : S ≠ i1 := Nat.ne_of_gt m1
  have n2 : S ≠ i2 := Nat.ne_of_gt m2
  have nl1 : S ≠ l1 := Nat.ne_of_gt ml1
  have nl2 : S ≠ l2 := Nat.ne_of_gt ml2
  have far : ∀ b : Addr, S < b → b ≠ z ∧ b ≠ TO ∧ b ≠ i1 ∧ b ≠ i2 ∧ b ≠ S := fun b hb => ⟨Nat.ne_of_gt (Nat.lt_trans mz hb), Nat.ne_of_gt (Nat.lt_trans mTO hb), Nat.ne_of_gt (Nat.lt_trans m1 hb), Nat.ne_of_gt (Nat.lt_trans m2 hb), Nat.ne_of_gt hb⟩
  intro k
  induction k with
  | zero =>
    intro i s acc c hk hi Z hSS o hk0 hR
    have hin : i = n := by omega
    subst hin
    have hend : xs[i]? = none ∨ ys[i]? = none := by
      rcases Nat.le_total xs.size ys.size with h | h
      · exact .inl (Array.getElem?_eq_none (by omega))
      · exact .inr (Array.getElem?_eq_none (by omega))
    refine codeAny_builtin (F.entry_extend_loop) ((Around.under_plainId F.plain_extend_loop _).symm ▸ ?_)
    show wpAny _ A.in1 (pyNext (.ref z) >>= _) _ _ s
    have fin : ∀ h' : Heap, (∀ c o, c ≠ z → c ≠ TO → c ≠ i1 → c ≠ i2 → s.heap.get? c = some o → h'.get? c = some o) → R (.ok (.ret res)) { s with heap := h' } := fun h' hk' =>
      hR h' acc c (hk' S _ nz nTO n1 n2 hSS) (o.on fun b ob hb e => let ⟨a1, a2, a3, a4, _⟩ := far b hb; hk' b ob a1 a2 a3 a4 e) fun b ob a1 a2 a3 a4 a5 e => hk' b ob a1 a2 a3 a4 (hk0 b ob a1 a2 a3 a4 a5 e)
    rcases Z.st with ⟨hz1, a, b, hTO⟩ | ⟨T, f, oT, hz1, hT, _⟩
    · exact wpAny_bind (wpAny_pyNext_zip_end hh D hz1 Z.ti hTO Z.a1 Z.a2 Z.b1 Z.b2 hend fun h' hk' => wpAny_pure (fin h' hk'))
    · exact wpAny_bind (wpAny_pyNext_zip_end_held hh D hz1 hT Z.ti Z.a1 Z.a2 Z.b1 Z.b2 hend fun h' hk' => wpAny_pure (fin h' fun c o c1 _ c3 c4 e => hk' c o c1 c3 c4 e))
  | succ k ih =>
    intro i s acc c hk hi Z hSS o hk0 hR
    have hlt : i < n := by omega
    have hx : xs[i]? = some (xs[i]'(by omega)) := Array.getElem?_eq_getElem _
    have hy : ys[i]? = some (ys[i]'(by omega)) := Array.getElem?_eq_getElem _
    refine codeAny_builtin (F.entry_extend_loop) ((Around.under_plainId F.plain_extend_loop _).symm ▸ ?_)
    show wpAny _ A.in1 (pyNext (.ref z) >>= _) _ _ s
    have zlt : z < s.heap.objs.size := by
      rcases Z.st with ⟨hz1, _⟩ | ⟨T, f, oT, hz1, _⟩ <;> exact Heap.lt_size hz1
    have i1lt : i1 < s.heap.objs.size := let ⟨_, e, _⟩ := Z.a1; Heap.lt_size e
    have i2lt : i2 < s.heap.objs.size := let ⟨_, e, _⟩ := Z.a2; Heap.lt_size e
    have Slt : S < s.heap.objs.size := Heap.lt_size hSS
    have tlt : TO < s.heap.objs.size := let ⟨_, e⟩ := Z.tl; Heap.lt_size e
    -- the pair is out; it is put behind the list
    have step : ∀ (h' : Heap) (f : Bool) (T : Addr) (oT : Obj), IsZipHeld h' z TI TO T f → h'.get? T = some oT → T ≠ z ∧ T ≠ i1 ∧ T ≠ i2 ∧ T ≠ S → h'.IsListIter i1 l1 (i + 1) → h'.IsListIter i2 l2 (i + 1) → IsPair h' s.heap.objs.size (xs[i]'(by omega)) (ys[i]'(by omega)) →
        (∀ c o, c ≠ z → c ≠ TO → c ≠ i1 → c ≠ i2 → s.heap.get? c = some o → h'.get? c = some o) → (∃ o, h'.get? TO = some o) →
        wpAny (model prog w) A.in1 (updateSeq S (·.push (.ref s.heap.objs.size)) >>= fun _ => again (.builtin "list.extend.loop" ⟨[.ref S, .ref z, res], []⟩))
          (fun fin s' => match fin with | .done f => R (.ok f) s' | .again c' => c'.quiet = true ∧ codeAny (model prog w) A c' R s') (fun e s' => R (.error e) s') { s with heap := h' } := by
      intro h' f T oT hz' hT' ⟨t1, t2, t3, t4⟩ h1' h2' hp hk' htl
      have hS' := hk' S _ nz nTO n1 n2 hSS
      have up : ∀ b ob, b ≠ S → h'.get? b = some ob → (h'.update S (Obj.mapSeq (·.push (.ref s.heap.objs.size)))).get? b = some ob := fun b ob hb e => (Heap.get?_update_other _ _ (Ne.symm hb)).trans e
      have nT : s.heap.objs.size ≠ S := Nat.ne_of_gt Slt
      refine wpAny_bind (wpAny_updateSeq (s := { s with heap := h' }) hS' rfl (wpAny_pure ⟨plainId_quiet F.plain_extend_loop _, ih (i + 1) { s with heap := h'.update S (Obj.mapSeq (·.push (.ref s.heap.objs.size))) } _ _ (by omega) hlt ?_ (Heap.get?_update_self _ hS' rfl) ?_ ?_ fun h acc c g1 g2 g3 => hR h acc c g1 g2 g3⟩)
        (by rw [o.size]; omega) (by show (acc.push _).size ≤ sizeLine + 1; rw [Array.size_push, o.size]; omega))
      · have q1 := Z.ti
        refine ⟨up _ _ (Ne.symm nTI) ?_, h1'.at fun ob e => up _ ob (Ne.symm n1) e, h2'.at fun ob e => up _ ob (Ne.symm n2) e, Z.b1.at fun ob e => up _ ob (Ne.symm nl1) (hk' l1 ob D.l1z D.l1TO D.l1i1 D.l1i2 e), Z.b2.at fun ob e => up _ ob (Ne.symm nl2) (hk' l2 ob D.l2z D.l2TO D.l2i1 D.l2i2 e), let ⟨ob, e⟩ := htl; ⟨ob, up _ _ (Ne.symm nTO) e⟩,
          .inr ⟨T, f, oT, up _ _ (Ne.symm nz) hz', up _ _ t4 hT', t1, t2, t3, t4⟩⟩
        exact hk' TI _ D.TIz D.TITO D.TIi1 D.TIi2 q1
      · exact o.push (fun b ob hb e => let ⟨a1, a2, a3, a4, a5⟩ := far b hb; up b ob a5 (hk' b ob a1 a2 a3 a4 e)) (fun U ob e => Nat.ne_of_lt (Heap.lt_size e)) (up _ _ nT hp) hx hy Slt
      · exact fun b ob a1 a2 a3 a4 a5 e => up b ob a5 (hk' b ob a1 a2 a3 a4 (hk0 b ob a1 a2 a3 a4 a5 e))
    rcases Z.st with ⟨hz1, a, b, hTO⟩ | ⟨T, f, oT, hz1, hT, t1, t2, t3, t4⟩
    · refine wpAny_bind (wpAny_pyNext_zip_item D hz1 Z.ti hTO Z.a1 Z.a2 Z.b1 Z.b2 hx hy fun h' q1 q2 q3 q4 q5 _ q7 => step h' false _ _ q1 q5 ⟨Nat.ne_of_gt zlt, Nat.ne_of_gt i1lt, Nat.ne_of_gt i2lt, Nat.ne_of_gt Slt⟩ q3 q4 q5 q7 ⟨_, q2⟩)
    · refine wpAny_bind (wpAny_pyNext_zip_item_held D hz1 hT Z.ti Z.a1 Z.a2 Z.b1 Z.b2 hx hy fun h' q1 q3 q4 q5 _ q7 => step h' true T oT q1 (q7 T oT t1 t2 t3 hT) ⟨t1, t2, t3, t4⟩ q3 q4 q5 (fun c o c1 _ c3 c4 e => q7 c o c1 c3 c4 e) (let ⟨ob, e⟩ := Z.tl; ⟨ob, q7 _ _ D.TOz D.TOi1 D.TOi2 e⟩))
/-- list(z) of a new zip -/
theorem call_list_zip {E : Value → Shared → Prop} {s : Shared} {Q : Value → Shared → Prop} (hh : A.handled = none) (D : ZipApart z TI TO i1 i2 l1 l2) (hz : IsZip s.heap z TI TO .none) (hTI : IsPair s.heap TI (.ref i1) (.ref i2)) (hTO : ∃ a b, IsPair s.heap TO a b)
    (h1 : s.heap.IsListIter i1 l1 0) (h2 : s.heap.IsListIter i2 l2 0) (b1 : s.heap.IsList l1 xs) (b2 : s.heap.IsList l2 ys) (hn : min xs.size ys.size ≤ sizeLine)
    (hQ : ∀ h acc c, h.get? s.heap.objs.size = some (lobj acc c) → ZOut h s.heap.objs.size xs ys acc (min xs.size ys.size) → (∀ b o, b ≠ z → b ≠ TO → b ≠ i1 → b ≠ i2 → b ≠ s.heap.objs.size → s.heap.get? b = some o → h.get? b = some o) → Q (.ref s.heap.objs.size) { s with heap := h }) :
    wpAny (model prog w) A (call (.type "list") [.ref z]) Q E s := by
  have zl : z < s.heap.objs.size := Heap.lt_size hz
  have Tl : TI < s.heap.objs.size := Heap.lt_size hTI
  have Ol : TO < s.heap.objs.size := let ⟨_, _, e⟩ := hTO; Heap.lt_size e
  have il : i1 < s.heap.objs.size := let ⟨_, e, _⟩ := h1; Heap.lt_size e
  have jl : i2 < s.heap.objs.size := let ⟨_, e, _⟩ := h2; Heap.lt_size e
  have ll : l1 < s.heap.objs.size := let ⟨_, e, _⟩ := b1; Heap.lt_size e
  have ml : l2 < s.heap.objs.size := let ⟨_, e, _⟩ := b2; Heap.lt_size e
  generalize hSd : s.heap.objs.size = S at *
  refine callType_codes (Q₁ := fun obj s1 => obj = .ref S ∧ s1 = { s with heap := s.heap.push { cls := .type "list", data := .seq #[] } }) F.called_list (F.typeCall_list_1 _) F.entry_list_init (code_list_new _ ⟨by rw [hSd], rfl⟩) fun obj s1 hs1 => ?_
  obtain ⟨rfl, rfl⟩ := hs1
  have hS : (s.heap.push { cls := .type "list", data := .seq #[] }).get? S = some { cls := .type "list", data := .seq #[] } := by rw [← hSd]; exact Heap.get?_push_size _ rfl
  have up : ∀ (h : Heap) (f : Obj → Obj) b ob, b < S → h.get? b = some ob → (h.update S f).get? b = some ob := fun h f b ob hb e => (Heap.get?_update_other _ _ (Nat.ne_of_gt hb)).trans e
  refine ⟨⟨_, hS, rfl⟩, F.args_list_init_2 _ _, ?_⟩
  show wpAny _ A.in1.in1 (do let old ← Builtin.List.listItems (.ref S); Builtin.List.listUpdate (.ref S) (fun _ => #[]); letGo old.toList.reverse; Builtin.List.listExtendWith (.ref S) (.ref z) .none) _ _ _
  refine wpAny_bind ?_
  unfold Builtin.List.listItems
  refine wpAny_bind (wpAny_seqItems hS rfl (wpAny_pure ?_))
  show wpAny _ A.in1.in1 (updateSeq S (fun _ => #[]) >>= fun _ => letGo (#[] : Array Value).toList.reverse >>= fun _ => Builtin.List.listExtendWith (.ref S) (.ref z) .none) _ _ _
  refine wpAny_bind (wpAny_updateSeq hS rfl ?_)
  have hS2 := Heap.get?_update_self (Obj.mapSeq (fun _ => (#[] : Array Value))) hS rfl
  have k2 : ∀ b ob, s.heap.get? b = some ob → ((s.heap.push { cls := .type "list", data := .seq #[] }).update S (Obj.mapSeq (fun _ => (#[] : Array Value)))).get? b = some ob := fun b ob e => up _ _ b ob (by rw [← hSd]; exact Heap.lt_size e) (Heap.get?_push_of_some _ e)
  generalize (s.heap.push { cls := .type "list", data := .seq #[] }).update S (Obj.mapSeq (fun _ => (#[] : Array Value))) = g2 at hS2 k2
  refine wpAny_bind (wpAny_letGo ?_)
  unfold Builtin.List.listExtendWith
  have hT : ∀ {h : Heap} {tk : Tok}, h.get? z = some { cls := .type "zip", dict := none, data := .fields #[.none, .bool false, .bool false, .ref TI, .ref TO], slots := #[] } → Shared.TypeIs { s with heap := h, toks := tk } (.ref z) "zip" := fun e => ⟨_, e, rfl⟩
  refine wpAny_bind (wpAny_typeOf (hT (tk := s.toks) (k2 _ _ hz)) ?_)
  have c1 : Builtin.List.listSameRef (.ref S) (.ref z) = false := by simp [Builtin.List.listSameRef, Nat.ne_of_gt zl]
  have c2 : (Value.type "zip" == Value.type "list") = false := by decide
  have c3 : (Value.type "zip" == Value.type "tuple") = false := by decide
  simp only [c1, c2, c3, Bool.or_false, Bool.false_eq_true, if_false]
  refine wpAny_bind (wpAny_pyIter_zip (s := { s with heap := g2 }) (k2 _ _ hz) (wpAny_bind (wpAny_holding ?_)))
  unfold Builtin.List.listLengthHint
  refine wpAny_bind (wpAny_specialOf (hT (tk := s.toks) (k2 _ _ hz)) zl_no_len ?_)
  show wpAny _ A.in1.in1 (specialOf (Value.ref z) (Str.ofString "__length_hint__") >>= _) _ _ _
  refine wpAny_bind (wpAny_specialOf (hT (tk := s.toks) (k2 _ _ hz)) zl_no_hint (wpAny_pure ?_))
  show wpAny _ A.in1.in1 (rule "list.extend.makes-room" >>= fun _ => Builtin.List.listTouch (.ref S) >>= fun _ => again (.builtin "list.extend.loop" ⟨[.ref S, .ref z, .none], []⟩)) _ _ _
  refine wpAny_bind (wpAny_rule (wpAny_bind ?_))
  show wpAny _ A.in1.in1 (updateSeq S (·.push .none) >>= fun _ => updateSeq S (·.pop)) _ _ _
  refine wpAny_bind (wpAny_updateSeq hS2 rfl ?_)
  have hS3 := Heap.get?_update_self (Obj.mapSeq (·.push Value.none)) hS2 rfl
  refine wpAny_updateSeq (hz := by seq_fits) hS3 rfl ?_
  have hS4 := Heap.get?_update_self (Obj.mapSeq (·.pop)) hS3 rfl
  have k4 : ∀ b ob, s.heap.get? b = some ob → ((g2.update S (Obj.mapSeq (·.push Value.none))).update S (Obj.mapSeq (·.pop))).get? b = some ob := fun b ob e => by
    have hb : b < S := by rw [← hSd]; exact Heap.lt_size e
    exact up _ _ b ob hb (up _ _ b ob hb (k2 b ob e))
  refine wpAny_pure ⟨plainId_quiet F.plain_extend_loop _, ?_⟩
  refine zl_loop (A := A.in1) (xs := xs) (ys := ys) (S := S) hh D ⟨zl, Tl, Ol, il, jl, ll, ml⟩ _ rfl hn .none s.heap _ 0 _ _ _ rfl (Nat.zero_le _)
    ⟨k4 _ _ hTI, h1.at fun ob e => k4 _ ob e, h2.at fun ob e => k4 _ ob e, b1.at fun ob e => k4 _ ob e, b2.at fun ob e => k4 _ ob e, let ⟨_, _, e⟩ := hTO; ⟨_, k4 _ _ e⟩, .inl ⟨k4 _ _ hz, let ⟨a, b, e⟩ := hTO; ⟨a, b, k4 _ _ e⟩⟩⟩ hS4 ⟨[], rfl, List.nodup_nil, rfl, fun j T hj => by simp at hj⟩ (fun b ob _ _ _ _ _ e => k4 b ob e)
    fun h acc c g1 g2 g3 => ⟨rfl, hQ h acc c g1 g2 g3⟩
end
/-- the list and its pairs are tracked -/
theorem zl_laid {X : Cx} {pins : List (Addr × Obj)} {σ : L2.St} {H : Hp} {s : Shared} {h : Heap} {tk : Tok} {S : Addr} {as : List Addr} {acc : Array Value} {c : Nat} {ps : List (V × V)} (I : L2.Inv X pins σ H s) (hz : ps.length ≤ sizeLine) (hk : ∀ b o, s.heap.get? b = some o → h.get? b = some o) (hS0 : s.heap.objs.size ≤ S)
    (hS : h.get? S = some (lobj acc c)) (hacc : acc.toList = as.map Value.ref) (nd : as.Nodup) (hl : as.length = ps.length) (hT : ∀ (j : Nat) (T : Addr) (p : V × V), as[j]? = some T → ps[j]? = some p → S < T ∧ ∃ x y, IsPair h T x y ∧ RelV p.1 x ∧ RelV p.2 y) :
    ∃ H2 : Hp, (∀ b u, H b = some u → H2 b = some u) ∧ (∀ b, b ≠ S → b ∉ as → H2 b = H b) ∧ H2 S = some (.lst (as.map V.ref)) ∧ (∀ (j : Nat) (T : Addr) (p : V × V), as[j]? = some T → ps[j]? = some p → H2 T = some (.tup [p.1, p.2])) ∧ L2.Inv X pins σ H2 { s with heap := h, toks := tk } := by
  let H2 : Hp := fun b => if b = S then some (.lst (as.map V.ref)) else match as.idxOf? b with
    | some j => (ps[j]?).map fun p => .tup [p.1, p.2]
    | none => H b
  have above : ∀ b ∈ as, S < b := fun b hb => by
    obtain ⟨j, hj⟩ := List.getElem?_of_mem hb
    have hlt := (List.getElem?_eq_some_iff.mp hj).1
    exact (hT j b _ hj (List.getElem?_eq_getElem (by omega : j < ps.length))).1
  have idx : ∀ (j : Nat) (T : Addr), as[j]? = some T → as.idxOf? T = some j := fun j T hj => by
    rw [List.idxOf?_eq_some_iff]
    obtain ⟨hlt, e⟩ := List.getElem?_eq_some_iff.mp hj
    refine ⟨hlt, by simp [e], fun k hk2 => ?_⟩
    intro z
    have e2 : as[k] = as[j] := by rw [e]; simpa using z
    exact absurd ((List.getElem_inj nd).mp e2) (Nat.ne_of_lt hk2)
  have eS : H2 S = some (.lst (as.map V.ref)) := if_pos rfl
  have eT : ∀ (j : Nat) (T : Addr) (p : V × V), as[j]? = some T → ps[j]? = some p → H2 T = some (.tup [p.1, p.2]) := fun j T p h1 h2 => by
    have hne : T ≠ S := Nat.ne_of_gt (above T (List.mem_of_getElem? h1))
    show (if T = S then _ else _) = _
    rw [if_neg hne, idx j T h1]
    show (ps[j]?).map _ = _
    rw [h2]; rfl
  have off : ∀ b, b < s.heap.objs.size → H2 b = H b := fun b hb => by
    have hn : b ∉ as := fun z => absurd (Nat.lt_trans (Nat.lt_of_lt_of_le hb hS0) (above b z)) (Nat.lt_irrefl b)
    show (if b = S then _ else _) = _
    rw [if_neg (Nat.ne_of_lt (Nat.lt_of_lt_of_le hb hS0)), List.idxOf?_eq_none_iff.mpr hn]
  have kp : ∀ b u, H b = some u → H2 b = some u := fun b u e => (off b (I.hok b u e).lt).trans e
  have new : ∀ b u, H2 b = some u → ObjOk X.prog X.w H2 h b u := fun b u e => by
    by_cases hbS : b = S
    · subst hbS
      rw [eS] at e
      cases e
      refine ⟨by rw [List.length_map, hl]; exact hz, acc.toList, c, ?_, by rw [Array.toArray_toList]; exact hS⟩
      rw [hacc]
      clear hS hacc
      induction as with
      | nil => exact .nil
      | cons a as _ =>
        have : ∀ l : List Addr, Vals (l.map V.ref) (l.map Value.ref) := fun l => by
          induction l with
          | nil => exact .nil
          | cons a l ih => exact .cons rfl ih
        exact this _
    · by_cases hb : b ∈ as
      · obtain ⟨j, hj⟩ := List.getElem?_of_mem hb
        have hlt := (List.getElem?_eq_some_iff.mp hj).1
        have hp : ps[j]? = some (ps[j]'(by omega)) := List.getElem?_eq_getElem _
        rw [eT j b _ hj hp] at e
        cases e
        obtain ⟨_, x, y, q1, q2, q3⟩ := hT j b _ hj hp
        exact ⟨by show 2 ≤ sizeLine; decide, [x, y], .cons q2 (.cons q3 .nil), ⟨_, q1, rfl, _, rfl⟩⟩
      · have e2 : H b = some u := by
          have : H2 b = H b := by
            show (if b = S then _ else _) = _
            rw [if_neg hbS, List.idxOf?_eq_none_iff.mpr hb]
          rw [← this]; exact e
        exact (I.hok b u e2).stay (fun d v _ y => hk d v y) (fun d y => kp d _ y) fun d xs y => kp d _ y
  refine ⟨H2, kp, fun b h1 h2 => ?_, eS, eT, ?_⟩
  · show (if b = S then _ else _) = _
    rw [if_neg h1, List.idxOf?_eq_none_iff.mpr h2]
  · refine I.call' (ch := []) (H' := H2) (s' := { s with heap := h, toks := tk }) rfl ⟨fun b o q _ _ _ => hk b o q, fun b o q _ _ _ => ⟨o.slots, hk b o q⟩, fun b o q n _ => (off b (Heap.lt_size q)).trans n, fun b o q _ => ⟨o, hk b o q⟩, fun b xs q => kp b _ q, fun b o u q => kp b _ q, fun b qs q => ⟨#[], by rw [kp b _ q]; simp⟩⟩ new I.bare fun b z => absurd z (by simp)
/-- many new objects, all for good -/
theorem SRep.laidMany {C : Cfg} {G : Gh} {H H3 : Hp} {M : Sto} {N : Addr → Prop} (S : SRep C G H M) (hn : ∀ b, N b → H b = none ∧ H3 b ≠ none) (hs : ∀ b, ¬ N b → H3 b = H b) :
    Stp G H { G with fz := fun a => G.fz a ∨ N a } H3 ∧ SRep C { G with fz := fun a => G.fz a ∨ N a } H3 M := by
  have same : ∀ b, H b ≠ none → H3 b = H b := fun b hb => hs b fun z => hb (hn b z).1
  have s : Stp G H { G with fz := fun a => G.fz a ∨ N a } H3 := ⟨⟨fun _ h => .inl h, fun _ _ h => h, fun a u hz h => by
      have e := same a (S.fzN a hz).1
      rcases h with h | ⟨v, h⟩
      · exact .inl (e.trans h)
      · exact .inr ⟨v, e.trans h⟩,
    fun a u hz h _ => (same a (S.fzN a hz).1).trans h⟩, rfl, fun a h => same a (S.frN a h)⟩
  refine ⟨s, S.keep s rfl (fun n a e => same a (S.muN n a e).2.1) (fun a h => ?_) (fun n a e h => ?_) fun a h => ?_⟩
  · rcases h with h | h
    · exact ⟨by rw [same a (S.fzN a h).1]; exact (S.fzN a h).1, (S.fzN a h).2⟩
    · exact ⟨(hn a h).2, fun z => S.frN a z (hn a h).1⟩
  · rcases h with h | h
    · exact h
    · exact absurd (hn a h).1 (S.muN n a e).2.1
  · rw [same a (S.frN a h)]; exact S.frN a h
section
variable {X : Cx} {a b : Expr} {ta tb : TE}
/-- zip(a, b) as an argument -/
def PZp (X : Cx) (e : Expr) (t : L2.St → Hp → (List V → List V → Hp → Prop) → Prop) : Prop :=
  ∀ (pins : List (Addr × Obj)) (s : Shared) (σ : L2.St) (H : Hp) (Q : List V → List V → Hp → Prop), L2.Inv X pins σ H s → t σ H Q →
    wpAny (model X.prog X.w) X.A (eval e X.env) (fun u s1 => ∃ z TI TO i1 i2 l1 l2 its its2 xs ys H1, u = .ref z ∧ ZipApart z TI TO i1 i2 l1 l2 ∧ IsZip s1.heap z TI TO .none ∧ IsPair s1.heap TI (.ref i1) (.ref i2) ∧ (∃ p q, IsPair s1.heap TO p q) ∧
      s1.heap.IsListIter i1 l1 0 ∧ s1.heap.IsListIter i2 l2 0 ∧ s1.heap.IsList l1 its ∧ s1.heap.IsList l2 its2 ∧ Vals xs its.toList ∧ Vals ys its2.toList ∧ its.size ≤ sizeLine ∧ (∃ h0 : Heap, L2.Inv X pins σ H1 { s1 with heap := h0 } ∧ (∀ b o, h0.get? b = some o → s1.heap.get? b = some o) ∧ h0.objs.size ≤ z ∧ h0.objs.size ≤ TO ∧ h0.objs.size ≤ i1 ∧ h0.objs.size ≤ i2 ∧ h0.objs.size ≤ s1.heap.objs.size) ∧ Q xs ys H1) X.xe s
def tZp (K : PySem.W.Frag) (ta tb : TE) : L2.St → Hp → (List V → List V → Hp → Prop) → Prop := fun σ H Q => ta σ H fun x H1 => tb σ H1 fun y H2 => ∃ p q xs ys, x = .ref p ∧ y = .ref q ∧ SqL K H2 p xs ∧ SqL K H2 q ys ∧ Q xs ys H2
theorem pzp {p pos : Pos} (hg : Gl X "zip") (hm : X.mg "zip" = none) (ha : PE X a ta) (hb : PE X b tb) (h1 : isStar a = false) (h2 : isStar b = false) : PZp X (.Call (.Name "zip" p) [a, b] [] pos) (tZp X.K ta tb) := by
  intro pins s σ H Q I h
  refine Call_ (ld_blt I hg hm PyProof.Rows.boot_zip (PyProof.Rows.callWith_type1 (args_cons (thn (ha.run pins s σ H _ I h) fun v s1 ⟨x, H1, I1, r1, q1⟩ => one_arg hb I1 q1 (fun u s2 y H2 I2 r2 q => ?_) (starEach_plain h2)) (starEach_plain h1)) (starEach_plain h1) (no_star (by simp [h2]))))
  obtain ⟨p, q, xs, ys, rfl, rfl, hp, hq, q⟩ := q
  obtain rfl : v = Value.ref _ := r1
  obtain rfl : u = Value.ref _ := r2
  obtain ⟨its, rv, p1, z1⟩ := I2.list hp
  obtain ⟨its2, rv2, p2, z2⟩ := I2.list hq
  refine call_zip_2 p1.isList p2.isList fun h' hz hTI hTO k1 k2 hsz hk => ?_
  refine ⟨_, _, _, _, _, _, _, its.toArray, its2.toArray, xs, ys, H2, rfl, PySem.W.ktu_apart s2.heap.objs.size _ _ p1.lt p2.lt, hz, hTI, ⟨_, _, hTO⟩, k1, k2, p1.isList.at fun o e => hk _ o e, p2.isList.at fun o e => hk _ o e, rv, rv2, by rw [List.size_toArray, ← rv.length]; exact z1,
    ⟨s2.heap, I2, hk, Nat.le_add_right _ _, Nat.le_add_right _ _, Nat.le_refl _, Nat.le_add_right _ _, by rw [hsz]; exact Nat.le_add_right _ _⟩, q⟩
/-- list(zip(a, b)) -/
def rZl (xs ys : List V) (H : Hp) (Q : VK) : Prop := ∀ (H3 : Hp) (S : Addr) (as : List Addr), H S = none → (∀ T ∈ as, H T = none) → as.length = (xs.zip ys).length → (∀ b, b ≠ S → b ∉ as → H3 b = H b) → H3 S = some (.lst (as.map V.ref)) →
  (∀ (j : Nat) (T : Addr) (p : V × V), as[j]? = some T → (xs.zip ys)[j]? = some p → H3 T = some (.tup [p.1, p.2])) → Q (.ref S) H3
theorem pe_listZip {e : Expr} {p pos : Pos} (hc : X.calm = true) (hg : Gl X "list") (hm : X.mg "list" = none) (he : PZp X e (tZp X.K ta tb)) (hs : isStar e = false) :
    PE X (.Call (.Name "list" p) [e] [] pos) (fun σ H Q => tZp X.K ta tb σ H fun xs ys H1 => rZl xs ys H1 Q) := by
  refine ⟨fun pins s σ H Q I h => Call_ (ld_blt I hg hm PyProof.Rows.boot_list (PyProof.Rows.callWith_type1 (args_cons (thn (he pins s σ H _ I h) fun u s1 h1 => args_nil ?_) (starEach_plain hs)) (starEach_plain hs)))⟩
  obtain ⟨z, TI, TO, i1, i2, l1, l2, its, its2, xs, ys, H1, rfl, D, hz, hTI, hTO, k1, k2, b1, b2, rv, rv2, hsz, ⟨h0, I1, hk, q1, q2, q3, q4, q5⟩, q⟩ := h1
  refine call_list_zip (I1.ok.hd hc) D hz hTI hTO k1 k2 b1 b2 (Nat.le_trans (Nat.min_le_left _ _) hsz) fun h' acc c hS hout hk2 => ?_
  obtain ⟨as, hacc, nd, hl, hT⟩ := hout
  have keep : ∀ b o, h0.get? b = some o → h'.get? b = some o := fun b o e => by
    have hlt := Heap.lt_size e
    exact hk2 b o (Nat.ne_of_lt (Nat.lt_of_lt_of_le hlt q1)) (Nat.ne_of_lt (Nat.lt_of_lt_of_le hlt q2)) (Nat.ne_of_lt (Nat.lt_of_lt_of_le hlt q3)) (Nat.ne_of_lt (Nat.lt_of_lt_of_le hlt q4)) (Nat.ne_of_lt (Nat.lt_of_lt_of_le hlt q5)) (hk b o e)
  have lx : xs.length = its.size := by rw [rv.length, Array.length_toList]
  have ly : ys.length = its2.size := by rw [rv2.length, Array.length_toList]
  have hps : as.length = (xs.zip ys).length := by rw [hl, List.length_zip, lx, ly]
  obtain ⟨H3, kp, off, eS, eT, I3⟩ := zl_laid (tk := s1.toks) (S := s1.heap.objs.size) (ps := xs.zip ys) I1 (by rw [List.length_zip, lx]; exact Nat.le_trans (Nat.min_le_left _ _) hsz) keep q5 hS hacc nd hps fun j T p hj hp => by
    obtain ⟨n, x, y, e, ex, ey⟩ := hT j T hj
    obtain ⟨vx, vy⟩ := p
    rw [List.getElem?_zip_eq_some] at hp
    have r1 : RelV vx x := by
      obtain ⟨u, hu, r⟩ := rv.get hp.1
      rw [Array.getElem?_toList, ex] at hu
      cases hu; exact r
    have r2 : RelV vy y := by
      obtain ⟨u, hu, r⟩ := rv2.get hp.2
      rw [Array.getElem?_toList, ey] at hu
      cases hu; exact r
    exact ⟨n, x, y, e, r1, r2⟩
  have above : ∀ T ∈ as, s1.heap.objs.size < T := fun T hm => by
    obtain ⟨j, hj⟩ := List.getElem?_of_mem hm
    exact (hT j T hj).1
  exact ⟨.ref s1.heap.objs.size, H3, I3, rfl, q H3 _ as (I1.hok.fresh q5) (fun T hm => I1.hok.fresh (Nat.le_trans q5 (Nat.le_of_lt (above T hm)))) hps off eS eT⟩
variable {C : Cfg} {fa fb : PEnv → Sto → Res PV} {W : WX}
theorem pe_lzP {p p2 pos pos2 : Pos} (hK : C.K = X.K) (hc : X.calm = true) (hg : Gl X "list") (hm : X.mg "list" = none) (hg2 : Gl X "zip") (hm2 : X.mg "zip" = none) (h1 : isStar a = false) (h2 : isStar b = false) (ha : PE X a (tE C fa W)) (hb : PE X b (tE C fb W)) :
    PE X (.Call (.Name "list" p) [.Call (.Name "zip" p2) [a, b] [] pos2] [] pos) (tE C (fun ρ M => (fa ρ M).bnd fun v M1 => (fb ρ M1).bnd fun w M2 => lzP v w M2) W) :=
  PE.weak (pe_listZip hc hg hm (pzp hg2 hm2 ha hb h1 h2) rfl) fun σ H Q ⟨G, ρ, M, S, ER, F⟩ => ⟨G, ρ, M, S, ER, (Srv.split F).mono fun x H1 ⟨G1, v, M1, s1, S1, r1, F1⟩ => ⟨G1, ρ, M1, S1, ER.on s1.toStq, (Srv.split F1).mono fun y H2 ⟨G2, w, M2, s2, S2, r2, F2⟩ => by
    unfold lzP at F2
    split at F2
    · rename_i l m hl hmm
      obtain ⟨p, xs, rfl, f, rl⟩ := lst_sq S2 (r1.on s2.toStq) hl
      obtain ⟨q, ys, rfl, g, rm⟩ := lst_sq S2 r2 hmm
      refine ⟨p, q, xs, ys, rfl, rfl, by rw [← hK]; exact f, by rw [← hK]; exact g, ?_⟩
      intro H3 Sa as n1 n2 hlen off eS eT
      obtain ⟨s3, S3⟩ := S2.laidMany (H3 := H3) (N := fun b => b = Sa ∨ b ∈ as) (fun b hb => by
        rcases hb with rfl | hb
        · exact ⟨n1, by rw [eS]; simp⟩
        · refine ⟨n2 b hb, ?_⟩
          obtain ⟨j, hj⟩ := List.getElem?_of_mem hb
          have hlt := (List.getElem?_eq_some_iff.mp hj).1
          rw [eT j b _ hj (List.getElem?_eq_getElem (by omega : j < (xs.zip ys).length))]
          simp) fun b hb => off b (fun z => hb (.inl z)) fun z => hb (.inr z)
      refine F2.ok_on s3 S3 (Rep.lst_iff.mpr ⟨Sa, as.map V.ref, rfl, .inl ⟨.inr (.inl rfl), .inl eS⟩, ?_⟩)
      -- the pairs
      have rl3 := rl.on s3.toStq
      have rm3 := rm.on s3.toStq
      have fz : ∀ T ∈ as, ({ G2 with fz := fun a => G2.fz a ∨ (a = Sa ∨ a ∈ as) } : Gh).fz T := fun T hT => .inr (.inr hT)
      revert eT hlen fz
      generalize ({ G2 with fz := fun a => G2.fz a ∨ (a = Sa ∨ a ∈ as) } : Gh) = G3 at rl3 rm3
      clear off eS n1 n2 S3 s3 f g rl rm hl hmm F2
      have main : ∀ (l m : List PV) (xs ys : List V) (as : List Addr), RepL C G3 H3 l xs → RepL C G3 H3 m ys → as.length = (xs.zip ys).length → (∀ (j : Nat) (T : Addr) (p : V × V), as[j]? = some T → (xs.zip ys)[j]? = some p → H3 T = some (.tup [p.1, p.2])) → (∀ T ∈ as, G3.fz T) → RepL C G3 H3 (zipL l m) (as.map V.ref) := by
        intro l
        induction l with
        | nil =>
          intro m xs ys as r1 r2 hl _ _
          rw [r1.nil_inv] at hl
          obtain rfl : as = [] := List.eq_nil_of_length_eq_zero (by simpa using hl)
          exact .nil
        | cons p l ih =>
          intro m xs ys as r1 r2 hl hT hf
          obtain ⟨x, xs, rfl, a1, a2⟩ := r1.cons_inv
          cases m with
          | nil =>
            rw [r2.nil_inv] at hl
            obtain rfl : as = [] := List.eq_nil_of_length_eq_zero (by simpa using hl)
            exact .nil
          | cons q m =>
            obtain ⟨y, ys, rfl, b1, b2⟩ := r2.cons_inv
            cases as with
            | nil => simp at hl
            | cons T as =>
              refine .cons (Rep.tup_iff.mpr ⟨T, [x, y], rfl, .inl ⟨hf T (by simp), .inl (hT 0 T (x, y) rfl rfl)⟩, .cons a1 (.cons b1 .nil)⟩) ?_
              exact ih m xs ys as a2 b2 (by simpa using hl) (fun j U p h1 h2 => hT (j + 1) U p (by simpa using h1) (by simpa using h2)) fun U hU => hf U (List.mem_cons_of_mem _ hU)
      exact fun hlen eT fz => main l m xs ys as rl3 rm3 hlen eT fz
    · exact F2.elim⟩⟩
end
end Sk

/-! SkDe: a text is no dict. -/
namespace PySem.SeqAt
open AutoSeq1 (wpAny_loadPart')
open MeetsSeq MeetsSeq2 MeetsSeq3 SeqRoads2
theorem sk_sub_str_dict : isSubtype (.type "str") (.type "dict") = pure false := by rw [isSubtype_type]; kernel_rfl
theorem sk_sub_dict_str : isSubtype (.type "dict") (.type "str") = pure false := by rw [isSubtype_type]; kernel_rfl
theorem sk_str_dict (b : Str) (u : Tok) (l : Addr) (c : Value) (es : Array DictEntry) (n : Nat) (dd : Option Addr) (sl : Array (Option Value)) :
    Meets (Builtin.«str.__eq__» ⟨[.str b u, .ref l], []⟩) (fun _ R s => s.heap.get? l = some { cls := c, dict := dd, data := .dict es n, slots := sl } ∧ R (.ok (.ret .notImplemented)) s) :=
  .of_wp fun prog w A R s h => by obtain ⟨hp, g, d, tk, os⟩ := s; obtain ⟨hl, h⟩ := h; wp_walk using wpAny_loadPart' hl, wpAny_load hl; exact ⟨_, rfl, h⟩
theorem sk_dict_str (l : Addr) (es : Array DictEntry) (n : Nat) (dd : Option Addr) (sl : Array (Option Value)) (b : Str) (u : Tok) :
    Meets (Builtin.«dict.__eq__» ⟨[.ref l, .str b u], []⟩) (fun _ R s => s.heap.get? l = some { cls := .type "dict", dict := dd, data := .dict es n, slots := sl } ∧ R (.ok (.ret .notImplemented)) s) :=
  .of_wp fun prog w A R s h => by
    obtain ⟨hp, g, d, tk, os⟩ := s; obtain ⟨hl, h⟩ := h; have f1 := sk_sub_str_dict
    have f2 : isSubtype (.type "dict") (.type "dict") = pure true := by rw [isSubtype_type]; kernel_rfl
    wp_walk using wpAny_loadPart' hl, wpAny_load hl
    exact ⟨_, rfl, h⟩
section
variable {A : Around} {s : Shared}
theorem sk_rc {l : Addr} {es : Array DictEntry} {n : Nat} {dd : Option Addr} {sl : Array (Option Value)} (b : Str) (u : Tok) (ho : s.heap.get? l = some { cls := .type "dict", dict := dd, data := .dict es n, slots := sl }) (hu : A.units < cLine) : RcAt A s (.str b u) (.ref l) false := fun prog w E Q h =>
  rc_eq_decline_or (k := false) (typeIs_str s b u) ⟨_, ho, rfl⟩ (by decide) sk_sub_dict_str F.slot_str_eq F.slot_dict_eq_refl
    (fun _ hq => call_meets F.slot_str_eq (typeIs_str s b u) F.entry_str_eq (F.args_str_eq_2 _ _) (sk_str_dict b u l (.type "dict") es n dd sl) ⟨ho, hq⟩)
    (fun _ hq => call_meets F.slot_dict_eq_refl ⟨_, ho, rfl⟩ F.entry_dict_eq (F.args_dict_eq_2 _ _) (sk_dict_str l es n dd sl b u) ⟨ho, hq⟩)
    (fun _ hq => wpAny_of_eq (rfl : isSame (.str b u) (.ref l) = pure false) hq) (.inr hu) h
theorem sk_eq {l : Addr} {es : Array DictEntry} {n : Nat} {dd : Option Addr} {sl : Array (Option Value)} (b : Str) (u : Tok) (ho : s.heap.get? l = some { cls := .type "dict", dict := dd, data := .dict es n, slots := sl }) (hu : A.units < cLine) : EqAt A s (.str b u) (.ref l) false := fun prog w E Q h => by
  unfold eqBool
  exact wpAny_holding (wpAny_ite_split (fun hab => absurd (eq_of_beq hab) nofun) fun _ => wpAny_bind (sk_rc b u ho hu prog w E _ (wpAny_truthy_bool h)))
end
end PySem.SeqAt
namespace Sk
open PySem PySem.Spec PyProof.Rows L2
section
variable {X : Cx}
/-- a tuple and the empty one -/
def rEmp (K : PySem.W.Frag) (n : Bool) : R2 := fun x y H Q => ∃ a b xs, x = .ref a ∧ y = .ref b ∧ ((SqT K H a xs ∧ SqT K H b []) ∨ (SqL K H a xs ∧ SqL K H b [])) ∧ Q (.bl (xor n xs.isEmpty)) H
theorem emp_vals {its : List Value} {xs : List V} (r : Vals xs its) : (its.toArray.size == 0) = xs.isEmpty := by
  cases r with
  | nil => rfl
  | cons _ _ => rfl
theorem op_emp (hu : X.A.units < cLine) : OpR X (compareOp .Eq) (rEmp X.K false) := by
  rintro pins s σ H x y v u Q I rx ry ⟨a, b, xs, rfl, rfl, hab, q⟩
  obtain rfl : v = Value.ref a := rx
  obtain rfl : u = Value.ref b := ry
  rcases hab with ⟨ha, hb⟩ | ⟨ha, hb⟩
  · obtain ⟨its, r, p, _⟩ := I.tuple ha
    obtain ⟨its2, r2, p2, _⟩ := I.tuple hb
    cases r2
    refine SeqAt.eq_tupleAt (e := fun _ => true) p p2 hu (fun j h1 h2 => absurd h2 (Nat.not_lt_zero j)) ⟨.bl xs.isEmpty, H, I, ?_, by simpa using q⟩
    show Value.bool _ = Value.bool _
    have : (List.range (min its.toArray.size ([] : List Value).toArray.size)).all (fun _ => true) = true := by simp
    rw [this, Bool.true_and]
    show Value.bool (its.toArray.size == 0) = _
    rw [emp_vals r]
  · obtain ⟨its, r, p, _⟩ := I.list ha
    obtain ⟨its2, r2, p2, _⟩ := I.list hb
    cases r2
    cases r with
    | nil => exact SeqAt.eq_listAt (e := fun _ => true) p.isList p2.isList rfl hu (fun j h1 h2 => absurd h2 (Nat.not_lt_zero j)) ⟨.bl true, H, I, rfl, by simpa using q⟩
    | cons _ _ => exact SeqAt.eq_list_lengthsAt p.isList p2.isList (by simp) hu ⟨.bl false, H, I, rfl, by simpa using q⟩
theorem op_nemp (hu : X.A.units < cLine) : OpR X (compareOp .NotEq) (rEmp X.K true) := by
  rintro pins s σ H x y v u Q I rx ry ⟨a, b, xs, rfl, rfl, hab, q⟩
  obtain rfl : v = Value.ref a := rx
  obtain rfl : u = Value.ref b := ry
  rcases hab with ⟨ha, hb⟩ | ⟨ha, hb⟩
  · obtain ⟨its, r, p, _⟩ := I.tuple ha
    obtain ⟨its2, r2, p2, _⟩ := I.tuple hb
    cases r2
    refine SeqAt.RcNeAt.tuples (A := X.A) (s := s) (e := fun _ => true) p p2 hu (fun j h1 h2 => absurd h2 (Nat.not_lt_zero j)) X.prog X.w X.xe _ ⟨.bl (!xs.isEmpty), H, I, ?_, by simpa using q⟩
    show Value.bool _ = Value.bool _
    have : (List.range (min its.toArray.size ([] : List Value).toArray.size)).all (fun _ => true) = true := by simp
    rw [this, Bool.true_and]
    show Value.bool (!(its.toArray.size == 0)) = _
    rw [emp_vals r]
  · obtain ⟨its, r, p, _⟩ := I.list ha
    obtain ⟨its2, r2, p2, _⟩ := I.list hb
    cases r2
    cases r with
    | nil => exact SeqAt.RcNeAt.lists (A := X.A) (s := s) (e := fun _ => true) p.isList p2.isList rfl hu (fun j h1 h2 => absurd h2 (Nat.not_lt_zero j)) X.prog X.w X.xe _ ⟨.bl false, H, I, rfl, by simpa using q⟩
    | cons _ _ => exact SeqAt.RcNeAt.lists_lengths (A := X.A) (s := s) p.isList p2.isList (by simp) hu X.prog X.w X.xe _ ⟨.bl true, H, I, rfl, by simpa using q⟩
theorem vals_mem {xs : List V} {its : List Value} (r : Vals xs its) : ∀ {y : Value}, y ∈ its → ∃ x ∈ xs, RelV x y := by
  induction r with
  | nil => intro y h; cases h
  | cons h _ ih =>
    intro y hy
    rcases List.mem_cons.mp hy with rfl | hy
    · exact ⟨_, by simp, h⟩
    · obtain ⟨x, h1, h2⟩ := ih hy
      exact ⟨x, List.mem_cons_of_mem _ h1, h2⟩
/-- a dict among texts -/
def rDin (K : PySem.W.Frag) (n : Bool) : R2 := fun x y H Q => ∃ (a : Addr) (kvs : List (Key × V)) (b : Addr) (ss : List Str), x = .ref a ∧ y = .ref b ∧ Rd H a (.dK kvs) ∧ SqL K H b (ss.map V.str) ∧ Q (.bl n) H
theorem din_item {pins : List (Addr × Obj)} {σ : L2.St} {H : Hp} {s : Shared} {a : Addr} {kvs : List (Key × V)} (I : L2.Inv X pins σ H s) (hd : Rd H a (.dK kvs)) : ∃ es n dd sl, s.heap.get? a = some { cls := .type "dict", dict := dd, data := .dict es n, slots := sl } := by
  obtain ⟨_, _, vs, _, o, es, ep, h1, h2, h3, _⟩ := dk_rd I.hok hd
  obtain ⟨c, dd, dat, sl⟩ := o
  obtain ⟨e1, _⟩ := h2
  simp only at e1 h3
  subst e1 h3
  exact ⟨_, _, _, _, h1⟩
theorem op_din (hu : X.A.units + 1 < cLine) : OpR X (compareOp .In) (rDin X.K false) := by
  rintro pins s σ H x y v u Q I rx ry ⟨a, kvs, b, ss, rfl, rfl, hd, hb, q⟩
  obtain rfl : v = Value.ref a := rx
  obtain rfl : u = Value.ref b := ry
  obtain ⟨es, n, dd, sl, ho⟩ := din_item I hd
  obtain ⟨its, r, p, _⟩ := I.list hb
  refine SeqAt.in_listAt (fun _ => false) p.isList (fun y hy => ?_) ⟨.bl false, H, I, ?_, q⟩
  · have hy : y ∈ its := by simpa using hy
    obtain ⟨x, hx, rx⟩ := vals_mem r hy
    obtain ⟨z, _, rfl⟩ := List.mem_map.mp hx
    obtain ⟨t, rfl⟩ := rx
    exact SeqAt.sk_eq z t ho hu
  · show Value.bool _ = Value.bool _
    simp
theorem op_ndin (hu : X.A.units + 1 < cLine) : OpR X (compareOp .NotIn) (rDin X.K true) := by
  rintro pins s σ H x y v u Q I rx ry ⟨a, kvs, b, ss, rfl, rfl, hd, hb, q⟩
  obtain rfl : v = Value.ref a := rx
  obtain rfl : u = Value.ref b := ry
  obtain ⟨es, n, dd, sl, ho⟩ := din_item I hd
  obtain ⟨its, r, p, _⟩ := I.list hb
  refine SeqAt.notIn_listAt (fun _ => false) p.isList (fun y hy => ?_) ⟨.bl true, H, I, ?_, q⟩
  · have hy : y ∈ its := by simpa using hy
    obtain ⟨x, hx, rx⟩ := vals_mem r hy
    obtain ⟨z, _, rfl⟩ := List.mem_map.mp hx
    obtain ⟨t, rfl⟩ := rx
    exact SeqAt.sk_eq z t ho hu
  · show Value.bool _ = Value.bool _
    simp
end
section
variable {X : Cx} {C : Cfg}
theorem empty_ok {n : Bool} {W : XWish} {G : Gh} {H : Hp} {M : Sto} {v w : PV} {x y : V} {b : Bool} {Q : VK} (S : SRep C G H M) (rv : Rep C G H v x) (rw' : Rep C G H w y) (h : emptyT v w = some b) (F : Srv C (Rep C) W G H (.ok (.bl (xor n b)) M) Q) : rEmp C.K n x y H Q := by
  unfold emptyT at h
  split at h
  · rename_i l
    cases h
    obtain ⟨a, xs, rfl, f, rl⟩ := Rep.tup_iff.mp rv
    obtain ⟨c, ys, rfl, g, rm⟩ := Rep.tup_iff.mp rw'
    rw [rm.nil_inv] at g
    refine ⟨a, c, xs, rfl, rfl, .inl ⟨f.sq, g.sq⟩, ?_⟩
    have e : xs.isEmpty = l.isEmpty := by
      cases l with
      | nil => rw [rl.nil_inv]; rfl
      | cons p l =>
        obtain ⟨x, r, rfl, _, _⟩ := rl.cons_inv
        rfl
    rw [e]; exact F.bl S
  · rename_i l
    cases h
    obtain ⟨a, xs, rfl, f, rl⟩ := Rep.lst_iff.mp rv
    obtain ⟨c, ys, rfl, g, rm⟩ := Rep.lst_iff.mp rw'
    rw [rm.nil_inv] at g
    refine ⟨a, c, xs, rfl, rfl, .inr ⟨f.sq, g.sq⟩, ?_⟩
    have e : xs.isEmpty = l.isEmpty := by
      cases l with
      | nil => rw [rl.nil_inv]; rfl
      | cons p l =>
        obtain ⟨x, r, rfl, _, _⟩ := rl.cons_inv
        rfl
    rw [e]; exact F.bl S
  · cases h
theorem dctIn_ok {n : Bool} {W : XWish} {G : Gh} {H : Hp} {M : Sto} {v w : PV} {x y : V} {b : Bool} {Q : VK} (S : SRep C G H M) (rv : Rep C G H v x) (rw' : Rep C G H w y) (h : dctIn v w M = some b) (F : Srv C (Rep C) W G H (.ok (.bl (xor n b)) M) Q) : rDin C.K n x y H Q := by
  unfold dctIn at h
  split at h
  · rename_i ks l
    rw [Option.map_eq_some_iff] at h
    obtain ⟨ss, h, rfl⟩ := h
    rw [Option.bind_eq_some_iff] at h
    obtain ⟨m, h1, h2⟩ := h
    obtain ⟨a, ls, rfl, d, _⟩ := dct_at (M := M) S rv (kvs := ks.zip l) rfl
    obtain ⟨c, ys, rfl, f, rm⟩ := lst_sq S rw' h1
    rw [(strs_rep rm h2).1] at f
    exact ⟨a, ls, c, ss, rfl, rfl, d, f, by have := F.bl S; simpa using this⟩
  · cases h
end
end Sk

/-! SkV: tuples sliced by a step. -/
namespace Sk
open PySem PySem.Spec PyProof.Rows PySem.W L2
open HT

section
variable {P : Program} {w : World} {A : Around} {E : Value → Shared → Prop} {s : Shared}
theorem applied_step {sl : Addr} {vs : Value} {st : Int} {n : Nat} {Q : Int × Int × Nat → Shared → Prop} (hs : s.heap.IsSliceOf sl .none .none vs) (ps : IsPart vs (some st)) (h0 : st ≠ 0)
    (h : Q ((Builtin.Slice.sliceAdjust none none st (n : Int)).1, st, Builtin.Slice.slicePlaces (Builtin.Slice.sliceAdjust none none st (n : Int)).1 (Builtin.Slice.sliceAdjust none none st (n : Int)).2 st) s) : wpAny (model P w) A (Builtin.Slice.sliceApplied (.ref sl) (pure (n : Int))) Q E s := by
  obtain ⟨os, hos, hcs, hds⟩ := id hs
  unfold Builtin.Slice.sliceApplied Builtin.Slice.sliceFields
  refine wpAny_bind (wpAny_bind (wpAny_field hos hds (x := .none) rfl (wpAny_bind (wpAny_field hos hds (x := .none) rfl (wpAny_bind (wpAny_field hos hds (x := vs) rfl (wpAny_pure ?_)))))))
  refine wpAny_bind (slicePart_ ps ?_)
  have hz : ((some st : Option Int).getD 1 == 0) = false := by simpa using h0
  show wpAny _ _ (if ((some st : Option Int).getD 1 == 0) = true then _ else _) _ _ s
  rw [if_neg (by rw [hz]; decide)]
  refine wpAny_bind (slicePart_none (wpAny_bind (slicePart_none (wpAny_bind (wpAny_pure ?_)))))
  exact wpAny_pure h
theorem fm_congr {α β : Type} {f g : α → Option β} : ∀ {l : List α}, (∀ m ∈ l, f m = g m) → l.filterMap f = l.filterMap g
  | [], _ => rfl
  | a :: l, h => by
    rw [List.filterMap_cons, List.filterMap_cons, h a (by simp), fm_congr fun m hm => h m (by simp [hm])]
theorem fm_all {α : Type} : ∀ l : List α, (List.range l.length).filterMap (fun m => l[m]?) = l
  | [] => rfl
  | a :: l => by
    rw [List.length_cons, List.range_succ_eq_map, List.filterMap_cons]
    have h : (fun m => (a :: l)[m]?) ∘ Nat.succ = fun m => l[m]? := by funext m; simp
    simp only [List.getElem?_cons_zero]
    rw [List.filterMap_map, h, fm_all l]
theorem pick_rev (xs : Array Value) : ((List.range xs.size).filterMap fun (m : Nat) => xs[(((xs.size : Int) - 1) + (m : Int) * -1).toNat]?) = xs.toList.reverse := by
  have e : ∀ m ∈ List.range xs.size, xs[(((xs.size : Int) - 1) + (m : Int) * -1).toNat]? = xs.toList.reverse[m]? := fun m hm => by
    have hm := List.mem_range.mp hm
    rw [List.getElem?_reverse (by simpa using hm)]
    have : (((xs.size : Int) - 1) + (m : Int) * -1).toNat = xs.toList.length - 1 - m := by rw [Array.length_toList]; omega
    rw [this]
    simp
  rw [fm_congr e]
  have h := fm_all xs.toList.reverse
  rw [List.length_reverse, Array.length_toList] at h
  exact h
theorem getItem_step {t sl : Addr} {items : Array Value} {vs : Value} {st : Int} {Q : Value → Shared → Prop} (ht : IsTup s.heap t items) (hs : s.heap.IsSliceOf sl .none .none vs) (ps : IsPart vs (some st))
    (h : (st = 1 ∧ Q (.ref t) s) ∨ (st = -1 ∧ Q (.ref s.heap.objs.size) { s with heap := s.heap.push { cls := .type "tuple", data := .seq items.toList.reverse.toArray } })) (hsz : items.size ≤ sizeLine) : wpAny (model P w) A (getItem (.ref t) (.ref sl)) Q E s := by
  obtain ⟨os, hos, hcs, hds⟩ := id hs
  have hTs : s.TypeIs (.ref sl) "slice" := ⟨os, hos, hcs⟩
  have h0 : st ≠ 0 := by rcases h with ⟨rfl, _⟩ | ⟨rfl, _⟩ <;> decide
  unfold getItem
  try with_reducible refine wpAny_holding ?_
  first | refine wpAny_bind (wpAny_pure ?_) | skip
  refine wpAny_bind (wpAny_sequenceKey ht.typeIs (by decide) ?_)
  refine wpAny_bind (wpAny_callSpecial?_slot (name := Str.ofString "__getitem__") ht.typeIs PyProof.Rows.slot_tuple_getitem
    (wpAny_call_entry PyProof.Rows.slot_tuple_getitem ht.typeIs entry_tuple_getitem ?_ (args_tuple_getitem _ _)))
  show wpAny _ _ (Builtin.Tuple.tupleItemsOf (.ref t) >>= _) _ _ s
  refine wpAny_bind (tupleItemsOf_ ht ?_)
  refine wpAny_bind (wpAny_typeOf hTs ?_)
  rw [if_pos (by decide)]
  refine wpAny_bind (applied_step hs ps h0 ?_)
  rcases h with ⟨rfl, h⟩ | ⟨rfl, h⟩
  · have hadj : Builtin.Slice.sliceAdjust none none 1 (items.size : Int) = (0, (items.size : Int)) := rfl
    have hpl : Builtin.Slice.slicePlaces 0 (items.size : Int) 1 = items.size := by
      have := places_gen 0 items.size
      simpa using this
    rw [hadj]
    simp only [hpl]
    show wpAny _ _ (if ((0 : Int) == 0 && (1 : Int) == 1 && items.size == items.size) = true then _ else _) _ _ s
    rw [if_pos (by simp)]
    refine wpAny_bind ?_
    show wpAny _ _ (typeOf (.ref t) >>= fun T => pure (T == .type "tuple")) _ _ s
    refine wpAny_bind (wpAny_typeOf ht.typeIs (wpAny_pure ?_))
    first
      | rw [if_pos (by decide)]
      | simp only [beq_self_eq_true, if_true]
    first
      | exact wpAny_bind (wpAny_rule (wpAny_pure ⟨_, rfl, wpAny_pure h⟩))
      | exact wpAny_bind (wpAny_rule (wpAny_bind (wpAny_pure (wpAny_pure ⟨_, rfl, wpAny_pure h⟩))))
  · have hadj : Builtin.Slice.sliceAdjust none none (-1) (items.size : Int) = ((items.size : Int) - 1, -1) := rfl
    have hpl : Builtin.Slice.slicePlaces ((items.size : Int) - 1) (-1) (-1) = items.size := by
      unfold Builtin.Slice.slicePlaces
      have h1 : ¬ ((-1 : Int) > 0) := by decide
      rw [if_neg h1]
      have h2 : -(-1 : Int) = 1 := by decide
      rw [h2, Int.ediv_one]
      split <;> omega
    rw [hadj]
    simp only [hpl]
    show wpAny _ _ (if (((items.size : Int) - 1) == 0 && (-1 : Int) == 1 && items.size == items.size) = true then _ else _) _ _ s
    rw [if_neg (by simp)]
    have e := pick_rev items
    have htake : sizeOk (.seq items.toList.reverse.toArray) := by
      show items.toList.reverse.toArray.size ≤ sizeLine
      rw [List.size_toArray, List.length_reverse, Array.length_toList]; exact hsz
    rw [e]
    first
      | exact wpAny_bind (m := Builtin.Tuple.tupleExact _) (wpAny_newObj_type (wpAny_pure ⟨_, rfl, wpAny_pure h⟩) htake)
      | exact wpAny_bind (m := Builtin.Tuple.tupleExact _) (wpAny_newObj_type (wpAny_bind (wpAny_pure (wpAny_pure ⟨_, rfl, wpAny_pure h⟩))) htake)
      | exact wpAny_bind (wpAny_bind (m := Builtin.Tuple.tupleExact _) (wpAny_newObj_type (wpAny_pure (wpAny_pure ⟨_, rfl, wpAny_pure h⟩)) htake))
      | exact wpAny_bind (wpAny_bind (m := Builtin.Tuple.tupleExact _) (wpAny_newObj_type (wpAny_pure ⟨_, rfl, wpAny_pure h⟩) htake))
end
section
variable {X : Cx} {C : Cfg} {W : WX} {e st : Expr} {f g : PEnv → Sto → Res PV} {p3 pos : Pos}
theorem pe_stpP (hK : C.K = X.K) (he : PE X e (tE C f W)) (hst : PE X st (tE C g W)) :
    PE X (.Subscript e (.Slice none none (some st) p3) pos) (tE C (fun ρ M => (f ρ M).bnd fun v M1 => (asI (g ρ M1)).bnd fun l M2 => stpT v (l.getD 0) M2) W) := by
  refine ⟨fun pins s σ H Q I ⟨G, ρ, M, S, ER, F⟩ => ?_⟩
  refine Subscript_ (thn (he.run pins s σ H _ I ⟨G, ρ, M, S, ER, Srv.split F⟩) fun v s1 ⟨x, H1, I1, rx, G1, pv, M1, t1, S1, r1, F1⟩ => ?_)
  refine wpAny_Slice (thn (po_none.run pins s1 σ H1 (fun o H2 => o = none ∧ H2 = H1) I1 ⟨rfl, rfl⟩) fun vl s2 ⟨l, H2, I2, pl, el, e2⟩ => ?_)
  subst el e2
  refine thn (po_none.run pins s2 σ H2 (fun o H3 => o = none ∧ H3 = H2) I2 ⟨rfl, rfl⟩) fun vu s3 ⟨u, H3, I3, pu, eu, e3⟩ => ?_
  subst eu e3
  refine thn ((po_someP (C := C) (W := W) hst).run pins s3 σ H3 _ I3 ⟨G1, ρ, M1, S1, ER.on t1.toStq, Srv.split F1⟩) fun vs s4 ⟨o, H4, I4, ps, G4, o', M4, t4, S4, (eo : o' = o), F4⟩ => ?_
  subst eo
  have I5 : L2.Inv X pins σ H4 { s4 with heap := s4.heap.push { cls := .type "slice", data := .fields #[vl, vu, vs] } } := I4.kept (t' := s4.toks) fun b ob q => Heap.get?_push_of_some _ q
  show wpAny (model X.prog X.w) X.A (subscriptTail e (.Slice none none (some st) p3) v (.ref s4.heap.objs.size)) (EP X pins σ Q) X.xe { s4 with heap := s4.heap.push { cls := .type "slice", data := .fields #[vl, vu, vs] } }
  cases pv with
  | tup l =>
    obtain ⟨a, xs, rfl, f, r⟩ := Rep.tup_iff.mp (r1.on t4.toStq)
    obtain rfl : v = Value.ref a := rx
    obtain ⟨its, rv, ht, hz⟩ := I5.tuple (by rw [← hK]; exact f.sq)
    cases o' with
    | none => exact F4.elim
    | some i =>
      cases pl
      cases pu
      refine tail_any (ops := [.ref a, .ref s4.heap.objs.size]) ht.typeIs PyProof.Rows.slot_tuple_getitem.lookup ?_ (by with_unfolding_all rfl)
      refine getItem_step ht (Heap.IsSliceOf.new _ .none .none vs) ps ?_ (by rw [List.size_toArray, ← rv.length]; exact hz)
      have F4 : Srv C (Rep C) (fun c d => W c d σ) G4 H4 (if i = 1 then .ok (.tup l) M4 else if i = -1 then .ok (.tup l.reverse) M4 else .no) Q := F4
      by_cases h1 : i = 1
      · rw [if_pos h1] at F4
        exact .inl ⟨h1, .ref a, H4, I5, rfl, F4.ok_now S4 (Rep.tup_iff.mpr ⟨a, xs, rfl, f, r⟩)⟩
      · rw [if_neg h1] at F4
        by_cases h2 : i = -1
        · rw [if_pos h2] at F4
          refine .inr ⟨h2, .ref _, _, I5.laid (t' := s4.toks) (o := .tup xs.reverse) (fun b ob q => Heap.get?_push_of_some _ q) (Nat.le_refl _) ?_, rfl, F4.newT S4 r.reverse _ (I5.hok.fresh (Nat.le_refl _))⟩
          refine ⟨by rw [List.length_reverse]; exact hz, its.reverse, rv.reverse, ?_⟩
          exact ⟨_, Heap.get?_push_size _ rfl, rfl, _, rfl⟩
        · rw [if_neg h2] at F4
          exact F4.elim
  | _ => cases o' <;> exact F4.elim
end
end Sk

/-! SkP: which text a term of the small syntax stands for. -/
namespace Sk
open PySem PySem.Spec PyProof.Rows PySem.W L2

structure Ck where
  N : List Str
  fns : List Str
  kws : List (Str × Nat × List Str × List Nat)
  blts : List Str
  glbs : List Str

def strFineB (x : Str) : Bool := x.cps.all (· < 0x110000) && decide (x.length ≤ 1000)
def locB (sc : Scope) (x : Str) : Bool := match sc.names.lookup x with
  | some .local => true
  | _ => false
def celB (sc : Scope) (x : Str) : Bool := match sc.names.lookup x with
  | some .cell => true
  | _ => false
def freB (sc : Scope) (x : Str) : Bool := match sc.names.lookup x with
  | some .free => true
  | _ => false
def gloB (sc : Scope) (x : Str) : Bool := match sc.names.lookup x with
  | some .globalImplicit => true
  | _ => false
def visB (sc : Scope) (x : Str) : Bool := locB sc x || celB sc x || freB sc x
def ixB (N : List Str) (i : Nat) (x : Str) : Bool := decide (N[i]? = some x)
def plainN (x : Str) : Bool := !(x == ("__debug__" : Str)) && !(x == ("__classdict__" : Str))
def opB : BO → Operator → Bool
  | .add, .Add => true
  | .sub, .Sub => true
  | .mul, .Mult => true
  | .fdiv, .FloorDiv => true
  | .mod, .Mod => true
  | .pow, .Pow => true
  | _, _ => false
def coB : CO → CmpOp → Bool
  | .eq, .Eq => true
  | .ne, .NotEq => true
  | .lt, .Lt => true
  | .le, .LtE => true
  | .gt, .Gt => true
  | .ge, .GtE => true
  | .inn, .In => true
  | .nin, .NotIn => true
  | .is, .Is => true
  | .isn, .IsNot => true
  | _, _ => false
def isIf : Expr → Bool
  | .IfExp _ _ _ _ => true
  | _ => false
def isSet : Expr → Bool
  | .Set _ _ _ => true
  | _ => false
def isBoolE : Expr → Bool
  | .BoolOp _ _ _ => true
  | _ => false
def plainIx : Expr → Bool
  | .Slice _ _ _ _ => false
  | .Tuple _ _ _ => false
  | .Constant _ _ _ => true
  | .Name _ _ => true
  | .UnaryOp _ _ _ => true
  | .BinOp _ _ _ _ => true
  | .Call _ _ _ _ => true
  | .Subscript _ _ _ => true
  | _ => false
mutual
def mTg (T : Ck) (sc : Scope) (fb : Str → Bool) : Tg → Expr → Bool
  | .nm i, x => match x with
    | .Name n _ => ixB T.N i n && (locB sc n || (celB sc n && fb n))
    | _ => false
  | .tp l, x => match x with
    | .Tuple es _ _ => mTgs T sc fb l es
    | _ => false
def mTgs (T : Ck) (sc : Scope) (fb : Str → Bool) : Tgs → List Expr → Bool
  | .nil, es => es.isEmpty
  | .cons t l, es => match es with
    | e :: r => !isStar e && mTg T sc fb t e && mTgs T sc fb l r
    | [] => false
end
def ifsB (p : Expr → Bool) (c : E) : List Expr → Bool
  | [] => isMiss c
  | [y] => p y && !isIf y
  | _ => false
def optB (p : Expr → Bool) (c : E) : Option Expr → Bool
  | none => isMiss c
  | some y => p y
/-- a comprehension's parts -/
def compOf : CK → Expr → Option (Expr × List Comprehension × Scope × Pos)
  | .ls _, .ListComp elt gs s p => some (elt, gs, s, p)
  | .st, .SetComp elt gs s p => some (elt, gs, s, p)
  | _, _ => none
def ownOf (N : List Str) (own : List Nat) : List (Str × Nat) := own.map fun i => (N.getD i Str.empty, i)
def subB (a b : List Nat) : Bool := a.all fun i => decide (i ∈ b)
def kwNames : List Keyword → Option (List Str)
  | [] => some []
  | ⟨some n, _, _⟩ :: r => (kwNames r).map (n :: ·)
  | ⟨none, _, _⟩ :: _ => none
/-- further clauses are plain ones -/
def nextB : List Comprehension → Bool
  | [] => true
  | ⟨_, _, _, a⟩ :: _ => decide (a = 0)
def isZero : E → Bool
  | .int i => decide (i = 0)
  | _ => false
def cellB (s : Scope) (x : Str) : Bool := s.names.lookup x == some .cell

mutual
def mE (T : Ck) (sc : Scope) (fb : Str → Bool) : E → Expr → Bool
  | .var i, x => match x with
    | .Name n _ => ixB T.N i n && visB sc n && plainN n
    | _ => false
  | .non, x => match x with
    | .Constant .none _ _ => true
    | _ => false
  | .bl b, x => match x with
    | .Constant (.bool c) _ _ => decide (b = c)
    | _ => false
  | .int i, x => match x with
    | .Constant (.int j) _ _ => decide (i = j)
    | _ => false
  | .str s, x => match x with
    | .Constant (.str z) _ _ => decide (s = z) && strFineB s
    | _ => false
  | .glb g, x => match x with
    | .Name n _ => decide (g = n) && gloB sc g && decide (g ∈ T.glbs) && !(g == ("__debug__" : Str))
    | _ => false
  | .miss, _ => false
  | .tup es, x => match x with
    | .Tuple l _ _ => mEs T sc fb es l
    | _ => false
  | .lst _ es, x => match x with
    | .List l _ => mEs T sc fb es l
    | _ => false
  | .bin o a b, x => match x with
    | .BinOp y p z _ => opB o p && mE T sc fb a y && mE T sc fb b z
    | _ => false
  | .neg a, x => match x with
    | .UnaryOp .USub y _ => mE T sc fb a y
    | _ => false
  | .cmp o a b, x => match x with
    | .Compare y ps zs _ => (match ps, zs with
      | [p], [z] => coB o p && mE T sc fb a y && mE T sc fb b z && !behindInMarks p z
      | _, _ => false)
    | _ => false
  | .cmx o a b, x => match x with
    | .Compare y ps zs _ => (match ps, zs with
      | [p], [z] => coB o p && mE T sc fb a y && mE T sc fb b z && !behindInMarks p z
      | _, _ => false)
    | _ => false
  | .chn o o' a b c, x => match x with
    | .Compare y ps zs _ => (match ps, zs with
      | [p, p'], [z, z'] => coB o p && coB o' p' && mE T sc fb a y && mE T sc fb b z && mE T sc fb c z' && !lastMarks [p, p'] [z, z']
      | _, _ => false)
    | _ => false
  | .and a b, x => match x with
    | .BoolOp .And l pos => (match l with
      | y :: z :: r => mE T sc fb a y && !isIf y && (if r.isEmpty then mE T sc fb b z && !isIf z else mE T sc fb b (.BoolOp .And (z :: r) pos))
      | _ => false)
    | _ => false
  | .or a b, x => match x with
    | .BoolOp .Or l pos => (match l with
      | y :: z :: r => mE T sc fb a y && !isIf y && (if r.isEmpty then mE T sc fb b z && !isIf z else mE T sc fb b (.BoolOp .Or (z :: r) pos))
      | _ => false)
    | _ => false
  | .not a, x => match x with
    | .UnaryOp .Not y _ => mE T sc fb a y && !isIf y
    | _ => false
  | .ite c a b, x => match x with
    | .IfExp y z u _ => mE T sc fb c y && !isIf y && mE T sc fb a z && mE T sc fb b u
    | _ => false
  | .idx a i, x => match x with
    | .Subscript y z _ => plainIx z && mE T sc fb a y && mE T sc fb i z
    | _ => false
  | .slc a lo hi, x => match x with
    | .Subscript y (.Slice l h none _) _ => mE T sc fb a y && optB (mE T sc fb lo) lo l && optB (mE T sc fb hi) hi h
    | _ => false
  | .stp a st, x => match x with
    | .Subscript y (.Slice none none (some z) _) _ => mE T sc fb a y && mE T sc fb st z
    | _ => false
  | .rev a, x => match x with
    | .Subscript y (.Slice none none (some (.UnaryOp .USub (.Constant (.int i) _ _) _)) _) _ => decide (i = 1) && mE T sc fb a y
    | _ => false
  | .call f es, x => match x with
    | .Call (.Name n _) l [] _ => decide (f = n) && gloB sc f && plainN f && decide (f ∈ T.fns) && !l.isEmpty && l.all (fun e => !isStar e) && mEs T sc fb es l
    | _ => false
  | .callK f np es ks vs perm, x => match x with
    | .Call (.Name n _) l kws _ => decide (f = n) && gloB sc f && plainN f && decide (f ∈ T.fns) && decide (l.length = np) && decide ((f, np, ks, perm) ∈ T.kws) && decide (kwNames kws = some ks) && l.all (fun e => !isStar e) && mEs T sc fb es l && mEs T sc fb vs (kws.map (·.value)) && (kws.map (·.value)).all (fun e => !isStar e)
    | _ => false
  | .blt f es, x => match x with
    | .Call (.Name n _) l [] _ => decide (f = n) && bltOk f && gloB sc f && decide (f ∈ T.blts) && !l.isEmpty && l.all (fun e => !isStar e) && mEs T sc fb es l
    | _ => false
  | .lof _ es, x => match x with
    | .Call (.Name n _) l [] _ => (match l with
      | [y] => decide (n = ("list" : Str)) && gloB sc n && decide (n ∈ T.blts) && !isStar y && mEs T sc fb es [y]
      | _ => false)
    | _ => false
  | .lr _ a b, x => match x with
    | .Call (.Name n _) [.Call (.Name g _) l [] _] [] _ => decide (n = ("list" : Str)) && decide (g = ("range" : Str)) && gloB sc n && gloB sc g && decide (n ∈ T.blts) && decide (g ∈ T.blts) && (match l with
      | [y] => isZero a && !isStar y && mE T sc fb b y
      | [z, y] => !isStar z && !isStar y && mE T sc fb a z && mE T sc fb b y
      | _ => false)
    | _ => false
  | .addM a b, x => match x with
    | .BinOp y .Add z _ => mE T sc fb a y && mE T sc fb b z
    | _ => false
  | .up a, x => match x with
    | .Call (.Attribute y m ap) [] [] cp => decide (m = ("upper" : Str)) && plainO y && (ap.endLine == cp.line) && mE T sc fb a y
    | _ => false
  | .lz a b, x => match x with
    | .Call (.Name n _) [.Call (.Name g _) [y, z] [] _] [] _ => decide (n = ("list" : Str)) && decide (g = ("zip" : Str)) && gloB sc n && gloB sc g && decide (n ∈ T.blts) && decide (g ∈ T.blts) && !isStar y && !isStar z && mE T sc fb a y && mE T sc fb b z
    | _ => false
  | .dsp _ es, x => match x with
    | .Dict ks vs _ => decide (ks.length ≤ 15) && evenB es && mPs T sc fb es ks vs
    | _ => false
  | .dof _ es, x => match x with
    | .Call (.Name n _) l [] _ => (match l with
      | [y] => decide (n = ("dict" : Str)) && gloB sc n && decide (n ∈ T.blts) && !isStar y && mEs T sc fb es [y]
      | _ => false)
    | _ => false
  | .isi a ts, x => match x with
    | .Call (.Name n _) l [] _ => (match l, ts with
      | [y, .Name t _], [t'] => decide (n = ("isinstance" : Str)) && decide (t = t') && isiOk t && gloB sc n && gloB sc t && decide (n ∈ T.blts) && decide (t ∈ T.blts) && !isStar y && mE T sc fb a y
      | _, _ => false)
    | _ => false
  | .mth ty m o es, x => match x with
    | .Call (.Attribute y m' ap) l [] cp => (match l with
      | z :: r => decide (m = m') && mthOk ty m && plainO y && (z :: r).all (fun e => !isStar e) && decide ((z :: r).length < 28) && (ap.endLine == cp.line) && mE T sc fb o y && mEs T sc fb es (z :: r)
      | [] => false)
    | _ => false
  | .cpr k own tg it c r, x => match compOf k x with
    | some (elt, gs, s, _) => (match gs with
      | ⟨t, i, ifs, 0⟩ :: rest => nextB rest && blkC T.N sc s (ownOf T.N own) && subB (tgN tg) own && subB (clN r) own && mI T sc fb it t i && mTg T (relS s sc) (cellB s) tg t && ifsB (mE T (relS s sc) (cellB s) c) c ifs && mCl T (relS s sc) (cellB s) r elt rest
      | _ => false)
    | none => false
def mEs (T : Ck) (sc : Scope) (fb : Str → Bool) : Es → List Expr → Bool
  | .nil, l => l.isEmpty
  | .cons e es, l => match l with
    | x :: r => !isStar x && mE T sc fb e x && mEs T sc fb es r
    | [] => false
  | .star e es, l => match l with
    | x :: r => (match x with
      | .Starred y _ => mE T sc fb e y && mEs T sc fb es r
      | _ => false)
    | [] => false
def mPs (T : Ck) (sc : Scope) (fb : Str → Bool) : Es → List (Option Expr) → List Expr → Bool
  | .nil, ks, vs => ks.isEmpty && vs.isEmpty
  | .cons k (.cons v r), ks, vs => match ks, vs with
    | some x :: ks, y :: vs => mE T sc fb k x && mE T sc fb v y && mPs T sc fb r ks vs
    | _, _ => false
  | .cons _ .nil, _, _ => false
  | .cons _ (.star _ _), _, _ => false
  | .star _ _, _, _ => false
def mI (T : Ck) (sc : Scope) (fb : Str → Bool) : It → Expr → Expr → Bool
  | .seq e, _, x => !isSet x && mE T sc fb e x
  | .fn f n es, t, x => match x with
    | .Call (.Name y _) l [] _ => decide (f = y) && gloB sc f && decide (f ∈ T.blts) && l.all (fun e => !isStar e) && mEs T sc fb es l && decide (l.length = n) &&
        ((decide (f = ("range" : Str)) && decide (n = 1 ∨ n = 2)) || (decide (f = ("enumerate" : Str)) && decide (n = 1) && isTupE t) || (decide (f = ("zip" : Str)) && decide (n = 2) && isTupE t))
    | _ => false
def mCl (T : Ck) (sc : Scope) (fb : Str → Bool) : Cl → Expr → List Comprehension → Bool
  | .elt e, x, gs => gs.isEmpty && mE T sc fb e x
  | .for' tg it c r, x, gs => match gs with
    | ⟨t, i, ifs, 0⟩ :: rest => nextB rest && mI T sc fb it t i && mTg T sc fb tg t && ifsB (mE T sc fb c) c ifs && mCl T sc fb r x rest
    | _ => false
end
end Sk

/-! SkX: a def's promise where nothing is being printed: as FnOk, but asked only where the guards stand empty (repr wants it). -/
namespace Sk
open PySem PySem.Spec PyProof.Rows PySem.W L2

/-- room for k calls, and no guard -/
structure Rm (k : Nat) (A : Around) : Prop where
  room : Room k A
  gd : A.guards = some []
theorem Rm.mono {j k : Nat} {A : Around} (r : Rm k A) (h : j ≤ k) : Rm j A := ⟨r.room.mono h, r.gd⟩
theorem Rm.down {k : Nat} {A : Around} {env : Env} (r : Rm (k + 1) A) : Rm k (A.deeper env) := ⟨r.room.deeper env, r.gd⟩

structure FnG (P : Program) (w : World) (K : PySem.W.Frag) (mg : Str → Option Value) (base : Heap) (CX : CXT) (k : Nat) (f : Addr) (fd : FuncData) (ps : List Str) (sp : Sp) : Prop where
  ln : ∀ vs H Q E, sp vs H Q E → vs.length = ps.length
  go : ∀ {A : Around} {outer : List Env} {s : Shared} {H : Hp} {args : Args} {us : List Value} {vs : List V} {Q : VK} {E : XK}, Rm k A → Env0 P w K mg base A outer s H → BindsTo s fd args (ps.zip us) → Vals vs us → sp vs H Q E →
    codeAny (model P w) A (.call (.ref f) args) (fun r s1 => CR CX outer P w H s Q E r s1) s
section
variable {P : Program} {w : World} {K : PySem.W.Frag} {mg : Str → Option Value} {base : Heap} {CX : CXT} {k : Nat} {f : Addr} {fd : FuncData} {ps : List Str} {sp : Sp}
theorem FnG.up {j : Nat} (F : FnG P w K mg base CX j f fd ps sp) (h : j ≤ k) : FnG P w K mg base CX k f fd ps sp := ⟨F.ln, fun r => F.go (r.mono h)⟩
end

section
variable {X : Cx} {CX : CXT} {k : Nat} {f : Addr} {fd : FuncData} {ps ks : List Str} {sp : Sp} {ds : List Value} {dvs : List V} {E : XK} {x : Str} {p pos : Pos} {e : Expr} {es : List Expr} {t tk : TA} {kws : List Keyword}
theorem runG {pins : List (Addr × Obj)} {σ : L2.St} {H : Hp} {s : Shared} {Q : VK} {us : List Value} {vs : List V} (F : FnG X.prog X.w X.K X.mg X.base CX k f fd ps sp) (hr : Rm k X.A) (hb : Binds X.K fd ps ds) (hd : Vals dvs ds) (hx : Passes CX X E)
    (I : Inv X pins σ H s) (r : Vals vs us) (h : sp (vs ++ dvs) H Q E) : wpAny (model X.prog X.w) X.A (call (.ref f) us) (EP X pins σ Q) X.xe s := by
  have r2 : Vals (vs ++ dvs) (us ++ ds) := r.append hd
  refine wpAny_call (codeAny_mono (F.go (args := ⟨us, []⟩) hr I.env0 (hb s us I.kIn (r2.length.symm.trans (F.ln _ _ _ _ h))) r2 h) fun r s1 hq => ?_)
  cases r with
  | error z => exact hx _ _ _ _ z s1 I hq
  | ok fl => cases fl with
    | ret u => exact I.after hq
    | _ => exact False.elim hq
theorem runGK {pins : List (Addr × Obj)} {σ : L2.St} {H : Hp} {s : Shared} {Q : VK} {us ws : List Value} {vs zs : List V} {g : List Value → List Value → List Value} {gV : List V → List V → List V} (F : FnG X.prog X.w X.K X.mg X.base CX k f fd ps sp) (hr : Rm k X.A) (hb : KBinds X.K fd ps ks g gV) (hx : Passes CX X E)
    (I : Inv X pins σ H s) (r : Vals vs us) (rz : Vals zs ws) (h : sp (gV vs zs) H Q E) : wpAny (model X.prog X.w) X.A (call (.ref f) us (ks.zip ws)) (EP X pins σ Q) X.xe s := by
  have r2 := hb.rel r rz
  refine wpAny_call (codeAny_mono (F.go (args := ⟨us, ks.zip ws⟩) hr I.env0 (hb.to s us ws I.kIn (r2.length.symm.trans (F.ln _ _ _ _ h))) r2 h) fun r s1 hq => ?_)
  cases r with
  | error z => exact hx _ _ _ _ z s1 I hq
  | ok fl => cases fl with
    | ret u => exact I.after hq
    | _ => exact False.elim hq
theorem pe_callG (F : FnG X.prog X.w X.K X.mg X.base CX k f fd ps sp) (hr : Rm k X.A) (hg : Gl X x) (hm : X.mg x = some (.ref f)) (hk : PySem.W.keepIn X.K (.ref f) = true) (hb : Binds X.K fd ps ds) (hd : Vals dvs ds) (hx : Passes CX X E)
    (ha : PA X (e :: es) t) (hdb : (x == ("__debug__" : Str)) = false) (he : starEach (e :: es) X.env = (false, eval e X.env) :: starEach es X.env) (hpl : (backTo pos (starEach es X.env)).any (·.1) = false) :
    PE X (.Call (.Name x p) (e :: es) [] pos) (fun σ H Q => t σ H fun vs H1 => sp (vs ++ dvs) H1 Q E) :=
  ⟨fun pins s σ H Q I h => wpAny_Call_Name_kw (ld_glob I hg hm (PySem.W.callWith_K (h₀ := X.base) I.ok.mod.kin hk (thn (ha.run pos pins s σ H _ I h) fun us s1 ⟨vs, H1, I1, r, q⟩ => ⟨I1.kIn, runG F hr hb hd hx I1 r q⟩) he hpl) hdb)⟩
theorem pe_callG0 (F : FnG X.prog X.w X.K X.mg X.base CX k f fd ps sp) (hr : Rm k X.A) (hg : Gl X x) (hm : X.mg x = some (.ref f)) (hk : PySem.W.keepIn X.K (.ref f) = true) (hb : Binds X.K fd ps ds) (hd : Vals dvs ds) (hx : Passes CX X E)
    (hdb : (x == ("__debug__" : Str)) = false) : PE X (.Call (.Name x p) [] [] pos) (fun σ H Q => sp dvs H Q E) :=
  ⟨fun pins s σ H Q I h => wpAny_Call_Name_kw (ld_glob I hg hm (PySem.W.callWith_K0 I.kIn hk (runG (us := []) F hr hb hd hx I .nil h)) hdb)⟩
theorem pe_callGK {g : List Value → List Value → List Value} {gV : List V → List V → List V} (F : FnG X.prog X.w X.K X.mg X.base CX k f fd ps sp) (hr : Rm k X.A) (hg : Gl X x) (hm : X.mg x = some (.ref f)) (hk : PySem.W.keepIn X.K (.ref f) = true) (hb : KBinds X.K fd ps ks g gV) (hx : Passes CX X E)
    (ha : PA X (e :: es) t) (hkw : PK X kws tk) (hall : (backToKw pos (keywordEach kws X.env)).all (·.1.isSome) = true) (hks : (backToKw pos (keywordEach kws X.env)).filterMap (·.1) = ks)
    (hdb : (x == ("__debug__" : Str)) = false) (he : starEach (e :: es) X.env = (false, eval e X.env) :: starEach es X.env)
    (hpl : ((backTo pos (starEach (e :: es) X.env)).any (·.1) || (backToKw pos (keywordEach kws X.env)).any (·.1.isNone)) = false) :
    PE X (.Call (.Name x p) (e :: es) kws pos) (fun σ H Q => t σ H fun vs H1 => tk σ H1 fun zs H2 => sp (gV vs zs) H2 Q E) :=
  ⟨fun pins s σ H Q I h => wpAny_Call_Name_kw (ld_glob I hg hm (PySem.W.callWith_KW (h₀ := X.base) I.ok.mod.kin hk hall (thn (ha.run pos pins s σ H _ I h) fun us s1 ⟨vs, H1, I1, r, q⟩ => by
    refine thn (hkw.run pos pins s1 σ H1 _ I1 q) fun ws s2 ⟨zs, H2, I2, rz, q2⟩ => ⟨I2.kIn, ?_⟩
    rw [hks]
    exact runGK F hr hb hx I2 r rz q2) hpl he) hdb)⟩
theorem pe_callGK0 {g : List Value → List Value → List Value} {gV : List V → List V → List V} (F : FnG X.prog X.w X.K X.mg X.base CX k f fd ps sp) (hr : Rm k X.A) (hg : Gl X x) (hm : X.mg x = some (.ref f)) (hk : PySem.W.keepIn X.K (.ref f) = true) (hb : KBinds X.K fd ps ks g gV) (hx : Passes CX X E)
    (hkw : PK X kws tk) (hall : (backToKw pos (keywordEach kws X.env)).all (·.1.isSome) = true) (hks : (backToKw pos (keywordEach kws X.env)).filterMap (·.1) = ks)
    (hdb : (x == ("__debug__" : Str)) = false) (hpl : ((backTo pos (starEach [] X.env)).any (·.1) || (backToKw pos (keywordEach kws X.env)).any (·.1.isNone)) = false) :
    PE X (.Call (.Name x p) [] kws pos) (fun σ H Q => tk σ H fun zs H2 => sp (gV [] zs) H2 Q E) :=
  ⟨fun pins s σ H Q I h => wpAny_Call_Name_kw (ld_glob I hg hm (PySem.W.callWith_KW0 (h₀ := X.base) I.ok.mod.kin hk hall (thn (hkw.run pos pins s σ H _ I h) fun ws s2 ⟨zs, H2, I2, rz, q2⟩ => ⟨I2.kIn, by
    rw [hks]
    exact runGK F hr hb hx I2 .nil rz q2⟩) hpl) hdb)⟩
end

/-- a def by its body -/
theorem fnG_of {CX : CXT} {P : Program} {w : World} {K : PySem.W.Frag} {mg : Str → Option Value} {base : Heap} {k : Nat} {x qual : Str} {st : Stmt} {f : Addr} {fd : FuncData} {N ps : List Str} {sp : Sp} (F : L2.Fun K x qual st f fd) (S : FnScope N ps (defScope st)) (ln : ∀ vs H Q E, sp vs H Q E → vs.length = ps.length)
    (hbody : ∀ (cdv : Value) (A : Around) (outer : List Env) (s : Shared) (H : Hp) (vs : List V) (Q : VK) (E : XK), Rm k (A.deeper (envOfC qual (defScope st) s.heap.objs.size f cdv)) → sp vs H Q E →
      ∃ t, PSs (cxOf CX P w K mg base N qual (defScope st) f cdv A outer s H E) (defBody st) t ∧ t { nx := fun _ H1 => Q .non H1, rt := Q } (start N vs) H) : FnG P w K mg base CX (k + 1) f fd ps sp := by
  obtain ⟨oc, od, kV, doc, pm, an, cdv, ct, osl, rfl, lk, hcd⟩ := F.ex
  refine ⟨ln, fun {A outer s H args us vs Q E} hr e0 hb r hsp => ?_⟩
  have keep := fun b o e => (e0.bs b o e).1
  have KX : K.In s.heap := e0.mod.kin.keeps keep
  refine codeAny_call_function hr.room.depth (KX _ _ lk) rfl S.co S.gen rfl (PySem.W.codeRec_of KX hcd) (hb _ _ _ _ ?_)
  refine wpAny_newFunctionEnv_cells S.kind (fun y hy => ?_) fun env he s1 z => ?_
  · obtain ⟨n, v⟩ := y
    refine (S.par n (List.of_mem_zip hy).1).imp id fun q => ⟨q, PySem.W.cellsFrom_some _ _ _ (.inl q)⟩
  subst he
  obtain ⟨t, ht, hq⟩ := hbody cdv A outer s H vs Q E hr.down hsp
  refine ⟨(e0.mod.nolimit.keeps keep).keeps z.toInCall.keep, codeAny_func (wpAny_mono (ht.run [] s1 (start N vs) H _ (inv_start S hr.room.hd e0 (ln _ _ _ _ hsp) r z) hq) (fun fl s2 hs => ?_) fun e s2 hs => hs)⟩
  match fl, hs with
  | .ret u, ⟨v, σ1, H1, J, rv, q⟩ => exact ⟨v, H1, J.os, J.bare, J.base, J.hok, rv, q⟩
  | .next, ⟨σ1, H1, J, q⟩ => exact ⟨V.non, H1, J.os, J.bare, J.base, J.hok, rfl, q⟩
  | .brk, ⟨_, _, _, q⟩ => exact False.elim q
  | .cont, ⟨_, _, _, q⟩ => exact False.elim q

/-- the law's call, out of the law's promise -/
theorem callG {P : Program} {w : World} {K : PySem.W.Frag} {mg mb : Str → Option Value} {CX : CXT} {k : Nat} {fa a : Addr} {fd : FuncData} {x : Str} {sp : Sp} {s1 : Shared} {vs : List Value} {ns : List Int}
    (KX : K.In s1.heap) (hns : s1.heap.Ns mainGlobals mg) (hb : s1.heap.Ns builtinsNs mb) (hbb : ∀ x : Str, x ≠ "__name__" → mb x = bootBuiltins x) (hlim : s1.heap.NoLimit) (hg : s1.gens = #[])
    (ha : s1.heap.get? a = some { cls := .type "list", data := .seq vs.toArray }) (hi : IntsAre vs ns) (hl : ns.length ≤ sizeLine) (hr : Room k callerA)
    (F : ∀ base : Heap, K.In base → base.Ns mainGlobals mg → FnG P w K mg base CX k fa fd [x] sp) (hbind : ∀ (s : Shared) (u : Value), BindsTo s fd ⟨[u], []⟩ [(x, u)])
    (hsp : ∀ H : Hp, SqL K H a (ns.map V.int) → sp [.ref a] H (fun v _ => v = .bl true) fun _ _ _ => False)
    (hCX : ∀ H e s2, CX [] H s1 (fun _ _ _ => False) e s2 → False) :
    codeAny (model P w) callerA (.call (.ref fa) ⟨[.ref a], []⟩) (fun r s2 => r = .ok (.ret (.bool true)) ∧ OldK s1.heap s2.heap ∧ s2.os = s1.os ∧ AllBare s2.gens) s1 := by
  have lenV := hi.length
  have rv := vals_ints hi
  let ob : Obj := { cls := .type "list", data := .seq vs.toArray }
  let H : Hp := fun b => if b = a ∧ K.lookup a = none then some (.frz ob (.lst (ns.map V.int))) else none
  have hH : ∀ {b u}, H b = some u → b = a ∧ K.lookup a = none ∧ u = .frz ob (.lst (ns.map V.int)) := fun {b u} z => by
    by_cases hc : b = a ∧ K.lookup a = none
    · exact ⟨hc.1, hc.2, (Option.some.inj ((if_pos hc).symm.trans z)).symm⟩
    · exact absurd ((if_neg hc).symm.trans z) (by simp)
  have hN : ∀ {b o}, s1.heap.get? b = some o → (b = a → K.lookup a = none → False) → (hidT s1.heap H).get? b = some o := fun {b o} e h => hidT_get e (by
    cases q : H b with
    | none => rfl
    | some u => exact (h (hH q).1 (hH q).2.1).elim)
  have nsK : ∀ {b : Addr} {m : Str → Option Value}, s1.heap.Ns b m → (hidT s1.heap H).Ns b m := fun {b m} ⟨o, es, ep, e, d, r⟩ => ⟨o, es, ep, hN e (fun z _ => by
    subst z
    rw [ha] at e
    cases e
    exact absurd (show Data.seq vs.toArray _ = Data.dict es ep from d) (by simp)), d, r⟩
  have hKb : K.In (hidT s1.heap H) := fun b o e => hN (KX b o e) (fun z q => by subst z; rw [q] at e; cases e)
  have ok : HOk P w H s1.heap := fun b u z => by
    obtain ⟨rfl, _, rfl⟩ := hH z
    exact ⟨ha, by rw [List.length_map]; exact hl, vs, _, rv, ha⟩
  have S : SqL K H a (ns.map V.int) := by
    cases hk : K.lookup a with
    | none => exact .inl (.inr ⟨ob, if_pos ⟨rfl, hk⟩⟩)
    | some o =>
      have e := (KX a o hk).symm.trans ha
      obtain rfl : o = ob := Option.some.inj e
      exact .inr ⟨_, vs.toArray, _, hk, rfl, rfl, rfl, by rw [List.size_toArray, lenV]; exact hl, by simpa using rv⟩
  have e0 : Env0 P w K mg (hidT s1.heap H) callerA [] s1 H :=
    ⟨rfl, ⟨hKb, nsK hns, ⟨mb, nsK hb, hbb⟩, let ⟨mc, h1, h2⟩ := hlim; ⟨mc, nsK h1, h2⟩⟩, fun b o e => of_hidT e, Nat.le_of_eq (hidT_size _ _), trivial, fun b hb => (List.not_mem_nil hb).elim, ok, .of_eq hg⟩
  refine codeAny_mono ((F _ hKb (nsK hns)).go (us := [.ref a]) (vs := [.ref a]) ⟨hr, rfl⟩ e0 (hbind s1 (.ref a)) (.cons rfl .nil) (hsp H S)) fun r s2 h => ?_
  match r, h with
  | .error e, h => exact (hCX H e s2 h).elim
  | .ok (.ret u), ⟨v, H1, os, bare, un, ok1, rv1, q⟩ =>
    have q : v = .bl true := q
    subst q
    obtain rfl : u = Value.bool true := rv1
    refine ⟨rfl, OldK.of_keep fun b o e => ?_, os, bare⟩
    cases q : H b with
    | none => exact un.keep b o e q (fun z => (List.not_mem_nil z).elim) (List.not_mem_nil)
    | some u =>
      obtain ⟨rfl, _, rfl⟩ := hH q
      exact (ok1 _ _ (un.frzs _ _ _ q)).1.trans (ha.symm.trans e)

/-- .. over all scripts -/
theorem walkG {l : PySem.W.OpenLaw} {n k : Nat} {q : Program} {loose : List Str} {XP : (Str → Option Value) → Heap → Prop} {YP : World → Heap → Prop} {d : DefRec} {K : Params → PySem.W.Frag} {CX : World → CXT} {sp : World → Sp} {x : Str}
    (hn : l.most = some n) (hn2 : n ≤ sizeLine) (hdf : d.params.defaults = []) (hr : Room k callerA) (hY : ∀ (w : World) (h : Heap), YP w h → (K w.params).In h)
    (F : ∀ (w : World) (mg : Str → Option Value) (fa : Addr) (h : Heap), (K w.params).In h → h.Ns mainGlobals mg → mg d.name = some (.ref fa) →
      ∃ fd : FuncData, (∀ (s : Shared) (u : Value), BindsTo s fd ⟨[u], []⟩ [(x, u)]) ∧ ∀ base : Heap, (K w.params).In base → base.Ns mainGlobals mg → FnG l.prog w (K w.params) mg base (CX w) k fa fd [x] (sp w))
    (hsp : ∀ (w : World) (H : Hp) (a : Addr) (ns : List Int), ns.length ≤ n → (∀ z ∈ ns, Builtin.Int.intBits z ≤ 1048576) → SqL (K w.params) H a (ns.map V.int) → sp w [.ref a] H (fun v _ => v = .bl true) fun _ _ _ => False)
    (hCX : ∀ (w : World) (H : Hp) (s : Shared) (e : Value) (s2 : Shared), CX w [] H s (fun _ _ _ => False) e s2 → False) :
    PySem.W.WalkO q loose XP YP l.row.toRowW d [] (fun f vs => PySem.call f vs) :=
  Att.attach_callB hn hdf fun w s0 s1 mg mb fa o pm cd doc a vs ns G Y _ _ _ hmg hobj hints hlen hbits hg => by
    have KX := hY w _ Y
    obtain ⟨fd, hb, hF⟩ := F w mg fa _ KX G.T.g hmg
    exact callG KX G.T.g G.T.b G.T.builtins G.T.nolimit hg hobj hints (Nat.le_trans hlen hn2) hr hF hb (fun H hS => hsp w H a ns hlen hbits hS) fun H e s2 => hCX w H s1 e s2
end Sk

/-! SkQ: the checker is right about expressions. -/
namespace Sk
open PySem PySem.Spec PyProof.Rows PySem.W L2

/-- a def as its evaluator says -/
def spOf (C : Cfg) (F : List PV → Sto → Res PV) : Sp := fun vs H Q _ => ∃ G M l, SRep C G H M ∧ RepL C G H l vs ∧ Srv C (Rep C) (fun _ _ _ => False) G H (F l M) Q
def kwG {α : Type} (d : α) (np : Nat) (ks : List Str) (perm : List Nat) (us ws : List α) : List α := if us.length = np ∧ ws.length = ks.length then perm.map fun i => (us ++ ws).getD i d else []
structure Ctx (X : Cx) (C : Cfg) (Γ : Sig) (T : Ck) (sc : Scope) (fb : Str → Bool) : Prop where
  hP : C.P = X.prog
  hw : C.w = X.w
  hK : C.K = X.K
  hc : X.calm = true
  hN : X.N = T.N
  nd : X.N.Nodup
  hsc : X.env.scope = sc
  hfn : ∀ x, fb x = true → X.fn x = true
  hu : X.A.units + 65 < cLine
  hg : X.A.guards = some []
  blt : ∀ b ∈ T.blts, X.mg b = none
  con : ∀ g ∈ T.glbs, ∃ (p : PV) (v : V) (u : Value), Γ.con g = some p ∧ X.mg g = some u ∧ RelV v u ∧ ∀ G H, Rep C G H p v
  fns : ∀ f ∈ T.fns, ∃ (F : List PV → Sto → Res PV) (k : Nat) (fa : Addr) (fd : FuncData) (ps : List Str), Γ.fn f = some F ∧ FnG X.prog X.w X.K X.mg X.base CX0 k fa fd ps (spOf C F) ∧ Rm k X.A ∧ X.mg f = some (.ref fa) ∧ PySem.W.keepIn X.K (.ref fa) = true ∧ Binds X.K fd ps [] ∧
    ∀ np ks perm, (f, np, ks, perm) ∈ T.kws → KBinds X.K fd ps ks (kwG Value.none np ks perm) (kwG V.non np ks perm)
theorem Ctx.blk {X : Cx} {C : Cfg} {Γ : Sig} {T : Ck} {sc : Scope} {fb : Str → Bool} (K : Ctx X C Γ T sc fb) (s : Shared) (H : Hp) (L : Addr) (cl : List (Str × Addr)) (fp : List Addr) (scope : Scope) :
    Ctx (X.blk s H scope (compEnvC scope cl L X.env) fp) C Γ T (relS scope sc) (cellB scope) :=
  ⟨K.hP, K.hw, K.hK, K.hc, K.hN, K.nd, by rw [← K.hsc]; rfl, fun _ h => h, K.hu, K.hg, K.blt, K.con, K.fns⟩

section
variable {X : Cx} {C : Cfg} {Γ : Sig} {T : Ck} {sc : Scope} {fb : Str → Bool}
theorem loc_of {x : Str} (h : locB sc x = true) : sc.names.lookup x = some .local := by
  unfold locB at h
  split at h
  · assumption
  · cases h
theorem cel_of {x : Str} (h : celB sc x = true) : sc.names.lookup x = some .cell := by
  unfold celB at h
  split at h
  · assumption
  · cases h
theorem fre_of {x : Str} (h : freB sc x = true) : sc.names.lookup x = some .free := by
  unfold freB at h
  split at h
  · assumption
  · cases h
theorem glo_of {x : Str} (K : Ctx X C Γ T sc fb) (h : gloB sc x = true) : Gl X x := by
  unfold gloB at h
  split at h
  · show X.env.scope.names.lookup x = _
    rw [K.hsc]; assumption
  · cases h
theorem vis_of {x : Str} (K : Ctx X C Γ T sc fb) (h : visB sc x = true) : Vis X.env.scope x := by
  rw [K.hsc]
  unfold visB at h
  simp only [Bool.or_eq_true] at h
  rcases h with (h | h) | h
  · exact .inl (loc_of h)
  · exact .inr (.inl (cel_of h))
  · exact .inr (.inr (fre_of h))
theorem ix_of {x : Str} {i : Nat} (K : Ctx X C Γ T sc fb) (h : ixB T.N i x = true) : X.N[i]? = some x := by rw [K.hN]; exact of_decide_eq_true h
theorem plain_of {x : Str} (h : plainN x = true) : (x == ("__debug__" : Str)) = false ∧ (x == ("__classdict__" : Str)) = false := by
  unfold plainN at h
  simp only [Bool.and_eq_true, Bool.not_eq_true'] at h
  exact h
theorem fine_of {x : Str} (h : strFineB x = true) : StrFine x := by
  unfold strFineB at h
  simp only [Bool.and_eq_true, decide_eq_true_eq] at h
  exact ⟨h.1, Nat.le_trans h.2 (by rw [sizeLine_eq]; decide)⟩
/-- a reading told otherwise -/
theorem PE.eq {x : Expr} {f g : PEnv → Sto → Res PV} {W : WX} (h : PE X x (tE C f W)) (e : ∀ ρ M, f ρ M = g ρ M) : PE X x (tE C g W) := by
  have : f = g := funext fun ρ => funext fun M => e ρ M
  rw [← this]; exact h
theorem PT.eq {x : Expr} {f g : PEnv → Sto → Res Bool} {W : WX} (h : PT X x (tT C f W)) (e : ∀ ρ M, f ρ M = g ρ M) : PT X x (tT C g W) := by
  have : f = g := funext fun ρ => funext fun M => e ρ M
  rw [← this]; exact h
theorem PW.eq {x : Expr} {f g : PEnv → Sto → Res Bool} {W : WX} (h : PW X x (tT C f W)) (e : ∀ ρ M, f ρ M = g ρ M) : PW X x (tT C g W) := by
  have : f = g := funext fun ρ => funext fun M => e ρ M
  rw [← this]; exact h
theorem PW.pt {x : Expr} {t : TT} (h : PW X x t) : PT X x t := ⟨fun pins s σ H Q I q => h.run _ pins s σ H Q I q⟩
theorem PI.eq {t x : Expr} {f g : PEnv → Sto → Res (List PV)} {W : WX} (h : PI X t x (tI C f W)) (e : ∀ ρ M, g ρ M = f ρ M ∨ g ρ M = .no) : PI X t x (tI C g W) :=
  PI.weak h fun σ H R ⟨G, ρ, M, S, ER, F⟩ => ⟨G, ρ, M, S, ER, by
    rcases e ρ M with z | z
    · rw [← z]; exact F
    · rw [z] at F; exact F.elim⟩
structure Snd (X : Cx) (C : Cfg) (Γ : Sig) (e : E) (x : Expr) : Prop where
  pe : PE X x (tE C (evE Γ e) Wn)
  pt : isIf x = false → PT X x (tT C (fun ρ M => asB (evE Γ e ρ M)) Wn)
  pw : isBoolE x = true → PW X x (tT C (fun ρ M => asB (evE Γ e ρ M)) Wn)
theorem Snd.val {e : E} {x : Expr} (h : PE X x (tE C (evE Γ e) Wn)) (he : ∀ whole, isTrue x X.env whole = (do let v ← whole; standAt x.pos; holding [v] (truthy v))) (hb : isBoolE x = false) : Snd X C Γ e x :=
  ⟨h, fun _ => pt_valP h he, fun z => by rw [hb] at z; cases z⟩
theorem cmp_rule {o : CO} {p : CmpOp} (K : Ctx X C Γ T sc fb) (h : coB o p = true) : ∃ r, OpR X (compareOp p) r ∧ OpOk C r (cmpop o) := by
  cases o <;> cases p <;> first
    | (cases h; done)
    | exact ⟨_, op_eqD (Nat.lt_of_succ_lt K.hu), by rw [← K.hK]; exact ok_eq⟩
    | exact ⟨_, op_neD (Nat.lt_of_succ_lt K.hu), by rw [← K.hK]; exact ok_ne⟩
    | exact ⟨_, op_ltP.or (op_ltD K.hu), ok_ltD _ K.hK⟩
    | exact ⟨_, op_le, ok_le⟩
    | exact ⟨_, op_gt, ok_gt⟩
    | exact ⟨_, op_ge, ok_ge⟩
    | exact ⟨_, op_inP K.hP K.hw K.hK K.hu, ok_in⟩
    | exact ⟨_, op_ninP K.hP K.hw K.hK K.hu, ok_nin⟩
    | exact ⟨_, op_isP, ok_is⟩
    | exact ⟨_, op_isnP, ok_isn⟩
theorem cmpx_rule {o : CO} {p : CmpOp} (K : Ctx X C Γ T sc fb) (h : coB o p = true) : ∃ r, OpR X (compareOp p) r ∧ OpOk C r (cmpopX o) := by
  obtain ⟨r, h1, h2⟩ := cmp_rule K h
  have hu1 : X.A.units < cLine := Nat.lt_of_le_of_lt (Nat.le_add_right _ _) K.hu
  have hu2 : X.A.units + 1 < cLine := Nat.lt_of_le_of_lt (Nat.add_le_add_left (by decide) _) K.hu
  have base : ∀ (r2 : R2), (∀ (W : XWish) (G : Gh) (H : Hp) (M : Sto) (v w : PV) (x y : V) (b : Bool) (Q : VK), SRep C G H M → Rep C G H v x → Rep C G H w y → cmpX o v w M = some b → Srv C (Rep C) W G H (.ok (.bl b) M) Q → r2 x y H Q) → OpOk C (fun x y H Q => r2 x y H Q ∨ r x y H Q) (cmpopX o) := by
    intro r2 k W G H M v w x y Q S rv rw' F
    unfold cmpopX at F
    cases e : cmpX o v w M with
    | some b => rw [e] at F; exact .inl (k W G H M v w x y b Q S rv rw' e F)
    | none => rw [e] at F; exact .inr (h2 W G H M v w x y Q S rv rw' F)
  have same : (∀ v w M, cmpX o v w M = none) → ∃ r, OpR X (compareOp p) r ∧ OpOk C r (cmpopX o) := fun hn => ⟨r, h1, fun W G H M v w x y Q S rv rw' F => h2 W G H M v w x y Q S rv rw' (by
    unfold cmpopX at F
    rw [hn] at F; exact F)⟩
  cases o with
  | eq => cases p with
    | Eq => exact ⟨_, (op_emp hu1).or h1, base _ fun W G H M v w x y b Q S rv rw' e F => by rw [← K.hK]; exact empty_ok (n := false) S rv rw' e (by simpa using F)⟩
    | _ => cases h
  | ne => cases p with
    | NotEq => exact ⟨_, (op_nemp hu1).or h1, base _ fun W G H M v w x y b Q S rv rw' e F => by
        have e2 : (emptyT v w).map (!·) = some b := e
        rw [Option.map_eq_some_iff] at e2
        obtain ⟨c, e3, rfl⟩ := e2
        rw [← K.hK]; exact empty_ok (n := true) S rv rw' e3 (by simpa using F)⟩
    | _ => cases h
  | inn => cases p with
    | In => exact ⟨_, (op_din hu2).or h1, base _ fun W G H M v w x y b Q S rv rw' e F => by rw [← K.hK]; exact dctIn_ok (n := false) S rv rw' e (by simpa using F)⟩
    | _ => cases h
  | nin => cases p with
    | NotIn => exact ⟨_, (op_ndin hu2).or h1, base _ fun W G H M v w x y b Q S rv rw' e F => by
        have e2 : (dctIn v w M).map (!·) = some b := e
        rw [Option.map_eq_some_iff] at e2
        obtain ⟨c, e3, rfl⟩ := e2
        rw [← K.hK]; exact dctIn_ok (n := true) S rv rw' e3 (by simpa using F)⟩
    | _ => cases h
  | _ => exact same fun v w M => rfl
theorem bin_rule {o : BO} {p : Operator} (K : Ctx X C Γ T sc fb) (h : opB o p = true) : ∃ r, OpR X (binaryOp p) r ∧ OpOk C r (binop o) := by
  cases o <;> cases p <;> first
    | (cases h; done)
    | exact ⟨_, op_addP, by rw [← K.hK]; exact ok_add⟩
    | exact ⟨_, op_sub, ok_sub⟩
    | exact ⟨_, op_mulP, ok_mul⟩
    | exact ⟨_, op_fdivW, ok_fdiv⟩
    | exact ⟨_, op_mod, ok_mod⟩
    | exact ⟨_, op_pow, ok_pow⟩
theorem plainIx_of {b : Expr} (h : plainIx b = true) : PlainIx b := by
  intro o i
  cases b <;> first | rfl | cases h
theorem fold_plain {e : Expr} (h : isSet e = false) : ∀ env x, foldedSetIterable e env x = pure x := by
  intro env x
  cases e <;> first | rfl | cases h
theorem comp_of {k : CK} {x elt : Expr} {gs : List Comprehension} {s : Scope} {p : Pos} (h : compOf k x = some (elt, gs, s, p)) : x = cmp k elt gs s p := by
  cases k <;> cases x <;> first | (cases h; rfl) | cases h
theorem own_of {N : List Str} {own : List Nat} : (ownOf N own).map (·.2) = own := by
  unfold ownOf
  rw [List.map_map]
  exact List.map_id own
theorem sub_of {a b : List Nat} (h : subB a b = true) : ∀ i ∈ a, i ∈ b := fun i hi => by
  unfold subB at h
  rw [List.all_eq_true] at h
  exact of_decide_eq_true (h i hi)
theorem next_of {gs : List Comprehension} (h : nextB gs = true) : gs[0]? = none ∨ ∃ tg' iter' ifs', gs[0]? = some ⟨tg', iter', ifs', 0⟩ := by
  cases gs with
  | nil => exact .inl rfl
  | cons g r =>
    obtain ⟨t, i, c, a⟩ := g
    have : a = 0 := of_decide_eq_true h
    subst this
    exact .inr ⟨t, i, c, rfl⟩
end

/-! ### targets -/
section
variable {X : Cx} {C : Cfg} {Γ : Sig} {T : Ck} {sc : Scope} {fb : Str → Bool}
mutual
theorem snd_Tg (K : Ctx X C Γ T sc fb) {vs : List Nat} : ∀ (t : Tg) (x : Expr), (∀ i ∈ tgN t, i ∈ vs) → mTg T sc fb t x = true → PG X x (tG C vs (bindG t))
  | .nm i, x, hv, h => by
    unfold mTg at h
    split at h
    · rename_i n p
      simp only [Bool.and_eq_true, Bool.or_eq_true] at h
      obtain ⟨h1, h2⟩ := h
      have hx : Loc X.env.scope n := by
        rw [K.hsc]
        rcases h2 with h2 | h2
        · exact .inl (loc_of h2)
        · exact .inr (cel_of h2.1)
      refine pg_nmP K.nd (ix_of K h1) hx ?_ (hv i (by simp [tgN]))
      rcases h2 with h2 | h2
      · exact .inr (by rw [K.hsc]; exact loc_of h2)
      · exact .inl (K.hfn n h2.2)
    · cases h
  | .tp l, x, hv, h => by
    unfold mTg at h
    split at h
    · rename_i es k p
      obtain ⟨h1, h2, h3⟩ := snd_Tgs K l es (fun i hi => hv i (by simpa [tgN] using hi)) h
      exact pg_tpP K.hc K.hK h2 h3 h1
    · cases h
theorem snd_Tgs (K : Ctx X C Γ T sc fb) {vs : List Nat} : ∀ (l : Tgs) (es : List Expr), (∀ i ∈ tgsN l, i ∈ vs) → mTgs T sc fb l es = true → PGs X es (tGs C vs (bindGs l)) ∧ l.len = es.length ∧ es.all (fun e => !isStar e) = true
  | .nil, es, hv, h => by
    unfold mTgs at h
    cases es with
    | nil => exact ⟨pgs_nilP, rfl, rfl⟩
    | cons e r => cases h
  | .cons t l, es, hv, h => by
    unfold mTgs at h
    split at h
    · rename_i e r
      simp only [Bool.and_eq_true, Bool.not_eq_true'] at h
      obtain ⟨⟨h1, h2⟩, h3⟩ := h
      have p1 := snd_Tg K t e (fun i hi => hv i (by simp [tgsN, hi])) h2
      obtain ⟨q1, q2, q3⟩ := snd_Tgs K l r (fun i hi => hv i (by simp [tgsN, hi])) h3
      exact ⟨pgs_consP h1 p1 q1, by rw [List.length_cons, ← q2]; rfl, by simp [h1, q3]⟩
    · cases h
end
end
end Sk

/-! SkR: the checker is right about expressions, all forms. -/
namespace Sk
open PySem PySem.Spec PyProof.Rows PySem.W L2

/-! ### calls of the program's own defs -/
section
variable {X : Cx} {C : Cfg} {Γ : Sig} {T : Ck} {sc : Scope} {fb : Str → Bool} {f : Str} {ga gk : PEnv → Sto → Res (List PV)} {p pos : Pos}
theorem all_cons {e : Expr} {es : List Expr} (h : (e :: es).all (fun e => !isStar e) = true) : isStar e = false ∧ es.all (fun e => !isStar e) = true := by
  simp only [List.all_cons, Bool.and_eq_true, Bool.not_eq_true'] at h
  exact h
theorem pe_callP {e : Expr} {es : List Expr} (K : Ctx X C Γ T sc fb) (hf : f ∈ T.fns) (hg : gloB sc f = true) (hp : plainN f = true) (hs : (e :: es).all (fun e => !isStar e) = true) (ha : PA X (e :: es) (tA C ga Wn)) :
    PE X (.Call (.Name f p) (e :: es) [] pos) (tE C (fun ρ M => (ga ρ M).bnd fun l M1 => match Γ.fn f with
      | some F => F l M1
      | none => .no) Wn) := by
  obtain ⟨F, k, fa, fd, ps, h1, h2, h3, h4, h5, h6, _⟩ := K.fns f hf
  rw [h1]
  refine PE.weak (pe_callG (E := fun _ _ _ => False) (CX := CX0) h2 h3 (glo_of K hg) h4 h5 h6 .nil L2.pass0 ha (plain_of hp).1 (starEach_plain (all_cons hs).1) (no_star (all_cons hs).2)) fun σ H Q ⟨G, ρ, M, S, ER, F0⟩ => ?_
  exact ⟨G, ρ, M, S, ER, (Srv.split F0).mono fun xs H1 ⟨G1, l, M1, s1, S1, r1, F1⟩ => ⟨G1, M1, l, S1, by rw [List.append_nil]; exact r1, F1⟩⟩
theorem kw_names {env : Env} : ∀ {kws : List Keyword} {ks : List Str} {pos : Pos}, kwNames kws = some ks → (backToKw pos (keywordEach kws env)).all (·.1.isSome) = true ∧ (backToKw pos (keywordEach kws env)).filterMap (·.1) = ks ∧ (backToKw pos (keywordEach kws env)).any (·.1.isNone) = false
  | [], ks, pos, h => by cases h; exact ⟨rfl, rfl, rfl⟩
  | ⟨some n, e, q⟩ :: r, ks, pos, h => by
    simp only [kwNames, Option.map_eq_some_iff] at h
    obtain ⟨l, h, rfl⟩ := h
    obtain ⟨h1, h2, h3⟩ := kw_names (env := env) (pos := pos) h
    refine ⟨?_, ?_, ?_⟩
    · show (true && _) = true
      rw [Bool.true_and]; exact h1
    · show n :: _ = n :: l
      congr 1
    · show (false || _) = false
      rw [Bool.false_or]; exact h3
  | ⟨none, e, q⟩ :: r, ks, pos, h => by cases h
theorem pk_of : ∀ {kws : List Keyword} {t : TA}, PA X (kws.map (·.value)) t → (kws.map (·.value)).all (fun e => !isStar e) = true → True := fun _ _ => trivial
theorem pk_nilP : PK X [] (tA C (fun _ M => .ok [] M) Wn) := ⟨fun pos pins s σ H Q I ⟨G, ρ, M, S, _, F⟩ => pk_nil.run pos pins s σ H Q I (F.ok_now S .nil)⟩
theorem pk_consP {nm : Option Str} {e : Expr} {kws : List Keyword} {fe : PEnv → Sto → Res PV} {q : Pos} (ha : PE X e (tE C fe Wn)) (hr : PK X kws (tA C gk Wn)) : PK X (⟨nm, e, q⟩ :: kws) (tA C (fun ρ M => (fe ρ M).bnd fun v M1 => (gk ρ M1).bnd fun l M2 => .ok (v :: l) M2) Wn) :=
  ⟨fun pos pins s σ H Q I ⟨G, ρ, M, S, ER, F⟩ => (pk_cons ha hr).run pos pins s σ H Q I ⟨G, ρ, M, S, ER, (Srv.split F).mono fun x H1 ⟨G1, v, M1, s1, S1, r1, F1⟩ =>
    ⟨G1, ρ, M1, S1, ER.on s1.toStq, (Srv.split F1).mono fun xs H2 ⟨G2, l, M2, s2, S2, r2, F2⟩ => F2.ok_now S2 (.cons (r1.on s2.toStq) r2)⟩⟩⟩
theorem rep_getD {G : Gh} {H : Hp} {l : List PV} {xs : List V} (r : RepL C G H l xs) : ∀ {perm : List Nat} {as : List PV}, perm.mapM (fun i => l[i]?) = some as → RepL C G H as (perm.map fun i => xs.getD i .non)
  | [], as, h => by cases h; exact .nil
  | i :: perm, as, h => by
    rw [List.mapM_cons] at h
    simp only [Option.bind_eq_bind, Option.bind_eq_some_iff, Option.pure_def, Option.some.injEq] at h
    obtain ⟨a, h1, as', h2, rfl⟩ := h
    obtain ⟨x, h3, r1⟩ := r.get h1
    rw [List.map_cons, List.getD_eq_getElem?_getD, h3]
    exact .cons r1 (rep_getD r h2)
theorem callK_core {G2 : Gh} {H2 : Hp} {M2 : Sto} {v r : List PV} {xs ys : List V} {Q : VK} {F : List PV → Sto → Res PV} {np : Nat} {ks : List Str} {perm : List Nat} (rv : RepL C G2 H2 v xs) (rr : RepL C G2 H2 r ys) (S : SRep C G2 H2 M2)
    (F1 : Srv C (Rep C) (fun _ _ => fun _ => False) G2 H2 (if v.length = np ∧ r.length = ks.length then callKP (some F) (perm.mapM fun i => (v ++ r)[i]?) M2 else .no) Q) : spOf C F (kwG V.non np ks perm xs ys) H2 Q (fun _ _ _ => False) := by
  split at F1
  · rename_i hl
    cases hm : perm.mapM (fun i => (v ++ r)[i]?) with
    | none => rw [hm] at F1; exact F1.elim
    | some as =>
      rw [hm] at F1
      refine ⟨G2, M2, as, S, ?_, F1⟩
      unfold kwG
      rw [if_pos ⟨rv.length.symm.trans hl.1, rr.length.symm.trans hl.2⟩]
      exact rep_getD (rv.append rr) hm
  · exact F1.elim
theorem pe_callKP {l : List Expr} {kws : List Keyword} {np : Nat} {ks : List Str} {perm : List Nat} (K : Ctx X C Γ T sc fb) (hf : f ∈ T.fns) (hg : gloB sc f = true) (hp : plainN f = true) (hs : l.all (fun e => !isStar e) = true) (hk : (f, np, ks, perm) ∈ T.kws) (hn : kwNames kws = some ks)
    (ha : PA X l (tA C ga Wn)) (hkw : PK X kws (tA C gk Wn)) (h0 : l = [] → ∀ ρ M, ga ρ M = .ok [] M) :
    PE X (.Call (.Name f p) l kws pos) (tE C (fun ρ M => (ga ρ M).bnd fun l M1 => (gk ρ M1).bnd fun r M2 => if l.length = np ∧ r.length = ks.length then callKP (Γ.fn f) (perm.mapM fun i => (l ++ r)[i]?) M2 else .no) Wn) := by
  obtain ⟨F, k, fa, fd, ps, h1, h2, h3, h4, h5, h6, h7⟩ := K.fns f hf
  rw [h1]
  obtain ⟨n1, n2, n3⟩ := kw_names (env := X.env) (pos := pos) hn
  cases l with
  | nil =>
    refine PE.weak (pe_callGK0 (E := fun _ _ _ => False) (CX := CX0) h2 h3 (glo_of K hg) h4 h5 (h7 np ks perm hk) L2.pass0 hkw n1 n2 (plain_of hp).1 (by rw [n3]; rfl)) fun σ H Q ⟨G, ρ, M, S, ER, F0⟩ => ?_
    dsimp only at F0
    rw [h0 rfl] at F0
    exact ⟨G, ρ, M, S, ER, (Srv.split (show Srv _ _ _ _ _ ((gk ρ M).bnd _) Q from F0)).mono fun ys H2 ⟨G2, r, M2, s2, S2, r2, F2⟩ => callK_core .nil r2 S2 F2⟩
  | cons e es =>
    refine PE.weak (pe_callGK (E := fun _ _ _ => False) (CX := CX0) h2 h3 (glo_of K hg) h4 h5 (h7 np ks perm hk) L2.pass0 ha hkw n1 n2 (plain_of hp).1 (starEach_plain (all_cons hs).1) (by rw [no_star hs, n3]; rfl)) fun σ H Q ⟨G, ρ, M, S, ER, F0⟩ => ?_
    exact ⟨G, ρ, M, S, ER, (Srv.split F0).mono fun xs H1 ⟨G1, v, M1, s1, S1, r1, F1⟩ => ⟨G1, ρ, M1, S1, ER.on s1.toStq, (Srv.split F1).mono fun ys H2 ⟨G2, r, M2, s2, S2, r2, F2⟩ => callK_core (r1.on s2.toStq) r2 S2 F2⟩⟩
end
end Sk

/-! SkS: the checker is right about expressions: the induction. -/
namespace Sk
open PySem PySem.Spec PyProof.Rows PySem.W L2
section
variable {C : Cfg} {Γ : Sig} {T : Ck}
theorem asB_ite {b : Bool} {r r' : Res PV} : asB (if b then r else r') = if b then asB r else asB r' := by cases b <;> rfl
theorem evEs_nil {es : Es} {sc : Scope} {fb : Str → Bool} (h : mEs T sc fb es [] = true) : ∀ ρ M, evEs Γ es ρ M = .ok [] M := by
  cases es with
  | nil => intro ρ M; rfl
  | cons e es => unfold mEs at h; cases h
  | star e es => unfold mEs at h; cases h
theorem it_fn {X : Cx} {f : Str} {n : Nat} {ga : PEnv → Sto → Res (List PV)} {t : Expr} {l : List Expr} {p pos : Pos} (hK : C.K = X.K) (hg : Gl X f) (hm : X.mg f = none) (hs : l.all (fun e => !isStar e) = true) (hl : l.length = n)
    (hf : ((f = ("range" : Str) ∧ (n = 1 ∨ n = 2)) ∨ (f = ("enumerate" : Str) ∧ n = 1) ∧ isTupE t = true) ∨ (f = ("zip" : Str) ∧ n = 2) ∧ isTupE t = true) (pa : PA X l (tA C ga Wn)) :
    PI X t (.Call (.Name f p) l [] pos) (tI C (fun ρ M => (ga ρ M).bnd fun l M1 => if l.length = n then evIt f l M1 else .no) Wn) := by
  have bnd_or : ∀ {r : Res (List PV)} {k k' : List PV → Sto → Res (List PV)}, (∀ v M, k' v M = k v M ∨ k' v M = .no) → r.bnd k' = r.bnd k ∨ r.bnd k' = .no := fun {r k k'} h => by
    cases r with
    | ok v M => exact h v M
    | ex e M => exact .inl rfl
    | no => exact .inl rfl
  have len1 : ∀ {e : Expr}, l = [e] → n = 1 := fun h => by rw [← hl, h]; rfl
  rcases hf with (⟨rfl, hn⟩ | ⟨⟨rfl, rfl⟩, ht⟩) | ⟨⟨rfl, rfl⟩, ht⟩
  · rcases hn with rfl | rfl
    · match l, hl with
      | [e], _ =>
        refine PI.eq (pi_rngP hg hm (all_cons hs).1 pa) fun ρ M => bnd_or fun v M1 => ?_
        match v with
        | [u] => exact .inl rfl
        | [] => exact .inr rfl
        | _ :: _ :: _ => exact .inr rfl
    · match l, hl with
      | [e, e2], _ =>
        refine PI.eq (pi_rng2P hg hm (all_cons hs).1 (all_cons (all_cons hs).2).1 pa) fun ρ M => bnd_or fun v M1 => ?_
        match v with
        | [u, w] => exact .inl rfl
        | [] => exact .inr rfl
        | [u] => exact .inr rfl
        | _ :: _ :: _ :: _ => exact .inr rfl
  · match l, hl with
    | [e], _ =>
      cases t <;> first
        | (cases ht; done)
        | (refine PI.eq (pi_enmP hK hg hm (all_cons hs).1 pa) fun ρ M => bnd_or fun v M1 => ?_
           by_cases h : v.length = 1
           · exact .inl (if_pos h)
           · exact .inr (if_neg h))
  · match l, hl with
    | [e, e2], _ =>
      cases t <;> first
        | (cases ht; done)
        | (refine PI.eq (pi_zipP hK hg hm (all_cons hs).1 (all_cons (all_cons hs).2).1 pa) fun ρ M => bnd_or fun v M1 => ?_
           by_cases h : v.length = 2
           · exact .inl (if_pos h)
           · exact .inr (if_neg h))
theorem if_of {X : Cx} {sc : Scope} {fb : Str → Bool} {c : E} {ifs : List Expr} (ih : ∀ y, mE T sc fb c y = true → Snd X C Γ c y) (h : ifsB (mE T sc fb c) c ifs = true) : PTs X ifs (tT C (fun ρ M => asB (evE Γ c ρ M)) Wn) := by
  match ifs, h with
  | [], h =>
    cases c <;> first | (cases h; done) | exact pts_nilP
  | [y], h =>
    have h : (mE T sc fb c y && !isIf y) = true := h
    simp only [Bool.and_eq_true, Bool.not_eq_true'] at h
    exact pts_one ((ih y h.1).pt h.2)
  | _ :: _ :: _, h => cases h
mutual
theorem snd_E : ∀ (e : E) {X : Cx} {sc : Scope} {fb : Str → Bool} (x : Expr), Ctx X C Γ T sc fb → mE T sc fb e x = true → Snd X C Γ e x
  | .var i, X, sc, fb, x, K, h => by
    unfold mE at h
    split at h
    · rename_i n p
      simp only [Bool.and_eq_true] at h
      exact .val (pe_varP (ix_of K h.1.1) (vis_of K h.1.2) (plain_of h.2).1 (plain_of h.2).2) (fun _ => rfl) rfl
    · cases h
  | .non, X, sc, fb, x, K, h => by
    unfold mE at h
    split at h
    · exact .val (pe_const pe_non (fun _ _ _ q => q) fun _ _ => Rep.non_iff.mpr rfl) (fun _ => rfl) rfl
    · cases h
  | .bl b, X, sc, fb, x, K, h => by
    unfold mE at h
    split at h
    · cases of_decide_eq_true h
      exact .val (pe_const pe_bl (fun _ _ _ q => q) fun _ _ => Rep.bl_iff.mpr rfl) (fun _ => rfl) rfl
    · cases h
  | .int i, X, sc, fb, x, K, h => by
    unfold mE at h
    split at h
    · cases of_decide_eq_true h
      exact .val (pe_const pe_int (fun _ _ _ q => q) fun _ _ => Rep.int_iff.mpr rfl) (fun _ => rfl) rfl
    · cases h
  | .str s, X, sc, fb, x, K, h => by
    unfold mE at h
    split at h
    · simp only [Bool.and_eq_true] at h
      cases of_decide_eq_true h.1
      exact .val (pe_const pe_str (fun _ _ _ q => q) fun _ _ => Rep.str_iff.mpr ⟨rfl, fine_of h.2⟩) (fun _ => rfl) rfl
    · cases h
  | .glb g, X, sc, fb, x, K, h => by
    unfold mE at h
    split at h
    · simp only [Bool.and_eq_true, Bool.not_eq_true'] at h
      obtain ⟨⟨⟨h1, h2⟩, h3⟩, h4⟩ := h
      cases of_decide_eq_true h1
      obtain ⟨p, v, u, e1, e2, e3, e4⟩ := K.con g (of_decide_eq_true h3)
      have q : evE Γ (.glb g) = fun _ M => .ok p M := by
        funext ρ M
        show ofO (Γ.con g) M = _
        rw [e1]; rfl
      exact .val (by rw [q]; exact pe_const (pe_glob (glo_of K h2) e2 e3 h4) (fun _ _ _ q => q) e4) (fun _ => rfl) rfl
    · cases h
  | .miss, X, sc, fb, x, K, h => by unfold mE at h; cases h
  | .tup es, X, sc, fb, x, K, h => by
    unfold mE at h
    split at h
    · exact .val (pe_tupP (snd_Es es _ K h)) (fun _ => rfl) rfl
    · cases h
  | .lst m es, X, sc, fb, x, K, h => by
    unfold mE at h
    split at h
    · exact .val (pe_lstP (snd_Es es _ K h)) (fun _ => rfl) rfl
    · cases h
  | .bin o a b, X, sc, fb, x, K, h => by
    unfold mE at h
    split at h
    · simp only [Bool.and_eq_true] at h
      obtain ⟨r, h1, h2⟩ := bin_rule K h.1.1
      exact .val (pe_two (fun _ _ ha hb => pe_op h1 ha hb) h2 (snd_E a _ K h.1.2).pe (snd_E b _ K h.2).pe) (fun _ => rfl) rfl
    · cases h
  | .neg a, X, sc, fb, x, K, h => by
    unfold mE at h
    split at h
    · exact .val (pe_negP (snd_E a _ K h).pe) (fun _ => rfl) rfl
    · cases h
  | .cmp o a b, X, sc, fb, x, K, h => by
    unfold mE at h
    split at h
    · split at h
      · simp only [Bool.and_eq_true, Bool.not_eq_true'] at h
        obtain ⟨r, h1, h2⟩ := cmp_rule K h.1.1.1
        have p1 := (snd_E a _ K h.1.1.2).pe
        have p2 := (snd_E b _ K h.1.2).pe
        exact ⟨pe_two (fun _ _ ha hb => pe_cmpR h1 ha hb h.2) h2 p1 p2, fun _ => pt_two (fun _ _ ha hb => pt_cmpR h1 ha hb h.2) h2 p1 p2, fun z => by cases z⟩
      · cases h
    · cases h
  | .cmx o a b, X, sc, fb, x, K, h => by
    unfold mE at h
    split at h
    · split at h
      · simp only [Bool.and_eq_true, Bool.not_eq_true'] at h
        obtain ⟨r, h1, h2⟩ := cmpx_rule K h.1.1.1
        have p1 := (snd_E a _ K h.1.1.2).pe
        have p2 := (snd_E b _ K h.1.2).pe
        exact ⟨pe_two (fun _ _ ha hb => pe_cmpR h1 ha hb h.2) h2 p1 p2, fun _ => pt_two (fun _ _ ha hb => pt_cmpR h1 ha hb h.2) h2 p1 p2, fun z => by cases z⟩
      · cases h
    · cases h
  | .chn o o' a b c, X, sc, fb, x, K, h => by
    unfold mE at h
    split at h
    · split at h
      · simp only [Bool.and_eq_true, Bool.not_eq_true'] at h
        obtain ⟨r, h1, h2⟩ := cmp_rule K h.1.1.1.1.1
        obtain ⟨r', h3, h4⟩ := cmp_rule K h.1.1.1.1.2
        have p1 := (snd_E a _ K h.1.1.1.2).pe
        have p2 := (snd_E b _ K h.1.1.2).pe
        have p3 := (snd_E c _ K h.1.2).pe
        exact ⟨pe_chnP h1 h3 h2 h4 p1 p2 p3 h.2, fun _ => pt_chnP h1 h3 h2 h4 p1 p2 p3 h.2, fun z => by cases z⟩
      · cases h
    · cases h
  | .and a b, X, sc, fb, x, K, h => by
    unfold mE at h
    split at h
    · split at h
      · rename_i pos l y z r
        simp only [Bool.and_eq_true, Bool.not_eq_true'] at h
        obtain ⟨⟨h1, h2⟩, h3⟩ := h
        have p1 := snd_E a _ K h1
        have q : PE X (.BoolOp .And (z :: r) pos) (tE C (evE Γ b) Wn) ∧ PW X (.BoolOp .And (z :: r) pos) (tT C (fun ρ M => asB (evE Γ b ρ M)) Wn) := by
          split at h3
          · rename_i hr
            simp only [Bool.and_eq_true, Bool.not_eq_true'] at h3
            cases r with
            | nil =>
              have p2 := snd_E b _ K h3.1
              exact ⟨pe_one p2.pe, pw_and1P (p2.pt h3.2)⟩
            | cons _ _ => cases hr
          · have p2 := snd_E b _ K h3
            exact ⟨p2.pe, p2.pw rfl⟩
        have w : PW X (.BoolOp .And (y :: z :: r) pos) (tT C (fun ρ M => asB (evE Γ (.and a b) ρ M)) Wn) := PW.eq (pw_andP (p1.pt h2) q.2) fun ρ M => by
          show _ = asB ((asB (evE Γ a ρ M)).bnd fun k M1 => if k then evE Γ b ρ M1 else .ok (.bl false) M1)
          rw [asB_bnd]
          congr 1
          funext k M1
          rw [asB_ite]; rfl
        exact ⟨pe_andP p1.pe q.1, fun _ => w.pt, fun _ => w⟩
      · cases h
    · cases h
  | .or a b, X, sc, fb, x, K, h => by
    unfold mE at h
    split at h
    · split at h
      · rename_i pos l y z r
        simp only [Bool.and_eq_true, Bool.not_eq_true'] at h
        obtain ⟨⟨h1, h2⟩, h3⟩ := h
        have p1 := snd_E a _ K h1
        have q : PE X (.BoolOp .Or (z :: r) pos) (tE C (evE Γ b) Wn) ∧ PW X (.BoolOp .Or (z :: r) pos) (tT C (fun ρ M => asB (evE Γ b ρ M)) Wn) := by
          split at h3
          · rename_i hr
            simp only [Bool.and_eq_true, Bool.not_eq_true'] at h3
            cases r with
            | nil =>
              have p2 := snd_E b _ K h3.1
              exact ⟨pe_one p2.pe, pw_or1P (p2.pt h3.2)⟩
            | cons _ _ => cases hr
          · have p2 := snd_E b _ K h3
            exact ⟨p2.pe, p2.pw rfl⟩
        have w : PW X (.BoolOp .Or (y :: z :: r) pos) (tT C (fun ρ M => asB (evE Γ (.or a b) ρ M)) Wn) := PW.eq (pw_orP (p1.pt h2) q.2) fun ρ M => by
          show _ = asB ((asB (evE Γ a ρ M)).bnd fun k M1 => if k then .ok (.bl true) M1 else evE Γ b ρ M1)
          rw [asB_bnd]
          congr 1
          funext k M1
          rw [asB_ite]; rfl
        exact ⟨pe_orP p1.pe q.1, fun _ => w.pt, fun _ => w⟩
      · cases h
    · cases h
  | .not a, X, sc, fb, x, K, h => by
    unfold mE at h
    split at h
    · simp only [Bool.and_eq_true, Bool.not_eq_true'] at h
      have p1 := snd_E a _ K h.1
      refine ⟨pe_notP p1.pe, fun _ => PT.eq (pt_notP (p1.pt h.2)) fun ρ M => ?_, fun z => by cases z⟩
      show _ = asB ((asB (evE Γ a ρ M)).bnd fun k M1 => .ok (.bl (!k)) M1)
      rw [asB_bnd]; rfl
    · cases h
  | .ite c a b, X, sc, fb, x, K, h => by
    unfold mE at h
    split at h
    · simp only [Bool.and_eq_true, Bool.not_eq_true'] at h
      exact ⟨pe_iteP ((snd_E c _ K h.1.1.1).pt h.1.1.2) (snd_E a _ K h.1.2).pe (snd_E b _ K h.2).pe, (fun z => by cases z), fun z => by cases z⟩
    · cases h
  | .idx a i, X, sc, fb, x, K, h => by
    unfold mE at h
    split at h
    · simp only [Bool.and_eq_true] at h
      exact .val (pe_two (fun _ _ ha hb => pe_ix (ix_P (Nat.lt_of_le_of_lt (Nat.add_le_add_left (by decide) _) K.hu)) ha hb (plainIx_of h.1.1)) (by rw [← K.hK]; exact ok_idx) (snd_E a _ K h.1.2).pe (snd_E i _ K h.2).pe) (fun _ => rfl) rfl
    · cases h
  | .slc a lo hi, X, sc, fb, x, K, h => by
    unfold mE at h
    split at h
    · rename_i y l hh p2 pos
      simp only [Bool.and_eq_true] at h
      have part : ∀ (e : E) (o : Option Expr), (∀ y, mE T sc fb e y = true → PE X y (tE C (evE Γ e) Wn)) → optB (mE T sc fb e) e o = true → PO X o (tO C (fun ρ M => if isMiss e then .ok none M else asI (evE Γ e ρ M)) Wn) := fun e o ih ho => by
        cases o with
        | none =>
          have hm : isMiss e = true := ho
          have e1 : (fun (ρ : PEnv) M => if isMiss e then (Res.ok none M : Res (Option Int)) else asI (evE Γ e ρ M)) = fun _ M => .ok none M := by funext ρ M; rw [if_pos hm]
          rw [e1]; exact po_noneP
        | some y =>
          have hy : mE T sc fb e y = true := ho
          have hm : isMiss e = false := by
            cases e <;> first | rfl | (unfold mE at hy; cases hy)
          have e1 : (fun (ρ : PEnv) M => if isMiss e then (Res.ok none M : Res (Option Int)) else asI (evE Γ e ρ M)) = fun ρ M => asI (evE Γ e ρ M) := by funext ρ M; rw [if_neg (by rw [hm]; decide)]
          rw [e1]; exact po_someP (ih y hy)
      exact .val (pe_slcP K.hK (snd_E a _ K h.1.1).pe (part lo l (fun y q => (snd_E lo y K q).pe) h.1.2) (part hi hh (fun y q => (snd_E hi y K q).pe) h.2)) (fun _ => rfl) rfl
    · cases h
  | .stp a st, X, sc, fb, x, K, h => by
    unfold mE at h
    split at h
    · simp only [Bool.and_eq_true] at h
      exact .val (pe_stpP K.hK (snd_E a _ K h.1).pe (snd_E st _ K h.2).pe) (fun _ => rfl) rfl
    · cases h
  | .rev a, X, sc, fb, x, K, h => by
    unfold mE at h
    split at h
    · simp only [Bool.and_eq_true] at h
      cases of_decide_eq_true h.1
      exact .val (pe_revP K.hK (snd_E a _ K h.2).pe) (fun _ => rfl) rfl
    · cases h
  | .call f es, X, sc, fb, x, K, h => by
    unfold mE at h
    split at h
    · rename_i n p l pos
      simp only [Bool.and_eq_true] at h
      obtain ⟨⟨⟨⟨⟨⟨h1, h2⟩, h3⟩, h4⟩, h5⟩, h6⟩, h7⟩ := h
      cases of_decide_eq_true h1
      cases l with
      | nil => cases h5
      | cons e l => exact .val (pe_callP K (of_decide_eq_true h4) h2 h3 h6 (snd_Es es _ K h7)) (fun _ => rfl) rfl
    · cases h
  | .callK f np es ks vs perm, X, sc, fb, x, K, h => by
    unfold mE at h
    split at h
    · rename_i n p l kws pos
      simp only [Bool.and_eq_true] at h
      obtain ⟨⟨⟨⟨⟨⟨⟨⟨⟨⟨h1, h2⟩, h3⟩, h4⟩, h5⟩, h6⟩, h7⟩, h8⟩, h9⟩, h10⟩, h11⟩ := h
      cases of_decide_eq_true h1
      exact .val (pe_callKP K (of_decide_eq_true h4) h2 h3 h8 (of_decide_eq_true h6) (of_decide_eq_true h7) (snd_Es es _ K h9) (snd_Ks vs kws K h11 h10) fun hl => by subst hl; exact evEs_nil h9) (fun _ => rfl) rfl
    · cases h
  | .blt f es, X, sc, fb, x, K, h => by
    unfold mE at h
    split at h
    · rename_i n p l pos
      simp only [Bool.and_eq_true] at h
      obtain ⟨⟨⟨⟨⟨⟨h1, h2⟩, h3⟩, h4⟩, h5⟩, h6⟩, h7⟩ := h
      cases of_decide_eq_true h1
      obtain ⟨r, q1, q2⟩ := blt_rule h2 K.hK K.hc K.hg K.hu (glo_of K h3) (K.blt _ (of_decide_eq_true h4))
      cases l with
      | nil => cases h5
      | cons e l => exact .val (pe_tCB (t := tA C (evEs Γ es) Wn) (fun t ht => q1 e l t p pos (all_cons h6).1 (all_cons h6).2 ht) q2 (snd_Es es _ K h7)) (fun _ => rfl) rfl
    · cases h
  | .lof m es, X, sc, fb, x, K, h => by
    unfold mE at h
    split at h
    · split at h
      · simp only [Bool.and_eq_true, Bool.not_eq_true'] at h
        obtain ⟨⟨⟨⟨h1, h2⟩, h3⟩, h4⟩, h5⟩ := h
        cases of_decide_eq_true h1
        exact .val (pe_lofP K.hK (glo_of K h2) (K.blt _ (of_decide_eq_true h3)) h4 (snd_Es es _ K h5)) (fun _ => rfl) rfl
      · cases h
    · cases h
  | .lr m a b, X, sc, fb, x, K, h => by
    unfold mE at h
    split at h
    · simp only [Bool.and_eq_true] at h
      obtain ⟨⟨⟨⟨⟨⟨h1, h2⟩, h3⟩, h4⟩, h5⟩, h6⟩, h7⟩ := h
      cases of_decide_eq_true h1
      cases of_decide_eq_true h2
      split at h7
      · simp only [Bool.and_eq_true, Bool.not_eq_true'] at h7
        have e : a = .int 0 := by
          have := h7.1.1
          cases a <;> first | (cases this; done) | (cases of_decide_eq_true this; rfl)
        subst e
        exact .val (pe_lr1P K.hc (glo_of K h3) (K.blt _ (of_decide_eq_true h5)) (glo_of K h4) (K.blt _ (of_decide_eq_true h6)) h7.1.2 (snd_E b _ K h7.2).pe) (fun _ => rfl) rfl
      · simp only [Bool.and_eq_true, Bool.not_eq_true'] at h7
        exact .val (pe_lr2P K.hc (glo_of K h3) (K.blt _ (of_decide_eq_true h5)) (glo_of K h4) (K.blt _ (of_decide_eq_true h6)) h7.1.1.1 h7.1.1.2 (snd_E a _ K h7.1.2).pe (snd_E b _ K h7.2).pe) (fun _ => rfl) rfl
      · cases h7
    · cases h
  | .addM a b, X, sc, fb, x, K, h => by
    unfold mE at h
    split at h
    · simp only [Bool.and_eq_true] at h
      exact .val (pe_two (fun _ _ ha hb => pe_op op_addP ha hb) (by rw [← K.hK]; exact ok_addM) (snd_E a _ K h.1).pe (snd_E b _ K h.2).pe) (fun _ => rfl) rfl
    · cases h
  | .up a, X, sc, fb, x, K, h => by
    unfold mE at h
    split at h
    · simp only [Bool.and_eq_true] at h
      obtain ⟨⟨⟨h1, h2⟩, h3⟩, h4⟩ := h
      cases of_decide_eq_true h1
      exact .val (pe_upP h2 h3 (snd_E a _ K h4).pe) (fun _ => rfl) rfl
    · cases h
  | .lz a b, X, sc, fb, x, K, h => by
    unfold mE at h
    split at h
    · simp only [Bool.and_eq_true, Bool.not_eq_true'] at h
      obtain ⟨⟨⟨⟨⟨⟨⟨⟨⟨h1, h2⟩, h3⟩, h4⟩, h5⟩, h6⟩, h7⟩, h8⟩, h9⟩, h10⟩ := h
      cases of_decide_eq_true h1
      cases of_decide_eq_true h2
      exact .val (pe_lzP K.hK K.hc (glo_of K h3) (K.blt _ (of_decide_eq_true h5)) (glo_of K h4) (K.blt _ (of_decide_eq_true h6)) h7 h8 (snd_E a _ K h9).pe (snd_E b _ K h10).pe) (fun _ => rfl) rfl
    · cases h
  | .dsp m es, X, sc, fb, x, K, h => by
    unfold mE at h
    split at h
    · rename_i ks vs pos
      simp only [Bool.and_eq_true] at h
      obtain ⟨⟨h1, h2⟩, h3⟩ := h
      obtain ⟨p1, p2, p3⟩ := snd_Ps es (pos := pos) ks vs K h3
      by_cases h0 : ks = []
      · subst h0
        cases vs with
        | cons _ _ => cases p3
        | nil =>
          have e : es = .nil := by
            cases es with
            | nil => rfl
            | cons k r => cases r with
              | nil => cases h2
              | cons v r => unfold mPs at h3; cases h3
              | star _ _ => cases h2
            | star _ _ => cases h2
          subst e
          exact .val pe_dspN (fun _ => rfl) rfl
      · exact .val (pe_dspP h2 p1 p2 p3 h0 (of_decide_eq_true h1)) (fun _ => rfl) rfl
    · cases h
  | .dof m es, X, sc, fb, x, K, h => by
    unfold mE at h
    split at h
    · split at h
      · simp only [Bool.and_eq_true, Bool.not_eq_true'] at h
        obtain ⟨⟨⟨⟨h1, h2⟩, h3⟩, h4⟩, h5⟩ := h
        cases of_decide_eq_true h1
        exact .val (pe_dofP K.hK K.hc (glo_of K h2) (K.blt _ (of_decide_eq_true h3)) h4 (snd_Es es _ K h5)) (fun _ => rfl) rfl
      · cases h
    · cases h
  | .isi a ts, X, sc, fb, x, K, h => by
    unfold mE at h
    split at h
    · split at h
      · simp only [Bool.and_eq_true, Bool.not_eq_true'] at h
        obtain ⟨⟨⟨⟨⟨⟨⟨⟨h1, h2⟩, h3⟩, h4⟩, h5⟩, h6⟩, h7⟩, h8⟩, h9⟩ := h
        cases of_decide_eq_true h1
        cases of_decide_eq_true h2
        exact .val (pe_isiP h3 K.hK (glo_of K h4) (K.blt _ (of_decide_eq_true h6)) (glo_of K h5) (K.blt _ (of_decide_eq_true h7)) h8 (snd_E a _ K h9).pe) (fun _ => rfl) rfl
      · cases h
    · cases h
  | .mth ty m o es, X, sc, fb, x, K, h => by
    unfold mE at h
    split at h
    · split at h
      · simp only [Bool.and_eq_true] at h
        obtain ⟨⟨⟨⟨⟨⟨⟨h1, h2⟩, h3⟩, h4⟩, h5⟩, h6⟩, h7⟩, h8⟩ := h
        cases of_decide_eq_true h1
        exact .val (mth_rule h2 K.hK K.hu h3 h4 (of_decide_eq_true h5) h6 (snd_E o _ K h7).pe (snd_Es es _ K h8)) (fun _ => rfl) rfl
      · cases h
    · cases h
  | .cpr k own tg it c r, X, sc, fb, x, K, h => by
    unfold mE at h
    split at h
    · rename_i elt gs s p hcomp
      split at h
      · rename_i t i ifs rest
        simp only [Bool.and_eq_true] at h
        obtain ⟨⟨⟨⟨⟨⟨⟨h1, h2⟩, h3⟩, h4⟩, h5⟩, h6⟩, h7⟩, h8⟩ := h
        cases comp_of hcomp
        obtain ⟨pi, hs⟩ := snd_I it t i K h5
        have bo : BlkOk X.N X.env.scope s (ownOf T.N own) := by rw [K.hN, K.hsc]; exact blkOk_by h2
        have main := pe_cmpP (k := k) (elt := elt) (pos := p) (W := Wn) (us := tgN tg) (vs := clN r) (b := bindG tg) (fc := fun ρ M => asB (evE Γ c ρ M)) (fr := evC Γ k r) K.hP K.hw K.hc K.nd pi bo (next_of h1) (by rw [own_of]; exact sub_of h3) (by rw [own_of]; exact sub_of h4)
          (fun s' H L cl fp D => ⟨snd_Tg (K.blk s' H L cl fp s) tg t (fun _ q => q) h6, if_of (fun y q => snd_E c y (K.blk s' H L cl fp s) q) h7, snd_Cl r (K.blk s' H L cl fp s) k elt (⟨t, i, ifs, 0⟩ :: rest) rest s p D 1 rfl rfl h8⟩) (fun x => hs X.env x)
        rw [own_of] at main
        refine .val (x := cmp k elt (⟨t, i, ifs, 0⟩ :: rest) s p) main (fun _ => ?_) ?_
        · cases k <;> rfl
        · cases k <;> rfl
      · cases h
    · cases h
theorem snd_Es : ∀ (es : Es) {X : Cx} {sc : Scope} {fb : Str → Bool} (l : List Expr), Ctx X C Γ T sc fb → mEs T sc fb es l = true → PA X l (tA C (evEs Γ es) Wn)
  | .nil, X, sc, fb, l, K, h => by
    unfold mEs at h
    cases l with
    | nil => exact pa_nilP
    | cons _ _ => cases h
  | .cons e es, X, sc, fb, l, K, h => by
    unfold mEs at h
    split at h
    · simp only [Bool.and_eq_true, Bool.not_eq_true'] at h
      exact pa_consP h.1.1 (snd_E e _ K h.1.2).pe (snd_Es es _ K h.2)
    · cases h
  | .star e es, X, sc, fb, l, K, h => by
    unfold mEs at h
    split at h
    · split at h
      · simp only [Bool.and_eq_true] at h
        exact pa_starP K.hK (snd_E e _ K h.1).pe (snd_Es es _ K h.2)
      · cases h
    · cases h
theorem snd_Ps : ∀ (es : Es) {X : Cx} {sc : Scope} {fb : Str → Bool} {pos : Pos} (ks : List (Option Expr)) (vs : List Expr), Ctx X C Γ T sc fb → mPs T sc fb es ks vs = true → PPs X pos ks vs (trsOf C Γ es) ∧ ks.all (·.isSome) = true ∧ ks.length = vs.length
  | .nil, X, sc, fb, pos, ks, vs, K, h => by
    unfold mPs at h
    cases ks with
    | cons _ _ => cases h
    | nil => cases vs with
      | cons _ _ => cases h
      | nil => exact ⟨pps_nil, rfl, rfl⟩
  | .cons k (.cons v r), X, sc, fb, pos, ks, vs, K, h => by
    unfold mPs at h
    split at h
    · simp only [Bool.and_eq_true] at h
      obtain ⟨p1, p2, p3⟩ := snd_Ps r (pos := pos) _ _ K h.2
      exact ⟨pps_cons (snd_E k _ K h.1.1).pe (snd_E v _ K h.1.2).pe p1, by rw [List.all_cons, p2]; rfl, by rw [List.length_cons, List.length_cons, p3]⟩
    · cases h
  | .cons _ .nil, X, sc, fb, pos, ks, vs, K, h => by unfold mPs at h; cases h
  | .cons _ (.star _ _), X, sc, fb, pos, ks, vs, K, h => by unfold mPs at h; cases h
  | .star _ _, X, sc, fb, pos, ks, vs, K, h => by unfold mPs at h; cases h
theorem snd_Ks : ∀ (es : Es) {X : Cx} {sc : Scope} {fb : Str → Bool} (l : List Keyword), Ctx X C Γ T sc fb → (l.map (·.value)).all (fun e => !isStar e) = true → mEs T sc fb es (l.map (·.value)) = true → PK X l (tA C (evEs Γ es) Wn)
  | .nil, X, sc, fb, l, K, hst, h => by
    unfold mEs at h
    cases l with
    | nil => exact pk_nilP
    | cons _ _ => cases h
  | .cons e es, X, sc, fb, l, K, hst, h => by
    cases l with
    | nil => unfold mEs at h; cases h
    | cons kw l =>
      obtain ⟨nm, v, q⟩ := kw
      unfold mEs at h
      simp only [List.map_cons, Bool.and_eq_true, Bool.not_eq_true'] at h
      exact pk_consP (snd_E e _ K h.1.2).pe (snd_Ks es _ K (all_cons hst).2 h.2)
  | .star e es, X, sc, fb, l, K, hst, h => by
    cases l with
    | nil => unfold mEs at h; cases h
    | cons kw l =>
      obtain ⟨nm, v, q⟩ := kw
      unfold mEs at h
      simp only [List.map_cons] at h
      have h1 := (all_cons hst).1
      split at h
      · cases h1
      · cases h
theorem snd_I : ∀ (it : It) {X : Cx} {sc : Scope} {fb : Str → Bool} (t i : Expr), Ctx X C Γ T sc fb → mI T sc fb it t i = true → PI X t i (tI C (evI Γ it) Wn) ∧ ∀ env x, foldedSetIterable i env x = pure x
  | .seq e, X, sc, fb, t, i, K, h => by
    unfold mI at h
    simp only [Bool.and_eq_true, Bool.not_eq_true'] at h
    exact ⟨pi_seqP K.hK (snd_E e _ K h.2).pe, fold_plain h.1⟩
  | .fn f n es, X, sc, fb, t, i, K, h => by
    unfold mI at h
    split at h
    · rename_i y p l pos
      simp only [Bool.and_eq_true, Bool.or_eq_true] at h
      obtain ⟨⟨⟨⟨⟨⟨h1, h2⟩, h3⟩, h4⟩, h5⟩, h6⟩, h7⟩ := h
      cases of_decide_eq_true h1
      have hl := of_decide_eq_true h6
      have hg := glo_of K h2
      have hm := K.blt _ (of_decide_eq_true h3)
      have pa := snd_Es es _ K h5
      refine ⟨?_, fun _ _ => rfl⟩
      exact it_fn K.hK hg hm h4 hl (by simpa [Bool.and_eq_true] using h7) pa
    · cases h
theorem snd_Cl : ∀ (r : Cl) {X : Cx} {sc : Scope} {fb : Str → Bool}, Ctx X C Γ T sc fb → ∀ (k : CK) (elt : Expr) (gs rest : List Comprehension) (s : Scope) (pos : Pos) (D : Addr) (d : Nat), gs.drop d = rest → X.xe = Nope → mCl T sc fb r elt rest = true → ClOk X C k elt gs s pos D d (clN r) (evC Γ k r)
  | .elt e, X, sc, fb, K, k, elt, gs, rest, s, pos, D, d, hd, hx, h => by
    unfold mCl at h
    simp only [Bool.and_eq_true] at h
    cases rest with
    | nil => exact cl_elt hx K.hP K.hw (List.getElem?_eq_none (List.drop_eq_nil_iff.mp hd)) (snd_E e _ K h.2).pe
    | cons _ _ => cases h.1
  | .for' tg it c r, X, sc, fb, K, k, elt, gs, rest, s, pos, D, d, hd, hx, h => by
    unfold mCl at h
    split at h
    · rename_i t i ifs rest
      simp only [Bool.and_eq_true] at h
      obtain ⟨⟨⟨⟨h1, h2⟩, h3⟩, h4⟩, h5⟩ := h
      have hdd : gs.drop (d + 1) = rest := by rw [← List.tail_drop, hd]; rfl
      have g0 : gs[d]? = some ⟨t, i, ifs, 0⟩ := by rw [← List.head?_drop, hd]; rfl
      have g1 : gs[d + 1]? = none ∨ ∃ tg' iter' ifs', gs[d + 1]? = some ⟨tg', iter', ifs', 0⟩ := by
        have e : gs[d + 1]? = rest[0]? := by rw [← hdd, List.getElem?_drop, Nat.add_zero]
        rw [e]; exact next_of h1
      obtain ⟨pi, hs⟩ := snd_I it t i K h2
      exact cl_for hx K.hc g0 g1 pi (snd_Tg K tg t (fun _ q => q) h3) (if_of (fun y q => snd_E c y K q) h4) (snd_Cl r K k elt gs rest s pos D (d + 1) hdd hx h5)
        (fun j hj => List.mem_append_left _ hj) (fun j hj => List.mem_append_right _ hj) (fun x => hs X.env x)
    · cases h
end
end
end Sk

/-! SkT: the checker for statements, and that it is right. -/
namespace Sk
open PySem PySem.Spec PyProof.Rows PySem.W L2

def nameB (T : Ck) (sc : Scope) (fb : Str → Bool) (i : Nat) (n : Str) : Bool := ixB T.N i n && (locB sc n || (celB sc n && fb n))
def swB (k : CK) (n : Str) (py : Pos) (x : Expr) : Bool := match compOf k x with
  | some (_, _, s, p) => (py.line == p.line) && !(s.names.any fun (m, q) => m == n && (q == .local || q == .cell))
  | none => false
def parB (vs : List Expr) : Bool := vs.all (fun e => !isStar e) && !vs.all (foldedForSure 8) && !vs.all (constantsAlone 8)
def swE (e : E) (n : Str) (py : Pos) (v : Expr) : Bool := match e with
  | .cpr k _ _ _ _ _ => swB k n py v
  | _ => false
/-- a pair of names, one of them captured -/
def cellT (sc : Scope) : Expr → Bool
  | .Tuple ts _ _ => ts.any fun t => match t with
    | .Name n _ => celB sc n
    | _ => false
  | _ => false
mutual
def mS (T : Ck) (sc : Scope) (fb : Str → Bool) : Sm → Stmt → Bool
  | .asg i e, st => match st with
    | .Assign ts v _ => (match ts with
      | [.Name n py] => nameB T sc fb i n && mE T sc fb e v && (!isComp v || celB sc n || (locB sc n && swE e n py v))
      | _ => false)
    | _ => false
  | .asgT t e, st => match st with
    | .Assign ts v _ => (match ts with
      | [tg] => mTg T sc fb (.tp t) tg && !isStar tg && !isComp v && (!isTupE v || cellT sc tg) && mE T sc fb e v
      | _ => false)
    | _ => false
  | .asgS i j e, st => match st with
    | .Assign ts v _ => (match ts with
      | [.Tuple [.Name x _, .Starred (.Name y _) _] _ _] => ixB T.N i x && ixB T.N j y && locB sc x && locB sc y && fb x && fb y && !isComp v && !isTupE v && mE T sc fb e v
      | _ => false)
    | _ => false
  | .par is es, st => match st with
    | .Assign ts v _ => (match ts, v with
      | [.Tuple ns _ _], .Tuple l _ _ => parB l && mEs T sc fb es l && (match is, ns, l with
        | [i, j], [.Name x px, .Name y py], [_, _] => ixB T.N i x && ixB T.N j y && locB sc x && locB sc y && (py.line == px.line) && !(x == y)
        | [i, j, k], [.Name x px, .Name y py, .Name z pz], [_, _, _] => ixB T.N i x && ixB T.N j y && ixB T.N k z && locB sc x && locB sc y && locB sc z && (py.line == px.line) && (pz.line == px.line) && decide (([x, y, z] : List Str).eraseDups.length = 3) && decide (i ≠ j) && decide (i ≠ k) && decide (j ≠ k)
        | _, _, _ => false)
      | _, _ => false)
    | _ => false
  | .sub o i v, st => match st with
    | .Assign ts x _ => (match ts with
      | [.Subscript y z _] => !isSlice z && !isComp x && mE T sc fb o y && mE T sc fb i z && mE T sc fb v x
      | _ => false)
    | _ => false
  | .exp e, st => match st with
    | .Expr x _ => !isComp x && mE T sc fb e x
    | _ => false
  | .ret e, st => match st with
    | .Return (some x) _ => mE T sc fb e x
    | _ => false
  | .retN, st => match st with
    | .Return none _ => true
    | _ => false
  | .ifs c a b, st => match st with
    | .If x l m _ => mE T sc fb c x && !isIf x && mSs T sc fb a l && mSs T sc fb b m
    | _ => false
  | .for' tg it b, st => match st with
    | .For t i l m _ => m.isEmpty && mI T sc fb it t i && mTg T sc fb tg t && mSs T sc fb b l
    | _ => false
  | .whl c b, st => match st with
    | .While x l m _ => m.isEmpty && mE T sc fb c x && !isIf x && mSs T sc fb b l
    | _ => false
  | .brk, st => match st with
    | .Break _ => true
    | _ => false
  | .cnt, st => match st with
    | .Continue _ => true
    | _ => false
  | .pas, st => match st with
    | .Pass _ => true
    | .Expr (.Constant (.str _) _ _) _ => true
    | _ => false
  | .frz _, _ => false
def mSs (T : Ck) (sc : Scope) (fb : Str → Bool) : Sms → List Stmt → Bool
  | .nil, l => l.isEmpty
  | .cons s r, l => match s with
    | .frz _ => mSs T sc fb r l
    | s => match l with
      | st :: l => mS T sc fb s st && mSs T sc fb r l
      | [] => false
end

section
variable {X : Cx} {C : Cfg} {Γ : Sig} {T : Ck} {sc : Scope} {fb : Str → Bool}
theorem name_of {i : Nat} {n : Str} (K : Ctx X C Γ T sc fb) (h : nameB T sc fb i n = true) : X.N[i]? = some n ∧ Loc X.env.scope n ∧ (X.fn n = true ∨ X.env.scope.names.lookup n = some .local) := by
  unfold nameB at h
  simp only [Bool.and_eq_true, Bool.or_eq_true] at h
  refine ⟨ix_of K h.1, ?_, ?_⟩ <;> rw [K.hsc] <;> rcases h.2 with q | q
  · exact .inl (loc_of q)
  · exact .inr (cel_of q.1)
  · exact .inr (loc_of q)
  · exact .inl (K.hfn n q.2)
theorem sw_cell {k : CK} {elt : Expr} {gs : List Comprehension} {scope : Scope} {pos py : Pos} {y : Str} {l : Nat} {env : Env} (hy : env.scope.names.lookup y = some .cell) : swapsWith (cmp k elt gs scope pos) (some (.Name y py)) l env = pure false := by
  have ky : env.kindOf y = some .cell := hy
  cases k <;> (unfold cmp swapsWith; simp only [ky]; cases env.blockKind <;> rfl)
theorem sto_cell {sc : Scope} {tg v : Expr} {env : Env} (hsc : env.scope = sc) (h : cellT sc tg = true) : swappedStores [tg] v env = pure none := by
  cases tg with
  | Tuple ts k p =>
    cases v with
    | Tuple vs k2 p2 =>
      have h : (ts.any fun t => match t with
        | .Name n _ => celB sc n
        | _ => false) = true := h
      rw [List.any_eq_true] at h
      obtain ⟨t, ht, hc⟩ := h
      cases t with
      | Name n q =>
        have hk : env.kindOf n = some .cell := by show env.scope.names.lookup n = _; rw [hsc]; exact cel_of hc
        unfold swappedStores
        dsimp only
        split
        · rfl
        · split
          · rfl
          · rw [if_pos]
            simp only [Bool.or_eq_true, bne_iff_ne, ne_eq]
            refine .inl (Nat.ne_of_lt ?_)
            rw [List.length_filterMap_lt_length_iff_exists]
            exact ⟨_, ht, by simp only [hk]; rfl⟩
      | _ => cases hc
    | _ => rfl
  | _ => cases h
theorem comp_is {T : Ck} {e : E} {v : Expr} (h : mE T sc fb e v = true) (hc : isComp v = true) : ∃ k own tg it c r, e = .cpr k own tg it c r := by
  cases e with
  | cpr k own tg it c r => exact ⟨k, own, tg, it, c, r, rfl⟩
  | _ => cases v <;> first | (cases hc; done) | (unfold mE at h; cases h)
theorem snd_asg {i : Nat} {e : E} {n : Str} {py pos : Pos} {v : Expr} (K : Ctx X C Γ T sc fb) (hk : X.env.scope.kind = .function) (h1 : nameB T sc fb i n = true) (h2 : mE T sc fb e v = true) (h3 : (!isComp v || celB sc n || (locB sc n && swE e n py v)) = true) : PS X (.Assign [.Name n py] v pos) (tS C (evS Γ (.asg i e)) Wn) := by
  obtain ⟨n1, n2, n3⟩ := name_of K h1
  have p := (snd_E e v K h2).pe
  cases hc : isComp v with
  | false => exact ps_asgP K.nd n1 n2 n3 hc p
  | true =>
    obtain ⟨k, own, tg, it, c, r, rfl⟩ := comp_is h2 hc
    rw [hc] at h3
    simp only [Bool.not_true, Bool.false_or, Bool.or_eq_true, Bool.and_eq_true] at h3
    have h2' := h2
    unfold mE at h2
    split at h2
    · rename_i elt gs s p0 hcomp
      cases comp_of hcomp
      split at h2
      · rename_i t i0 ifs rest
        rcases h3 with h3 | ⟨h3, h4⟩
        · have hcell : X.env.scope.names.lookup n = some .cell := by rw [K.hsc]; exact cel_of h3
          exact PS.weak (ps_set K.nd n1 n2 p (sw_cell hcell) n3) fun D σ H ⟨G, ρ, M, S, ER, F⟩ => ⟨G, ρ, M, S, ER, (SrvS.sb ER F).mono fun x H1 ⟨G1, v, M1, s1, S1, r1, F1⟩ => F1.nx_now S1 ((ER.on s1.toStq).set r1)⟩
        · simp only [Bool.and_eq_true] at h2
          obtain ⟨⟨⟨⟨⟨⟨⟨q1, q2⟩, q3⟩, q4⟩, q5⟩, q6⟩, q7⟩, q8⟩ := h2
          obtain ⟨pi, hs⟩ := snd_I it t i0 K q5
          have bo : BlkOk X.N X.env.scope s (ownOf T.N own) := by rw [K.hN, K.hsc]; exact blkOk_by q2
          have h4 : swB k n py (cmp k elt (⟨t, i0, ifs, 0⟩ :: rest) s p0) = true := h4
          unfold swB at h4
          rw [hcomp] at h4
          simp only [Bool.and_eq_true, Bool.not_eq_true'] at h4
          have main := ps_cmpP (k := k) (elt := elt) (pos := p0) (spos := pos) (py := py) (W := Wn) (us := tgN tg) (vs := clN r) (b := bindG tg) (fc := fun ρ M => asB (evE Γ c ρ M)) (fr := evC Γ k r) K.hP K.hw K.hc K.nd n1 (by rw [K.hsc]; exact loc_of h3) hk h4.1 h4.2 pi bo (next_of q1) (by rw [own_of]; exact sub_of q3) (by rw [own_of]; exact sub_of q4)
            (fun s' H L cl fp D => ⟨snd_Tg (K.blk s' H L cl fp s) tg t (fun _ q => q) q6, if_of (fun y q => snd_E c y (K.blk s' H L cl fp s) q) q7, snd_Cl r (K.blk s' H L cl fp s) k elt (⟨t, i0, ifs, 0⟩ :: rest) rest s p0 D 1 rfl rfl q8⟩) (fun x => hs X.env x)
          rw [own_of] at main
          exact main
      · cases h2
    · cases h2
mutual
theorem snd_S (K : Ctx X C Γ T sc fb) (hk : X.env.scope.kind = .function) (hx : X.xe = Nope) : ∀ (s : Sm) (st : Stmt), mS T sc fb s st = true → PS X st (tS C (evS Γ s) Wn)
  | .asg i e, st, h => by
    unfold mS at h
    split at h
    · split at h
      · simp only [Bool.and_eq_true] at h
        exact snd_asg K hk h.1.1 h.1.2 h.2
      · cases h
    · cases h
  | .asgT t e, st, h => by
    unfold mS at h
    split at h
    · split at h
      · simp only [Bool.and_eq_true, Bool.or_eq_true, Bool.not_eq_true'] at h
        obtain ⟨⟨⟨⟨h1, h2⟩, h3⟩, h4⟩, h5⟩ := h
        exact ps_asgTP (snd_Tg K (.tp t) _ (fun _ q => q) h1) h2 h3 (h4.elim (fun q => sto_plain q) fun q => sto_cell K.hsc q) (snd_E e _ K h5).pe
      · cases h
    · cases h
  | .asgS i j e, st, h => by
    unfold mS at h
    split at h
    · split at h
      · simp only [Bool.and_eq_true, Bool.not_eq_true'] at h
        obtain ⟨⟨⟨⟨⟨⟨⟨⟨q1, q2⟩, q3⟩, q4⟩, q5⟩, q6⟩, q7⟩, q8⟩, q9⟩ := h
        exact ps_asgSP K.hK (pg_star1 K.hc (pg_name K.nd (ix_of K q1) (by rw [K.hsc]; exact .inl (loc_of q3)) (.inl (K.hfn _ q5))) (pg_name K.nd (ix_of K q2) (by rw [K.hsc]; exact .inl (loc_of q4)) (.inl (K.hfn _ q6)))) rfl q7 (sto_plain q8) (snd_E e _ K q9).pe
      · cases h
    · cases h
  | .par is es, st, h => by
    unfold mS at h
    split at h
    · split at h
      · simp only [Bool.and_eq_true] at h
        obtain ⟨⟨h1, h2⟩, h3⟩ := h
        unfold parB at h1
        simp only [Bool.and_eq_true, Bool.not_eq_true'] at h1
        have pa := snd_Es es _ K h2
        split at h3
        · simp only [Bool.and_eq_true, Bool.not_eq_true'] at h3
          obtain ⟨⟨⟨⟨⟨q1, q2⟩, q3⟩, q4⟩, q5⟩, q6⟩ := h3
          exact ps_par2P K.hc K.nd (ix_of K q1) (ix_of K q2) hk (by rw [K.hsc]; exact loc_of q3) (by rw [K.hsc]; exact loc_of q4) q5 q6 h1.1.1 h1.1.2 h1.2 pa
        · simp only [Bool.and_eq_true, decide_eq_true_eq] at h3
          obtain ⟨⟨⟨⟨⟨⟨⟨⟨⟨⟨⟨q1, q2⟩, q3⟩, q4⟩, q5⟩, q6⟩, q7⟩, q8⟩, q9⟩, q10⟩, q11⟩, q12⟩ := h3
          exact ps_par3P K.hc K.nd (ix_of K q1) (ix_of K q2) (ix_of K q3) hk q10 q11 q12 (by rw [K.hsc]; exact loc_of q4) (by rw [K.hsc]; exact loc_of q5) (by rw [K.hsc]; exact loc_of q6) q7 q8 q9 h1.1.1 h1.1.2 h1.2 pa
        · cases h3
      · cases h
    · cases h
  | .sub o i v, st, h => by
    unfold mS at h
    split at h
    · split at h
      · simp only [Bool.and_eq_true, Bool.not_eq_true'] at h
        obtain ⟨⟨⟨⟨h1, h2⟩, h3⟩, h4⟩, h5⟩ := h
        exact ps_subP (Nat.lt_of_le_of_lt (Nat.add_le_add_left (by decide) _) K.hu) h1 h2 (snd_E o _ K h3).pe (snd_E i _ K h4).pe (snd_E v _ K h5).pe
      · cases h
    · cases h
  | .exp e, st, h => by
    unfold mS at h
    split at h
    · simp only [Bool.and_eq_true, Bool.not_eq_true'] at h
      exact ps_expP h.1 (snd_E e _ K h.2).pe
    · cases h
  | .ret e, st, h => by
    unfold mS at h
    split at h
    · exact ps_retP (snd_E e _ K h).pe
    · cases h
  | .retN, st, h => by
    unfold mS at h
    split at h
    · exact ps_retNP
    · cases h
  | .ifs c a b, st, h => by
    unfold mS at h
    split at h
    · simp only [Bool.and_eq_true, Bool.not_eq_true'] at h
      exact ps_ifP ((snd_E c _ K h.1.1.1).pt h.1.1.2) (snd_Ss K hk hx a _ h.1.2) (snd_Ss K hk hx b _ h.2)
    · cases h
  | .for' tg it b, st, h => by
    unfold mS at h
    split at h
    · rename_i t i l m pos
      simp only [Bool.and_eq_true] at h
      cases m with
      | nil =>
        obtain ⟨pi, hs⟩ := snd_I it t i K h.1.1.2
        exact ps_forP (by rw [hx]; exact PassesOwn.never) K.hc pi (snd_Tg K tg t (vs := tgN tg) (fun _ q => q) h.1.2) (snd_Ss K hk hx b _ h.2) (fun x => hs X.env x)
      | cons _ _ => cases h.1.1.1
    · cases h
  | .whl c b, st, h => by
    unfold mS at h
    split at h
    · rename_i x l m pos
      simp only [Bool.and_eq_true, Bool.not_eq_true'] at h
      cases m with
      | nil => exact ps_whlP (n := fuel) (by rw [hx]; exact PassesOwn.never) ((snd_E c _ K h.1.1.2).pt h.1.2) (snd_Ss K hk hx b _ h.2)
      | cons _ _ => cases h.1.1.1
    · cases h
  | .brk, st, h => by
    unfold mS at h
    split at h
    · exact ps_brkP
    · cases h
  | .cnt, st, h => by
    unfold mS at h
    split at h
    · exact ps_cntP
    · cases h
  | .pas, st, h => by
    unfold mS at h
    split at h
    · exact ps_pasP
    · exact ps_docP
    · cases h
  | .frz _, st, h => by unfold mS at h; cases h
theorem snd_Ss (K : Ctx X C Γ T sc fb) (hk : X.env.scope.kind = .function) (hx : X.xe = Nope) : ∀ (s : Sms) (l : List Stmt), mSs T sc fb s l = true → PSs X l (tS C (evSs Γ s) Wn)
  | .nil, l, h => by
    unfold mSs at h
    cases l with
    | nil => exact pss_nilP
    | cons _ _ => cases h
  | .cons s r, l, h => by
    unfold mSs at h
    split at h
    · exact pss_frz (snd_Ss K hk hx r l h)
    · split at h
      · simp only [Bool.and_eq_true] at h
        exact pss_consP (snd_S K hk hx s _ h.1) (snd_Ss K hk hx r _ h.2)
      · cases h
end
end
end Sk

/-! SkU: defs, and the law's end. -/
namespace Sk
open PySem PySem.Spec PyProof.Rows PySem.W L2

structure Lib (P : Program) (w : World) (K : PySem.W.Frag) (mg : Str → Option Value) (base : Heap) (C : Cfg) (Γ : Sig) (fns : List Str) (kws : List (Str × Nat × List Str × List Nat)) (blts glbs : List Str) (k : Nat) : Prop where
  blt : ∀ b ∈ blts, mg b = none
  con : ∀ g ∈ glbs, ∃ (p : PV) (v : V) (u : Value), Γ.con g = some p ∧ mg g = some u ∧ RelV v u ∧ ∀ G H, Rep C G H p v
  fns : ∀ f ∈ fns, ∃ (F : List PV → Sto → Res PV) (fa : Addr) (fd : FuncData) (ps : List Str), Γ.fn f = some F ∧ FnG P w K mg base CX0 k fa fd ps (spOf C F) ∧ mg f = some (.ref fa) ∧ PySem.W.keepIn K (.ref fa) = true ∧ Binds K fd ps [] ∧
    ∀ np ks perm, (f, np, ks, perm) ∈ kws → KBinds K fd ps ks (kwG Value.none np ks perm) (kwG V.non np ks perm)
section
variable {P : Program} {w : World} {K : PySem.W.Frag} {mg : Str → Option Value} {base : Heap} {C : Cfg} {Γ : Sig} {fns blts glbs : List Str} {kws : List (Str × Nat × List Str × List Nat)} {k : Nat}
theorem Lib.mono {j : Nat} (L : Lib P w K mg base C Γ fns kws blts glbs j) (h : j ≤ k) : Lib P w K mg base C Γ fns kws blts glbs k :=
  ⟨L.blt, L.con, fun f hf => let ⟨F, fa, fd, ps, h1, h2, h3⟩ := L.fns f hf; ⟨F, fa, fd, ps, h1, h2.up h, h3⟩⟩
theorem Df.len {d : Df} {l : List PV} {M : Sto} {G : Gh} {H : Hp} {Q : VK} {Wx : XWish} (h : Srv C (Rep C) Wx G H (d.ev Γ l M) Q) : l.length = d.np ∧ Srv C (Rep C) Wx G H (match evSs Γ d.body (l.map some ++ List.replicate (d.nn - d.np) none) M with
    | .ok (.rt v) _ M1 => .ok v M1
    | .ok .nx _ M1 => .ok .non M1
    | .ex e _ M1 => .ex e M1
    | _ => .no) Q := by
  unfold Df.ev at h
  split at h
  · exact ⟨by assumption, h⟩
  · exact h.elim
theorem start_rep {G : Gh} {H : Hp} {l : List PV} {vs : List V} {n m : Nat} (r : RepL C G H l vs) (hn : n = m) : ERep C G H (l.map some ++ List.replicate n none) (vs.map some ++ List.replicate m none) := by
  subst hn
  refine ⟨by simp [r.length], fun i p e => ?_⟩
  by_cases hi : i < l.length
  · rw [List.getElem?_append_left (by simpa using hi), List.getElem?_map, Option.map_eq_some_iff] at e
    obtain ⟨q, h1, h2⟩ := e
    cases h2
    obtain ⟨x, k1, k2⟩ := r.get h1
    exact ⟨x, by rw [List.getElem?_append_left (by rw [List.length_map, ← r.length]; exact hi), List.getElem?_map, k1]; rfl, k2⟩
  · rw [List.getElem?_append_right (by simpa using hi)] at e
    rw [List.getElem?_replicate] at e
    split at e <;> cases e
theorem fn_ok (L : Lib P w K mg base C Γ fns kws blts glbs k) (hC : C.P = P ∧ C.w = w ∧ C.K = K) {x qual : Str} {st : Stmt} {f : Addr} {fd : FuncData} {N ps : List Str} {d : Df} (F : L2.Fun K x qual st f fd) (S : FnScope N ps (defScope st)) (hd : d.np = ps.length ∧ d.nn = N.length)
    (hm : mSs ⟨N, fns, kws, blts, glbs⟩ (defScope st) (fun _ => true) d.body (defBody st) = true) : FnG P w K mg base CX0 (k + 1) f fd ps (spOf C (d.ev Γ)) := by
  refine fnG_of F S (fun vs H Q E h => ?_) (fun cdv A outer s H vs Q E hr h => ?_)
  · obtain ⟨G, M, l, S1, r1, F1⟩ := h
    rw [← r1.length, (Df.len F1).1, hd.1]
  · obtain ⟨G, M, l, S1, r1, F1⟩ := h
    obtain ⟨hl, F1⟩ := Df.len F1
    have hu := hr.room.un
    have Kx : Ctx (cxOf CX0 P w K mg base N qual (defScope st) f cdv A outer s H E).nox C Γ ⟨N, fns, kws, blts, glbs⟩ (defScope st) (fun _ => true) :=
      ⟨hC.1, hC.2.1, hC.2.2, rfl, rfl, S.nd, rfl, fun _ _ => rfl, (by show (A.deeper _).units + 65 < cLine; omega), hr.gd, L.blt, L.con, fun g hg => by
        obtain ⟨F, fa, fd, ps, h1, h2, h3⟩ := L.fns g hg
        exact ⟨F, k, fa, fd, ps, h1, h2, hr, h3⟩⟩
    refine ⟨_, (snd_Ss Kx S.kind rfl d.body (defBody st) hm).nox, G, _, M, S1, start_rep (n := d.nn - d.np) r1 (by rw [hd.1, hd.2, ← r1.length, hl, hd.1]), ?_⟩
    revert F1
    generalize evSs Γ d.body (l.map some ++ List.replicate (d.nn - d.np) none) M = r
    intro F1
    match r, F1 with
    | .ok (.rt v) ρ M1, F1 => exact F1
    | .ok .nx ρ M1, F1 => exact fun G' H' σ' s S _ => F1 G' H' _ s S (Rep.non_iff.mpr rfl)
    | .ok .bk ρ M1, F1 => exact F1.elim
    | .ok .ct ρ M1, F1 => exact F1.elim
    | .ex e ρ M1, F1 => exact fun G' H' σ' c dd s S _ x => F1 G' H' c dd s S x
    | .no, F1 => exact F1.elim
theorem Lib.step (L : Lib P w K mg base C Γ fns kws blts glbs k) (hC : C.P = P ∧ C.w = w ∧ C.K = K) {x qual : Str} {st : Stmt} {f : Addr} {fd : FuncData} {N ps : List Str} {d : Df} (F : L2.Fun K x qual st f fd) (S : FnScope N ps (defScope st)) (hd : d.np = ps.length ∧ d.nn = N.length)
    (hm : mSs ⟨N, fns, kws, blts, glbs⟩ (defScope st) (fun _ => true) d.body (defBody st) = true) (hmg : mg x = some (.ref f)) (hb : Binds K fd ps []) (hk : ∀ np ks perm, (x, np, ks, perm) ∈ kws → KBinds K fd ps ks (kwG Value.none np ks perm) (kwG V.non np ks perm)) (hnew : x ∉ fns) :
    Lib P w K mg base C (Γ.add x (d.ev Γ)) (x :: fns) kws blts glbs (k + 1) := by
  refine ⟨L.blt, L.con, fun g hg => ?_⟩
  rcases List.mem_cons.mp hg with rfl | hg
  · exact ⟨d.ev Γ, f, fd, ps, if_pos rfl, fn_ok L hC F S hd hm, hmg, F.kp, hb, hk⟩
  · obtain ⟨F, fa, fd, ps, h1, h2, h3⟩ := L.fns g hg
    exact ⟨F, fa, fd, ps, by show (if g = x then _ else Γ.fn g) = _; rw [if_neg (fun z : g = x => hnew (by rw [← z]; exact hg))]; exact h1, h2.up (Nat.le_succ k), h3⟩
theorem fnG_no {f : Addr} {fd : FuncData} {ps : List Str} : FnG P w K mg base CX0 k f fd ps (spOf C fun _ _ => .no) :=
  ⟨fun _ _ _ _ ⟨_, _, _, _, _, h⟩ => h.elim, fun _ _ _ _ ⟨_, _, _, _, _, h⟩ => h.elim⟩
theorem Lib.put (L : Lib P w K mg base C Γ fns kws blts glbs k) {x : Str} {f : Addr} {fd : FuncData} {ps : List Str} {F : List PV → Sto → Res PV} {j : Nat} (hj : k ≤ j) (hF : FnG P w K mg base CX0 j f fd ps (spOf C F)) (hmg : mg x = some (.ref f)) (hkp : PySem.W.keepIn K (.ref f) = true) (hb : Binds K fd ps []) (hk : ∀ np ks perm, (x, np, ks, perm) ∈ kws → KBinds K fd ps ks (kwG Value.none np ks perm) (kwG V.non np ks perm)) (hnew : x ∉ fns) :
    Lib P w K mg base C (Γ.add x F) (x :: fns) kws blts glbs j := by
  refine ⟨L.blt, L.con, fun g hg => ?_⟩
  rcases List.mem_cons.mp hg with rfl | hg
  · exact ⟨F, f, fd, ps, if_pos rfl, hF, hmg, hkp, hb, hk⟩
  · obtain ⟨F, fa, fd, ps, h1, h2, h3⟩ := L.fns g hg
    exact ⟨F, fa, fd, ps, by show (if g = x then _ else Γ.fn g) = _; rw [if_neg (fun z : g = x => hnew (by rw [← z]; exact hg))]; exact h1, h2.up hj, h3⟩
theorem Lib.stepR (L : Lib P w K mg base C Γ fns kws blts glbs k) (hC : C.P = P ∧ C.w = w ∧ C.K = K) {x qual : Str} {st : Stmt} {f : Addr} {fd : FuncData} {N ps : List Str} {d : Df} (F : L2.Fun K x qual st f fd) (S : FnScope N ps (defScope st)) (hd : d.np = ps.length ∧ d.nn = N.length)
    (hm : mSs ⟨N, x :: fns, kws, blts, glbs⟩ (defScope st) (fun _ => true) d.body (defBody st) = true) (hmg : mg x = some (.ref f)) (hb : Binds K fd ps []) (hk : ∀ np ks perm, (x, np, ks, perm) ∈ kws → KBinds K fd ps ks (kwG Value.none np ks perm) (kwG V.non np ks perm)) (hnew : x ∉ fns) :
    ∀ n, Lib P w K mg base C (Γ.add x (recP Γ x d n)) (x :: fns) kws blts glbs (k + n)
  | 0 => L.put (Nat.le_refl _) fnG_no hmg F.kp hb hk hnew
  | n + 1 => L.put (Nat.le_add_right _ _) (fn_ok (Lib.stepR L hC F S hd hm hmg hb hk hnew n) hC F S hd hm) hmg F.kp hb hk hnew
theorem Vals.get {vs : List V} {us : List Value} (h : Vals vs us) (i : Nat) : RelV (vs.getD i .non) (us.getD i .none) := by
  induction h generalizing i with
  | nil => exact rfl
  | cons r t ih =>
    cases i with
    | zero => exact r
    | succ i => exact ih i
theorem kb_of {x qual : Str} {st : Stmt} {f : Addr} {fd : FuncData} {ps : List Str} {np : Nat} {ks : List Str} {perm : List Nat} (F : L2.Fun K x qual st f fd) (hne : ps.length ≠ 0)
    (h : ∀ (kV doc pm : Value) (an : Option Addr) (cdv ct : Value) (us ws : List Value), us.length = np → ws.length = ks.length → bindArgs (PySem.W.fnOf x qual (defArgs st) (defBody st) (defScope st) .none kV doc pm an cdv ct) ⟨us, ks.zip ws⟩ = pure (ps.zip (kwG Value.none np ks perm us ws))) :
    KBinds K fd ps ks (kwG Value.none np ks perm) (kwG V.non np ks perm) := by
  obtain ⟨oc, od, kV, doc, pm, an, cdv, ct, osl, rfl, lk, hcd⟩ := F.ex
  refine ⟨fun s us ws _ hl => ?_, fun {vs us zs ws} r1 r2 => ?_⟩
  · by_cases hc : us.length = np ∧ ws.length = ks.length
    · exact .of_eq (h kV doc pm an cdv ct us ws hc.1 hc.2)
    · unfold kwG at hl
      rw [if_neg hc] at hl
      exact absurd hl.symm hne
  · unfold kwG
    rw [r1.length, r2.length]
    split
    · induction perm with
      | nil => exact .nil
      | cons i perm ih => exact .cons (Vals.get (r1.append r2) i) (by
          have : ∀ l : List Nat, Vals (l.map fun i => (vs ++ zs).getD i .non) (l.map fun i => (us ++ ws).getD i .none) := fun l => by
            induction l with
            | nil => exact .nil
            | cons j l ih => exact .cons (Vals.get (r1.append r2) j) ih
          exact this perm)
    · exact .nil
end
/-- the law is asked at a script -/
theorem sp_end {C : Cfg} {F : List PV → Sto → Res PV} {H : Hp} {a : Addr} {ns : List Int} (hS : SqL C.K H a (ns.map V.int)) (h : ∃ M, F [.lst (ns.map PV.int)] [] = .ok (.bl true) M) : spOf C F [.ref a] H (fun v _ => v = .bl true) fun _ _ _ => False := by
  obtain ⟨M, h⟩ := h
  have allI : ∀ (G : Gh) (l : List Int), RepL C G H (l.map PV.int) (l.map V.int) := fun G l => by
    induction l with
    | nil => exact .nil
    | cons i l ih => exact .cons (Rep.int_iff.mpr rfl) ih
  refine ⟨⟨fun b => b = a ∧ H b ≠ none, fun _ => False, fun _ => none⟩, [], _, ⟨fun n o e => (by simp at e), fun n a e => (by cases e), fun n m a e => (by cases e), fun n o a e => (by simp at e), fun b hb => ⟨hb.2, fun z => z⟩, fun b hb => hb.elim⟩, .one (Rep.lst_iff.mpr ⟨a, _, rfl, ?_, allI _ ns⟩), ?_⟩
  · rcases hS with hS | hS
    · exact .inl ⟨⟨rfl, by rcases hS with q | ⟨o, q⟩ <;> rw [q] <;> simp⟩, hS⟩
    · exact .inr hS
  · rw [h]
    exact fun G' H' x _ _ r => Rep.bl_iff.mp r
end Sk
namespace Sk
open PySem PySem.Spec PyProof.Rows PySem.W L2
theorem no_kw {kws : List (Str × Nat × List Str × List Nat)} {f : Str} {np : Nat} {ks : List Str} {perm : List Nat} (hc : kws.all (fun k => !(k.1 == f)) = true) (h : (f, np, ks, perm) ∈ kws) : False := by
  rw [List.all_eq_true] at hc
  have := hc _ h
  simp at this
theorem kw_in {kws : List (Str × Nat × List Str × List Nat)} {f : Str} {np : Nat} {ks : List Str} {perm : List Nat} {l : List (Nat × List Str × List Nat)} (h : (f, np, ks, perm) ∈ kws) (hl : (kws.filter fun k => k.1 == f).map (·.2) = l) : (np, ks, perm) ∈ l := by
  rw [← hl]
  exact List.mem_map.mpr ⟨_, List.mem_filter.mpr ⟨h, by simp⟩, rfl⟩
end Sk

/-! SkW: reckoning with the evaluator: loops, names, data. -/
namespace Sk
open PySem PySem.Spec PyProof.Rows L2
/-! ### loops -/
theorem forL_inv {f : PV → PEnv → Sto → SRes} (P : Nat → PEnv → Sto → Prop) : ∀ {items : List PV} {ρ : PEnv} {M : Sto} (i : Nat), (∀ j x ρ M, items[j]? = some x → P (i + j) ρ M → ∃ fl ρ' M', f x ρ M = .ok fl ρ' M' ∧ (fl = .nx ∨ fl = .ct) ∧ P (i + j + 1) ρ' M') → P i ρ M →
    ∃ ρ' M', forL f items ρ M = .ok .nx ρ' M' ∧ P (i + items.length) ρ' M'
  | [], ρ, M, i, h, h0 => ⟨ρ, M, rfl, h0⟩
  | x :: xs, ρ, M, i, h, h0 => by
    obtain ⟨fl, ρ1, M1, e, hf, h1⟩ := h 0 x ρ M rfl h0
    obtain ⟨ρ2, M2, e2, h2⟩ := forL_inv P (items := xs) (ρ := ρ1) (M := M1) (i + 1) (fun j y ρ M hy hP => by
      obtain ⟨fl, ρ', M', a, b, c⟩ := h (j + 1) y ρ M (by simpa using hy) (by rw [show i + (j + 1) = i + 1 + j by omega]; exact hP)
      exact ⟨fl, ρ', M', a, b, by rw [show i + 1 + j + 1 = i + (j + 1) + 1 by omega]; exact c⟩) h1
    refine ⟨ρ2, M2, ?_, by rw [List.length_cons, show i + (xs.length + 1) = i + 1 + xs.length by omega]; exact h2⟩
    show (match f x ρ M with
      | .ok .nx ρ1 M1 => forL f xs ρ1 M1
      | .ok .ct ρ1 M1 => forL f xs ρ1 M1
      | .ok .bk ρ1 M1 => .ok .nx ρ1 M1
      | r => r) = _
    rw [e]
    rcases hf with rfl | rfl <;> exact e2
theorem bnd_of {α β : Type} {r : Res α} {k : α → Sto → Res β} {v : α} {M : Sto} (h : r = .ok v M) : r.bnd k = k v M := by rw [h]; rfl
theorem loopC_cons {f : PV → List PV → Sto → Res (List PV)} {x : PV} {xs acc : List PV} {M : Sto} : loopC f (x :: xs) acc M = (f x acc M).bnd fun a M1 => loopC f xs a M1 := rfl
/-- a comprehension whose turns each add g x -/
theorem loopC_inv {f : PV → List PV → Sto → Res (List PV)} (P : List PV → List PV → Sto → Prop) : ∀ {items acc : List PV} {M : Sto} (done : List PV), (∀ (x : PV) (done acc : List PV) (M : Sto), P done acc M → x ∈ items → ∃ acc' M', f x acc M = .ok acc' M' ∧ P (done ++ [x]) acc' M') → P done acc M →
    ∃ acc' M', loopC f items acc M = .ok acc' M' ∧ P (done ++ items) acc' M'
  | [], acc, M, done, h, h0 => ⟨acc, M, rfl, by rw [List.append_nil]; exact h0⟩
  | x :: xs, acc, M, done, h, h0 => by
    obtain ⟨a1, M1, e, h1⟩ := h x done acc M h0 (by simp)
    obtain ⟨a2, M2, e2, h2⟩ := loopC_inv P (items := xs) (done ++ [x]) (fun y d a M hP hy => h y d a M hP (by simp [hy])) h1
    refine ⟨a2, M2, ?_, by rw [List.append_assoc] at h2; exact h2⟩
    show ((f x acc M).bnd fun acc1 M1 => loopC f xs acc1 M1) = _
    rw [e]; exact e2
/-- turns that leave the store as it is -/
theorem loopC_pure {f : PV → List PV → Sto → Res (List PV)} {M : Sto} (g : PV → List PV) : ∀ {items acc : List PV}, (∀ x pre post, items = pre ++ x :: post → f x (acc ++ pre.flatMap g) M = .ok (acc ++ pre.flatMap g ++ g x) M) → loopC f items acc M = .ok (acc ++ items.flatMap g) M
  | [], acc, h => by simp [loopC]
  | x :: xs, acc, h => by
    have e : f x acc M = .ok (acc ++ g x) M := by simpa using h x [] xs rfl
    have ih := loopC_pure (f := f) g (items := xs) (acc := acc ++ g x) fun y pre post hy => by
      have := h y (x :: pre) post (by rw [hy]; rfl)
      simpa [List.flatMap_cons, List.append_assoc] using this
    show ((f x acc M).bnd fun acc1 M1 => loopC f xs acc1 M1) = _
    rw [e]
    show loopC f xs (acc ++ g x) M = _
    rw [ih, List.flatMap_cons, List.append_assoc]
/-- while: P with its measure; the end told by D -/
theorem whileL_inv {c : PEnv → Sto → Res Bool} {f : PEnv → Sto → SRes} (P : Nat → PEnv → Sto → Prop) (D : SRes → Prop)
    (turn : ∀ m ρ M, P m ρ M → (∃ M1, c ρ M = .ok false M1 ∧ D (.ok .nx ρ M1)) ∨ ∃ M1, c ρ M = .ok true M1 ∧ ((∃ m' ρ' M', m' < m ∧ (f ρ M1 = .ok .nx ρ' M' ∨ f ρ M1 = .ok .ct ρ' M') ∧ P m' ρ' M') ∨ (∃ ρ' M', f ρ M1 = .ok .bk ρ' M' ∧ D (.ok .nx ρ' M')) ∨ (∃ v ρ' M', f ρ M1 = .ok (.rt v) ρ' M' ∧ D (.ok (.rt v) ρ' M')))) :
    ∀ (n m : Nat) {ρ : PEnv} {M : Sto}, m < n → P m ρ M → D (whileL c f n ρ M)
  | 0, m, ρ, M, h, _ => absurd h (Nat.not_lt_zero _)
  | n + 1, m, ρ, M, h, hP => by
    show D ((c ρ M).sb ρ fun k M1 => if k then (match f ρ M1 with
      | .ok .nx ρ1 M1 => whileL c f n ρ1 M1
      | .ok .ct ρ1 M1 => whileL c f n ρ1 M1
      | .ok .bk ρ1 M1 => .ok .nx ρ1 M1
      | r => r) else .ok .nx ρ M1)
    rcases turn m ρ M hP with ⟨M1, e, d⟩ | ⟨M1, e, t⟩
    · rw [e]; exact d
    · rw [e]
      show D (match f ρ M1 with
      | .ok .nx ρ1 M1 => whileL c f n ρ1 M1
      | .ok .ct ρ1 M1 => whileL c f n ρ1 M1
      | .ok .bk ρ1 M1 => .ok .nx ρ1 M1
      | r => r)
      rcases t with ⟨m', ρ', M', hm, e1 | e1, hP'⟩ | ⟨ρ', M', e1, d⟩ | ⟨v, ρ', M', e1, d⟩
      · rw [e1]; exact whileL_inv P D turn n m' (by omega) hP'
      · rw [e1]; exact whileL_inv P D turn n m' (by omega) hP'
      · rw [e1]; exact d
      · rw [e1]; exact d

/-! ### texts as data -/
abbrev sv (l : List Str) : List PV := l.map PV.str
theorem toD0L_str : ∀ l : List Str, toD0L (sv l) = some (l.map PyData.str)
  | [] => rfl
  | x :: l => by
    show (toD0 (.str x)).bind (fun d => (toD0L (sv l)).map fun r => d :: r) = _
    rw [toD0L_str l]; rfl
theorem strsOf_sv : ∀ l : List Str, strsOf (sv l) = some l
  | [] => rfl
  | x :: l => by
    show (strsOf (sv l)).map (x :: ·) = _
    rw [strsOf_sv l]; rfl
theorem eqvAll_str : ∀ l m : List Str, PyData.eqvAll (l.map PyData.str) (m.map PyData.str) = decide (l = m)
  | [], [] => by simp [PyData.eqvAll]
  | [], _ :: _ => by simp [PyData.eqvAll]
  | _ :: _, [] => by simp [PyData.eqvAll]
  | x :: l, y :: m => by
    simp only [List.map_cons, PyData.eqvAll, PyData.eqv]
    rw [eqvAll_str l m, Bool.eq_iff_iff]
    simp
theorem depthAll_str : ∀ l : List Str, PyData.depthAll (l.map PyData.str) = 0
  | [] => by simp [PyData.depthAll]
  | x :: l => by simp [PyData.depthAll, PyData.depth, depthAll_str l]
theorem depthAll_le {l : List PyData} {n : Nat} : (∀ d ∈ l, d.depth ≤ n) → PyData.depthAll l ≤ n := by
  intro h
  induction l with
  | nil => simp [PyData.depthAll]
  | cons d l ih =>
    simp only [PyData.depthAll]
    exact Nat.max_le.mpr ⟨h d (by simp), ih fun e he => h e (by simp [he])⟩
theorem eqvAll_nil {l : List PyData} : PyData.eqvAll l [] = decide (l = []) := by
  cases l <;> simp [PyData.eqvAll]
theorem peq_str {M : Sto} {x y : Str} : peq M (.str x) (.str y) = some (decide (x = y)) := by
  unfold peq
  show (if (PyData.str x).depth ≤ 64 ∧ (PyData.str y).depth ≤ 64 then some (PyData.eqv (.str x) (.str y)) else none) = _
  rw [if_pos (by simp [PyData.depth]), show PyData.eqv (.str x) (.str y) = decide (x = y) from by simp only [PyData.eqv]; rw [Bool.eq_iff_iff]; simp]
theorem peq_int {M : Sto} {x y : Int} : peq M (.int x) (.int y) = some (decide (x = y)) := by
  unfold peq
  show (if (PyData.int x).depth ≤ 64 ∧ (PyData.int y).depth ≤ 64 then some (PyData.eqv (.int x) (.int y)) else none) = _
  rw [if_pos (by simp [PyData.depth]), show PyData.eqv (.int x) (.int y) = decide (x = y) from by simp only [PyData.eqv]; rw [Bool.eq_iff_iff]; simp]
theorem toD_tup {M : Sto} {l : List Str} : toD M (.tup (sv l)) = some (.tuple (l.map PyData.str)) := by
  show (toD0L (sv l)).map PyData.tuple = _
  rw [toD0L_str]; rfl
theorem toD_lst {M : Sto} {l : List Str} : toD M (.lst (sv l)) = some (.list (l.map PyData.str)) := by
  show (toD0L (sv l)).map PyData.list = _
  rw [toD0L_str]; rfl
theorem peq_tup {M : Sto} {l m : List Str} : peq M (.tup (sv l)) (.tup (sv m)) = some (decide (l = m)) := by
  unfold peq
  rw [toD_tup, toD_tup]
  dsimp only
  rw [if_pos (by simp [PyData.depth, depthAll_str])]
  simp only [PyData.eqv]
  rw [eqvAll_str]
theorem peq_lst {M : Sto} {l m : List Str} : peq M (.lst (sv l)) (.lst (sv m)) = some (decide (l = m)) := by
  unfold peq
  rw [toD_lst, toD_lst]
  dsimp only
  rw [if_pos (by simp [PyData.depth, depthAll_str])]
  simp only [PyData.eqv]
  rw [eqvAll_str]
/-- against the empty list -/
theorem peq_nil {M : Sto} {v : PV} {ds : List PyData} (h : toD M v = some (.list ds)) (hd : PyData.depthAll ds ≤ 63) : peq M v (.lst []) = some (decide (ds = [])) := by
  unfold peq
  rw [h]
  show (if (PyData.list ds).depth ≤ 64 ∧ (PyData.list []).depth ≤ 64 then some (PyData.eqv (.list ds) (.list [])) else none) = _
  rw [if_pos ⟨by simp only [PyData.depth]; omega, by simp [PyData.depth, PyData.depthAll]⟩]
  simp only [PyData.eqv]
  rw [eqvAll_nil]
theorem peq_tnil {M : Sto} {l : List Str} : peq M (.tup (sv l)) (.tup []) = some (decide (l = [])) := peq_tup (m := [])
theorem seqOf_lst {M : Sto} {l : List PV} : seqOf M (.lst l) = some l := rfl
theorem atI_nat {α : Type} {l : List α} {i : Nat} {x : α} (h : l[i]? = some x) : atI l (i : Int) = some x := by
  have hl : i < l.length := (List.getElem?_eq_some_iff.mp h).1
  unfold atI ixN
  rw [if_pos (by omega), if_pos (by omega)]
  simpa using h
theorem idx_nat {M : Sto} {v : PV} {l : List PV} {i : Nat} {x : PV} (hv : seqOf M v = some l) (hs : ∀ z, v ≠ .str z) (h : l[i]? = some x) : idxop v (.int (i : Int)) M = .ok x M := by
  unfold idxop
  cases v with
  | str z => exact absurd rfl (hs z)
  | _ => dsimp only; rw [hv]; show ofO (atI l (i : Int)) M = _; rw [atI_nat h]; rfl
theorem six0 {n : Nat} : HT.sIx n 0 (some 1) = min 1 n := by
  unfold HT.sIx
  simp
theorem cut_tail (l : List PV) : cutP l (some 1) none = l.tail := by
  unfold cutP
  have h2 : HT.sIx l.length l.length none = l.length := rfl
  rw [h2, six0]
  cases l with
  | nil => rfl
  | cons x l =>
    have : min 1 (x :: l).length = 1 := by rw [List.length_cons]; omega
    rw [this]
    simp
theorem sv_tail (l : List Str) : (sv l).tail = sv l.tail := by cases l <;> rfl
theorem slc_tail {M : Sto} {l : List Str} : slcop (.tup (sv l)) (some 1) none M = .ok (.tup (sv l.tail)) M := by
  show (Res.ok (PV.tup (cutP (sv l) (some 1) none)) M : Res PV) = _
  rw [cut_tail, sv_tail]
theorem slc_tailL {M : Sto} {l : List Str} : slcop (.lst (sv l)) (some 1) none M = .ok (.lst (sv l.tail)) M := by
  show ofO ((some (sv l)).map fun l => PV.lst (cutP l (some 1) none)) M = _
  show (Res.ok (PV.lst (cutP (sv l) (some 1) none)) M : Res PV) = _
  rw [cut_tail, sv_tail]
/-- a name among names -/
theorem any_str (l : List Str) (x : Str) : ((l.map PyData.str).any fun z => PyData.eqv z (.str x)) = decide (x ∈ l) := by
  induction l with
  | nil => rfl
  | cons y l ih =>
    rw [List.map_cons, List.any_cons, ih]
    simp only [PyData.eqv]
    rw [Bool.eq_iff_iff]
    simp
    constructor
    · rintro (h | h)
      · exact .inl h.symm
      · exact .inr h
    · rintro (h | h)
      · exact .inl h.symm
      · exact .inr h
theorem pin_str {M : Sto} {x : Str} {v : PV} {l : List Str} (hv : seqOf M v = some (sv l)) (hs : ∀ z, v ≠ .str z) (ht : ∀ z, v ≠ .sts z) : pin M (.str x) v = some (decide (x ∈ l)) := by
  unfold pin
  cases v with
  | str z => exact absurd rfl (hs z)
  | sts z => exact absurd rfl (ht z)
  | _ =>
    dsimp only
    rw [hv]
    show (match (toD0L (sv l)), some (PyData.str x) with
      | some ds, some d => if (PyData.list ds).depth ≤ 64 ∧ d.depth ≤ 64 then some (ds.any fun z => PyData.eqv z d) else none
      | _, _ => none) = _
    rw [toD0L_str]
    dsimp only
    rw [if_pos (by simp [PyData.depth, depthAll_str]), any_str]
theorem pin_sts {M : Sto} {x : Str} {l : List Str} : pin M (.str x) (.sts l) = some (decide (x ∈ l)) := rfl

/-! ### statements, one after another -/
section
variable {Γ : Sig} {ρ ρ1 ρ2 : PEnv} {M M1 M2 : Sto} {e c : E} {r a b : Sms} {s : Sm} {v : PV} {i : Nat}
theorem ss_nx (h : evS Γ s ρ M = .ok .nx ρ1 M1) : evSs Γ (.cons s r) ρ M = evSs Γ r ρ1 M1 := by
  show (evS Γ s ρ M).seq (fun ρ1 M1 => evSs Γ r ρ1 M1) = _
  rw [h]; rfl
theorem ss_rt (h : evS Γ s ρ M = .ok (.rt v) ρ1 M1) : evSs Γ (.cons s r) ρ M = .ok (.rt v) ρ1 M1 := by
  show (evS Γ s ρ M).seq (fun ρ1 M1 => evSs Γ r ρ1 M1) = _
  rw [h]; rfl
theorem ss_nil : evSs Γ .nil ρ M = .ok .nx ρ M := rfl
theorem s_asg (h : evE Γ e ρ M = .ok v M1) : evS Γ (.asg i e) ρ M = .ok .nx (ρ.set i (some v)) M1 := by
  show (evE Γ e ρ M).sb ρ _ = _
  rw [h]; rfl
theorem s_asgT {t : Tgs} (h : evE Γ e ρ M = .ok v M1) (hb : Sk.bindG (.tp t) v ρ = some ρ1) : evS Γ (.asgT t e) ρ M = .ok .nx ρ1 M1 := by
  show (evE Γ e ρ M).sb ρ _ = _
  rw [h, sb_ok, hb]
theorem s_par {is : List Nat} {es : Es} {l : List PV} (h : evEs Γ es ρ M = .ok l M1) (hb : setAll ρ is l = some ρ1) : evS Γ (.par is es) ρ M = .ok .nx ρ1 M1 := by
  show (evEs Γ es ρ M).sb ρ _ = _
  rw [h, sb_ok, hb]
theorem s_ret (h : evE Γ e ρ M = .ok v M1) : evS Γ (.ret e) ρ M = .ok (.rt v) ρ M1 := by
  show (evE Γ e ρ M).sb ρ _ = _
  rw [h]; rfl
theorem s_exp (h : evE Γ e ρ M = .ok v M1) : evS Γ (.exp e) ρ M = .ok .nx ρ M1 := by
  show (evE Γ e ρ M).sb ρ _ = _
  rw [h]; rfl
theorem s_ifT (h : evE Γ c ρ M = .ok (.bl true) M1) : evS Γ (.ifs c a b) ρ M = evSs Γ a ρ M1 := by
  show (asB (evE Γ c ρ M)).sb ρ _ = _
  rw [h]; rfl
theorem s_ifF (h : evE Γ c ρ M = .ok (.bl false) M1) : evS Γ (.ifs c a b) ρ M = evSs Γ b ρ M1 := by
  show (asB (evE Γ c ρ M)).sb ρ _ = _
  rw [h]; rfl
theorem s_frz {n : Nat} {l : List PV} (h : ρ[i]? = some (some (.loc n))) (hl : locL M n = some l) : evS Γ (.frz i) ρ M = .ok .nx (ρ.set i (some (.lst l))) (M.set n none) := by
  show (match ρ[i]? with
    | some (some (.loc n)) => (match locL M n with
      | some l => SRes.ok .nx (ρ.set i (some (.lst l))) (M.set n none)
      | none => .no)
    | _ => .no) = _
  rw [h]
  dsimp only
  rw [hl]
theorem s_sub {o j x : E} {y z w : PV} {M3 M4 : Sto} (h1 : evE Γ x ρ M = .ok w M1) (h2 : evE Γ o ρ M1 = .ok y M2) (h3 : evE Γ j ρ M2 = .ok z M3) (h4 : subop y z w M3 = some M4) : evS Γ (.sub o j x) ρ M = .ok .nx ρ M4 := by
  show (evE Γ x ρ M).sb ρ _ = _
  rw [h1, sb_ok, h2, sb_ok, h3, sb_ok, h4]
theorem s_for {tg : Tg} {it : It} {items : List PV} (P : Nat → PEnv → Sto → Prop) (h : evI Γ it ρ M = .ok items M1) (h0 : P 0 ρ M1)
    (hs : ∀ j x ρ M, items[j]? = some x → P j ρ M → ∃ ρ1, Sk.bindG tg x ρ = some ρ1 ∧ ∃ fl ρ' M', evSs Γ b ρ1 M = .ok fl ρ' M' ∧ (fl = .nx ∨ fl = .ct) ∧ P (j + 1) ρ' M') : ∃ ρ' M', evS Γ (.for' tg it b) ρ M = .ok .nx ρ' M' ∧ P items.length ρ' M' := by
  obtain ⟨ρ', M', e, q⟩ := forL_inv (f := fun x ρ M => match Sk.bindG tg x ρ with
    | some ρ1 => evSs Γ b ρ1 M
    | none => .no) P (items := items) 0 (fun j x ρ M hx hP => by
      obtain ⟨ρ1, h1, fl, ρ', M', h2, h3, h4⟩ := hs j x ρ M hx (by rw [Nat.zero_add] at hP; exact hP)
      exact ⟨fl, ρ', M', by rw [h1]; exact h2, h3, by rw [Nat.zero_add]; exact h4⟩) h0
  refine ⟨ρ', M', ?_, by rw [Nat.zero_add] at q; exact q⟩
  show (evI Γ it ρ M).sb ρ _ = _
  rw [h]; exact e
theorem df_rt {d : Df} {l : List PV} (hl : l.length = d.np) (h : evSs Γ d.body (l.map some ++ List.replicate (d.nn - d.np) none) M = .ok (.rt v) ρ1 M1) : d.ev Γ l M = .ok v M1 := by
  unfold Df.ev
  rw [if_pos hl, h]
/-- comprehensions -/
theorem cpr_ok {k : CK} {own : List Nat} {tg : Tg} {it : It} {q : Cl} {items l : List PV} (h1 : evI Γ it ρ M = .ok items M1)
    (h2 : loopC (fun x acc M => match Sk.bindG tg x (wipeP ρ own) with
      | none => .no
      | some ρ2 => (asB (evE Γ c ρ2 M)).bnd fun b M' => if b then evC Γ k q ρ2 acc M' else .ok acc M') items [] M1 = .ok l M2) : evE Γ (.cpr k own tg it c q) ρ M = mkC k l M2 := by
  show (evI Γ it ρ M).bnd _ = _
  rw [h1, bnd_ok]
  show (noex (loopC (fun x acc M => match Sk.bindG tg x (wipeP ρ own) with
      | none => .no
      | some ρ2 => (asB (evE Γ c ρ2 M)).bnd fun b M' => if b then evC Γ k q ρ2 acc M' else .ok acc M') items [] M1)).bnd (fun l M2 => mkC k l M2) = _
  rw [h2]; rfl
theorem cpr_pure {α : Type} {m : Bool} {own : List Nat} {tg : Tg} {it : It} {items : List α} (f : α → PV) (p : α → Bool) (g : α → PV) (h1 : evI Γ it ρ M = .ok (items.map f) M1) (hl : items.length ≤ lim)
    (h2 : ∀ a ∈ items, ∃ ρ2, Sk.bindG tg (f a) (wipeP ρ own) = some ρ2 ∧ evE Γ c ρ2 M1 = .ok (.bl (p a)) M1 ∧ (p a = true → evE Γ e ρ2 M1 = .ok (g a) M1)) :
    evE Γ (.cpr (.ls m) own tg it c (.elt e)) ρ M = mkL m ((items.filter p).map g) M1 := by
  refine cpr_ok h1 ?_
  have key : ∀ (rest done : List α), items = done ++ rest → loopC (fun x acc M => match Sk.bindG tg x (wipeP ρ own) with
      | none => .no
      | some ρ2 => (asB (evE Γ c ρ2 M)).bnd fun b M' => if b then evC Γ (.ls m) (.elt e) ρ2 acc M' else .ok acc M') (rest.map f) ((done.filter p).map g) M1 = .ok ((items.filter p).map g) M1 := by
    intro rest
    induction rest with
    | nil => intro done hd; rw [hd, List.append_nil]; rfl
    | cons x rest ih =>
      intro done hd
      obtain ⟨ρ2, b1, b2, b3⟩ := h2 x (by rw [hd]; simp)
      have ih := ih (done ++ [x]) (by rw [hd]; simp)
      rw [List.filter_append, List.map_append] at ih
      show Res.bnd (match Sk.bindG tg (f x) (wipeP ρ own) with
        | none => .no
        | some ρ2 => (asB (evE Γ c ρ2 M1)).bnd fun b M' => if b then evC Γ (.ls m) (.elt e) ρ2 ((done.filter p).map g) M' else .ok ((done.filter p).map g) M') _ = _
      rw [b1]
      dsimp only
      rw [b2]
      cases hp : p x with
      | false =>
        rw [show [x].filter p = [] from by simp [hp], List.map_nil, List.append_nil] at ih
        exact ih
      | true =>
        rw [show [x].filter p = [x] from by simp [hp]] at ih
        show Res.bnd (Res.bnd (evE Γ e ρ2 M1) fun v M1 => okIf (((done.filter p).map g).length < lim) ((done.filter p).map g ++ [v]) M1) _ = _
        rw [b3 hp, bnd_ok]
        unfold okIf
        rw [if_pos (by
          rw [List.length_map]
          refine Nat.lt_of_le_of_lt (List.length_filter_le p done) (Nat.lt_of_lt_of_le ?_ hl)
          rw [hd, List.length_append, List.length_cons]; omega), bnd_ok]
        exact ih
  exact key items [] rfl
/-- comprehensions that draw: P by the items done and what was made -/
theorem cpr_inv {m : Bool} {own : List Nat} {tg : Tg} {it : It} {items : List PV} (P : Nat → List PV → Sto → Prop) (h1 : evI Γ it ρ M = .ok items M1) (h0 : P 0 [] M1) (hb : ∀ n acc M, P n acc M → acc.length < lim)
    (h2 : ∀ n x acc M, items[n]? = some x → P n acc M → ∃ ρ2 b M', Sk.bindG tg x (wipeP ρ own) = some ρ2 ∧ evE Γ c ρ2 M = .ok (.bl b) M' ∧ (b = false → P (n + 1) acc M') ∧ (b = true → ∃ v M'', evE Γ e ρ2 M' = .ok v M'' ∧ P (n + 1) (acc ++ [v]) M'')) :
    ∃ l M2, evE Γ (.cpr (.ls m) own tg it c (.elt e)) ρ M = mkL m l M2 ∧ P items.length l M2 := by
  have key : ∀ (rest : List PV) (n : Nat) (acc : List PV) (M : Sto), items.drop n = rest → P n acc M → ∃ l M2, loopC (fun x acc M => match Sk.bindG tg x (wipeP ρ own) with
      | none => .no
      | some ρ2 => (asB (evE Γ c ρ2 M)).bnd fun b M' => if b then evC Γ (.ls m) (.elt e) ρ2 acc M' else .ok acc M') rest acc M = .ok l M2 ∧ P (n + rest.length) l M2 := by
    intro rest
    induction rest with
    | nil => intro n acc M hd hP; exact ⟨acc, M, rfl, hP⟩
    | cons x rest ih =>
      intro n acc M hd hP
      have hx : items[n]? = some x := by rw [← List.head?_drop, hd]; rfl
      have hd' : items.drop (n + 1) = rest := by rw [← List.tail_drop, hd]; rfl
      obtain ⟨ρ2, b, M', b1, b2, b3, b4⟩ := h2 n x acc M hx hP
      have hcut : n + (x :: rest).length = n + 1 + rest.length := by rw [List.length_cons]; omega
      rw [hcut]
      show ∃ l M2, Res.bnd (match Sk.bindG tg x (wipeP ρ own) with
        | none => .no
        | some ρ2 => (asB (evE Γ c ρ2 M)).bnd fun b M' => if b then evC Γ (.ls m) (.elt e) ρ2 acc M' else .ok acc M') _ = .ok l M2 ∧ _
      rw [b1]
      dsimp only
      rw [b2]
      cases b with
      | false => exact ih (n + 1) acc M' hd' (b3 rfl)
      | true =>
        obtain ⟨v, M'', b5, b6⟩ := b4 rfl
        show ∃ l M2, Res.bnd (Res.bnd (evE Γ e ρ2 M') fun v M1 => okIf (acc.length < lim) (acc ++ [v]) M1) _ = .ok l M2 ∧ _
        rw [b5, bnd_ok]
        unfold okIf
        rw [if_pos (hb n acc M hP), bnd_ok]
        exact ih (n + 1) _ M'' hd' b6
  obtain ⟨l, M2, e1, q⟩ := key items 0 [] M1 (by rw [List.drop_zero]) h0
  exact ⟨l, M2, cpr_ok h1 e1, by rw [Nat.zero_add] at q; exact q⟩
end

/-! ### expressions, by their parts -/
section
variable {Γ : Sig} {ρ : PEnv} {M M1 M2 M3 M4 : Sto} {a b c d : E} {v w z u : PV} {es : Es} {l : List PV} {x y : Bool}
theorem e_var {i : Nat} (h : ρ[i]? = some (some v)) : evE Γ (.var i) ρ M = .ok v M := by
  show (match ρ[i]? with
    | some (some v) => Res.ok v M
    | _ => .no) = _
  rw [h]
theorem e_bin {o : BO} (h1 : evE Γ a ρ M = .ok v M1) (h2 : evE Γ b ρ M1 = .ok w M2) (h3 : binop o v w M2 = .ok z M3) : evE Γ (.bin o a b) ρ M = .ok z M3 := by
  show (evE Γ a ρ M).bnd _ = _
  rw [h1, bnd_ok, h2, bnd_ok, h3]
theorem e_cmp {o : CO} (h1 : evE Γ a ρ M = .ok v M1) (h2 : evE Γ b ρ M1 = .ok w M2) (h3 : cmpop o v w M2 = .ok z M3) : evE Γ (.cmp o a b) ρ M = .ok z M3 := by
  show (evE Γ a ρ M).bnd _ = _
  rw [h1, bnd_ok, h2, bnd_ok, h3]
theorem e_idx (h1 : evE Γ a ρ M = .ok v M1) (h2 : evE Γ b ρ M1 = .ok w M2) (h3 : idxop v w M2 = .ok z M3) : evE Γ (.idx a b) ρ M = .ok z M3 := by
  show (evE Γ a ρ M).bnd _ = _
  rw [h1, bnd_ok, h2, bnd_ok, h3]
theorem e_tl (h1 : evE Γ a ρ M = .ok v M1) (h3 : slcop v (some 1) none M1 = .ok z M3) : evE Γ (.slc a (.int 1) .miss) ρ M = .ok z M3 := by
  show (evE Γ a ρ M).bnd _ = _
  rw [h1]; exact h3
theorem e_upto {k : Int} (h1 : evE Γ a ρ M = .ok v M1) (h3 : slcop v none (some k) M1 = .ok z M3) : evE Γ (.slc a .miss (.int k)) ρ M = .ok z M3 := by
  show (evE Γ a ρ M).bnd _ = _
  rw [h1]; exact h3
theorem e_iteT (h1 : evE Γ c ρ M = .ok (.bl true) M1) (h2 : evE Γ a ρ M1 = .ok v M2) : evE Γ (.ite c a b) ρ M = .ok v M2 := by
  show (asB (evE Γ c ρ M)).bnd _ = _
  rw [h1]; exact h2
theorem e_iteF (h1 : evE Γ c ρ M = .ok (.bl false) M1) (h2 : evE Γ b ρ M1 = .ok v M2) : evE Γ (.ite c a b) ρ M = .ok v M2 := by
  show (asB (evE Γ c ρ M)).bnd _ = _
  rw [h1]; exact h2
theorem e_andT (h1 : evE Γ a ρ M = .ok (.bl true) M1) (h2 : evE Γ b ρ M1 = .ok v M2) : evE Γ (.and a b) ρ M = .ok v M2 := by
  show (asB (evE Γ a ρ M)).bnd _ = _
  rw [h1]; exact h2
theorem e_andF (h1 : evE Γ a ρ M = .ok (.bl false) M1) : evE Γ (.and a b) ρ M = .ok (.bl false) M1 := by
  show (asB (evE Γ a ρ M)).bnd _ = _
  rw [h1]; rfl
theorem e_orF (h1 : evE Γ a ρ M = .ok (.bl false) M1) (h2 : evE Γ b ρ M1 = .ok v M2) : evE Γ (.or a b) ρ M = .ok v M2 := by
  show (asB (evE Γ a ρ M)).bnd _ = _
  rw [h1]; exact h2
theorem e_orT (h1 : evE Γ a ρ M = .ok (.bl true) M1) : evE Γ (.or a b) ρ M = .ok (.bl true) M1 := by
  show (asB (evE Γ a ρ M)).bnd _ = _
  rw [h1]; rfl
theorem e_not (h1 : evE Γ a ρ M = .ok (.bl x) M1) : evE Γ (.not a) ρ M = .ok (.bl (!x)) M1 := by
  show (asB (evE Γ a ρ M)).bnd _ = _
  rw [h1]; rfl
theorem es_nil : evEs Γ .nil ρ M = .ok [] M := rfl
theorem es_cons (h1 : evE Γ a ρ M = .ok v M1) (h2 : evEs Γ es ρ M1 = .ok l M2) : evEs Γ (.cons a es) ρ M = .ok (v :: l) M2 := by
  show (evE Γ a ρ M).bnd _ = _
  rw [h1, bnd_ok, h2]; rfl
theorem es_one (h1 : evE Γ a ρ M = .ok v M1) : evEs Γ (.cons a .nil) ρ M = .ok [v] M1 := es_cons h1 es_nil
theorem es_two (h1 : evE Γ a ρ M = .ok v M1) (h2 : evE Γ b ρ M1 = .ok w M2) : evEs Γ (.cons a (.cons b .nil)) ρ M = .ok [v, w] M2 := es_cons h1 (es_one h2)
theorem es_three (h1 : evE Γ a ρ M = .ok v M1) (h2 : evE Γ b ρ M1 = .ok w M2) (h3 : evE Γ c ρ M2 = .ok z M3) : evEs Γ (.cons a (.cons b (.cons c .nil))) ρ M = .ok [v, w, z] M3 := es_cons h1 (es_two h2 h3)
theorem es_star {q : List PV} (h1 : evE Γ a ρ M = .ok v M1) (hq : seqOf M1 v = some q) (h2 : evEs Γ es ρ M1 = .ok l M2) : evEs Γ (.star a es) ρ M = .ok (q ++ l) M2 := by
  show (evE Γ a ρ M).bnd _ = _
  rw [h1, bnd_ok, hq]
  show (evEs Γ es ρ M1).bnd _ = _
  rw [h2]; rfl
theorem e_tup (h : evEs Γ es ρ M = .ok l M1) (hl : l.length ≤ lim) : evE Γ (.tup es) ρ M = .ok (.tup l) M1 := by
  show (evEs Γ es ρ M).bnd _ = _
  rw [h, bnd_ok]
  exact if_pos hl
theorem e_lst (h : evEs Γ es ρ M = .ok l M1) (hl : l.length ≤ lim) : evE Γ (.lst false es) ρ M = .ok (.lst l) M1 := by
  show (evEs Γ es ρ M).bnd _ = _
  rw [h, bnd_ok]
  exact if_pos hl
theorem e_lstM (h : evEs Γ es ρ M = .ok l M1) (hl : l.length ≤ lim) : evE Γ (.lst true es) ρ M = .ok (.loc M1.length) (M1 ++ [some (.lst l)]) := by
  show (evEs Γ es ρ M).bnd _ = _
  rw [h, bnd_ok]
  exact if_pos hl
theorem e_call {f : Str} {F : List PV → Sto → Res PV} (hf : Γ.fn f = some F) (h : evEs Γ es ρ M = .ok l M1) (h2 : F l M1 = .ok v M2) : evE Γ (.call f es) ρ M = .ok v M2 := by
  show (evEs Γ es ρ M).bnd _ = _
  rw [h, bnd_ok, hf]; exact h2
theorem e_blt {f : Str} (h : evEs Γ es ρ M = .ok l M1) (h2 : evB f l M1 = .ok v M2) : evE Γ (.blt f es) ρ M = .ok v M2 := by
  show (evEs Γ es ρ M).bnd _ = _
  rw [h, bnd_ok, h2]
theorem e_lof {m : Bool} (h : evEs Γ es ρ M = .ok l M1) (h2 : lofP m l M1 = .ok v M2) : evE Γ (.lof m es) ρ M = .ok v M2 := by
  show (evEs Γ es ρ M).bnd _ = _
  rw [h, bnd_ok, h2]
theorem e_mth {T m : Str} (h1 : evE Γ a ρ M = .ok v M1) (ht : tyP T v M1 = true) (h : evEs Γ es ρ M1 = .ok l M2) (h2 : evM T m v l M2 = .ok w M3) : evE Γ (.mth T m a es) ρ M = .ok w M3 := by
  show (evE Γ a ρ M).bnd _ = _
  rw [h1, bnd_ok]
  show (if tyP T v M1 then (evEs Γ es ρ M1).bnd fun l M2 => evM T m v l M2 else .no) = _
  rw [if_pos ht, h, bnd_ok, h2]
theorem i_seq (h : evE Γ a ρ M = .ok v M1) (h2 : itemsOf M1 v = some l) : evI Γ (.seq a) ρ M = .ok l M1 := by
  show (evE Γ a ρ M).bnd _ = _
  rw [h, bnd_ok, h2]; rfl
theorem i_fn {f : Str} {n : Nat} {q : List PV} (h : evEs Γ es ρ M = .ok l M1) (hl : l.length = n) (h2 : evIt f l M1 = .ok q M2) : evI Γ (.fn f n es) ρ M = .ok q M2 := by
  show (evEs Γ es ρ M).bnd _ = _
  rw [h, bnd_ok, if_pos hl, h2]
theorem ne_of_peq {p : Bool} (h : peq M v w = some p) : cmpop .ne v w M = .ok (.bl (!p)) M := by
  show ofO ((peq M v w).map fun b => PV.bl (!b)) M = _
  rw [h]; rfl
theorem eq_of_peq {p : Bool} (h : peq M v w = some p) : cmpop .eq v w M = .ok (.bl p) M := by
  show ofO ((peq M v w).map PV.bl) M = _
  rw [h]; rfl
theorem nin_of {p : Bool} (h : pin M v w = some p) : cmpop .nin v w M = .ok (.bl (!p)) M := by
  show ofO ((pin M v w).map fun b => PV.bl (!b)) M = _
  rw [h]; rfl
theorem in_of {p : Bool} (h : pin M v w = some p) : cmpop .inn v w M = .ok (.bl p) M := by
  show ofO ((pin M v w).map PV.bl) M = _
  rw [h]; rfl
theorem lim_small {n : Nat} (h : n ≤ 1000) : n ≤ lim := Nat.le_trans h (by decide)
theorem hd_idx {x : Str} {q : List Str} : idxop (.tup (sv (x :: q))) (.int 0) M = .ok (.str x) M := idx_nat (i := 0) rfl (fun _ h => nomatch h) rfl
theorem hd_idxL {x : Str} {q : List Str} : idxop (.lst (sv (x :: q))) (.int 0) M = .ok (.str x) M := idx_nat (i := 0) rfl (fun _ h => nomatch h) rfl
end

/-! ### built-ins -/
theorem w_enum {v : PV} {M : Sto} {l : List PV} (h : kdOf v = some l) : evIt "enumerate" [v] M = .ok (enumL l) M := by
  unfold evIt
  rw [if_neg (by decide +kernel), if_pos rfl]
  show ofO ((kdOf v).map enumL) M = _
  rw [h]; rfl
theorem w_range {n : Nat} {M : Sto} (h : n ≤ 1000000) : evIt "range" [.int (n : Int)] M = .ok (rngL 0 n) M := by
  unfold evIt
  rw [if_pos rfl]
  show (if -(2 ^ 62) ≤ (n : Int) ∧ (n : Int) < 2 ^ 62 then Res.ok (rngL 0 (n : Int).toNat) M else .no) = _
  rw [if_pos (by omega), Int.toNat_natCast]
theorem w_tuple {v : PV} {M : Sto} {l : List PV} (h : seqOf M v = some l) : evB "tuple" [v] M = .ok (.tup l) M := by
  unfold evB
  rw [if_neg (by decide +kernel), if_neg (by decide +kernel), if_neg (by decide +kernel), if_neg (by decide +kernel), if_pos rfl]
  show ofO ((seqOf M v).map PV.tup) M = _
  rw [h]; rfl
theorem w_len {v : PV} {M : Sto} {n : Nat} (h : lenOf M v = some n) : evB "len" [v] M = .ok (.int (n : Nat)) M := by
  unfold evB
  rw [if_pos rfl]
  show ofO ((lenOf M v).map fun n => PV.int (n : Nat)) M = _
  rw [h]; rfl
theorem w_min {i j : Int} {M : Sto} : evB "min" [.int i, .int j] M = .ok (.int (if j < i then j else i)) M := by
  unfold evB
  rw [if_neg (by decide +kernel), if_neg (by decide +kernel), if_pos rfl]
theorem w_abs {i : Int} {M : Sto} : evB "abs" [.int i] M = .ok (.int (if i < 0 then -i else i)) M := by
  unfold evB
  rw [if_neg (by decide +kernel), if_pos rfl]
theorem enumL_lines {α : Type} (f : α → PV) (l : List α) : enumL (l.map f) = l.zipIdx.map fun p => .tup [.int (p.2 : Nat), f p.1] := by
  unfold enumL
  rw [List.zipIdx_map, List.map_map]; rfl
theorem s_whl {Γ : Sig} {c : E} {b : Sms} {ρ : PEnv} {M : Sto} (P : Nat → PEnv → Sto → Prop) (D : SRes → Prop) (m : Nat) (hm : m < 100000000) (h0 : P m ρ M)
    (turn : ∀ m ρ M, P m ρ M → (∃ M1, evE Γ c ρ M = .ok (.bl false) M1 ∧ D (.ok .nx ρ M1)) ∨ ∃ M1, evE Γ c ρ M = .ok (.bl true) M1 ∧ ((∃ m' ρ' M', m' < m ∧ (evSs Γ b ρ M1 = .ok .nx ρ' M' ∨ evSs Γ b ρ M1 = .ok .ct ρ' M') ∧ P m' ρ' M') ∨ (∃ ρ' M', evSs Γ b ρ M1 = .ok .bk ρ' M' ∧ D (.ok .nx ρ' M')) ∨ (∃ v ρ' M', evSs Γ b ρ M1 = .ok (.rt v) ρ' M' ∧ D (.ok (.rt v) ρ' M')))) : D (evS Γ (.whl c b) ρ M) := by
  show D (whileL (fun ρ M => asB (evE Γ c ρ M)) (fun ρ M => evSs Γ b ρ M) fuel ρ M)
  refine whileL_inv P D (fun m ρ M hP => ?_) fuel m hm h0
  rcases turn m ρ M hP with ⟨M1, e, d⟩ | ⟨M1, e, t⟩
  · exact .inl ⟨M1, by rw [e]; rfl, d⟩
  · exact .inr ⟨M1, by rw [e]; rfl, t⟩

/-! ### the store grows -/
theorem locL_at {M : Sto} {n : Nat} {l : List PV} (h : M[n]? = some (some (.lst l))) : locL M n = some l := by unfold locL; rw [h]
theorem at_end {M t : Sto} {x : Option MO} : (M ++ x :: t)[M.length]? = some x := by
  rw [List.getElem?_append_right (Nat.le_refl _), Nat.sub_self]; rfl
theorem at_in {M t r : Sto} {x : Option MO} : (M ++ t ++ x :: r)[M.length + t.length]? = some x := by
  rw [← List.length_append]; exact at_end
theorem set_end {M t : Sto} {x y : Option MO} : (M ++ x :: t).set M.length y = M ++ y :: t := by
  rw [List.set_append_right _ _ (Nat.le_refl _), Nat.sub_self]; rfl
theorem w_append {M : Sto} {n : Nat} {l : List PV} {x : PV} (h : locL M n = some l) (hl : l.length < lim) : evM "list" "append" (.loc n) [x] M = .ok .non (M.set n (some (.lst (l ++ [x])))) := by
  unfold evM
  rw [if_pos rfl, if_pos rfl]
  show (match locL M n with
        | some xs => okIf (xs.length < lim) PV.non (M.set n (some (.lst (xs ++ [x]))))
        | none => .no) = _
  rw [h]
  exact if_pos hl
theorem ty_loc {M : Sto} {n : Nat} {l : List PV} (h : locL M n = some l) : tyP "list" (.loc n) M = true := by
  unfold tyP
  rw [if_pos rfl]
  show (locL M n).isSome = true
  rw [h]; rfl
theorem toD_loc {M : Sto} {n : Nat} {l : List Str} (h : locL M n = some (sv l)) : toD M (.loc n) = some (.list (l.map PyData.str)) := by
  show (locL M n).bind (fun l => (toD0L l).map PyData.list) = _
  rw [h]
  show (toD0L (sv l)).map PyData.list = _
  rw [toD0L_str]; rfl
theorem loc_nil {M : Sto} {n : Nat} {l : List Str} (h : locL M n = some (sv l)) : peq M (.loc n) (.lst []) = some (decide (l = [])) := by
  rw [peq_nil (toD_loc h) (by rw [depthAll_str]; decide)]
  congr 1
  rw [decide_eq_decide]; simp
theorem idx_loc {M : Sto} {n i : Nat} {l : List PV} {x : PV} (h : locL M n = some l) (hx : l[i]? = some x) : idxop (.loc n) (.int (i : Int)) M = .ok x M := idx_nat h (fun _ h => nomatch h) hx

/-! ### numbers -/
theorem b_add {i j : Int} {M : Sto} : binop .add (.int i) (.int j) M = .ok (.int (i + j)) M := rfl
theorem b_sub {i j : Int} {M : Sto} : binop .sub (.int i) (.int j) M = .ok (.int (i - j)) M := rfl
theorem b_mod {i j : Int} {M : Sto} (h : 0 < j) : binop .mod (.int i) (.int j) M = .ok (.int (i % j)) M := by
  show okIf (0 < j) (PV.int (i % j)) M = _
  exact if_pos h
theorem b_fdiv {i j : Int} {M : Sto} (h : 0 < j) (h2 : j < 2 ^ 64) : binop .fdiv (.int i) (.int j) M = .ok (.int (i / j)) M := by
  show okIf (0 < j ∧ j < 2 ^ 64) (PV.int (i / j)) M = _
  exact if_pos ⟨h, h2⟩
theorem b_mul {i j : Int} {M : Sto} (h : -(2 ^ 64) < j ∧ j < 2 ^ 64) : binop .mul (.int i) (.int j) M = .ok (.int (i * j)) M := by
  show okIf ((-(2 ^ 64) < i ∧ i < 2 ^ 64) ∨ (-(2 ^ 64) < j ∧ j < 2 ^ 64)) (PV.int (i * j)) M = _
  exact if_pos (.inr h)
theorem b_pow {i j : Int} {M : Sto} (h : 0 ≤ j ∧ j ≤ 1000000 ∧ i.natAbs < 2 ^ 64) : binop .pow (.int i) (.int j) M = .ok (.int (i ^ j.toNat)) M := by
  show okIf (0 ≤ j ∧ j ≤ 1000000 ∧ i.natAbs < 2 ^ 64) (PV.int (i ^ j.toNat)) M = _
  exact if_pos h
theorem c_ge {i j : Int} {M : Sto} : cmpop .ge (.int i) (.int j) M = .ok (.bl (decide (j ≤ i))) M := rfl
theorem c_gt {i j : Int} {M : Sto} : cmpop .gt (.int i) (.int j) M = .ok (.bl (decide (j < i))) M := rfl
theorem c_lt {i j : Int} {M : Sto} : cmpop .lt (.int i) (.int j) M = .ok (.bl (decide (i < j))) M := rfl
theorem c_eqi {i j : Int} {M : Sto} : cmpop .eq (.int i) (.int j) M = .ok (.bl (decide (i = j))) M := eq_of_peq peq_int
theorem ixN_nn {n : Nat} {i : Int} (h0 : 0 ≤ i) (h1 : i < n) : ixN n i = some i.toNat := by
  unfold ixN
  rw [if_pos h0, if_pos h1]
theorem idx_int {M : Sto} {v : PV} {l : List PV} {i : Int} {x : PV} (hv : seqOf M v = some l) (hs : ∀ z, v ≠ .str z) (h0 : 0 ≤ i) (h : l[i.toNat]? = some x) : idxop v (.int i) M = .ok x M := by
  have := idx_nat (M := M) (i := i.toNat) hv hs h
  rwa [Int.toNat_of_nonneg h0] at this
theorem sub_loc {M : Sto} {n : Nat} {l : List PV} {i : Int} {x : PV} (h : locL M n = some l) (h0 : 0 ≤ i) (h1 : i < l.length) : subop (.loc n) (.int i) x M = some (M.set n (some (.lst (l.set i.toNat x)))) := by
  show (match locL M n with
    | some xs => (ixN xs.length i).map fun k => M.set n (some (.lst (xs.set k x)))
    | none => none) = _
  rw [h]
  show (ixN l.length i).map (fun k => M.set n (some (.lst (l.set k x)))) = _
  rw [ixN_nn h0 h1]; rfl

/-! ### a law's draws: a list of cells, a place, a number -/
def St (M : Sto) (s c : Nat) : Prop := ∃ (cells : List Int) (i x : Int), s ≠ c ∧ M[s]? = some (some (.lst [.loc c, .int i, .int x])) ∧ M[c]? = some (some (.lst (cells.map PV.int))) ∧ cells ≠ []
structure Stay (M M' : Sto) (s c : Nat) : Prop where
  len : M.length ≤ M'.length
  at' : ∀ n, n < M.length → n ≠ s → n ≠ c → M'[n]? = M[n]?
section
variable {M M1 M2 : Sto} {s c n : Nat} {o : Option MO}
theorem Stay.refl : Stay M M s c := ⟨Nat.le_refl _, fun _ _ _ _ => rfl⟩
theorem Stay.trans (a : Stay M M1 s c) (b : Stay M1 M2 s c) : Stay M M2 s c := ⟨Nat.le_trans a.len b.len, fun n h h1 h2 => (b.at' n (Nat.lt_of_lt_of_le h a.len) h1 h2).trans (a.at' n h h1 h2)⟩
theorem Stay.app {t : Sto} : Stay M (M ++ t) s c := ⟨by rw [List.length_append]; omega, fun n h _ _ => List.getElem?_append_left h⟩
theorem Stay.set (a : Stay M M1 s c) (h : M.length ≤ n) : Stay M (M1.set n o) s c := ⟨by rw [List.length_set]; exact a.len, fun k hk h1 h2 => by rw [List.getElem?_set_ne (by omega)]; exact a.at' k hk h1 h2⟩
theorem Stay.mine (a : Stay M M1 s c) (h : n = s ∨ n = c) : Stay M (M1.set n o) s c := ⟨by rw [List.length_set]; exact a.len, fun k hk h1 h2 => by rw [List.getElem?_set_ne (by rcases h with rfl | rfl <;> omega)]; exact a.at' k hk h1 h2⟩
theorem St.set (a : St M s c) (h1 : n ≠ s) (h2 : n ≠ c) : St (M.set n o) s c := by
  obtain ⟨cells, i, x, a1, a2, a3, a4⟩ := a
  exact ⟨cells, i, x, a1, by rw [List.getElem?_set_ne h1]; exact a2, by rw [List.getElem?_set_ne h2]; exact a3, a4⟩
theorem St.lt (a : St M s c) : s < M.length ∧ c < M.length := by
  obtain ⟨cells, i, x, a1, a2, a3, a4⟩ := a
  exact ⟨(List.getElem?_eq_some_iff.mp a2).1, (List.getElem?_eq_some_iff.mp a3).1⟩
theorem St.app {t : Sto} (a : St M s c) : St (M ++ t) s c := by
  obtain ⟨l1, l2⟩ := a.lt
  obtain ⟨cells, i, x, a1, a2, a3, a4⟩ := a
  exact ⟨cells, i, x, a1, by rw [List.getElem?_append_left l1]; exact a2, by rw [List.getElem?_append_left l2]; exact a3, a4⟩
end

theorem w_pop {M : Sto} {n : Nat} {l l' : List PV} {i : Int} {x : PV} (h : locL M n = some l) (h0 : 0 ≤ i) (h1 : i < 2 ^ 62) (hx : l[i.toNat]? = some x) (hl : l.eraseIdx i.toNat = l') : evM "list" "pop" (.loc n) [.int i] M = .ok x (M.set n (some (.lst l'))) := by
  unfold evM
  rw [if_pos rfl, if_neg (by decide +kernel), if_pos rfl]
  show (match locL M n with
        | some xs => if 0 ≤ i ∧ i < 2 ^ 62 then (match xs[i.toNat]? with
          | some y => Res.ok y (M.set n (some (.lst (xs.eraseIdx i.toNat))))
          | none => .no) else .no
        | none => .no) = _
  rw [h]
  dsimp only
  rw [if_pos ⟨h0, h1⟩, hx]
  dsimp only
  rw [hl]

theorem sv_erase : ∀ (l : List Str) (n : Nat), (sv l).eraseIdx n = sv (l.eraseIdx n)
  | [], _ => rfl
  | _ :: _, 0 => rfl
  | x :: l, n + 1 => by
    show PV.str x :: (sv l).eraseIdx n = PV.str x :: sv (l.eraseIdx n)
    rw [sv_erase l n]
theorem sub_len : ∀ (l m : List Str), l.Nodup → (∀ x ∈ l, x ∈ m) → l.length ≤ m.length
  | [], _, _, _ => Nat.zero_le _
  | x :: l, m, hn, h => by
    have hx : x ∈ m := h x (by simp)
    have hn := List.nodup_cons.mp hn
    have := sub_len l (m.erase x) hn.2 fun y hy => (List.mem_erase_of_ne (fun q : y = x => hn.1 (by rw [← q]; exact hy))).mpr (h y (by simp [hy]))
    rw [List.length_erase_of_mem hx] at this
    have hp : 0 < m.length := List.length_pos_of_mem hx
    rw [List.length_cons]; omega
theorem pigeon {l m : List Str} (hl : l.Nodup) (h : m.length < l.length) : ∃ x ∈ l, x ∉ m := by
  refine Classical.byContradiction fun q => ?_
  have := sub_len l m hl fun x hx => Classical.byContradiction fun z => q ⟨x, hx, z⟩
  omega
theorem b_addS {x y : Str} {M : Sto} (h : x.length + y.length ≤ lim) : binop .add (.str x) (.str y) M = .ok (.str (x ++ y)) M := by
  show okIf (x.length + y.length ≤ lim) (PV.str (x ++ y)) M = _
  exact if_pos h
theorem b_addL {x y : List PV} {M : Sto} (h : x.length + y.length ≤ lim) : binop .add (.lst x) (.lst y) M = .ok (.lst (x ++ y)) M := by
  show okIf (x.length + y.length ≤ lim) (PV.lst (x ++ y)) M = _
  exact if_pos h
theorem w_join {a : Str} {ys : List Str} {M : Sto} (h : (ys.map (·.length)).sum + ys.length * a.length ≤ lim) : evM "str" "join" (.str a) [.lst (sv ys)] M = .ok (.str (Txt.join a ys)) M := by
  unfold evM
  rw [if_neg (by decide +kernel), if_pos rfl, if_pos rfl]
  show (match strsOf (sv ys) with
        | some ys => okIf ((ys.map fun y : Str => y.length).sum + ys.length * a.length ≤ lim) (PV.str (Txt.join a ys)) M
        | none => .no) = _
  rw [strsOf_sv]
  exact if_pos h
theorem ty_str0 {a : Str} {M : Sto} : tyP "str" (.str a) M = true := by
  unfold tyP
  rw [if_neg (by decide +kernel), if_pos rfl]
theorem cut_len (z : Str) (lo hi : Option Int) : (cutS z lo hi).length ≤ z.length := by
  unfold cutS
  show ((z.cps.toList.drop _).take _).toArray.size ≤ z.cps.size
  rw [List.size_toArray, List.length_take, List.length_drop, Array.length_toList]
  omega
theorem app_inj {x y z : Str} (h : x ++ y = x ++ z) : y = z := by
  obtain ⟨⟨x⟩⟩ := x
  obtain ⟨⟨y⟩⟩ := y
  obtain ⟨⟨z⟩⟩ := z
  have h : (⟨⟨x⟩ ++ ⟨y⟩⟩ : Str) = ⟨⟨x⟩ ++ ⟨z⟩⟩ := h
  injection h with h
  have := congrArg Array.toList h
  simp at this
  rw [this]

theorem e_callK {Γ : Sig} {ρ : PEnv} {M M1 M2 M3 : Sto} {f : Str} {np : Nat} {es vs : Es} {ks : List Str} {perm : List Nat} {l r as : List PV} {v : PV} {F : List PV → Sto → Res PV} (hf : Γ.fn f = some F) (h1 : evEs Γ es ρ M = .ok l M1) (h2 : evEs Γ vs ρ M1 = .ok r M2) (h3 : l.length = np ∧ r.length = ks.length) (h4 : (perm.mapM fun i => (l ++ r)[i]?) = some as) (h5 : F as M2 = .ok v M3) : evE Γ (.callK f np es ks vs perm) ρ M = .ok v M3 := by
  show (evEs Γ es ρ M).bnd _ = _
  rw [h1, bnd_ok, h2, bnd_ok, if_pos h3, hf, h4]
  exact h5
theorem e_isi {Γ : Sig} {ρ : PEnv} {M M1 : Sto} {a : E} {ts : List Str} {v : PV} {b : Bool} (h1 : evE Γ a ρ M = .ok v M1) (h2 : isAny M1 v ts = some b) : evE Γ (.isi a ts) ρ M = .ok (.bl b) M1 := by
  show (evE Γ a ρ M).bnd _ = _
  rw [h1, bnd_ok, h2]; rfl
theorem e_stp {Γ : Sig} {ρ : PEnv} {M M1 M2 : Sto} {a st : E} {v w : PV} {k : Int} (h1 : evE Γ a ρ M = .ok v M1) (h2 : evE Γ st ρ M1 = .ok (.int k) M2) (h3 : stpT v k M2 = .ok w M2) : evE Γ (.stp a st) ρ M = .ok w M2 := by
  show (evE Γ a ρ M).bnd _ = _
  rw [h1, bnd_ok, h2]; exact h3
theorem rngL_len {lo : Int} {n : Nat} : (rngL lo n).length = n := by unfold rngL; simp
end Sk

/-! SkZ: the evaluator, read backwards: what must hold so that an answer serves P. All rules are equations, for simp. -/
namespace Sk
open PySem PySem.Spec L2

def WO {α : Type} (r : Res α) (P : α → Sto → Prop) : Prop := ∃ v M, r = .ok v M ∧ P v M
def WE (Γ : Sig) (e : E) (ρ : PEnv) (M : Sto) (P : PV → Sto → Prop) : Prop := WO (evE Γ e ρ M) P
def WEs (Γ : Sig) (es : Es) (ρ : PEnv) (M : Sto) (P : List PV → Sto → Prop) : Prop := WO (evEs Γ es ρ M) P
def WI (Γ : Sig) (it : It) (ρ : PEnv) (M : Sto) (P : List PV → Sto → Prop) : Prop := WO (evI Γ it ρ M) P
def WS (Γ : Sig) (s : Sm) (ρ : PEnv) (M : Sto) (P : Flo → PEnv → Sto → Prop) : Prop := ∃ f ρ1 M1, evS Γ s ρ M = .ok f ρ1 M1 ∧ P f ρ1 M1
def WSs (Γ : Sig) (s : Sms) (ρ : PEnv) (M : Sto) (P : Flo → PEnv → Sto → Prop) : Prop := ∃ f ρ1 M1, evSs Γ s ρ M = .ok f ρ1 M1 ∧ P f ρ1 M1
/-- the suite behind its first statement -/
def Sms.tl : Sms → Sms
  | .cons _ r => r
  | .nil => .nil
/-- the rest of a suite -/
def Kss (Γ : Sig) (r : Sms) (P : Flo → PEnv → Sto → Prop) (f : Flo) (ρ : PEnv) (M : Sto) : Prop := match f with
  | .nx => WSs Γ r ρ M P
  | f => P f ρ M
def Kif (Γ : Sig) (a b : Sms) (ρ : PEnv) (P : Flo → PEnv → Sto → Prop) (v : PV) (M : Sto) : Prop := match v with
  | .bl true => WSs Γ a ρ M P
  | .bl false => WSs Γ b ρ M P
  | _ => False
def Kde (P : PV → Sto → Prop) (f : Flo) (_ : PEnv) (M : Sto) : Prop := match f with
  | .rt v => P v M
  | .nx => P .non M
  | _ => False
/-- a slice's bound -/
def Wi (Γ : Sig) (e : E) (ρ : PEnv) (M : Sto) (P : Option Int → Sto → Prop) : Prop := if isMiss e then P none M else WE Γ e ρ M fun v M1 => match v with
  | .int i => P (some i) M1
  | _ => False
/-- a def is called -/
def Wc (Γ : Sig) (f : Str) (l : List PV) (M : Sto) (P : PV → Sto → Prop) : Prop := ∃ F v M1, Γ.fn f = some F ∧ F l M = .ok v M1 ∧ P v M1
/-- a truth value -/
def Wb (v : PV) (A B : Prop) : Prop := match v with
  | .bl true => A
  | .bl false => B
  | _ => False
section
variable {Γ : Sig} {ρ ρ1 : PEnv} {M M1 : Sto} {P : PV → Sto → Prop} {PL : List PV → Sto → Prop} {PS : Flo → PEnv → Sto → Prop} {a b c : E} {es : Es} {v w : PV} {l : List PV}
theorem WO_ok {α : Type} {v : α} {P : α → Sto → Prop} : WO (.ok v M) P = P v M := propext ⟨fun ⟨_, _, h, p⟩ => (by cases h; exact p), fun h => ⟨_, _, rfl, h⟩⟩
theorem WO_okIf {α : Type} {v : α} {P : α → Sto → Prop} {c : Prop} [Decidable c] : WO (okIf c v M) P = (c ∧ P v M) := by
  unfold okIf
  split
  · rw [WO_ok]; simp [*]
  · exact propext ⟨fun ⟨_, _, h, _⟩ => (by cases h), fun h => absurd h.1 (by assumption)⟩
theorem WO_ofO {α : Type} {o : Option α} {P : α → Sto → Prop} : WO (ofO o M) P = ∃ v, o = some v ∧ P v M := by
  cases o with
  | none => exact propext ⟨fun ⟨_, _, h, _⟩ => (by cases h), fun ⟨_, h, _⟩ => (by cases h)⟩
  | some v => exact propext ⟨fun ⟨_, _, h, p⟩ => (by cases h; exact ⟨_, rfl, p⟩), fun ⟨_, h, p⟩ => (by cases h; exact ⟨_, _, rfl, p⟩)⟩
theorem WO_bnd {α β : Type} {r : Res α} {k : α → Sto → Res β} {P : β → Sto → Prop} : WO (r.bnd k) P = WO r fun v M1 => WO (k v M1) P := by
  cases r with
  | ok v M => rw [bnd_ok, WO_ok]
  | ex e M => exact propext ⟨fun ⟨_, _, h, _⟩ => (by cases h), fun ⟨_, _, h, _⟩ => (by cases h)⟩
  | no => exact propext ⟨fun ⟨_, _, h, _⟩ => (by cases h), fun ⟨_, _, h, _⟩ => (by cases h)⟩
theorem WO.mono {α : Type} {r : Res α} {P Q : α → Sto → Prop} (h : WO r P) (k : ∀ v M, P v M → Q v M) : WO r Q := let ⟨v, M, e, p⟩ := h; ⟨v, M, e, k v M p⟩
theorem WO_asB {r : Res PV} {P : Bool → Sto → Prop} : WO (asB r) P = WO r fun v M => match v with | .bl b => P b M | _ => False := by
  cases r with
  | ok v M => cases v <;> first | (simp only [asB, WO_ok]; done) | exact propext ⟨fun ⟨_, _, h, _⟩ => (by cases h), fun ⟨_, _, h, p⟩ => (by cases h; exact p.elim)⟩
  | ex e M => exact propext ⟨fun ⟨_, _, h, _⟩ => (by cases h), fun ⟨_, _, h, _⟩ => (by cases h)⟩
  | no => exact propext ⟨fun ⟨_, _, h, _⟩ => (by cases h), fun ⟨_, _, h, _⟩ => (by cases h)⟩
/-! ### expressions -/
theorem WE_var {i : Nat} : WE Γ (.var i) ρ M P = (match ρ[i]? with | some (some v) => P v M | _ => False) := by
  unfold WE
  simp only [evE]
  generalize ρ[i]? = o
  cases o with
  | none => exact propext ⟨fun ⟨_, _, h, _⟩ => (by cases h), False.elim⟩
  | some o => cases o with
    | none => exact propext ⟨fun ⟨_, _, h, _⟩ => (by cases h), False.elim⟩
    | some v => exact WO_ok
theorem WE_non : WE Γ .non ρ M P = P .non M := WO_ok
theorem WE_bl {b : Bool} : WE Γ (.bl b) ρ M P = P (.bl b) M := WO_ok
theorem WE_int {i : Int} : WE Γ (.int i) ρ M P = P (.int i) M := WO_ok
theorem WE_str {x : Str} : WE Γ (.str x) ρ M P = P (.str x) M := WO_ok
theorem WE_miss : WE Γ .miss ρ M P = P (.bl true) M := WO_ok
theorem WE_bin {o : BO} : WE Γ (.bin o a b) ρ M P = WE Γ a ρ M fun v M1 => WE Γ b ρ M1 fun w M2 => WO (binop o v w M2) P := by
  unfold WE; simp only [evE, WO_bnd]
theorem WE_cmp {o : CO} : WE Γ (.cmp o a b) ρ M P = WE Γ a ρ M fun v M1 => WE Γ b ρ M1 fun w M2 => WO (cmpop o v w M2) P := by
  unfold WE; simp only [evE, WO_bnd]
theorem WE_cmx {o : CO} : WE Γ (.cmx o a b) ρ M P = WE Γ a ρ M fun v M1 => WE Γ b ρ M1 fun w M2 => WO (cmpopX o v w M2) P := by
  unfold WE; simp only [evE, WO_bnd]
theorem WE_up : WE Γ (.up a) ρ M P = WE Γ a ρ M fun v M1 => WO (upP v M1) P := by
  unfold WE; simp only [evE, WO_bnd]
theorem WE_glb {x : Str} : WE Γ (.glb x) ρ M P = WO (ofO (Γ.con x) M) P := by
  unfold WE; simp only [evE]
theorem WE_addM : WE Γ (.addM a b) ρ M P = WE Γ a ρ M fun v M1 => WE Γ b ρ M1 fun w M2 => WO (addmP v w M2) P := by
  unfold WE; simp only [evE, WO_bnd]
theorem WE_idx : WE Γ (.idx a b) ρ M P = WE Γ a ρ M fun v M1 => WE Γ b ρ M1 fun w M2 => WO (idxop v w M2) P := by
  unfold WE; simp only [evE, WO_bnd]
theorem WE_tup : WE Γ (.tup es) ρ M P = WEs Γ es ρ M fun l M1 => l.length ≤ lim ∧ P (.tup l) M1 := by
  unfold WE WEs; simp only [evE, WO_bnd, WO_okIf]
theorem WE_lst : WE Γ (.lst false es) ρ M P = WEs Γ es ρ M fun l M1 => l.length ≤ lim ∧ P (.lst l) M1 := by
  unfold WE WEs; simp only [evE, WO_bnd]
  congr 1; funext l M1
  split
  · rename_i h; rw [show mkL false l M1 = .ok (.lst l) M1 from rfl, WO_ok]; simp [h]
  · rename_i h; exact propext ⟨fun ⟨_, _, z, _⟩ => (by cases z), fun z => absurd z.1 h⟩
theorem WE_lstM : WE Γ (.lst true es) ρ M P = WEs Γ es ρ M fun l M1 => l.length ≤ lim ∧ P (.loc M1.length) (M1 ++ [some (.lst l)]) := by
  unfold WE WEs; simp only [evE, WO_bnd]
  congr 1; funext l M1
  split
  · rename_i h; rw [show mkL true l M1 = .ok (.loc M1.length) (M1 ++ [some (.lst l)]) from rfl, WO_ok]; simp [h]
  · rename_i h; exact propext ⟨fun ⟨_, _, z, _⟩ => (by cases z), fun z => absurd z.1 h⟩
theorem WE_neg : WE Γ (.neg a) ρ M P = WE Γ a ρ M fun v M1 => match v with | .int i => P (.int (-i)) M1 | _ => False := by
  unfold WE; simp only [evE, WO_bnd]
  congr 1; funext v M1
  cases v <;> first | exact WO_ok | exact propext ⟨fun ⟨_, _, z, _⟩ => (by cases z), False.elim⟩
theorem WE_and : WE Γ (.and a b) ρ M P = WE Γ a ρ M fun v M1 => Wb v (WE Γ b ρ M1 P) (P (.bl false) M1) := by
  unfold WE; simp only [evE, WO_bnd, WO_asB]
  congr 1; funext v M1
  cases v with
  | bl k => cases k <;> simp [Wb, WO_ok]
  | _ => rfl
theorem WE_or : WE Γ (.or a b) ρ M P = WE Γ a ρ M fun v M1 => Wb v (P (.bl true) M1) (WE Γ b ρ M1 P) := by
  unfold WE; simp only [evE, WO_bnd, WO_asB]
  congr 1; funext v M1
  cases v with
  | bl k => cases k <;> simp [Wb, WO_ok]
  | _ => rfl
theorem WE_not : WE Γ (.not a) ρ M P = WE Γ a ρ M fun v M1 => match v with | .bl k => P (.bl (!k)) M1 | _ => False := by
  unfold WE; simp only [evE, WO_bnd, WO_asB, WO_ok]
theorem WE_ite : WE Γ (.ite c a b) ρ M P = WE Γ c ρ M fun v M1 => Wb v (WE Γ a ρ M1 P) (WE Γ b ρ M1 P) := by
  unfold WE; simp only [evE, WO_bnd, WO_asB]
  congr 1; funext v M1
  cases v with
  | bl k => cases k <;> simp [Wb]
  | _ => rfl
theorem WE_chn {o o' : CO} : WE Γ (.chn o o' a b c) ρ M P = WE Γ a ρ M fun v M1 => WE Γ b ρ M1 fun w M2 => WO (cmpop o v w M2) fun k M3 => Wb k (WE Γ c ρ M3 fun z M4 => WO (cmpop o' w z M4) P) (P (.bl false) M3) := by
  unfold WE; simp only [evE, WO_bnd, WO_asB]
  congr 1; funext v M1; congr 1; funext w M2; congr 1; funext k M3
  cases k with
  | bl k => cases k <;> simp [Wb, WO_ok, WO_bnd]
  | _ => rfl
theorem WE_slc {lo hi : E} : WE Γ (.slc a lo hi) ρ M P = WE Γ a ρ M fun v M1 => Wi Γ lo ρ M1 fun l M2 => Wi Γ hi ρ M2 fun h M3 => WO (slcop v l h M3) P := by
  have asI_w : ∀ (r : Res PV) (Q : Option Int → Sto → Prop), WO (asI r) Q = WO r fun v M1 => match v with
      | .int i => Q (some i) M1
      | _ => False := fun r Q => by
    cases r with
    | ok v M => cases v <;> first | (simp only [asI, WO_ok]; done) | exact propext ⟨fun ⟨_, _, h, _⟩ => (by cases h), fun ⟨_, _, h, p⟩ => (by cases h; exact p.elim)⟩
    | ex e M => exact propext ⟨fun ⟨_, _, h, _⟩ => (by cases h), fun ⟨_, _, h, _⟩ => (by cases h)⟩
    | no => exact propext ⟨fun ⟨_, _, h, _⟩ => (by cases h), fun ⟨_, _, h, _⟩ => (by cases h)⟩
  unfold WE; simp only [evE, WO_bnd]
  congr 1; funext v M1
  unfold Wi
  have part : ∀ (e : E) (M : Sto) (Q : Option Int → Sto → Prop), WO (if isMiss e then (Res.ok none M : Res (Option Int)) else asI (evE Γ e ρ M)) Q = if isMiss e then Q none M else WE Γ e ρ M fun v M1 => match v with
      | .int i => Q (some i) M1
      | _ => False := fun e M Q => by
    split
    · exact WO_ok
    · exact asI_w _ _
  rw [part]
  congr 1
  · rw [part]
  · congr 1; funext v M2
    cases v with
    | int i => exact part _ _ _
    | _ => rfl
theorem WE_call {f : Str} : WE Γ (.call f es) ρ M P = WEs Γ es ρ M fun l M1 => Wc Γ f l M1 P := by
  unfold WE WEs; simp only [evE, WO_bnd]
  congr 1; funext l M1
  unfold Wc
  cases e : Γ.fn f with
  | none => exact propext ⟨fun ⟨_, _, z, _⟩ => (by cases z), fun ⟨_, _, _, z, _⟩ => (by cases z)⟩
  | some F => exact propext ⟨fun ⟨v, M2, z, p⟩ => ⟨F, v, M2, rfl, z, p⟩, fun ⟨F', v, M2, z, q, p⟩ => (by cases z; exact ⟨v, M2, q, p⟩)⟩
theorem WE_callK {f : Str} {np : Nat} {vs : Es} {ks : List Str} {perm : List Nat} : WE Γ (.callK f np es ks vs perm) ρ M P = WEs Γ es ρ M fun l M1 => WEs Γ vs ρ M1 fun r M2 => (l.length = np ∧ r.length = ks.length) ∧ ∃ as, perm.mapM (fun i => (l ++ r)[i]?) = some as ∧ Wc Γ f as M2 P := by
  unfold WE WEs; simp only [evE, WO_bnd]
  congr 1; funext l M1; congr 1; funext r M2
  split
  · rename_i h
    simp only [h, true_and, and_self]
    unfold callKP Wc
    cases e : Γ.fn f with
    | none => exact propext ⟨fun ⟨_, _, z, _⟩ => (by cases z), fun ⟨_, _, _, _, _, z, _⟩ => (by cases z)⟩
    | some F => cases e2 : perm.mapM (fun i => (l ++ r)[i]?) with
      | none => exact propext ⟨fun ⟨_, _, z, _⟩ => (by cases z), fun ⟨_, z, _⟩ => (by cases z)⟩
      | some as => exact propext ⟨fun ⟨v, M2, z, p⟩ => ⟨as, rfl, F, v, M2, rfl, z, p⟩, fun ⟨_, z0, F', v, M2, z, q, p⟩ => (by cases z0; cases z; exact ⟨v, M2, q, p⟩)⟩
  · rename_i h
    exact propext ⟨fun ⟨_, _, z, _⟩ => (by cases z), fun z => absurd z.1 h⟩
theorem WE_blt {f : Str} : WE Γ (.blt f es) ρ M P = WEs Γ es ρ M fun l M1 => WO (evB f l M1) P := by
  unfold WE WEs; simp only [evE, WO_bnd]
theorem WE_lof {m : Bool} : WE Γ (.lof m es) ρ M P = WEs Γ es ρ M fun l M1 => WO (lofP m l M1) P := by
  unfold WE WEs; simp only [evE, WO_bnd]
theorem WE_lr {m : Bool} : WE Γ (.lr m a b) ρ M P = WE Γ a ρ M fun v M1 => WE Γ b ρ M1 fun w M2 => WO (lrP m v w M2) P := by
  unfold WE; simp only [evE, WO_bnd]
theorem WE_lz : WE Γ (.lz a b) ρ M P = WE Γ a ρ M fun v M1 => WE Γ b ρ M1 fun w M2 => WO (lzP v w M2) P := by
  unfold WE; simp only [evE, WO_bnd]
theorem WO_noex {α : Type} {r : Res α} {P : α → Sto → Prop} : WO (noex r) P = WO r P := by
  cases r with
  | ex e M => exact propext ⟨fun ⟨_, _, h, _⟩ => (by cases h), fun ⟨_, _, h, _⟩ => (by cases h)⟩
  | _ => rfl
theorem WE_dsp {m : Bool} : WE Γ (.dsp m es) ρ M P = WEs Γ es ρ M fun l M1 => WO (dspP m l M1) P := by
  unfold WE WEs; simp only [evE, WO_bnd, WO_noex]
theorem WE_dof {m : Bool} : WE Γ (.dof m es) ρ M P = WEs Γ es ρ M fun l M1 => WO (dofP m l M1) P := by
  unfold WE WEs; simp only [evE, WO_bnd]
theorem WE_isi {ts : List Str} : WE Γ (.isi a ts) ρ M P = WE Γ a ρ M fun v M1 => ∃ b, isAny M1 v ts = some b ∧ P (.bl b) M1 := by
  unfold WE; simp only [evE, WO_bnd, WO_ofO]
  congr 1; funext v M1
  simp only [Option.map_eq_some_iff]
  exact propext ⟨fun ⟨_, ⟨b, h, e⟩, p⟩ => ⟨b, h, by rw [e]; exact p⟩, fun ⟨b, h, p⟩ => ⟨_, ⟨b, h, rfl⟩, p⟩⟩
theorem WE_mth {T m : Str} : WE Γ (.mth T m a es) ρ M P = WE Γ a ρ M fun v M1 => tyP T v M1 = true ∧ WEs Γ es ρ M1 fun l M2 => WO (evM T m v l M2) P := by
  unfold WE WEs; simp only [evE, WO_bnd]
  congr 1; funext v M1
  split
  · rename_i h; simp only [h, WO_bnd, true_and]
  · rename_i h; exact propext ⟨fun ⟨_, _, z, _⟩ => (by cases z), fun z => absurd z.1 h⟩
theorem WEs_nil : WEs Γ .nil ρ M PL = PL [] M := WO_ok
theorem WEs_cons : WEs Γ (.cons a es) ρ M PL = WE Γ a ρ M fun v M1 => WEs Γ es ρ M1 fun l M2 => PL (v :: l) M2 := by
  unfold WE WEs; simp only [evEs, WO_bnd, WO_ok]
theorem WEs_star : WEs Γ (.star a es) ρ M PL = WE Γ a ρ M fun v M1 => ∃ xs, seqOf M1 v = some xs ∧ WEs Γ es ρ M1 fun l M2 => PL (xs ++ l) M2 := by
  unfold WE WEs; simp only [evEs, WO_bnd]
  congr 1; funext v M1
  split
  · rename_i xs h
    simp only [WO_bnd, WO_ok, h, Option.some.injEq]
    exact propext ⟨fun z => ⟨xs, rfl, z⟩, fun ⟨_, e, z⟩ => (by cases e; exact z)⟩
  · rename_i h
    exact propext ⟨fun ⟨_, _, z, _⟩ => (by cases z), fun ⟨_, z, _⟩ => by rw [h] at z; cases z⟩
theorem WI_seq : WI Γ (.seq a) ρ M PL = WE Γ a ρ M fun v M1 => ∃ l, itemsOf M1 v = some l ∧ PL l M1 := by
  unfold WE WI; simp only [evI, WO_bnd, WO_ofO]
theorem WI_fn {f : Str} {n : Nat} : WI Γ (.fn f n es) ρ M PL = WEs Γ es ρ M fun l M1 => l.length = n ∧ WO (evIt f l M1) PL := by
  unfold WEs WI; simp only [evI, WO_bnd]
  congr 1; funext l M1
  split
  · rename_i h; simp only [h, true_and]
  · rename_i h; exact propext ⟨fun ⟨_, _, z, _⟩ => (by cases z), fun z => absurd z.1 h⟩
theorem Wb_t {A B : Prop} : Wb (.bl true) A B = A := rfl
theorem Wb_f {A B : Prop} : Wb (.bl false) A B = B := rfl
theorem Wb_d {p A B : Prop} [Decidable p] : Wb (.bl (decide p)) A B = ((p → A) ∧ (¬ p → B)) := by
  by_cases h : p
  · rw [decide_eq_true h]; exact propext ⟨fun z => ⟨fun _ => z, fun n => absurd h n⟩, fun z => z.1 h⟩
  · rw [decide_eq_false h]; exact propext ⟨fun z => ⟨fun n => absurd n h, fun _ => z⟩, fun z => z.2 h⟩
theorem Wb_n {k : Bool} {A B : Prop} : Wb (.bl (!k)) A B = Wb (.bl k) B A := by cases k <;> rfl

/-! ### statements -/
theorem WSs_nil : WSs Γ .nil ρ M PS = PS .nx ρ M := propext ⟨fun ⟨_, _, _, h, p⟩ => (by cases h; exact p), fun h => ⟨_, _, _, rfl, h⟩⟩
theorem WSs_cons {s : Sm} {r : Sms} : WSs Γ (.cons s r) ρ M PS = WS Γ s ρ M (Kss Γ r PS) := by
  unfold WSs WS
  simp only [evSs]
  cases h : evS Γ s ρ M with
  | ok f ρ1 M1 =>
    cases f with
    | nx => exact propext ⟨fun z => ⟨_, _, _, rfl, z⟩, fun ⟨_, _, _, e, z⟩ => (by cases e; exact z)⟩
    | _ => exact propext ⟨fun ⟨_, _, _, e, z⟩ => (by cases e; exact ⟨_, _, _, rfl, z⟩), fun ⟨_, _, _, e, z⟩ => (by cases e; exact ⟨_, _, _, rfl, z⟩)⟩
  | ex e ρ1 M1 => exact propext ⟨fun ⟨_, _, _, e, _⟩ => (by cases e), fun ⟨_, _, _, e, _⟩ => (by cases e)⟩
  | no => exact propext ⟨fun ⟨_, _, _, e, _⟩ => (by cases e), fun ⟨_, _, _, e, _⟩ => (by cases e)⟩
theorem Kss_nx {r : Sms} : Kss Γ r PS .nx ρ M = WSs Γ r ρ M PS := rfl
theorem Kss_rt {r : Sms} : Kss Γ r PS (.rt v) ρ M = PS (.rt v) ρ M := rfl
theorem Kss_bk {r : Sms} : Kss Γ r PS .bk ρ M = PS .bk ρ M := rfl
theorem Kss_ct {r : Sms} : Kss Γ r PS .ct ρ M = PS .ct ρ M := rfl
theorem Kif_t {q r : Sms} : Kif Γ q r ρ PS (.bl true) M = WSs Γ q ρ M PS := rfl
theorem Kif_f {q r : Sms} : Kif Γ q r ρ PS (.bl false) M = WSs Γ r ρ M PS := rfl
theorem Kif_n {q r : Sms} {k : Bool} : Kif Γ q r ρ PS (.bl (!k)) M = Kif Γ r q ρ PS (.bl k) M := by cases k <;> rfl
theorem Kde_rt {P : PV → Sto → Prop} : Kde P (.rt v) ρ M = P v M := rfl
theorem Kde_nx {P : PV → Sto → Prop} : Kde P .nx ρ M = P .non M := rfl
theorem WS_sb {r : Res PV} {k : PV → Sto → SRes} : (∃ f ρ1 M1, r.sb ρ k = .ok f ρ1 M1 ∧ PS f ρ1 M1) = WO r fun v M => ∃ f ρ1 M1, k v M = .ok f ρ1 M1 ∧ PS f ρ1 M1 := by
  cases r with
  | ok v M => rw [WO_ok, sb_ok]
  | ex e M => exact propext ⟨fun ⟨_, _, _, e, _⟩ => (by cases e), fun ⟨_, _, e, _⟩ => (by cases e)⟩
  | no => exact propext ⟨fun ⟨_, _, _, e, _⟩ => (by cases e), fun ⟨_, _, e, _⟩ => (by cases e)⟩
theorem ok_ex {f : Flo} : (∃ f' ρ1 M1, SRes.ok f ρ M = .ok f' ρ1 M1 ∧ PS f' ρ1 M1) = PS f ρ M := propext ⟨fun ⟨_, _, _, e, p⟩ => (by cases e; exact p), fun p => ⟨_, _, _, rfl, p⟩⟩
theorem WS_asg {i : Nat} : WS Γ (.asg i a) ρ M PS = WE Γ a ρ M fun v M1 => PS .nx (ρ.set i (some v)) M1 := by
  unfold WS WE; simp only [evS, WS_sb, ok_ex]
theorem WS_ret : WS Γ (.ret a) ρ M PS = WE Γ a ρ M fun v M1 => PS (.rt v) ρ M1 := by
  unfold WS WE; simp only [evS, WS_sb, ok_ex]
theorem WS_retN : WS Γ .retN ρ M PS = PS (.rt .non) ρ M := by unfold WS; simp only [evS, ok_ex]
theorem WS_exp : WS Γ (.exp a) ρ M PS = WE Γ a ρ M fun v M1 => PS .nx ρ M1 := by
  unfold WS WE; simp only [evS, WS_sb, ok_ex]
theorem WS_pas : WS Γ .pas ρ M PS = PS .nx ρ M := by unfold WS; simp only [evS, ok_ex]
theorem WS_brk : WS Γ .brk ρ M PS = PS .bk ρ M := by unfold WS; simp only [evS, ok_ex]
theorem WS_cnt : WS Γ .cnt ρ M PS = PS .ct ρ M := by unfold WS; simp only [evS, ok_ex]
theorem WS_asgT {t : Tgs} : WS Γ (.asgT t a) ρ M PS = WE Γ a ρ M fun v M1 => ∃ ρ1, bindG (.tp t) v ρ = some ρ1 ∧ PS .nx ρ1 M1 := by
  unfold WS WE; simp only [evS, WS_sb]
  congr 1; funext v M1
  split
  · rename_i ρ1 h; rw [ok_ex, h]; exact propext ⟨fun p => ⟨_, rfl, p⟩, fun ⟨_, e, p⟩ => (by cases e; exact p)⟩
  · rename_i h; exact propext ⟨fun ⟨_, _, _, z, _⟩ => (by cases z), fun ⟨_, z, _⟩ => by rw [h] at z; cases z⟩
theorem WS_asgS {i j : Nat} : WS Γ (.asgS i j a) ρ M PS = WE Γ a ρ M fun v M1 => match v with | .tup (x :: xs) => PS .nx ((ρ.set i (some x)).set j (some (.lst xs))) M1 | _ => False := by
  unfold WS WE; simp only [evS, WS_sb]
  congr 1; funext v M1
  unfold starP
  cases v with
  | tup l =>
    cases l with
    | nil => exact propext ⟨fun ⟨_, _, _, z, _⟩ => (by cases z), False.elim⟩
    | cons x xs => exact ok_ex
  | _ => exact propext ⟨fun ⟨_, _, _, z, _⟩ => (by cases z), False.elim⟩
theorem WS_par {is : List Nat} : WS Γ (.par is es) ρ M PS = WEs Γ es ρ M fun l M1 => ∃ ρ1, setAll ρ is l = some ρ1 ∧ PS .nx ρ1 M1 := by
  unfold WS WEs; simp only [evS]
  cases evEs Γ es ρ M with
  | ex e M => exact propext ⟨fun ⟨_, _, _, e, _⟩ => (by cases e), fun ⟨_, _, e, _⟩ => (by cases e)⟩
  | no => exact propext ⟨fun ⟨_, _, _, e, _⟩ => (by cases e), fun ⟨_, _, e, _⟩ => (by cases e)⟩
  | ok l M1 =>
    rw [WO_ok, sb_ok]
    split
    · rename_i ρ1 h; rw [ok_ex, h]; exact propext ⟨fun p => ⟨_, rfl, p⟩, fun ⟨_, e, p⟩ => (by cases e; exact p)⟩
    · rename_i h; exact propext ⟨fun ⟨_, _, _, z, _⟩ => (by cases z), fun ⟨_, z, _⟩ => by rw [h] at z; cases z⟩
theorem WS_sub {o i x : E} : WS Γ (.sub o i x) ρ M PS = WE Γ x ρ M fun w M1 => WE Γ o ρ M1 fun y M2 => WE Γ i ρ M2 fun z M3 => ∃ M4, subop y z w M3 = some M4 ∧ PS .nx ρ M4 := by
  unfold WS WE; simp only [evS, WS_sb]
  congr 1; funext w M1; congr 1; funext y M2; congr 1; funext z M3
  split
  · rename_i M4 h; rw [ok_ex, h]; exact propext ⟨fun p => ⟨_, rfl, p⟩, fun ⟨_, e, p⟩ => (by cases e; exact p)⟩
  · rename_i h; exact propext ⟨fun ⟨_, _, _, z, _⟩ => (by cases z), fun ⟨_, z, _⟩ => by rw [h] at z; cases z⟩
theorem WS_ifs {q r : Sms} : WS Γ (.ifs c q r) ρ M PS = WE Γ c ρ M (Kif Γ q r ρ PS) := by
  unfold WS WE; simp only [evS]
  cases evE Γ c ρ M with
  | ex e M => exact propext ⟨fun ⟨_, _, _, e, _⟩ => (by cases e), fun ⟨_, _, e, _⟩ => (by cases e)⟩
  | no => exact propext ⟨fun ⟨_, _, _, e, _⟩ => (by cases e), fun ⟨_, _, e, _⟩ => (by cases e)⟩
  | ok v M1 =>
    rw [WO_ok]
    cases v with
    | bl k => cases k <;> simp [asB, Kif, WSs]
    | _ => exact propext ⟨fun ⟨_, _, _, z, _⟩ => (by cases z), False.elim⟩
theorem WS_frz {i : Nat} : WS Γ (.frz i) ρ M PS = (match ρ[i]? with | some (some (.loc n)) => ∃ l, locL M n = some l ∧ PS .nx (ρ.set i (some (.lst l))) (M.set n none) | _ => False) := by
  unfold WS; simp only [evS]
  generalize ρ[i]? = o
  match o with
  | none => exact propext ⟨fun ⟨_, _, _, z, _⟩ => (by cases z), False.elim⟩
  | some none => exact propext ⟨fun ⟨_, _, _, z, _⟩ => (by cases z), False.elim⟩
  | some (some v) =>
    cases v with
    | loc n =>
      show _ = ∃ l, locL M n = some l ∧ PS .nx (ρ.set i (some (.lst l))) (M.set n none)
      dsimp only
      cases locL M n with
      | none => exact propext ⟨fun ⟨_, _, _, z, _⟩ => (by cases z), fun ⟨_, z, _⟩ => (by cases z)⟩
      | some l => rw [ok_ex]; exact propext ⟨fun p => ⟨_, rfl, p⟩, fun ⟨_, e, p⟩ => (by cases e; exact p)⟩
    | _ => exact propext ⟨fun ⟨_, _, _, z, _⟩ => (by cases z), False.elim⟩
theorem WS.mono {s : Sm} {P Q : Flo → PEnv → Sto → Prop} (h : WS Γ s ρ M P) (k : ∀ f ρ M, P f ρ M → Q f ρ M) : WS Γ s ρ M Q := let ⟨f, r, m, e, p⟩ := h; ⟨f, r, m, e, k f r m p⟩
theorem WSs.mono {s : Sms} {P Q : Flo → PEnv → Sto → Prop} (h : WSs Γ s ρ M P) (k : ∀ f ρ M, P f ρ M → Q f ρ M) : WSs Γ s ρ M Q := let ⟨f, r, m, e, p⟩ := h; ⟨f, r, m, e, k f r m p⟩
theorem WE.mono {P Q : PV → Sto → Prop} (h : WE Γ a ρ M P) (k : ∀ f M, P f M → Q f M) : WE Γ a ρ M Q := WO.mono h k
theorem Wc.mk {f : Str} {F : List PV → Sto → Res PV} (h : Γ.fn f = some F) (h2 : F l M = .ok v M1) (p : P v M1) : Wc Γ f l M P := ⟨F, v, M1, h, h2, p⟩
theorem Wc.go {f : Str} {F : List PV → Sto → Res PV} (h : Γ.fn f = some F) (h2 : WO (F l M) P) : Wc Γ f l M P := let ⟨v, M1, e, p⟩ := h2; ⟨F, v, M1, h, e, p⟩
/-- a def -/
theorem WO_df {d : Df} (hl : l.length = d.np) : WO (d.ev Γ l M) P = WSs Γ d.body (l.map some ++ List.replicate (d.nn - d.np) none) M (Kde P) := by
  unfold Df.ev
  rw [if_pos hl]
  unfold WSs
  cases evSs Γ d.body (l.map some ++ List.replicate (d.nn - d.np) none) M with
  | no => exact propext ⟨fun ⟨_, _, z, _⟩ => (by cases z), fun ⟨_, _, _, z, _⟩ => (by cases z)⟩
  | ex e ρ1 M1 => exact propext ⟨fun ⟨_, _, z, _⟩ => (by cases z), fun ⟨_, _, _, z, _⟩ => (by cases z)⟩
  | ok f ρ1 M1 =>
    cases f with
    | rt v => exact propext ⟨fun ⟨_, _, z, p⟩ => (by cases z; exact ⟨_, _, _, rfl, p⟩), fun ⟨_, _, _, z, p⟩ => (by cases z; exact ⟨_, _, rfl, p⟩)⟩
    | nx => exact propext ⟨fun ⟨_, _, z, p⟩ => (by cases z; exact ⟨_, _, _, rfl, p⟩), fun ⟨_, _, _, z, p⟩ => (by cases z; exact ⟨_, _, rfl, p⟩)⟩
    | bk => exact propext ⟨fun ⟨_, _, z, p⟩ => (by cases z), fun ⟨_, _, _, z, p⟩ => (by cases z; exact p.elim)⟩
    | ct => exact propext ⟨fun ⟨_, _, z, p⟩ => (by cases z), fun ⟨_, _, _, z, p⟩ => (by cases z; exact p.elim)⟩
/-! ### loops -/
def Lp (Γ : Sig) (tg : Tg) (q : Sms) (I : Nat → PEnv → Sto → Prop) (items : List PV) : Prop := ∀ j x ρ M, items[j]? = some x → I j ρ M → ∃ ρ2, bindG tg x ρ = some ρ2 ∧ WSs Γ q ρ2 M fun f ρ3 M3 => (f = .nx ∨ f = .ct) ∧ I (j + 1) ρ3 M3
def Lf (I : Nat → PEnv → Sto → Prop) (n : Nat) (PS : Flo → PEnv → Sto → Prop) : Prop := ∀ ρ2 M2, I n ρ2 M2 → PS .nx ρ2 M2
theorem WS_for {tg : Tg} {it : It} {q : Sms} (I : Nat → PEnv → Sto → Prop) (h : WI Γ it ρ M fun items M1 => I 0 ρ M1 ∧ Lp Γ tg q I items ∧ Lf I items.length PS) : WS Γ (.for' tg it q) ρ M PS := by
  obtain ⟨items, M1, e, h0, h1, h2⟩ := h
  obtain ⟨ρ', M', e2, h3⟩ := s_for (Γ := Γ) (tg := tg) (b := q) I e h0 (fun j x ρ M hx hI => by
    obtain ⟨ρ2, e1, f, ρ3, M3, e3, hf, hI⟩ := h1 j x ρ M hx hI
    exact ⟨ρ2, e1, f, ρ3, M3, e3, hf, hI⟩)
  exact ⟨.nx, ρ', M', e2, h2 ρ' M' h3⟩
/-- a loop that may break or return -/
def Lb (Γ : Sig) (tg : Tg) (q : Sms) (I : Nat → PEnv → Sto → Prop) (items : List PV) (PS : Flo → PEnv → Sto → Prop) : Prop := ∀ j x ρ M, items[j]? = some x → I j ρ M → ∃ ρ2, bindG tg x ρ = some ρ2 ∧ WSs Γ q ρ2 M fun f ρ3 M3 => match f with
  | .nx => I (j + 1) ρ3 M3
  | .ct => I (j + 1) ρ3 M3
  | .bk => PS .nx ρ3 M3
  | .rt v => PS (.rt v) ρ3 M3
theorem WS_forB {tg : Tg} {it : It} {q : Sms} (I : Nat → PEnv → Sto → Prop) (h : WI Γ it ρ M fun items M1 => I 0 ρ M1 ∧ Lb Γ tg q I items PS ∧ Lf I items.length PS) : WS Γ (.for' tg it q) ρ M PS := by
  obtain ⟨items, M1, e, h0, h1, h2⟩ := h
  have loop : ∀ (l : List PV) (j : Nat) (ρ : PEnv) (M2 : Sto), j ≤ items.length → items.drop j = l → I j ρ M2 → ∃ f ρ3 M3, forL (fun x ρ M => match bindG tg x ρ with
    | some ρ1 => evSs Γ q ρ1 M
    | none => .no) l ρ M2 = .ok f ρ3 M3 ∧ PS f ρ3 M3 := by
    intro l
    induction l with
    | nil =>
      intro j ρ M2 hle hd hI
      have hj : items.length ≤ j := List.drop_eq_nil_iff.mp hd
      obtain rfl : j = items.length := by omega
      exact ⟨.nx, ρ, M2, rfl, h2 _ _ hI⟩
    | cons x l ih =>
      intro j ρ M2 hle hd hI
      have hx : items[j]? = some x := by rw [← List.head?_drop, hd]; rfl
      have hlt : j + 1 ≤ items.length := (List.getElem?_eq_some_iff.mp hx).1
      have hd2 : items.drop (j + 1) = l := by rw [← List.tail_drop, hd]; rfl
      obtain ⟨ρ2, hb, f, ρ3, M3, eq, q⟩ := h1 j x ρ M2 hx hI
      unfold forL
      simp only [hb, eq]
      cases f with
      | nx => exact ih (j + 1) ρ3 M3 hlt hd2 q
      | ct => exact ih (j + 1) ρ3 M3 hlt hd2 q
      | bk => exact ⟨.nx, ρ3, M3, rfl, q⟩
      | rt v => exact ⟨.rt v, ρ3, M3, rfl, q⟩
  obtain ⟨f, ρ3, M3, e2, p⟩ := loop items 0 ρ M1 (Nat.zero_le _) rfl h0
  refine ⟨f, ρ3, M3, ?_, p⟩
  show (evI Γ it ρ M).sb ρ _ = _
  rw [e]; exact e2
theorem Kif_cut {q r : Sms} (I : PEnv → Sto → Prop) (h1 : Kif Γ q r ρ (fun f ρ' M' => f = .nx ∧ I ρ' M') v M) (h2 : ∀ ρ' M', I ρ' M' → PS .nx ρ' M') : Kif Γ q r ρ PS v M := by
  cases v with
  | bl k => cases k with
    | true => exact WSs.mono h1 fun f ρ M ⟨e, h⟩ => by subst e; exact h2 _ _ h
    | false => exact WSs.mono h1 fun f ρ M ⟨e, h⟩ => by subst e; exact h2 _ _ h
  | _ => exact h1.elim
theorem Kif_d {q r : Sms} {p : Prop} [Decidable p] : Kif Γ q r ρ PS (.bl (decide p)) M = ((p → WSs Γ q ρ M PS) ∧ (¬ p → WSs Γ r ρ M PS)) := by
  by_cases h : p
  · rw [decide_eq_true h]; exact propext ⟨fun z => ⟨fun _ => z, fun n => absurd h n⟩, fun z => z.1 h⟩
  · rw [decide_eq_false h]; exact propext ⟨fun z => ⟨fun n => absurd n h, fun _ => z⟩, fun z => z.2 h⟩
theorem WS_cut {s : Sm} (I : PEnv → Sto → Prop) (h1 : WS Γ s ρ M fun f ρ' M' => f = .nx ∧ I ρ' M') (h2 : ∀ ρ' M', I ρ' M' → PS .nx ρ' M') : WS Γ s ρ M PS := WS.mono h1 fun f ρ M ⟨e, h⟩ => by subst e; exact h2 _ _ h
end

end Sk
namespace Sk
open PySem PySem.Spec L2
section
variable {M : Sto} {P : PV → Sto → Prop} {i j : Int} {x y : Str} {v w : PV}
theorem WO_addi : WO (binop .add (.int i) (.int j) M) P = P (.int (i + j)) M := WO_ok
theorem WO_subi : WO (binop .sub (.int i) (.int j) M) P = P (.int (i - j)) M := WO_ok
theorem WO_muli : WO (binop .mul (.int i) (.int j) M) P = (((-(2 ^ 64) < i ∧ i < 2 ^ 64) ∨ (-(2 ^ 64) < j ∧ j < 2 ^ 64)) ∧ P (.int (i * j)) M) := WO_okIf
theorem WO_fdiv : WO (binop .fdiv (.int i) (.int j) M) P = ((0 < j ∧ j < 2 ^ 64) ∧ P (.int (i / j)) M) := WO_okIf
theorem WO_mod : WO (binop .mod (.int i) (.int j) M) P = (0 < j ∧ P (.int (i % j)) M) := WO_okIf
theorem WO_pow : WO (binop .pow (.int i) (.int j) M) P = ((0 ≤ j ∧ j ≤ 1000000 ∧ i.natAbs < 2 ^ 64) ∧ P (.int (i ^ j.toNat)) M) := WO_okIf
theorem WO_adds : WO (binop .add (.str x) (.str y) M) P = (x.length + y.length ≤ lim ∧ P (.str (x ++ y)) M) := WO_okIf
theorem WO_addt {l m : List PV} : WO (binop .add (.tup l) (.tup m) M) P = (l.length + m.length ≤ lim ∧ P (.tup (l ++ m)) M) := WO_okIf
theorem WO_addl {l m : List PV} : WO (binop .add (.lst l) (.lst m) M) P = (l.length + m.length ≤ lim ∧ P (.lst (l ++ m)) M) := WO_okIf
theorem WO_addM {l m : List PV} (h1 : lstOf M v = some l) (h2 : lstOf M w = some m) : WO (addmP v w M) P = (l.length + m.length ≤ lim ∧ P (.loc M.length) (M ++ [some (.lst (l ++ m))])) := by
  unfold addmP
  simp only [h1, h2]
  split
  · rename_i h; rw [show mkL true (l ++ m) M = .ok (.loc M.length) (M ++ [some (.lst (l ++ m))]) from rfl, WO_ok]; simp [h]
  · rename_i h; exact propext ⟨fun ⟨_, _, z, _⟩ => (by cases z), fun z => absurd z.1 h⟩
theorem WO_lti : WO (cmpop .lt (.int i) (.int j) M) P = P (.bl (decide (i < j))) M := WO_ok
theorem WO_lei : WO (cmpop .le (.int i) (.int j) M) P = P (.bl (decide (i ≤ j))) M := WO_ok
theorem WO_gti : WO (cmpop .gt (.int i) (.int j) M) P = P (.bl (decide (j < i))) M := WO_ok
theorem WO_gei : WO (cmpop .ge (.int i) (.int j) M) P = P (.bl (decide (j ≤ i))) M := WO_ok
theorem WO_eq {b : Bool} (h : peq M v w = some b) : WO (cmpop .eq v w M) P = P (.bl b) M := by rw [eq_of_peq h, WO_ok]
theorem WO_ne {b : Bool} (h : peq M v w = some b) : WO (cmpop .ne v w M) P = P (.bl (!b)) M := by rw [ne_of_peq h, WO_ok]
theorem WO_eqi : WO (cmpop .eq (.int i) (.int j) M) P = P (.bl (decide (i = j))) M := WO_eq peq_int
theorem WO_nei : WO (cmpop .ne (.int i) (.int j) M) P = P (.bl (!decide (i = j))) M := WO_ne peq_int
theorem WO_eqs : WO (cmpop .eq (.str x) (.str y) M) P = P (.bl (decide (x = y))) M := WO_eq peq_str
theorem WO_nes : WO (cmpop .ne (.str x) (.str y) M) P = P (.bl (!decide (x = y))) M := WO_ne peq_str
theorem WO_isn0 : WO (cmpop .is v .non M) P = P (.bl (isNon v)) M := WO_ok
theorem WO_isnn0 : WO (cmpop .isn v .non M) P = P (.bl (!(isNon v))) M := WO_ok
theorem WO_isb {b c : Bool} : WO (cmpop .is (.bl c) (.bl b) M) P = P (.bl (decide (c = b))) M := WO_ok
theorem WO_isnb {b c : Bool} : WO (cmpop .isn (.bl c) (.bl b) M) P = P (.bl (!decide (c = b))) M := WO_ok
theorem WO_in {b : Bool} (h : pin M v w = some b) : WO (cmpop .inn v w M) P = P (.bl b) M := by rw [in_of h, WO_ok]
theorem WO_nin {b : Bool} (h : pin M v w = some b) : WO (cmpop .nin v w M) P = P (.bl (!b)) M := by rw [nin_of h, WO_ok]
/-- a text among texts -/
theorem pin_strs {l : List Str} : pin M (.str x) (.tup (sv l)) = some (decide (x ∈ l)) := pin_str rfl (fun _ h => nomatch h) (fun _ h => nomatch h)
theorem pin_strsL {l : List Str} : pin M (.str x) (.lst (sv l)) = some (decide (x ∈ l)) := pin_str rfl (fun _ h => nomatch h) (fun _ h => nomatch h)
theorem WO_len {n : Nat} (h : lenOf M v = some n) : WO (evB "len" [v] M) P = P (.int (n : Nat)) M := by rw [w_len h, WO_ok]
theorem WO_tuple {l : List PV} (h : seqOf M v = some l) : WO (evB "tuple" [v] M) P = P (.tup l) M := by rw [w_tuple h, WO_ok]
theorem WO_rng {n : Nat} {P : List PV → Sto → Prop} (h : n ≤ 1000000) : WO (evIt "range" [.int (n : Int)] M) P = P (rngL 0 n) M := by rw [w_range h, WO_ok]
theorem WO_rngI {i : Int} {P : List PV → Sto → Prop} (h0 : 0 ≤ i) (h : i ≤ 1000000) : WO (evIt "range" [.int i] M) P = P (rngL 0 i.toNat) M := by
  have := WO_rng (M := M) (P := P) (n := i.toNat) (by omega)
  rw [Int.toNat_of_nonneg h0] at this
  exact this
theorem w_repr {d : PyData} {v x : PV} (h : toRM M v = some d) (h2 : shownOf d = some x) : evB "repr" [v] M = .ok x M := by
  unfold evB
  rw [if_neg (by decide +kernel), if_neg (by decide +kernel), if_neg (by decide +kernel), if_neg (by decide +kernel), if_neg (by decide +kernel), if_neg (by decide +kernel), if_neg (by decide +kernel), if_pos rfl]
  show ofO ((toRM M v).bind shownOf) M = _
  rw [h, Option.bind_some, h2]; rfl
theorem rngL_get {lo : Int} {n j : Nat} {v : PV} (h : (rngL lo n)[j]? = some v) : v = .int (lo + (j : Nat)) ∧ j < n := by
  unfold rngL at h
  rw [List.getElem?_map, Option.map_eq_some_iff] at h
  obtain ⟨k, h, rfl⟩ := h
  obtain ⟨h1, h2⟩ := List.getElem?_eq_some_iff.mp h
  rw [List.length_range] at h1
  rw [List.getElem_range] at h2
  exact ⟨by rw [h2], h1⟩
def Lc (Γ : Sig) (own : List Nat) (tg : Tg) (c e : E) (ρ : PEnv) (I : Nat → List PV → Sto → Prop) (items : List PV) : Prop :=
  ∀ j x acc M2, items[j]? = some x → I j acc M2 → ∃ ρ2, bindG tg x (wipeP ρ own) = some ρ2 ∧ WE Γ c ρ2 M2 fun b M3 => Wb b (WE Γ e ρ2 M3 fun v M4 => I (j + 1) (acc ++ [v]) M4) (I (j + 1) acc M3)
def Le (I : Nat → List PV → Sto → Prop) (m : Bool) (n : Nat) (P : PV → Sto → Prop) : Prop := (∀ n acc M, I n acc M → acc.length < lim) ∧ ∀ acc M2, I n acc M2 → WO (mkL m acc M2) P
/-- a list comprehension with one clause -/
theorem WE_cpr {Γ : Sig} {ρ : PEnv} {m : Bool} {own : List Nat} {tg : Tg} {it : It} {c e : E} (I : Nat → List PV → Sto → Prop)
    (h : WI Γ it ρ M fun items M1 => I 0 [] M1 ∧ Lc Γ own tg c e ρ I items ∧ Le I m items.length P) : WE Γ (.cpr (.ls m) own tg it c (.elt e)) ρ M P := by
  obtain ⟨items, M1, e1, h0, hs, hlim, hend⟩ := h
  have loop : ∀ (l : List PV) (j : Nat) (acc : List PV) (M2 : Sto), j ≤ items.length → items.drop j = l → I j acc M2 → ∃ acc' M', loopC (fun x acc M => match bindG tg x (wipeP ρ own) with
      | none => .no
      | some ρ2 => (asB (evE Γ c ρ2 M)).bnd fun b M' => if b then evC Γ (.ls m) (.elt e) ρ2 acc M' else .ok acc M') l acc M2 = .ok acc' M' ∧ I items.length acc' M' := by
    intro l
    induction l with
    | nil =>
      intro j acc M2 hle hd hI
      have hj : items.length ≤ j := List.drop_eq_nil_iff.mp hd
      obtain rfl : j = items.length := by omega
      exact ⟨acc, M2, rfl, hI⟩
    | cons x l ih =>
      intro j acc M2 hle hd hI
      have hx : items[j]? = some x := by rw [← List.head?_drop, hd]; rfl
      have hlt : j + 1 ≤ items.length := (List.getElem?_eq_some_iff.mp hx).1
      have hd2 : items.drop (j + 1) = l := by rw [← List.tail_drop, hd]; rfl
      obtain ⟨ρ2, hb, b, M3, ec, q⟩ := hs j x acc M2 hx hI
      cases b with
      | bl k =>
        cases k with
        | false =>
          obtain ⟨acc', M', e2, hI2⟩ := ih (j + 1) acc M3 hlt hd2 q
          refine ⟨acc', M', ?_, hI2⟩
          show (Res.bnd _ _) = _
          simp only [hb, ec, asB, bnd_ok]
          exact e2
        | true =>
          obtain ⟨v, M4, ev, hI3⟩ := q
          obtain ⟨acc', M', e2, hI2⟩ := ih (j + 1) (acc ++ [v]) M4 hlt hd2 hI3
          refine ⟨acc', M', ?_, hI2⟩
          show (Res.bnd _ _) = _
          simp only [hb, ec, asB, bnd_ok, if_true, evC, ev, emitC]
          rw [show okIf (acc.length < lim) (acc ++ [v]) M4 = .ok (acc ++ [v]) M4 from if_pos (hlim _ _ _ hI), bnd_ok]
          exact e2
      | _ => exact q.elim
  obtain ⟨acc', M', e2, hI⟩ := loop items 0 [] M1 (Nat.zero_le _) rfl h0
  obtain ⟨v, M5, e5, p⟩ := hend acc' M' hI
  refine ⟨v, M5, ?_, p⟩
  show evE Γ (.cpr (.ls m) own tg it c (.elt e)) ρ M = _
  simp only [evE, e1, bnd_ok]
  exact (congrArg (fun r => (noex r).bnd fun l M2 => mkC (.ls m) l M2) e2).trans e5
end
end Sk

namespace K08
open PySem PySem.Spec PyProof.Rows PySem.W L2 Sk
def d_reduced : Df := ⟨1, 3,
    (.cons (.ret (.cpr (.ls false) [1, 2] (.tp (.cons (.nm 1) (.cons (.nm 2) .nil))) (.seq (.var 0)) (.cmp .ne (.var 1) (.tup .nil)) (.elt (.tup (.cons (.var 1) (.cons (.var 2) .nil))))))
    .nil)⟩
def d_taken : Df := ⟨2, 4,
    (.cons (.ret (.call "reduced" (.cons (.cpr (.ls false) [2, 3] (.tp (.cons (.nm 2) (.cons (.nm 3) .nil))) (.seq (.var 0)) .miss (.elt (.tup (.cons (.ite (.cmp .eq (.idx (.var 2) (.int 0)) (.var 1)) (.slc (.var 2) (.int 1) .miss) (.var 2)) (.cons (.var 3) .nil))))) .nil)))
    .nil)⟩
def d_merged_far : Df := ⟨1, 8,
    (.cons (.par [1, 2] (.cons (.call "reduced" (.cons (.cpr (.ls false) [6, 5] (.tp (.cons (.nm 6) (.cons (.nm 5) .nil))) (.fn "enumerate" 1 (.cons (.var 0) .nil)) .miss (.elt (.tup (.cons (.blt "tuple" (.cons (.var 5) .nil)) (.cons (.var 6) .nil))))) .nil)) (.cons (.tup .nil) .nil)))
    (.cons (.whl (.cmp .ne (.var 1) (.lst false .nil))
    (.cons (.asg 3 (.cpr .st [5, 6, 7] (.tp (.cons (.nm 5) (.cons (.nm 6) .nil))) (.seq (.var 1)) .miss (.for' (.nm 7) (.seq (.slc (.var 5) (.int 1) .miss)) .miss (.elt (.var 7)))))
    (.cons (.asg 4 (.cpr (.ls false) [5, 6] (.tp (.cons (.nm 5) (.cons (.nm 6) .nil))) (.seq (.var 1)) (.cmp .nin (.idx (.var 5) (.int 0)) (.var 3)) (.elt (.idx (.var 5) (.int 0)))))
    (.cons (.ifs (.cmp .eq (.var 4) (.lst false .nil))
    (.cons (.ret (.tup (.cons (.var 2) (.cons (.var 1) .nil))))
    .nil)
    .nil)
    (.cons (.asg 2 (.tup (.star (.var 2) (.cons (.idx (.var 4) (.int 0)) .nil))))
    (.cons (.asg 1 (.call "taken" (.cons (.var 1) (.cons (.idx (.var 4) (.int 0)) .nil))))
    .nil))))))
    (.cons (.ret (.tup (.cons (.var 2) (.cons (.lst false .nil) .nil))))
    .nil)))⟩
def d_merge : Df := ⟨1, 3,
    (.cons (.asgT (.cons (.nm 1) (.cons (.nm 2) .nil)) (.call "merged_far" (.cons (.var 0) .nil)))
    (.cons (.ret (.ite (.cmp .eq (.var 2) (.lst false .nil)) (.var 1) .non))
    .nil))⟩
def d_cycle_of : Df := ⟨1, 6,
    (.cons (.asg 1 (.idx (.call "merged_far" (.cons (.var 0) .nil)) (.int 1)))
    (.cons (.ifs (.cmp .eq (.var 1) (.lst false .nil))
    (.cons (.ret .non)
    .nil)
    .nil)
    (.cons (.asgT (.cons (.nm 2) (.cons (.nm 3) .nil)) (.tup (.cons (.lst true (.cons (.idx (.idx (.idx (.var 1) (.int 0)) (.int 0)) (.int 0)) .nil)) (.cons (.lst true .nil) .nil))))
    (.cons (.whl (.cmp .nin (.idx (.var 2) (.neg (.int 1))) (.slc (.var 2) .miss (.neg (.int 1))))
    (.cons (.asgT (.cons (.nm 4) (.cons (.nm 5) .nil)) (.idx (.cpr (.ls false) [4, 5] (.tp (.cons (.nm 4) (.cons (.nm 5) .nil))) (.seq (.var 1)) (.cmp .inn (.idx (.var 2) (.neg (.int 1))) (.slc (.var 4) (.int 1) .miss)) (.elt (.tup (.cons (.var 4) (.cons (.var 5) .nil))))) (.int 0)))
    (.cons (.exp (.mth "list" "append" (.var 3) (.cons (.tup (.cons (.idx (.var 4) (.int 0)) (.cons (.idx (.var 2) (.neg (.int 1))) (.cons (.var 5) .nil)))) .nil)))
    (.cons (.exp (.mth "list" "append" (.var 2) (.cons (.idx (.var 4) (.int 0)) .nil)))
    .nil))))
    (.cons (.ret (.blt "tuple" (.cons (.rev (.slc (.var 3) (.mth "list" "index" (.var 2) (.cons (.idx (.var 2) (.neg (.int 1))) .nil)) .miss)) .nil)))
    .nil)))))⟩
def d_law_state : Df := ⟨1, 3,
    (.cons (.asg 1 (.cpr (.ls true) [2] (.nm 2) (.seq (.slc (.var 0) .miss (.int 63))) .miss (.elt (.blt "abs" (.cons (.var 2) .nil)))))
    (.cons (.ret (.lst true (.cons (.ite (.cmp .ne (.var 1) (.lst false .nil)) (.var 1) (.lst true (.cons (.int 1) .nil))) (.cons (.int 0) (.cons (.int 1) .nil)))))
    .nil))⟩
def d_law_draw : Df := ⟨2, 5,
    (.cons (.asg 2 (.idx (.var 0) (.int 0)))
    (.cons (.asg 3 (.bin .mod (.idx (.var 0) (.int 1)) (.blt "len" (.cons (.var 2) .nil))))
    (.cons (.asg 4 (.idx (.var 2) (.var 3)))
    (.cons (.ifs (.cmp .ge (.var 4) (.bin .pow (.int 10) (.int 18)))
    (.cons (.sub (.var 2) (.var 3) (.bin .fdiv (.var 4) (.var 1)))
    (.cons (.ret (.bin .mod (.var 4) (.var 1)))
    .nil))
    .nil)
    (.cons (.sub (.var 0) (.int 1) (.bin .add (.idx (.var 0) (.int 1)) (.int 1)))
    (.cons (.sub (.var 0) (.int 2) (.bin .mod (.bin .add (.bin .add (.bin .mul (.idx (.var 0) (.int 2)) (.int 48271)) (.var 4)) (.int 12345)) (.int 2147483647)))
    (.cons (.ret (.bin .mod (.bin .fdiv (.bin .mod (.bin .mul (.idx (.var 0) (.int 2)) (.idx (.var 0) (.int 2))) (.int 2147483629)) (.int 16)) (.var 1)))
    .nil)))))))⟩
def d_law_pick : Df := ⟨2, 2,
    (.cons (.ret (.idx (.var 1) (.call "_law_draw" (.cons (.var 0) (.cons (.blt "len" (.cons (.var 1) .nil)) .nil)))))
    .nil)⟩
def d_law_mixed : Df := ⟨2, 4,
    (.cons (.par [2, 3] (.cons (.lof true (.cons (.var 1) .nil)) (.cons (.lst true .nil) .nil)))
    (.cons (.whl (.cmp .ne (.var 2) (.lst false .nil))
    (.cons (.exp (.mth "list" "append" (.var 3) (.cons (.mth "list" "pop" (.var 2) (.cons (.call "_law_draw" (.cons (.var 0) (.cons (.blt "len" (.cons (.var 2) .nil)) .nil))) .nil)) .nil)))
    .nil))
    (.cons (.frz 3)
    (.cons (.ret (.var 3))
    .nil))))⟩
def d_law_titles : Df := ⟨2, 10,
    (.cons (.asgT (.cons (.nm 2) (.cons (.nm 3) .nil)) (.tup (.cons (.str "abcdefghijklmnopqrstuvwxyz") (.cons (.lst true .nil) .nil))))
    (.cons (.for' (.nm 4) (.fn "range" 1 (.cons (.var 1) .nil))
    (.cons (.asg 5 (.mth "str" "join" (.str "") (.cons (.cpr (.ls false) [8] (.nm 8) (.fn "range" 1 (.cons (.call "_law_pick" (.cons (.var 0) (.cons (.lst false (.cons (.int 1) (.cons (.int 1) (.cons (.int 2) (.cons (.int 3) (.cons (.int 8) .nil)))))) .nil))) .nil)) .miss (.elt (.call "_law_pick" (.cons (.var 0) (.cons (.var 2) .nil))))) .nil)))
    (.cons (.asg 6 (.cpr (.ls false) [7] (.nm 7) (.seq (.var 2)) .miss (.elt (.bin .add (.bin .add (.slc (.var 5) .miss (.int 6)) (.str "z")) (.var 7)))))
    (.cons (.exp (.mth "list" "append" (.var 3) (.cons (.idx (.cpr (.ls false) [9] (.nm 9) (.seq (.bin .add (.lst false (.cons (.var 5) .nil)) (.var 6))) (.cmp .nin (.var 9) (.var 3)) (.elt (.var 9))) (.int 0)) .nil)))
    .nil))))
    (.cons (.frz 3)
    (.cons (.ret (.var 3))
    .nil))))⟩
def d_law_lists : Df := ⟨2, 9,
    (.cons (.par [2, 3, 4] (.cons (.call "_law_mixed" (.cons (.var 0) (.cons (.var 1) .nil))) (.cons (.call "_law_draw" (.cons (.var 0) (.cons (.int 4) .nil))) (.cons (.lst true .nil) .nil))))
    (.cons (.for' (.nm 5) (.fn "range" 1 (.cons (.call "_law_draw" (.cons (.var 0) (.cons (.int 7) .nil))) .nil))
    (.cons (.asg 6 (.var 2))
    (.cons (.ifs (.or (.cmp .eq (.var 3) (.int 0)) (.and (.cmp .eq (.var 3) (.int 1)) (.cmp .eq (.call "_law_draw" (.cons (.var 0) (.cons (.int 3) .nil))) (.int 0))))
    (.cons (.asg 6 (.call "_law_mixed" (.cons (.var 0) (.cons (.var 1) .nil))))
    .nil)
    .nil)
    (.cons (.asg 7 (.call "_law_pick" (.cons (.var 0) (.cons (.lst false (.cons (.int 2) (.cons (.int 3) (.cons (.int 3) (.cons (.int 5) .nil))))) .nil))))
    (.cons (.exp (.mth "list" "append" (.var 4) (.cons (.blt "tuple" (.cons (.cpr (.ls false) [8] (.nm 8) (.seq (.var 6)) (.cmp .gt (.call "_law_draw" (.cons (.var 0) (.cons (.var 7) .nil))) (.int 0)) (.elt (.var 8))) .nil)) .nil)))
    .nil)))))
    (.cons (.frz 4)
    (.cons (.ret (.var 4))
    .nil))))⟩
def d_law_all_orders : Df := ⟨1, 6,
    (.cons (.asg 1 (.lst false (.cons (.tup .nil) .nil)))
    (.cons (.for' (.nm 2) (.seq (.var 0))
    (.cons (.asg 3 (.lst false .nil))
    (.cons (.for' (.nm 4) (.seq (.var 1))
    (.cons (.asg 3 (.bin .add (.var 3) (.cpr (.ls false) [5] (.nm 5) (.fn "range" 1 (.cons (.bin .add (.blt "len" (.cons (.var 4) .nil)) (.int 1)) .nil)) .miss (.elt (.bin .add (.bin .add (.slc (.var 4) .miss (.var 5)) (.tup (.cons (.var 2) .nil))) (.slc (.var 4) (.var 5) .miss))))))
    .nil))
    (.cons (.asg 1 (.var 3))
    .nil))))
    (.cons (.ret (.var 1))
    .nil)))⟩
def d_law_has : Df := ⟨2, 3,
    (.cons (.ret (.cmp .eq (.cpr (.ls false) [2] (.nm 2) (.seq (.var 0)) (.cmp .inn (.var 2) (.var 1)) (.elt (.var 2))) (.lof false (.cons (.var 1) .nil))))
    .nil)⟩
def d_law_first_lists : Df := ⟨2, 5,
    (.cons (.ret (.cpr (.ls false) [2] (.nm 2) (.seq (.var 0)) .miss (.elt (.idx (.cpr (.ls false) [3, 4] (.tp (.cons (.nm 3) (.cons (.nm 4) .nil))) (.fn "enumerate" 1 (.cons (.var 1) .nil)) (.cmp .inn (.var 2) (.var 4)) (.elt (.var 3))) (.int 0)))))
    .nil)⟩
def d_law : Df := ⟨1, 11,
    (.cons (.asg 1 (.call "_law_state" (.cons (.var 0) .nil)))
    (.cons (.for' (.nm 2) (.fn "range" 1 (.cons (.bin .add (.int 4) (.blt "min" (.cons (.blt "len" (.cons (.var 0) .nil)) (.cons (.int 8) .nil)))) .nil))
    (.cons (.asg 3 (.slc (.call "_law_lists" (.cons (.var 1) (.cons (.call "_law_titles" (.cons (.var 1) (.cons (.bin .add (.int 1) (.call "_law_draw" (.cons (.var 1) (.cons (.int 5) .nil)))) .nil))) .nil))) .miss (.int 5)))
    (.cons (.asg 4 (.lst false .nil))
    (.cons (.for' (.nm 5) (.seq (.var 3))
    (.cons (.asg 4 (.bin .add (.var 4) (.cpr (.ls false) [10] (.nm 10) (.seq (.var 5)) (.cmp .nin (.var 10) (.var 4)) (.elt (.var 10)))))
    .nil))
    (.cons (.asg 6 (.cpr (.ls false) [9] (.nm 9) (.seq (.call "_law_all_orders" (.cons (.var 4) .nil))) (.cmp .eq (.cpr (.ls false) [5] (.nm 5) (.seq (.var 3)) (.not (.call "_law_has" (.cons (.var 9) (.cons (.var 5) .nil)))) (.elt (.var 5))) (.lst false .nil)) (.elt (.var 9))))
    (.cons (.asg 7 (.call "merge" (.cons (.var 3) .nil)))
    (.cons (.ifs (.or (.cmp .ne (.cmp .is (.var 7) .non) (.cmp .eq (.var 6) (.lst false .nil))) (.cmp .ne (.cmp .is (.call "cycle_of" (.cons (.var 3) .nil)) .non) (.cmp .ne (.var 6) (.lst false .nil))))
    (.cons (.ret (.bl false))
    .nil)
    .nil)
    (.cons (.ifs (.cmp .ne (.var 6) (.lst false .nil))
    (.cons (.asg 8 (.idx (.idx (.blt "sorted" (.cons (.cpr (.ls false) [9] (.nm 9) (.seq (.var 6)) .miss (.elt (.tup (.cons (.call "_law_first_lists" (.cons (.var 9) (.cons (.var 3) .nil))) (.cons (.var 9) .nil))))) .nil)) (.int 0)) (.int 1)))
    (.cons (.ifs (.cmp .ne (.var 7) (.var 8))
    (.cons (.ret (.bl false))
    .nil)
    .nil)
    .nil))
    .nil)
    .nil))))))))
    (.cons (.ret (.bl true))
    .nil)))⟩
def G0 : Sig := ⟨fun _ => none, fun _ => none⟩
def G1 : Sig := G0.add "reduced" (d_reduced.ev G0)
def G2 : Sig := G1.add "taken" (d_taken.ev G1)
def G3 : Sig := G2.add "merged_far" (d_merged_far.ev G2)
def G4 : Sig := G3.add "merge" (d_merge.ev G3)
def G5 : Sig := G4.add "cycle_of" (d_cycle_of.ev G4)
def G6 : Sig := G5.add "_law_state" (d_law_state.ev G5)
def G7 : Sig := G6.add "_law_draw" (d_law_draw.ev G6)
def G8 : Sig := G7.add "_law_pick" (d_law_pick.ev G7)
def G9 : Sig := G8.add "_law_mixed" (d_law_mixed.ev G8)
def G10 : Sig := G9.add "_law_titles" (d_law_titles.ev G9)
def G11 : Sig := G10.add "_law_lists" (d_law_lists.ev G10)
def G12 : Sig := G11.add "_law_all_orders" (d_law_all_orders.ev G11)
def G13 : Sig := G12.add "_law_has" (d_law_has.ev G12)
def G14 : Sig := G13.add "_law_first_lists" (d_law_first_lists.ev G13)
def G15 : Sig := G14.add "law" (d_law.ev G14)
end K08
namespace K08
open PySem PySem.Spec L2 Sk
/-! ### merge, as its text reckons -/
abbrev Row := List Str × Nat
def rowP (r : Row) : PV := .tup [.tup (sv r.1), .int (r.2 : Nat)]
def linesP (l : List (List Str)) : List PV := l.map fun x => .tup (sv x)
theorem ev_reduced (Γ : Sig) (M : Sto) (rows : List Row) (hl : rows.length ≤ lim) : d_reduced.ev Γ [.lst (rows.map rowP)] M = .ok (.lst ((rows.filter fun r => decide (r.1 ≠ [])).map rowP)) M := by
  refine df_rt rfl (ss_rt (s_ret ?_))
  refine cpr_pure rowP (fun r => decide (r.1 ≠ [])) rowP rfl hl fun r _ => ⟨_, rfl, ?_, fun _ => rfl⟩
  refine e_cmp (e_var rfl) rfl ((ne_of_peq peq_tnil).trans ?_)
  by_cases h : r.1 = [] <;> simp [h]
def hd (l : List Str) : Str := l.headD Str.empty
def cutR (x : Str) (r : Row) : Row := (if hd r.1 = x then r.1.tail else r.1, r.2)
theorem ev_taken (Γ Γ0 : Sig) (hΓ : Γ.fn "reduced" = some (d_reduced.ev Γ0)) (M : Sto) (rows : List Row) (x : Str) (hl : rows.length ≤ lim) (hne : ∀ r ∈ rows, r.1 ≠ []) :
    d_taken.ev Γ [.lst (rows.map rowP), .str x] M = .ok (.lst (((rows.map (cutR x)).filter fun r => decide (r.1 ≠ [])).map rowP)) M := by
  refine df_rt rfl (ss_rt (s_ret (e_call hΓ (es_one (v := .lst ((rows.map (cutR x)).map rowP)) ?_) (ev_reduced Γ0 M _ (by rw [List.length_map]; exact hl)))))
  refine (cpr_pure (M1 := M) rowP (fun _ => true) (fun r => rowP (cutR x r)) rfl hl fun r hr => ⟨_, rfl, rfl, fun _ => ?_⟩).trans ?_
  · have hn := hne r hr
    obtain ⟨l, k⟩ := r
    cases l with
    | nil => exact absurd rfl hn
    | cons y l =>
      by_cases h : y = x
      · have hc : cutR x (y :: l, k) = (l, k) := by unfold cutR hd; simp [h]
        rw [hc]
        exact e_tup (es_two (e_iteT (e_cmp (e_idx (e_var rfl) rfl hd_idx) (e_var rfl) (by rw [eq_of_peq peq_str, decide_eq_true h])) (e_tl (e_var rfl) slc_tail)) (e_var rfl)) (lim_small (show 2 ≤ 1000 by decide))
      · have hc : cutR x (y :: l, k) = (y :: l, k) := by unfold cutR hd; simp [h]
        rw [hc]
        exact e_tup (es_two (e_iteF (e_cmp (e_idx (e_var rfl) rfl hd_idx) (e_var rfl) (by rw [eq_of_peq peq_str, decide_eq_false h])) (e_var rfl)) (e_var rfl)) (lim_small (show 2 ≤ 1000 by decide))
  · rw [List.filter_eq_self.mpr (fun _ _ => rfl), List.map_map]; rfl
/-- the plain reckoning -/
def tot (rows : List Row) : Nat := (rows.map (·.1.length)).sum
def behR (rows : List Row) : List Str := rows.flatMap fun r => r.1.tail
def freR (rows : List Row) : List Str := (rows.filter fun r => decide (hd r.1 ∉ behR rows)).map fun r => hd r.1
def nxtR (x : Str) (rows : List Row) : List Row := (rows.map (cutR x)).filter fun r => decide (r.1 ≠ [])
def mfar : Nat → List Row → List Str → List Str × List Row
  | 0, rows, found => (found, rows)
  | n + 1, rows, found => if rows = [] then (found, []) else match freR rows with
    | [] => (found, rows)
    | x :: _ => mfar n (nxtR x rows) (found ++ [x])
theorem nxt_ne {x : Str} {rows : List Row} : ∀ r ∈ nxtR x rows, r.1 ≠ [] := fun r hr => of_decide_eq_true (List.mem_filter.mp hr).2
theorem nxt_len {x : Str} {rows : List Row} : (nxtR x rows).length ≤ rows.length := by
  unfold nxtR
  refine Nat.le_trans (List.length_filter_le _ _) ?_
  rw [List.length_map]; exact Nat.le_refl _
theorem tot_filter (rows : List Row) : tot (rows.filter fun r => decide (r.1 ≠ [])) = tot rows := by
  induction rows with
  | nil => rfl
  | cons r rows ih =>
    by_cases h : r.1 = []
    · rw [List.filter_cons_of_neg (by simp [h]), ih]
      unfold tot; simp [h]
    · rw [List.filter_cons_of_pos (by simp [h])]
      unfold tot at ih ⊢
      rw [List.map_cons, List.map_cons, List.sum_cons, List.sum_cons, ih]
theorem cut_le (x : Str) (r : Row) : (cutR x r).1.length ≤ r.1.length := by
  unfold cutR
  dsimp only
  split
  · rw [List.length_tail]; omega
  · exact Nat.le_refl _
theorem tot_cut (x : Str) (rows : List Row) : tot (rows.map (cutR x)) ≤ tot rows := by
  induction rows with
  | nil => exact Nat.le_refl _
  | cons r rows ih =>
    unfold tot at ih ⊢
    simp only [List.map_cons, List.sum_cons]
    have := cut_le x r
    omega
theorem tot_lt {x : Str} {rows : List Row} (hx : ∃ r ∈ rows, r.1 ≠ [] ∧ hd r.1 = x) : tot (nxtR x rows) < tot rows := by
  unfold nxtR
  rw [tot_filter]
  obtain ⟨r, hr, hn, he⟩ := hx
  induction rows with
  | nil => cases hr
  | cons q rows ih =>
    have hq := cut_le x q
    have ht := tot_cut x rows
    unfold tot at ih ht ⊢
    simp only [List.map_cons, List.sum_cons]
    rcases List.mem_cons.mp hr with rfl | hr
    · have : (cutR x r).1.length < r.1.length := by
        unfold cutR
        rw [if_pos he, List.length_tail]
        have : r.1.length ≠ 0 := fun z => hn (List.eq_nil_of_length_eq_zero z)
        omega
      omega
    · have := ih hr
      omega
theorem fre_mem {x : Str} {rest : List Str} {rows : List Row} (h : freR rows = x :: rest) : ∃ r ∈ rows, hd r.1 = x := by
  have : x ∈ freR rows := by rw [h]; simp
  obtain ⟨r, hr, e⟩ := List.mem_map.mp this
  exact ⟨r, (List.mem_filter.mp hr).1, e⟩
theorem strsOf_append {l m : List Str} : strsOf (sv l ++ sv m) = some (l ++ m) := by
  rw [← List.map_append]; exact strsOf_sv _
theorem toD0_row (r : Row) : toD0 (rowP r) = some (.tuple [.tuple (r.1.map PyData.str), .int (r.2 : Nat)]) := by
  have h : toD0L [.tup (sv r.1), .int (r.2 : Nat)] = some [.tuple (r.1.map PyData.str), .int (r.2 : Nat)] := by
    show ((toD0L (sv r.1)).map PyData.tuple).bind (fun d => (some [PyData.int (r.2 : Nat)]).map fun q => d :: q) = _
    rw [toD0L_str]; rfl
  show (toD0L [.tup (sv r.1), .int (r.2 : Nat)]).map PyData.tuple = _
  rw [h]; rfl
theorem toD_rows (M : Sto) (rows : List Row) : ∃ ds, toD M (.lst (rows.map rowP)) = some (.list ds) ∧ (ds = [] ↔ rows = []) ∧ PyData.depthAll ds ≤ 63 := by
  have key : ∀ rows : List Row, ∃ ds, toD0L (rows.map rowP) = some ds ∧ (ds = [] ↔ rows = []) ∧ PyData.depthAll ds ≤ 63 := by
    intro rows
    induction rows with
    | nil => exact ⟨[], rfl, by simp, by simp [PyData.depthAll]⟩
    | cons r rows ih =>
      obtain ⟨ds, h1, _, h3⟩ := ih
      refine ⟨.tuple [.tuple (r.1.map PyData.str), .int (r.2 : Nat)] :: ds, ?_, by simp, ?_⟩
      · show (toD0 (rowP r)).bind (fun d => (toD0L (rows.map rowP)).map fun q => d :: q) = _
        rw [h1, toD0_row]; rfl
      · simp only [PyData.depthAll, PyData.depth, depthAll_str]
        omega
  obtain ⟨ds, h1, h2, h3⟩ := key rows
  exact ⟨ds, by show (toD0L (rows.map rowP)).map PyData.list = _; rw [h1]; rfl, h2, h3⟩
theorem rows_nil (M : Sto) (rows : List Row) : peq M (.lst (rows.map rowP)) (.lst []) = some (decide (rows = [])) := by
  obtain ⟨ds, h1, h2, h3⟩ := toD_rows M rows
  rw [peq_nil h1 h3]
  congr 1
  rw [decide_eq_decide]; exact h2
/-! merged_far -/
theorem ev_free (Γ : Sig) (M : Sto) (rows : List Row) (L F B f n o k m : Option PV) (hl : rows.length ≤ lim) (hne : ∀ r ∈ rows, r.1 ≠ []) (beh : List Str) :
    evE Γ (.cpr (.ls false) [5, 6] (.tp (.cons (.nm 5) (.cons (.nm 6) .nil))) (.seq (.var 1)) (.cmp .nin (.idx (.var 5) (.int 0)) (.var 3)) (.elt (.idx (.var 5) (.int 0)))) [L, some (.lst (rows.map rowP)), F, some (.sts beh), f, o, k, m] M =
      .ok (.lst (sv ((rows.filter fun r => decide (hd r.1 ∉ beh)).map fun r => hd r.1))) M := by
  refine (cpr_pure (M1 := M) rowP (fun r => decide (hd r.1 ∉ beh)) (fun r => .str (hd r.1)) rfl hl fun r hr => ⟨_, rfl, ?_, fun _ => ?_⟩).trans ?_
  · obtain ⟨l, k⟩ := r
    cases l with
    | nil => exact absurd rfl (hne _ hr)
    | cons y l => exact e_cmp (e_idx (e_var rfl) rfl hd_idx) (e_var rfl) ((nin_of pin_sts).trans (by simp [hd]))
  · obtain ⟨l, k⟩ := r
    cases l with
    | nil => exact absurd rfl (hne _ hr)
    | cons y l => exact e_idx (e_var rfl) rfl hd_idx
  · unfold sv mkL
    rw [List.map_map]; rfl
theorem ev_behind (Γ : Sig) (M : Sto) (rows : List Row) (L F B f o k m : Option PV) (ht : tot rows < 4000) :
    evE Γ (.cpr .st [5, 6, 7] (.tp (.cons (.nm 5) (.cons (.nm 6) .nil))) (.seq (.var 1)) .miss (.for' (.nm 7) (.seq (.slc (.var 5) (.int 1) .miss)) .miss (.elt (.var 7)))) [L, some (.lst (rows.map rowP)), F, B, f, o, k, m] M = .ok (.sts (behR rows)) M := by
  -- one row's further names
  have inner : ∀ (q : List Str) (a : List Str) (ρ : PEnv), ρ.length = 8 → a.length + q.length < 4090 → loopC (fun x acc M => match Sk.bindG (.nm 7) x (wipeP ρ (tgN (.nm 7) ++ clN (.elt (.var 7)))) with
      | none => .no
      | some ρ2 => (asB (evE Γ .miss ρ2 M)).bnd fun b M' => if b then evC Γ .st (.elt (.var 7)) ρ2 acc M' else .ok acc M') (sv q) (sv a) M = .ok (sv (a ++ q)) M := by
    intro q
    induction q with
    | nil => intro a ρ hρ hn; rw [List.append_nil]; rfl
    | cons y q ih =>
      intro a ρ hρ hn
      rw [List.length_cons] at hn
      have ih := ih (a ++ [y]) ρ hρ (by rw [List.length_append, List.length_singleton]; omega)
      match ρ, hρ with
      | [x0, x1, x2, x3, x4, x5, x6, x7], _ =>
        show Res.bnd (okIf ((sv a).length + 1 < 4096) (sv a ++ [.str y]) M) _ = _
        unfold okIf
        rw [if_pos (by rw [List.length_map]; omega), bnd_ok]
        have e1 : sv a ++ [PV.str y] = sv (a ++ [y]) := by simp
        rw [e1, show a ++ y :: q = a ++ [y] ++ q by simp]
        exact ih
  have key : ∀ (rest pre : List Row), rows = pre ++ rest → loopC (fun x acc M => match Sk.bindG (.tp (.cons (.nm 5) (.cons (.nm 6) .nil))) x (wipeP [L, some (.lst (rows.map rowP)), F, B, f, o, k, m] [5, 6, 7]) with
      | none => .no
      | some ρ2 => (asB (evE Γ .miss ρ2 M)).bnd fun b M' => if b then evC Γ .st (.for' (.nm 7) (.seq (.slc (.var 5) (.int 1) .miss)) .miss (.elt (.var 7))) ρ2 acc M' else .ok acc M') (rest.map rowP) (sv (behR pre)) M = .ok (sv (behR rows)) M := by
    intro rest
    induction rest with
    | nil => intro pre hp; rw [hp, List.append_nil]; rfl
    | cons r rest ih =>
      intro pre hp
      have ih := ih (pre ++ [r]) (by rw [hp]; simp)
      have eb : behR (pre ++ [r]) = behR pre ++ r.1.tail := by unfold behR; simp
      rw [eb] at ih
      have hlen : (behR pre).length + r.1.tail.length < 4090 := by
        have : ∀ l : List Row, (behR l).length ≤ tot l := fun l => by
          induction l with
          | nil => exact Nat.le_refl _
          | cons r l ih =>
            unfold behR tot at ih ⊢
            simp only [List.flatMap_cons, List.length_append, List.map_cons, List.sum_cons, List.length_tail] at ih ⊢
            omega
        have h1 := this (pre ++ [r])
        rw [eb, List.length_append] at h1
        have h2 : tot (pre ++ [r]) ≤ tot rows := by
          rw [hp]; unfold tot; simp only [List.map_append, List.map_cons, List.sum_append, List.sum_cons, List.map_nil, List.sum_nil]; omega
        omega
      have e2 := inner r.1.tail (behR pre) [L, some (.lst (rows.map rowP)), F, B, f, some (.tup (sv r.1)), some (.int (r.2 : Nat)), none] rfl hlen
      rw [List.map_cons, loopC_cons]
      refine (bnd_of (v := sv (behR pre ++ r.1.tail)) (M := M) ?_).trans ih
      show (evI Γ (.seq (.slc (.var 5) (.int 1) .miss)) [L, some (.lst (rows.map rowP)), F, B, f, some (.tup (sv r.1)), some (.int (r.2 : Nat)), none] M).bnd (fun items M1 => loopC (fun x acc M => match Sk.bindG (.nm 7) x (wipeP [L, some (.lst (rows.map rowP)), F, B, f, some (.tup (sv r.1)), some (.int (r.2 : Nat)), none] (tgN (.nm 7) ++ clN (.elt (.var 7)))) with
      | none => .no
      | some ρ2 => (asB (evE Γ .miss ρ2 M)).bnd fun b M' => if b then evC Γ .st (.elt (.var 7)) ρ2 acc M' else .ok acc M') items (sv (behR pre)) M1) = _
      exact (bnd_of (i_seq (e_tl (e_var rfl) slc_tail) rfl)).trans e2
  refine (cpr_ok (M1 := M) (items := rows.map rowP) rfl (key rows [] rfl)).trans ?_
  show (match strsOf (sv (behR rows)) with
    | some ss => Res.ok (PV.sts ss) M
    | none => .no) = _
  rw [strsOf_sv]
/-- the loop -/
theorem zip_tot (lines : List (List Str)) : ∀ k, tot (lines.zipIdx k) = (lines.map List.length).sum := by
  induction lines with
  | nil => intro k; rfl
  | cons l lines ih =>
    intro k
    have := ih (k + 1)
    unfold tot at this ⊢
    rw [List.zipIdx_cons, List.map_cons, List.sum_cons, this, List.map_cons, List.sum_cons]
theorem ev_far (Γ Γ0 Γ1 : Sig) (h1 : Γ.fn "reduced" = some (d_reduced.ev Γ0)) (h2 : Γ.fn "taken" = some (d_taken.ev Γ1)) (h3 : Γ1.fn "reduced" = some (d_reduced.ev Γ0)) (M : Sto) (lists : PV) (lines : List (List Str)) (hk : kdOf lists = some (linesP lines)) (ht : (lines.map List.length).sum < 4000) (hn : lines.length ≤ 1000) (n : Nat) (hfuel : (lines.map List.length).sum < n) (R : List Str × List Row) (hR : mfar n ((lines.zipIdx).filter fun r => decide (r.1 ≠ [])) [] = R) :
    d_merged_far.ev Γ [lists] M = .ok (.tup [.tup (sv R.1), .lst (R.2.map rowP)]) M := by
  -- the first rows
  have first : evE Γ (.cpr (.ls false) [6, 5] (.tp (.cons (.nm 6) (.cons (.nm 5) .nil))) (.fn "enumerate" 1 (.cons (.var 0) .nil)) .miss (.elt (.tup (.cons (.blt "tuple" (.cons (.var 5) .nil)) (.cons (.var 6) .nil))))) [some lists, none, none, none, none, none, none, none] M = .ok (.lst (lines.zipIdx.map rowP)) M := by
    refine (cpr_pure (M1 := M) (items := lines.zipIdx) (fun p => .tup [.int (p.2 : Nat), .tup (sv p.1)]) (fun _ => true) rowP ?_ (by rw [List.length_zipIdx]; exact lim_small hn) fun p hp => ⟨_, rfl, rfl, fun _ => ?_⟩).trans ?_
    · exact i_fn (es_one (e_var rfl)) rfl ((w_enum hk).trans (by unfold linesP; rw [enumL_lines]))
    · exact e_tup (es_two (e_blt (es_one (e_var rfl)) (w_tuple rfl)) (e_var rfl)) (lim_small (show 2 ≤ 1000 by decide))
    · rw [List.filter_eq_self.mpr (fun _ _ => rfl)]; rfl
  have hz : tot ((lines.zipIdx).filter fun r => decide (r.1 ≠ [])) = (lines.map List.length).sum := by rw [tot_filter, zip_tot]
  have hl0 : ((lines.zipIdx).filter fun r => decide (r.1 ≠ [])).length ≤ 1000 := Nat.le_trans (List.length_filter_le _ _) (by rw [List.length_zipIdx]; exact hn)
  have start : evS Γ (.par [1, 2] (.cons (.call "reduced" (.cons (.cpr (.ls false) [6, 5] (.tp (.cons (.nm 6) (.cons (.nm 5) .nil))) (.fn "enumerate" 1 (.cons (.var 0) .nil)) .miss (.elt (.tup (.cons (.blt "tuple" (.cons (.var 5) .nil)) (.cons (.var 6) .nil))))) .nil)) (.cons (.tup .nil) .nil))) [some lists, none, none, none, none, none, none, none] M
      = .ok .nx [some lists, some (.lst (((lines.zipIdx).filter fun r => decide (r.1 ≠ [])).map rowP)), some (.tup (sv [])), none, none, none, none, none] M :=
    s_par (es_two (e_call h1 (es_one first) (ev_reduced Γ0 M _ (by rw [List.length_zipIdx]; exact lim_small hn))) (e_tup es_nil (Nat.zero_le _))) rfl
  generalize hrows : ((lines.zipIdx).filter fun r => decide (r.1 ≠ [])) = rows0 at *
  have hne0 : ∀ r ∈ rows0, r.1 ≠ [] := fun r hr => by rw [← hrows] at hr; exact of_decide_eq_true (List.mem_filter.mp hr).2
  have loop : ∀ {b : Sms}, b = (.cons (.asg 3 (.cpr .st [5, 6, 7] (.tp (.cons (.nm 5) (.cons (.nm 6) .nil))) (.seq (.var 1)) .miss (.for' (.nm 7) (.seq (.slc (.var 5) (.int 1) .miss)) .miss (.elt (.var 7)))))
    (.cons (.asg 4 (.cpr (.ls false) [5, 6] (.tp (.cons (.nm 5) (.cons (.nm 6) .nil))) (.seq (.var 1)) (.cmp .nin (.idx (.var 5) (.int 0)) (.var 3)) (.elt (.idx (.var 5) (.int 0)))))
    (.cons (.ifs (.cmp .eq (.var 4) (.lst false .nil))
    (.cons (.ret (.tup (.cons (.var 2) (.cons (.var 1) .nil))))
    .nil)
    .nil)
    (.cons (.asg 2 (.tup (.star (.var 2) (.cons (.idx (.var 4) (.int 0)) .nil))))
    (.cons (.asg 1 (.call "taken" (.cons (.var 1) (.cons (.idx (.var 4) (.int 0)) .nil))))
    .nil))))) → (∃ ρ', evS Γ (.whl (.cmp .ne (.var 1) (.lst false .nil)) b) [some lists, some (.lst (rows0.map rowP)), some (.tup (sv [])), none, none, none, none, none] M = .ok .nx ρ' M ∧ R.2 = [] ∧ ρ'[2]? = some (some (.tup (sv R.1)))) ∨
      ∃ ρ', evS Γ (.whl (.cmp .ne (.var 1) (.lst false .nil)) b) [some lists, some (.lst (rows0.map rowP)), some (.tup (sv [])), none, none, none, none, none] M = .ok (.rt (.tup [.tup (sv R.1), .lst (R.2.map rowP)])) ρ' M := by
    rintro b rfl
    refine s_whl (fun m ρ M' => M' = M ∧ ∃ rows found b f n, ρ = [some lists, some (.lst (rows.map rowP)), some (.tup (sv found)), b, f, none, none, none] ∧ m = tot rows ∧ (∀ r ∈ rows, r.1 ≠ []) ∧ rows.length ≤ 1000 ∧ found.length + tot rows < 4000 ∧ mfar n rows found = R ∧ tot rows < n)
      (fun r => (∃ ρ', r = .ok .nx ρ' M ∧ R.2 = [] ∧ ρ'[2]? = some (some (.tup (sv R.1)))) ∨ ∃ ρ', r = .ok (.rt (.tup [.tup (sv R.1), .lst (R.2.map rowP)])) ρ' M)
      (tot rows0) (by omega) ⟨rfl, rows0, [], none, none, n, rfl, rfl, hne0, hl0, by rw [hz]; simpa using ht, hR, by omega⟩ ?_
    rintro m ρ M' ⟨rfl, rows, found, b, f, n, rfl, rfl, hne, hl, hf, hm, hlt⟩
    obtain ⟨n, rfl⟩ : ∃ k, n = k + 1 := ⟨n - 1, by omega⟩
    have cond : evE Γ (.cmp .ne (.var 1) (.lst false .nil)) [some lists, some (.lst (rows.map rowP)), some (.tup (sv found)), b, f, none, none, none] M' = .ok (.bl (!decide (rows = []))) M' :=
      e_cmp (e_var rfl) (e_lst es_nil (Nat.zero_le _)) (ne_of_peq (rows_nil M' rows))
    by_cases hr : rows = []
    · refine .inl ⟨M', by rw [cond]; simp [hr], .inl ⟨_, rfl, ?_⟩⟩
      unfold mfar at hm
      rw [if_pos hr] at hm
      rw [← hm]
      exact ⟨rfl, rfl⟩
    · refine .inr ⟨M', by rw [cond]; simp [hr], ?_⟩
      have hbeh := ev_behind Γ M' rows (some lists) (some (.tup (sv found))) b f none none none (by omega)
      have hfre := ev_free Γ M' rows (some lists) (some (.tup (sv found))) none f none none none none (lim_small hl) hne (behR rows)
      unfold mfar at hm
      rw [if_neg hr] at hm
      cases hx : freR rows with
      | nil =>
        rw [hx] at hm
        dsimp only at hm
        have hfr : ((rows.filter fun r => decide (hd r.1 ∉ behR rows)).map fun r => hd r.1) = [] := hx
        rw [hfr] at hfre
        refine .inr (.inr ⟨.tup [.tup (sv found), .lst (rows.map rowP)], _, M', (ss_nx (s_asg hbeh)).trans ((ss_nx (s_asg hfre)).trans (ss_rt ((s_ifT (e_cmp (e_var rfl) (e_lst es_nil (Nat.zero_le _)) ((eq_of_peq (peq_lst (l := []) (m := []))).trans (by rw [decide_eq_true rfl])))).trans (ss_rt (s_ret (e_tup (es_two (e_var rfl) (e_var rfl)) (lim_small (show 2 ≤ 1000 by decide)))))))), .inr ⟨_, by rw [← hm]⟩⟩)
      | cons x rest =>
        rw [hx] at hm
        dsimp only at hm
        have htot := tot_lt (x := x) (rows := rows) (by
          obtain ⟨r, q1, q2⟩ := fre_mem hx
          exact ⟨r, q1, hne r q1, q2⟩)
        have hfr : ((rows.filter fun r => decide (hd r.1 ∉ behR rows)).map fun r => hd r.1) = x :: rest := hx
        rw [hfr] at hfre
        refine .inl ⟨tot (nxtR x rows), [some lists, some (.lst ((nxtR x rows).map rowP)), some (.tup (sv (found ++ [x]))), some (.sts (behR rows)), some (.lst (sv (x :: rest))), none, none, none], M', htot, .inl ?_, rfl, nxtR x rows, found ++ [x], _, _, n, rfl, rfl, nxt_ne, Nat.le_trans nxt_len hl, by rw [List.length_append, List.length_singleton]; omega, hm, by omega⟩
        refine (ss_nx (s_asg hbeh)).trans ((ss_nx (s_asg hfre)).trans ((ss_nx ((s_ifF (e_cmp (e_var rfl) (e_lst es_nil (Nat.zero_le _)) ((eq_of_peq (peq_lst (l := x :: rest) (m := []))).trans (by rw [decide_eq_false (List.cons_ne_nil x rest)])))).trans ss_nil)).trans ?_))
        refine (ss_nx (s_asg (v := .tup (sv (found ++ [x]))) (e_tup (l := sv (found ++ [x])) ?_ ?_))).trans ((ss_nx (s_asg (e_call h2 (es_two (e_var rfl) (e_idx (e_var rfl) rfl hd_idxL)) (ev_taken Γ1 Γ0 h3 M' rows x (lim_small hl) hne)))).trans ss_nil)
        · have := es_star (Γ := Γ) (ρ := [some lists, some (.lst (rows.map rowP)), some (.tup (sv found)), some (.sts (behR rows)), some (.lst (sv (x :: rest))), none, none, none]) (M := M') (a := .var 2) (es := .cons (.idx (.var 4) (.int 0)) .nil) (e_var rfl) rfl (es_one (e_idx (e_var rfl) rfl hd_idxL))
          rw [show sv (found ++ [x]) = sv found ++ [.str x] by simp]
          exact this
        · rw [List.length_map, List.length_append, List.length_singleton]
          exact Nat.le_trans (by omega) (show 4001 ≤ lim by decide)
  rcases loop rfl with ⟨ρ', e, hR2, hρ⟩ | ⟨ρ', e⟩
  · refine df_rt rfl ((ss_nx start).trans ((ss_nx e).trans (ss_rt (s_ret ?_))))
    rw [hR2]
    exact e_tup (es_two (e_var hρ) (e_lst es_nil (Nat.zero_le _))) (lim_small (show 2 ≤ 1000 by decide))
  · exact df_rt rfl ((ss_nx start).trans (ss_rt e))
def optP : Option (List Str) → PV
  | none => .non
  | some l => .tup (sv l)
def mrgP (lines : List (List Str)) : Option (List Str) :=
  let R := mfar ((lines.map List.length).sum + 1) ((lines.zipIdx).filter fun r => decide (r.1 ≠ [])) []
  if R.2 = [] then some R.1 else none
/-! ### the law's own merge -/
def linesL (l : List (List Str)) : List PV := l.map fun x => .lst (sv x)
def totL (l : List (List Str)) : Nat := (l.map List.length).sum
def isFre (left : List (List Str)) (l : List Str) : Bool := decide (l ≠ []) && left.all fun o => decide (hd l ∉ o.tail)
def freL (left : List (List Str)) : List Str := (left.filter (isFre left)).map hd
def mlaw : Nat → List (List Str) → List Str → Option (List Str)
  | 0, _, _ => none
  | n + 1, left, found => if left.all (fun l => decide (l = [])) then some found else match freL left with
    | [] => none
    | x :: _ => mlaw n (left.map fun l => l.filter fun y => decide (y ≠ x)) (found ++ [x])
theorem fil_le {left : List (List Str)} {x : Str} : totL (left.map fun l => l.filter fun y => decide (y ≠ x)) ≤ totL left := by
  induction left with
  | nil => exact Nat.le_refl _
  | cons l left ih =>
    have := List.length_filter_le (fun y => decide (y ≠ x)) l
    unfold totL at ih ⊢
    simp only [List.map_cons, List.sum_cons] at ih ⊢
    omega
theorem fil_lt {left : List (List Str)} {x : Str} {rest : List Str} (h : freL left = x :: rest) : totL (left.map fun l => l.filter fun y => decide (y ≠ x)) < totL left := by
  have hm : x ∈ freL left := by rw [h]; simp
  obtain ⟨l, hl, hx⟩ := List.mem_map.mp hm
  obtain ⟨h1, h2⟩ := List.mem_filter.mp hl
  have hne : l ≠ [] := by
    unfold isFre at h2
    simp only [Bool.and_eq_true, decide_eq_true_eq] at h2
    exact h2.1
  clear h hm hl h2
  induction left with
  | nil => cases h1
  | cons q left ih =>
    have hq := List.length_filter_le (fun y => decide (y ≠ x)) q
    have ht := fil_le (left := left) (x := x)
    unfold totL at ih ht ⊢
    simp only [List.map_cons, List.sum_cons] at ih ht ⊢
    rcases List.mem_cons.mp h1 with rfl | h1
    · have : (l.filter fun y => decide (y ≠ x)).length < l.length := by
        cases l with
        | nil => exact absurd rfl hne
        | cons y l =>
          have hy : y = x := hx
          rw [List.filter_cons_of_neg (by simp [hy])]
          have := List.length_filter_le (fun y => decide (y ≠ x)) l
          rw [List.length_cons]; omega
      omega
    · have := ih h1
      omega
/-- both reckonings agree -/
theorem far_law : ∀ (n : Nat) (rows : List Row) (left : List (List Str)) (found : List Str), rows.map Prod.fst = left.filter (fun l => decide (l ≠ [])) → tot rows < n →
    mlaw n left found = (let R := mfar n rows found; if R.2 = [] then some R.1 else none)
  | 0, _, _, _, _, h => absurd h (Nat.not_lt_zero _)
  | n + 1, rows, left, found, hrl, hlt => by
    have hall : left.all (fun l => decide (l = [])) = decide (rows = []) := by
      rw [Bool.eq_iff_iff, decide_eq_true_eq, List.all_eq_true]
      have : rows = [] ↔ rows.map Prod.fst = [] := by rw [List.map_eq_nil_iff]
      rw [this, hrl, List.filter_eq_nil_iff]
      simp
    have hmemT : ∀ z, (∃ r ∈ rows, z ∈ r.1.tail) ↔ ∃ o ∈ left, z ∈ o.tail := fun z => by
      constructor
      · rintro ⟨r, hr, hz⟩
        have : r.1 ∈ rows.map Prod.fst := List.mem_map.mpr ⟨r, hr, rfl⟩
        rw [hrl] at this
        exact ⟨r.1, (List.mem_filter.mp this).1, hz⟩
      · rintro ⟨o, ho, hz⟩
        have hne : o ≠ [] := fun q => by rw [q] at hz; cases hz
        have : o ∈ rows.map Prod.fst := by rw [hrl]; exact List.mem_filter.mpr ⟨ho, decide_eq_true hne⟩
        obtain ⟨r, hr, rfl⟩ := List.mem_map.mp this
        exact ⟨r, hr, hz⟩
    have hfree : freR rows = freL left := by
      have e1 : freR rows = ((rows.map Prod.fst).filter fun l => decide (hd l ∉ behR rows)).map hd := by
        unfold freR
        rw [List.filter_map, List.map_map]; rfl
      have e2 : freL left = ((left.filter fun l => decide (l ≠ [])).filter fun l => decide (hd l ∉ behR rows)).map hd := by
        unfold freL
        rw [List.filter_filter]
        congr 1
        refine List.filter_congr fun l _ => ?_
        unfold isFre
        rw [Bool.and_comm]
        congr 1
        rw [Bool.eq_iff_iff, List.all_eq_true, decide_eq_true_eq]
        unfold behR
        rw [List.mem_flatMap]
        constructor
        · intro h q
          obtain ⟨o, ho, hz⟩ := (hmemT _).mp q
          exact of_decide_eq_true (h o ho) hz
        · intro h o ho
          exact decide_eq_true fun hz => h ((hmemT _).mpr ⟨o, ho, hz⟩)
      rw [e1, e2, hrl]
    unfold mlaw mfar
    rw [hall]
    by_cases hr : rows = []
    · rw [if_pos (decide_eq_true hr), if_pos hr]; rfl
    · rw [if_neg (by rw [decide_eq_false hr]; decide), if_neg hr, ← hfree]
      cases hx : freR rows with
      | nil => dsimp only; rw [if_neg hr]
      | cons x rest =>
        dsimp only
        have hbeh : x ∉ behR rows := by
          have : x ∈ freR rows := by rw [hx]; simp
          obtain ⟨r, q1, q2⟩ := List.mem_map.mp this
          have := of_decide_eq_true (List.mem_filter.mp q1).2
          rwa [q2] at this
        have hne : ∀ r ∈ rows, r.1 ≠ [] := fun r hr => by
          have : r.1 ∈ rows.map Prod.fst := List.mem_map.mpr ⟨r, hr, rfl⟩
          rw [hrl] at this
          exact of_decide_eq_true (List.mem_filter.mp this).2
        refine far_law n (nxtR x rows) _ (found ++ [x]) ?_ ?_
        · -- the rows that are left
          have cut : ∀ l : List Str, x ∉ l.tail → (if hd l = x ∧ l ≠ [] then l.tail else l) = l.filter fun y => decide (y ≠ x) := fun l hl => by
            cases l with
            | nil => split <;> rfl
            | cons y l =>
              have ht : l.filter (fun y => decide (y ≠ x)) = l := List.filter_eq_self.mpr fun z hz => decide_eq_true fun q => hl (q ▸ hz)
              by_cases h : y = x
              · rw [if_pos ⟨h, by simp⟩, List.filter_cons_of_neg (by simp [h]), ht]; rfl
              · rw [if_neg (fun q => h q.1), List.filter_cons_of_pos (by simp [h]), ht]
          unfold nxtR
          rw [List.filter_map, List.map_map] 
          have e3 : (rows.filter ((fun r => decide (r.1 ≠ [])) ∘ cutR x)).map (Prod.fst ∘ cutR x) = ((rows.map Prod.fst).map fun l => l.filter fun y => decide (y ≠ x)).filter fun l => decide (l ≠ []) := by
            rw [List.map_map, List.filter_map]
            have hc : ∀ r ∈ rows, (cutR x r).1 = r.1.filter fun y => decide (y ≠ x) := fun r hr => by
              have hl : x ∉ r.1.tail := fun z => hbeh (List.mem_flatMap.mpr ⟨r, hr, z⟩)
              rw [← cut r.1 hl]
              unfold cutR
              simp [hne r hr]
            have e4 : rows.filter ((fun r => decide (r.1 ≠ [])) ∘ cutR x) = rows.filter ((fun l => decide (l ≠ [])) ∘ ((fun l => l.filter fun y => decide (y ≠ x)) ∘ Prod.fst)) := List.filter_congr fun r hr => by
              show decide ((cutR x r).1 ≠ []) = _
              rw [hc r hr]; rfl
            rw [e4]
            refine List.map_congr_left fun r hr => ?_
            exact hc r (List.mem_filter.mp hr).1
          rw [e3, hrl]
          -- empties change nothing
          clear e3 hall hmemT hfree hx hbeh hne hr hlt hrl cut
          induction left with
          | nil => rfl
          | cons l left ih =>
            by_cases h : l = []
            · subst h
              rw [List.filter_cons_of_neg (by simp), List.map_cons, List.filter_cons_of_neg (by simp)]
              exact ih
            · rw [List.filter_cons_of_pos (by simp [h]), List.map_cons, List.map_cons]
              by_cases h2 : (l.filter fun y => decide (y ≠ x)) = []
              · rw [List.filter_cons_of_neg (by rw [decide_eq_true_eq]; exact fun q => q h2), List.filter_cons_of_neg (by rw [decide_eq_true_eq]; exact fun q => q h2), ih]
              · rw [List.filter_cons_of_pos (by rw [decide_eq_true_eq]; exact h2), List.filter_cons_of_pos (by rw [decide_eq_true_eq]; exact h2), ih]
        · have := tot_lt (x := x) (rows := rows) (by
            obtain ⟨r, q1, q2⟩ := fre_mem hx
            exact ⟨r, q1, hne r q1, q2⟩)
          omega
theorem toD_linesL (M : Sto) (q : List (List Str)) : peq M (.lst (linesL q)) (.lst []) = some (decide (q = [])) := by
  have key : ∀ q : List (List Str), ∃ ds, toD0L (linesL q) = some ds ∧ (ds = [] ↔ q = []) ∧ PyData.depthAll ds ≤ 63 := by
    intro q
    induction q with
    | nil => exact ⟨[], rfl, by simp, by simp [PyData.depthAll]⟩
    | cons l q ih =>
      obtain ⟨ds, h1, _, h3⟩ := ih
      refine ⟨.list (l.map PyData.str) :: ds, ?_, by simp, ?_⟩
      · show ((toD0L (sv l)).map PyData.list).bind (fun d => (toD0L (linesL q)).map fun r => d :: r) = _
        rw [h1, toD0L_str]; rfl
      · simp only [PyData.depthAll, PyData.depth, depthAll_str]
        omega
  obtain ⟨ds, h1, h2, h3⟩ := key q
  have hd : toD M (.lst (linesL q)) = some (.list ds) := by show (toD0L (linesL q)).map PyData.list = _; rw [h1]; rfl
  rw [peq_nil hd h3]
  congr 1
  rw [decide_eq_decide]; exact h2
theorem ev_merge (Γ Γ0 Γ1 Γ2 : Sig) (h0 : Γ.fn "merged_far" = some (d_merged_far.ev Γ2)) (h1 : Γ2.fn "reduced" = some (d_reduced.ev Γ0)) (h2 : Γ2.fn "taken" = some (d_taken.ev Γ1)) (h3 : Γ1.fn "reduced" = some (d_reduced.ev Γ0)) (M : Sto) (lists : PV) (lines : List (List Str)) (hk : kdOf lists = some (linesP lines)) (ht : (lines.map List.length).sum < 4000) (hn : lines.length ≤ 1000) :
    d_merge.ev Γ [lists] M = .ok (optP (mrgP lines)) M := by
  have hf := ev_far Γ2 Γ0 Γ1 h1 h2 h3 M lists lines hk ht hn _ (Nat.lt_succ_self _) _ rfl
  unfold mrgP
  generalize mfar ((lines.map List.length).sum + 1) ((lines.zipIdx).filter fun r => decide (r.1 ≠ [])) [] = R at *
  refine df_rt rfl ((ss_nx (s_asgT (e_call h0 (es_one (e_var rfl)) hf) rfl)).trans (ss_rt (s_ret ?_)))
  have c : evE Γ (.cmp .eq (.var 2) (.lst false .nil)) [some lists, some (.tup (sv R.1)), some (.lst (R.2.map rowP))] M = .ok (.bl (decide (R.2 = []))) M := e_cmp (e_var rfl) (e_lst es_nil (Nat.zero_le _)) (eq_of_peq (rows_nil M R.2))
  by_cases h : R.2 = []
  · rw [decide_eq_true h] at c
    rw [if_pos h]
    exact e_iteT c (e_var rfl)
  · rw [decide_eq_false h] at c
    rw [if_neg h]
    exact e_iteF c rfl

/-! ### draws -/
theorem erase_perm {α : Type} : ∀ (l : List α) (i : Nat) (h : i < l.length), (l[i] :: l.eraseIdx i).Perm l
  | a :: l, 0, _ => List.Perm.refl _
  | a :: l, i + 1, h => (List.Perm.swap a _ _).trans ((erase_perm l i (Nat.lt_of_succ_lt_succ h)).cons a)
theorem nodup_snoc {α : Type} {l : List α} {x : α} (h : l.Nodup) (hx : x ∉ l) : (l ++ [x]).Nodup :=
  List.nodup_append.mpr ⟨h, by simp, fun a ha b hb q => hx (by rw [List.mem_singleton.mp hb] at q; exact q ▸ ha)⟩
theorem ev_draw (Γ : Sig) (M : Sto) (s c : Nat) (m : Int) (h : St M s c) (h0 : 0 < m) (h1 : m < 2 ^ 62) : ∃ (v : Int) (M' : Sto), d_law_draw.ev Γ [.loc s, .int m] M = .ok (.int v) M' ∧ 0 ≤ v ∧ v < m ∧ St M' s c ∧ Stay M M' s c ∧ M'.length = M.length := by
  obtain ⟨cells, i, x, hne, hs, hc, hcells⟩ := h
  have hsl := locL_at hs
  have hcl := locL_at hc
  have hpos : 0 < (cells.length : Int) := by
    have : cells.length ≠ 0 := fun z => hcells (List.eq_nil_of_length_eq_zero z)
    omega
  have hat0 : 0 ≤ i % (cells.length : Int) := Int.emod_nonneg _ (by omega)
  have hat1 : i % (cells.length : Int) < cells.length := Int.emod_lt_of_pos _ hpos
  obtain ⟨cell, hcell⟩ : ∃ z, cells[(i % (cells.length : Int)).toNat]? = some z := ⟨cells[(i % (cells.length : Int)).toNat]'(by omega), List.getElem?_eq_getElem _⟩
  have e1 : evS Γ (.asg 2 (.idx (.var 0) (.int 0))) [some (.loc s), some (.int m), none, none, none] M = .ok .nx [some (.loc s), some (.int m), some (.loc c), none, none] M := s_asg (e_idx (e_var rfl) rfl (idx_loc (i := 0) hsl rfl))
  have hlen : lenOf M (.loc c) = some cells.length := by
    show (seqOf M (.loc c)).map (·.length) = _
    show (locL M c).map (·.length) = _
    rw [hcl]; simp
  have e2 : evS Γ (.asg 3 (.bin .mod (.idx (.var 0) (.int 1)) (.blt "len" (.cons (.var 2) .nil)))) [some (.loc s), some (.int m), some (.loc c), none, none] M = .ok .nx [some (.loc s), some (.int m), some (.loc c), some (.int (i % (cells.length : Int))), none] M :=
    s_asg (e_bin (e_idx (e_var rfl) rfl (idx_loc (i := 1) hsl rfl)) (e_blt (es_one (e_var rfl)) (w_len hlen)) (b_mod hpos))
  have e3 : evS Γ (.asg 4 (.idx (.var 2) (.var 3))) [some (.loc s), some (.int m), some (.loc c), some (.int (i % (cells.length : Int))), none] M = .ok .nx [some (.loc s), some (.int m), some (.loc c), some (.int (i % (cells.length : Int))), some (.int cell)] M :=
    s_asg (e_idx (e_var rfl) (e_var rfl) (idx_int (v := .loc c) hcl (fun _ h => nomatch h) hat0 (by rw [List.getElem?_map, hcell]; rfl)))
  have cnd : evE Γ (.cmp .ge (.var 4) (.bin .pow (.int 10) (.int 18))) [some (.loc s), some (.int m), some (.loc c), some (.int (i % (cells.length : Int))), some (.int cell)] M = .ok (.bl (decide ((10 : Int) ^ 18 ≤ cell))) M :=
    e_cmp (e_var rfl) (e_bin rfl rfl (b_pow ⟨by decide, by decide, by decide⟩)) c_ge
  by_cases hbig : (10 : Int) ^ 18 ≤ cell
  · rw [decide_eq_true hbig] at cnd
    have e4 : evS Γ (.sub (.var 2) (.var 3) (.bin .fdiv (.var 4) (.var 1))) [some (.loc s), some (.int m), some (.loc c), some (.int (i % (cells.length : Int))), some (.int cell)] M = .ok .nx [some (.loc s), some (.int m), some (.loc c), some (.int (i % (cells.length : Int))), some (.int cell)] (M.set c (some (.lst ((cells.map PV.int).set (i % (cells.length : Int)).toNat (.int (cell / m)))))) :=
      s_sub (e_bin (e_var rfl) (e_var rfl) (b_fdiv h0 (by omega))) (e_var rfl) (e_var rfl) (sub_loc hcl hat0 (by rw [List.length_map]; exact hat1))
    refine ⟨cell % m, _, df_rt rfl ((ss_nx e1).trans ((ss_nx e2).trans ((ss_nx e3).trans (ss_rt ((s_ifT cnd).trans ((ss_nx e4).trans (ss_rt (s_ret (e_bin (e_var rfl) (e_var rfl) (b_mod h0)))))))))), Int.emod_nonneg _ (by omega), Int.emod_lt_of_pos _ h0, ?_, Stay.refl.mine (.inr rfl), List.length_set ..⟩
    refine ⟨cells.set (i % (cells.length : Int)).toNat (cell / m), i, x, hne, by rw [List.getElem?_set_ne (Ne.symm hne)]; exact hs, ?_, fun z => hcells (by
      have := congrArg List.length z
      rw [List.length_set] at this
      exact List.eq_nil_of_length_eq_zero this)⟩
    rw [List.getElem?_set_self (List.getElem?_eq_some_iff.mp hc).1, List.map_set]
  · rw [decide_eq_false hbig] at cnd
    have e4 : evS Γ (.sub (.var 0) (.int 1) (.bin .add (.idx (.var 0) (.int 1)) (.int 1))) [some (.loc s), some (.int m), some (.loc c), some (.int (i % (cells.length : Int))), some (.int cell)] M = .ok .nx [some (.loc s), some (.int m), some (.loc c), some (.int (i % (cells.length : Int))), some (.int cell)] (M.set s (some (.lst [.loc c, .int (i + 1), .int x]))) :=
      s_sub (e_bin (e_idx (e_var rfl) rfl (idx_loc (i := 1) hsl rfl)) rfl b_add) (e_var rfl) rfl (sub_loc (i := 1) hsl (by decide) (by show (1 : Int) < 3; decide))
    have hs1 : (M.set s (some (MO.lst [.loc c, .int (i + 1), .int x])))[s]? = some (some (.lst [.loc c, .int (i + 1), .int x])) := List.getElem?_set_self (List.getElem?_eq_some_iff.mp hs).1
    generalize hM1 : M.set s (some (MO.lst [.loc c, .int (i + 1), .int x])) = M1 at e4 hs1
    have hsl1 := locL_at hs1
    have e5 : evS Γ (.sub (.var 0) (.int 2) (.bin .mod (.bin .add (.bin .add (.bin .mul (.idx (.var 0) (.int 2)) (.int 48271)) (.var 4)) (.int 12345)) (.int 2147483647))) [some (.loc s), some (.int m), some (.loc c), some (.int (i % (cells.length : Int))), some (.int cell)] M1 = .ok .nx [some (.loc s), some (.int m), some (.loc c), some (.int (i % (cells.length : Int))), some (.int cell)] (M1.set s (some (.lst [.loc c, .int (i + 1), .int ((x * 48271 + cell + 12345) % 2147483647)]))) :=
      s_sub (e_bin (e_bin (e_bin (e_bin (e_idx (e_var rfl) rfl (idx_loc (i := 2) hsl1 rfl)) rfl (b_mul ⟨by decide, by decide⟩)) (e_var rfl) b_add) rfl b_add) rfl (b_mod (by decide))) (e_var rfl) rfl (sub_loc (i := 2) hsl1 (by decide) (by show (2 : Int) < 3; decide))
    have hy0 : 0 ≤ (x * 48271 + cell + 12345) % 2147483647 := Int.emod_nonneg _ (by decide)
    have hy1 : (x * 48271 + cell + 12345) % 2147483647 < 2147483647 := Int.emod_lt_of_pos _ (by decide)
    generalize (x * 48271 + cell + 12345) % 2147483647 = y at e5 hy0 hy1
    have hs2 : (M1.set s (some (MO.lst [.loc c, .int (i + 1), .int y])))[s]? = some (some (.lst [.loc c, .int (i + 1), .int y])) := List.getElem?_set_self (List.getElem?_eq_some_iff.mp hs1).1
    have hsl2 := locL_at hs2
    have hst : Stay M (M1.set s (some (MO.lst [.loc c, .int (i + 1), .int y]))) s c := by rw [← hM1]; exact (Stay.refl.mine (.inl rfl)).mine (.inl rfl)
    have hl2 : (M1.set s (some (MO.lst [.loc c, .int (i + 1), .int y]))).length = M.length := by rw [List.length_set, ← hM1, List.length_set]
    have hc2 : (M1.set s (some (MO.lst [.loc c, .int (i + 1), .int y])))[c]? = some (some (.lst (cells.map PV.int))) := by rw [List.getElem?_set_ne hne, ← hM1, List.getElem?_set_ne hne]; exact hc
    generalize M1.set s (some (MO.lst [.loc c, .int (i + 1), .int y])) = M2 at *
    refine ⟨y * y % 2147483629 / 16 % m, M2, df_rt rfl ((ss_nx e1).trans ((ss_nx e2).trans ((ss_nx e3).trans ((ss_nx ((s_ifF cnd).trans ss_nil)).trans ((ss_nx e4).trans ((ss_nx e5).trans (ss_rt (s_ret (e_bin (e_bin (e_bin (e_bin (e_idx (e_var rfl) rfl (idx_loc (i := 2) hsl2 rfl)) (e_idx (e_var rfl) rfl (idx_loc (i := 2) hsl2 rfl)) (b_mul ⟨by omega, by omega⟩)) rfl (b_mod (by decide))) rfl (b_fdiv (by decide) (by decide))) (e_var rfl) (b_mod h0)))))))))), Int.emod_nonneg _ (by omega), Int.emod_lt_of_pos _ h0, ⟨cells, i + 1, y, hne, hs2, hc2, hcells⟩, hst, hl2⟩
/-- one of some -/
theorem ev_pick (Γ Γ1 : Sig) (hΓ : Γ.fn "_law_draw" = some (d_law_draw.ev Γ1)) (M : Sto) (s c : Nat) (v : PV) (l : List PV) (h : St M s c) (hv : kdOf v = some l) (hl : l ≠ []) (hl2 : l.length ≤ 1000) : ∃ x M', d_law_pick.ev Γ [.loc s, v] M = .ok x M' ∧ x ∈ l ∧ St M' s c ∧ Stay M M' s c ∧ M'.length = M.length := by
  have hpos : 0 < (l.length : Int) := by
    have : l.length ≠ 0 := fun z => hl (List.eq_nil_of_length_eq_zero z)
    omega
  obtain ⟨k, M', e, k0, k1, S', T', L'⟩ := ev_draw Γ1 M s c l.length h hpos (by omega)
  have hseq : ∀ M, seqOf M v = some l := fun M => by cases v <;> first | exact hv | cases hv
  have hns : ∀ z, v ≠ .str z := fun z q => by rw [q] at hv; cases hv
  have hlen : lenOf M v = some l.length := by
    cases v with
    | tup q => cases hv; rfl
    | lst q => cases hv; rfl
    | _ => cases hv
  have hx : l[k.toNat]? = some (l[k.toNat]'(by omega)) := List.getElem?_eq_getElem _
  exact ⟨_, M', df_rt rfl (ss_rt (s_ret (e_idx (e_var rfl) (e_call hΓ (es_two (e_var rfl) (e_blt (es_one (e_var rfl)) (w_len hlen))) e) (idx_int (hseq M') hns k0 hx)))), List.mem_of_getElem? hx, S', T', L'⟩
theorem ev_pickS (Γ Γ1 : Sig) (hΓ : Γ.fn "_law_draw" = some (d_law_draw.ev Γ1)) (M : Sto) (s c : Nat) (z : Str) (h : St M s c) (hl : 0 < z.cps.toList.length) (hl2 : z.length ≤ 1000) : ∃ q M', d_law_pick.ev Γ [.loc s, .str z] M = .ok (.str ⟨#[q]⟩) M' ∧ q ∈ z.cps.toList ∧ St M' s c ∧ Stay M M' s c ∧ M'.length = M.length := by
  have hzl : z.length = z.cps.toList.length := by rw [Array.length_toList]; rfl
  obtain ⟨k, M', e, k0, k1, S', T', L'⟩ := ev_draw Γ1 M s c z.length h (by omega) (by omega)
  have hx : z.cps.toList[k.toNat]? = some (z.cps.toList[k.toNat]'(by omega)) := List.getElem?_eq_getElem _
  refine ⟨_, M', df_rt rfl (ss_rt (s_ret (e_idx (e_var rfl) (e_call hΓ (es_two (e_var rfl) (e_blt (es_one (e_var rfl)) (w_len rfl))) e) ?_))), List.mem_of_getElem? hx, S', T', L'⟩
  have := Sk.atI_nat hx
  rw [Int.toNat_of_nonneg k0] at this
  show ofO ((atI z.cps.toList k).map fun c => PV.str ⟨#[c]⟩) M' = _
  rw [this]; rfl
/-- a list, mixed -/
theorem ev_mixed (Γ Γ1 : Sig) (hΓ : Γ.fn "_law_draw" = some (d_law_draw.ev Γ1)) (M : Sto) (s c : Nat) (v : PV) (l : List Str) (h : St M s c) (hv : kdOf v = some (sv l)) (hl : l.length ≤ 1000) : ∃ q M', d_law_mixed.ev Γ [.loc s, v] M = .ok (.lst (sv q)) M' ∧ q.Perm l ∧ St M' s c ∧ Stay M M' s c := by
  have hseq : ∀ M, seqOf M v = some (sv l) := fun M => by cases v <;> first | exact hv | cases hv
  obtain ⟨ls, lc⟩ := h.lt
  have e1 : evS Γ (.par [2, 3] (.cons (.lof true (.cons (.var 1) .nil)) (.cons (.lst true .nil) .nil))) [some (.loc s), some v, none, none] M = .ok .nx [some (.loc s), some v, some (.loc M.length), some (.loc (M.length + 1))] (M ++ [some (.lst (sv l))] ++ [some (.lst (sv []))]) := by
    have p1 : evE Γ (.lof true (.cons (.var 1) .nil)) [some (.loc s), some v, none, none] M = .ok (.loc M.length) (M ++ [some (.lst (sv l))]) := e_lof (es_one (e_var rfl)) (by
      show (match seqOf M v with
        | some xs => mkL true xs M
        | none => .no) = _
      rw [hseq]; rfl)
    have p2 : evE Γ (.lst true .nil) [some (.loc s), some v, none, none] (M ++ [some (.lst (sv l))]) = .ok (.loc (M.length + 1)) (M ++ [some (.lst (sv l))] ++ [some (.lst (sv []))]) := by
      have := e_lstM (Γ := Γ) (ρ := [some (.loc s), some v, none, none]) (M := M ++ [some (MO.lst (sv l))]) es_nil (Nat.zero_le _)
      rw [List.length_append, List.length_singleton] at this
      exact this
    exact s_par (es_two p1 p2) rfl
  have loop := s_whl (Γ := Γ) (c := .cmp .ne (.var 2) (.lst false .nil)) (b := (.cons (.exp (.mth "list" "append" (.var 3) (.cons (.mth "list" "pop" (.var 2) (.cons (.call "_law_draw" (.cons (.var 0) (.cons (.blt "len" (.cons (.var 2) .nil)) .nil))) .nil)) .nil))) .nil)) (ρ := [some (.loc s), some v, some (.loc M.length), some (.loc (M.length + 1))]) (M := M ++ [some (.lst (sv l))] ++ [some (.lst (sv []))])
    (fun m ρ Mc => ∃ left found : List Str, ρ = [some (.loc s), some v, some (.loc M.length), some (.loc (M.length + 1))] ∧ St Mc s c ∧ Stay M Mc s c ∧ Mc[M.length]? = some (some (.lst (sv left))) ∧ Mc[M.length + 1]? = some (some (.lst (sv found))) ∧ (left ++ found).Perm l ∧ m = left.length)
    (fun r => ∃ Mc, ∃ found : List Str, r = .ok .nx [some (.loc s), some v, some (.loc M.length), some (.loc (M.length + 1))] Mc ∧ St Mc s c ∧ Stay M Mc s c ∧ Mc[M.length + 1]? = some (some (.lst (sv found))) ∧ found.Perm l)
    l.length (by omega) ⟨l, [], rfl, h.app.app, Stay.app.trans Stay.app, by rw [List.append_assoc]; exact at_end, at_in (t := [some (.lst (sv l))]), by rw [List.append_nil], rfl⟩ (by
    rintro m ρ Mc ⟨left, found, rfl, hS, hT, ha, hb, hperm, rfl⟩
    have hlen := hperm.length_eq
    rw [List.length_append] at hlen
    have hal := locL_at ha
    have hbl := locL_at hb
    have cond : evE Γ (.cmp .ne (.var 2) (.lst false .nil)) [some (.loc s), some v, some (.loc M.length), some (.loc (M.length + 1))] Mc = .ok (.bl (!decide (left = []))) Mc := e_cmp (e_var rfl) (e_lst es_nil (Nat.zero_le _)) (ne_of_peq (loc_nil hal))
    by_cases hn : left = []
    · subst hn
      exact .inl ⟨Mc, cond, Mc, found, rfl, hS, hT, hb, by simpa using hperm⟩
    · refine .inr ⟨Mc, by rw [cond]; simp [hn], .inl ?_⟩
      have hpos : left.length ≠ 0 := fun z => hn (List.eq_nil_of_length_eq_zero z)
      obtain ⟨k, M1, e, k0, k1, S1, T1, L1⟩ := ev_draw Γ1 Mc s c left.length hS (by omega) (by omega)
      have ha1 : M1[M.length]? = some (some (.lst (sv left))) := (T1.at' _ (List.getElem?_eq_some_iff.mp ha).1 (by omega) (by omega)).trans ha
      have hb1 : M1[M.length + 1]? = some (some (.lst (sv found))) := (T1.at' _ (List.getElem?_eq_some_iff.mp hb).1 (by omega) (by omega)).trans hb
      have hx : left[k.toNat]? = some (left[k.toNat]'(by omega)) := List.getElem?_eq_getElem _
      have hpm : (left[k.toNat]'(by omega) :: left.eraseIdx k.toNat).Perm left := erase_perm left k.toNat _
      generalize left[k.toNat]'(by omega) = x at hx hpm
      have hpop : evM "list" "pop" (.loc M.length) [.int k] M1 = .ok (.str x) (M1.set M.length (some (.lst (sv (left.eraseIdx k.toNat))))) := w_pop (locL_at ha1) k0 (by omega) (by rw [List.getElem?_map, hx]; rfl) (sv_erase left k.toNat)
      have hbl2 : locL (M1.set M.length (some (.lst (sv (left.eraseIdx k.toNat))))) (M.length + 1) = some (sv found) := locL_at (by rw [List.getElem?_set_ne (by omega)]; exact hb1)
      have hlen2 : lenOf Mc (.loc M.length) = some left.length := by
        show (locL Mc M.length).map (·.length) = _
        rw [hal]; simp
      refine ⟨(left.eraseIdx k.toNat).length, _, _, ?_, .inl ((ss_nx (s_exp (e_mth (e_var rfl) (ty_loc hbl) (es_one (e_mth (e_var rfl) (ty_loc hal) (es_one (e_call hΓ (es_two (e_var rfl) (e_blt (es_one (e_var rfl)) (w_len hlen2))) e)) hpop)) (w_append hbl2 ?_)))).trans ss_nil), left.eraseIdx k.toNat, found ++ [x], rfl, ?_, ?_, ?_, ?_, ?_, rfl⟩
      · rw [List.length_eraseIdx]
        split <;> omega
      · rw [List.length_map]; exact Nat.lt_of_le_of_lt (show found.length ≤ 1000 by omega) (by decide)
      · exact (S1.set (by omega) (by omega)).set (by omega) (by omega)
      · exact ((hT.trans T1).set (Nat.le_refl _)).set (Nat.le_succ _)
      · rw [List.getElem?_set_ne (by omega), List.getElem?_set_self (List.getElem?_eq_some_iff.mp ha1).1]
      · rw [List.getElem?_set_self (by rw [List.length_set]; exact (List.getElem?_eq_some_iff.mp hb1).1)]; simp
      · rw [← List.append_assoc]
        exact (((List.perm_append_singleton x (left.eraseIdx k.toNat ++ found))).trans (hpm.append_right found)).trans hperm)
  obtain ⟨Mc, found, e2, hS, hT, hb, hlen⟩ := loop
  exact ⟨found, _, df_rt rfl ((ss_nx e1).trans ((ss_nx e2).trans ((ss_nx (s_frz rfl (locL_at hb))).trans (ss_rt (s_ret (e_var rfl)))))), hlen, hS.set (by omega) (by omega), hT.set (Nat.le_succ _)⟩
/-- names -/
theorem ev_titles (Γ Γ1 Γ2 : Sig) (hΓ : Γ.fn "_law_pick" = some (d_law_pick.ev Γ2)) (hΓ2 : Γ2.fn "_law_draw" = some (d_law_draw.ev Γ1)) (M : Sto) (s c n : Nat) (h : St M s c) (hn : n ≤ 20) : ∃ q M', d_law_titles.ev Γ [.loc s, .int (n : Int)] M = .ok (.lst (sv q)) M' ∧ q.length = n ∧ q.Nodup ∧ St M' s c ∧ Stay M M' s c := by
  obtain ⟨ls, lc⟩ := h.lt
  generalize hlet : ("abcdefghijklmnopqrstuvwxyz" : Str) = letters
  have hlen : letters.cps.toList.length = 26 := by rw [← hlet]; decide +kernel
  have hnod : letters.cps.toList.Nodup := by rw [← hlet]; decide +kernel
  have hll : letters.length ≤ 1000 := by
    have : letters.length = letters.cps.toList.length := by rw [Array.length_toList]; rfl
    omega
  have e1 : evS Γ (.asgT (.cons (.nm 2) (.cons (.nm 3) .nil)) (.tup (.cons (.str letters) (.cons (.lst true .nil) .nil)))) [some (.loc s), some (.int (n : Int)), none, none, none, none, none, none, none, none] M = .ok .nx [some (.loc s), some (.int (n : Int)), some (.str letters), some (.loc M.length), none, none, none, none, none, none] (M ++ [some (.lst (sv []))]) :=
    s_asgT (e_tup (es_two rfl (e_lstM es_nil (Nat.zero_le _))) (lim_small (show 2 ≤ 1000 by decide))) rfl
  -- one name
  have one : ∀ (M1 : Sto) (found : List Str) (v4 v5 v6 : Option PV), St M1 s c → M1[M.length]? = some (some (.lst (sv found))) → found.length < 26 → ∃ (w : Str) (v5' v6' : Option PV) (M2 : Sto), evSs Γ (.cons (.asg 5 (.mth "str" "join" (.str "") (.cons (.cpr (.ls false) [8] (.nm 8) (.fn "range" 1 (.cons (.call "_law_pick" (.cons (.var 0) (.cons (.lst false (.cons (.int 1) (.cons (.int 1) (.cons (.int 2) (.cons (.int 3) (.cons (.int 8) .nil)))))) .nil))) .nil)) .miss (.elt (.call "_law_pick" (.cons (.var 0) (.cons (.var 2) .nil))))) .nil)))
    (.cons (.asg 6 (.cpr (.ls false) [7] (.nm 7) (.seq (.var 2)) .miss (.elt (.bin .add (.bin .add (.slc (.var 5) .miss (.int 6)) (.str "z")) (.var 7)))))
    (.cons (.exp (.mth "list" "append" (.var 3) (.cons (.idx (.cpr (.ls false) [9] (.nm 9) (.seq (.bin .add (.lst false (.cons (.var 5) .nil)) (.var 6))) (.cmp .nin (.var 9) (.var 3)) (.elt (.var 9))) (.int 0)) .nil)))
    .nil))) [some (.loc s), some (.int (n : Int)), some (.str letters), some (.loc M.length), v4, v5, v6, none, none, none] M1 = .ok .nx [some (.loc s), some (.int (n : Int)), some (.str letters), some (.loc M.length), v4, v5', v6', none, none, none] M2 ∧ St M2 s c ∧ (∀ k, k < M.length → k ≠ s → k ≠ c → M2[k]? = M1[k]?) ∧ M2.length = M1.length ∧ M2[M.length]? = some (some (.lst (sv (found ++ [w])))) ∧ w ∉ found := by
    intro M1 found v4 v5 v6 hS hb hfl
    have hlb := (List.getElem?_eq_some_iff.mp hb).1
    obtain ⟨x, Ma, ea, hx, Sa, Ta, La⟩ := ev_pick Γ2 Γ1 hΓ2 M1 s c (.lst [.int 1, .int 1, .int 2, .int 3, .int 8]) _ hS rfl (by simp) (by decide)
    obtain ⟨k, rfl, hk⟩ : ∃ k : Nat, x = .int (k : Int) ∧ k ≤ 8 := by
      simp only [List.mem_cons, List.not_mem_nil, or_false] at hx
      rcases hx with rfl | rfl | rfl | rfl | rfl
      · exact ⟨1, rfl, by decide⟩
      · exact ⟨1, rfl, by decide⟩
      · exact ⟨2, rfl, by decide⟩
      · exact ⟨3, rfl, by decide⟩
      · exact ⟨8, rfl, by decide⟩
    obtain ⟨acc, Mb, eb, ys, rfl, hys, hy1, Sb, Tb, Lb, _⟩ := cpr_inv (Γ := Γ) (m := false) (own := [8]) (tg := .nm 8) (it := .fn "range" 1 (.cons (.call "_law_pick" (.cons (.var 0) (.cons (.lst false (.cons (.int 1) (.cons (.int 1) (.cons (.int 2) (.cons (.int 3) (.cons (.int 8) .nil)))))) .nil))) .nil)) (c := .miss) (e := .call "_law_pick" (.cons (.var 0) (.cons (.var 2) .nil))) (ρ := [some (.loc s), some (.int (n : Int)), some (.str letters), some (.loc M.length), v4, v5, v6, none, none, none]) (M := M1) (M1 := Ma) (items := rngL 0 k)
      (fun j acc M' => ∃ ys : List Str, acc = sv ys ∧ ys.length = j ∧ (∀ y ∈ ys, y.length = 1) ∧ St M' s c ∧ Stay M1 M' s c ∧ M'.length = M1.length ∧ j ≤ 8)
      (i_fn (es_one (e_call hΓ (es_two (e_var rfl) (e_lst (es_cons rfl (es_cons rfl (es_cons rfl (es_cons rfl (es_one rfl))))) (lim_small (show 5 ≤ 1000 by decide)))) ea)) rfl (w_range (by omega))) ⟨[], rfl, rfl, by simp, Sa, Ta, La, by decide⟩
      (fun j acc M' ⟨ys, e, hl, _, _, _, _, hj⟩ => by rw [e, List.length_map, hl]; exact Nat.lt_of_le_of_lt hj (by decide))
      (fun j x acc M' hx ⟨ys, e, hl, h1, S', T', L', hj⟩ => by
        subst e
        have hjk : j < k := by
          have := (List.getElem?_eq_some_iff.mp hx).1
          unfold rngL at this
          simpa using this
        obtain ⟨q, M'', eq, _, S'', T'', L''⟩ := ev_pickS Γ2 Γ1 hΓ2 M' s c letters S' (by omega) hll
        refine ⟨_, true, M', rfl, rfl, (fun z => by cases z), fun _ => ⟨.str ⟨#[q]⟩, M'', e_call hΓ (es_two (e_var rfl) (e_var rfl)) eq, ys ++ [⟨#[q]⟩], by simp, by rw [List.length_append, hl]; rfl, fun y hy => ?_, S'', T'.trans T'', L''.trans L', by omega⟩⟩
        rcases List.mem_append.mp hy with hy | hy
        · exact h1 y hy
        · rw [List.mem_singleton.mp hy]; rfl)
    have hkl : (rngL 0 k).length = k := by unfold rngL; simp
    rw [hkl] at hys
    have hsum : (ys.map (·.length)).sum = ys.length := by
      clear eb hys
      induction ys with
      | nil => rfl
      | cons y ys ih => rw [List.map_cons, List.sum_cons, hy1 y (by simp), ih fun z hz => hy1 z (by simp [hz]), List.length_cons]; omega
    have hempty : ("" : Str).length = 0 := by decide +kernel
    have e5 : evE Γ (.mth "str" "join" (.str "") (.cons (.cpr (.ls false) [8] (.nm 8) (.fn "range" 1 (.cons (.call "_law_pick" (.cons (.var 0) (.cons (.lst false (.cons (.int 1) (.cons (.int 1) (.cons (.int 2) (.cons (.int 3) (.cons (.int 8) .nil)))))) .nil))) .nil)) .miss (.elt (.call "_law_pick" (.cons (.var 0) (.cons (.var 2) .nil))))) .nil)) [some (.loc s), some (.int (n : Int)), some (.str letters), some (.loc M.length), v4, v5, v6, none, none, none] M1 = .ok (.str (Txt.join "" ys)) Mb :=
      e_mth rfl ty_str0 (es_one eb) (w_join (by rw [hsum, hempty, Nat.mul_zero]; exact lim_small (by omega)))
    have hw : (Txt.join "" ys).length ≤ 16 := by
      have h1 : Txt.join "" ys = Str.join "" ys := StrLaws.glued_eq_join "" ys
      have h2 := StrLaws.join_length_le "" ys
      rw [hsum, hempty, Nat.mul_zero] at h2
      rw [h1]; omega
    generalize Txt.join "" ys = w at e5 hw
    have hbb : Mb[M.length]? = some (some (.lst (sv found))) := (Tb.at' _ hlb (by omega) (by omega)).trans hb
    have hz1 : ("z" : Str).length = 1 := by decide +kernel
    have hc6 := cut_len w none (some 6)
    have e6 : evE Γ (.cpr (.ls false) [7] (.nm 7) (.seq (.var 2)) .miss (.elt (.bin .add (.bin .add (.slc (.var 5) .miss (.int 6)) (.str "z")) (.var 7)))) [some (.loc s), some (.int (n : Int)), some (.str letters), some (.loc M.length), v4, some (.str w), v6, none, none, none] Mb = .ok (.lst (sv (letters.cps.toList.map fun q => cutS w none (some 6) ++ "z" ++ (⟨#[q]⟩ : Str)))) Mb := by
      refine (cpr_pure (M1 := Mb) (items := letters.cps.toList) (fun q => PV.str ⟨#[q]⟩) (fun _ => true) (fun q => PV.str (cutS w none (some 6) ++ "z" ++ (⟨#[q]⟩ : Str))) (i_seq (e_var rfl) rfl) (by rw [hlen]; decide) fun q _ => ⟨_, rfl, rfl, fun _ => ?_⟩).trans ?_
      · refine e_bin (e_bin (e_upto (e_var rfl) rfl) rfl (b_addS (lim_small (by rw [hz1]; omega)))) (e_var rfl) (b_addS (lim_small ?_))
        rw [Str.length_append, hz1]
        show _ + 1 + 1 ≤ 1000
        omega
      · rw [List.filter_eq_self.mpr (fun _ _ => rfl)]
        unfold sv mkL
        rw [List.map_map]; rfl
    generalize hsp : (letters.cps.toList.map fun q => cutS w none (some 6) ++ "z" ++ (⟨#[q]⟩ : Str)) = spares at e6
    have hsl : spares.length = 26 := by rw [← hsp, List.length_map, hlen]
    have hsn : spares.Nodup := by
      rw [← hsp]
      unfold List.Nodup
      rw [List.pairwise_map]
      refine List.Pairwise.imp (fun {a b} hab z => hab ?_) hnod
      have := app_inj z
      injection this with this
      simpa using this
    obtain ⟨y0, hy0, hy0f⟩ := pigeon (m := found) hsn (by rw [hsl]; exact hfl)
    have hbl := locL_at hbb
    have e7 : evE Γ (.cpr (.ls false) [9] (.nm 9) (.seq (.bin .add (.lst false (.cons (.var 5) .nil)) (.var 6))) (.cmp .nin (.var 9) (.var 3)) (.elt (.var 9))) [some (.loc s), some (.int (n : Int)), some (.str letters), some (.loc M.length), v4, some (.str w), some (.lst (sv spares)), none, none, none] Mb = .ok (.lst (sv ((w :: spares).filter fun y => decide (y ∉ found)))) Mb := by
      refine (cpr_pure (M1 := Mb) (items := w :: spares) PV.str (fun y => decide (y ∉ found)) PV.str (i_seq (e_bin (e_lst (es_one (e_var rfl)) (lim_small (show 1 ≤ 1000 by decide))) (e_var rfl) (b_addL (lim_small (by rw [List.length_map, hsl]; show 1 + 26 ≤ 1000; decide)))) rfl) (by rw [List.length_cons, hsl]; decide) fun y _ => ⟨_, rfl, ?_, fun _ => e_var rfl⟩).trans rfl
      refine e_cmp (e_var rfl) (e_var rfl) ((nin_of (pin_str (M := Mb) (v := .loc M.length) (l := found) hbl (fun _ h => nomatch h) (fun _ h => nomatch h))).trans ?_)
      by_cases h : y ∈ found <;> simp [h]
    obtain ⟨w', rest, hcand⟩ : ∃ w' rest, ((w :: spares).filter fun y => decide (y ∉ found)) = w' :: rest := by
      cases hq : (w :: spares).filter fun y => decide (y ∉ found) with
      | nil =>
        have : y0 ∈ (w :: spares).filter fun y => decide (y ∉ found) := List.mem_filter.mpr ⟨by simp [hy0], decide_eq_true hy0f⟩
        rw [hq] at this
        cases this
      | cons a r => exact ⟨a, r, rfl⟩
    have hw' : w' ∉ found := by
      have : w' ∈ (w :: spares).filter fun y => decide (y ∉ found) := by rw [hcand]; simp
      exact of_decide_eq_true (List.mem_filter.mp this).2
    rw [hcand] at e7
    refine ⟨w', some (.str w), some (.lst (sv spares)), Mb.set M.length (some (.lst (sv found ++ [.str w']))), (ss_nx (s_asg e5)).trans ((ss_nx (s_asg e6)).trans ((ss_nx (s_exp (e_mth (e_var rfl) (ty_loc hbl) (es_one (e_idx e7 rfl hd_idxL)) (w_append hbl ?_)))).trans ss_nil)), Sb.set (by omega) (by omega), fun k hk h1 h2 => ?_, by rw [List.length_set, Lb], ?_, hw'⟩
    · rw [List.length_map]; exact Nat.lt_of_lt_of_le hfl (by decide)
    · rw [List.getElem?_set_ne (by omega)]; exact Tb.at' k (by omega) h1 h2
    · rw [List.getElem?_set_self (by omega)]; simp
  obtain ⟨ρ', M', e2, found, v4, v5, v6, hρ, S', T', hb', hfl, hnd⟩ := s_for (Γ := Γ) (tg := .nm 4) (it := .fn "range" 1 (.cons (.var 1) .nil)) (items := rngL 0 n) (ρ := [some (.loc s), some (.int (n : Int)), some (.str letters), some (.loc M.length), none, none, none, none, none, none]) (M := M ++ [some (.lst (sv []))]) (M1 := M ++ [some (.lst (sv []))]) (b := (.cons (.asg 5 (.mth "str" "join" (.str "") (.cons (.cpr (.ls false) [8] (.nm 8) (.fn "range" 1 (.cons (.call "_law_pick" (.cons (.var 0) (.cons (.lst false (.cons (.int 1) (.cons (.int 1) (.cons (.int 2) (.cons (.int 3) (.cons (.int 8) .nil)))))) .nil))) .nil)) .miss (.elt (.call "_law_pick" (.cons (.var 0) (.cons (.var 2) .nil))))) .nil)))
    (.cons (.asg 6 (.cpr (.ls false) [7] (.nm 7) (.seq (.var 2)) .miss (.elt (.bin .add (.bin .add (.slc (.var 5) .miss (.int 6)) (.str "z")) (.var 7)))))
    (.cons (.exp (.mth "list" "append" (.var 3) (.cons (.idx (.cpr (.ls false) [9] (.nm 9) (.seq (.bin .add (.lst false (.cons (.var 5) .nil)) (.var 6))) (.cmp .nin (.var 9) (.var 3)) (.elt (.var 9))) (.int 0)) .nil)))
    .nil)))) (fun j ρ M' => ∃ (found : List Str) (v4 v5 v6 : Option PV), ρ = [some (.loc s), some (.int (n : Int)), some (.str letters), some (.loc M.length), v4, v5, v6, none, none, none] ∧ St M' s c ∧ Stay M M' s c ∧ M'[M.length]? = some (some (.lst (sv found))) ∧ found.length = j ∧ found.Nodup)
    (i_fn (es_one (e_var rfl)) rfl (w_range (by omega))) ⟨[], none, none, none, rfl, h.app, Stay.app, at_end, rfl, List.nodup_nil⟩ (by
    rintro j x ρ M1 hx ⟨found, v4, v5, v6, rfl, S1, T1, hb, hj, hnd⟩
    have hjn : j < n := by
      have := (List.getElem?_eq_some_iff.mp hx).1
      unfold rngL at this
      simpa using this
    obtain ⟨w, v5', v6', M2, e, S2, T2, L2', hb2, hw⟩ := one M1 found (some x) v5 v6 S1 hb (by omega)
    exact ⟨_, rfl, .nx, _, M2, e, .inl rfl, found ++ [w], some x, v5', v6', rfl, S2, ⟨by rw [L2']; exact T1.len, fun k hk h1 h2 => (T2 k hk h1 h2).trans (T1.at' k hk h1 h2)⟩, hb2, by rw [List.length_append, hj]; rfl, nodup_snoc hnd hw⟩)
  subst hρ
  have hkl : (rngL 0 n).length = n := by unfold rngL; simp
  subst hlet
  exact ⟨found, _, df_rt rfl ((ss_nx e1).trans ((ss_nx e2).trans ((ss_nx (s_frz rfl (locL_at hb'))).trans (ss_rt (s_ret (e_var rfl)))))), by rw [hfl, hkl], hnd, S'.set (by omega) (by omega), T'.set (Nat.le_refl _)⟩
/-! ### lists of names -/
theorem ev_lists (Γ Γ1 Γ2 Γ3 : Sig) (hd0 : Γ.fn "_law_draw" = some (d_law_draw.ev Γ1)) (hp : Γ.fn "_law_pick" = some (d_law_pick.ev Γ2)) (hp2 : Γ2.fn "_law_draw" = some (d_law_draw.ev Γ1)) (hm : Γ.fn "_law_mixed" = some (d_law_mixed.ev Γ3)) (hm2 : Γ3.fn "_law_draw" = some (d_law_draw.ev Γ1)) (M : Sto) (s c : Nat) (l : List Str) (h : St M s c) (hl : l.length ≤ 20) (hnl : l.Nodup) :
    ∃ L M', d_law_lists.ev Γ [.loc s, .lst (sv l)] M = .ok (.lst (linesP L)) M' ∧ L.length ≤ 7 ∧ (∀ x ∈ L, x.length ≤ 20 ∧ x.Nodup ∧ x ⊆ l) ∧ St M' s c ∧ Stay M M' s c := by
  obtain ⟨ls, lc⟩ := h.lt
  obtain ⟨q, Ma, ea, hq, Sa, Ta⟩ := ev_mixed Γ3 Γ1 hm2 M s c (.lst (sv l)) l h rfl (by omega)
  obtain ⟨way, Mb, eb, w0, w1, Sb, Tb, Lb⟩ := ev_draw Γ1 Ma s c 4 Sa (by decide) (by decide)
  have hMM : M.length ≤ Mb.length := Nat.le_trans Ta.len Tb.len
  have e1 : evS Γ (.par [2, 3, 4] (.cons (.call "_law_mixed" (.cons (.var 0) (.cons (.var 1) .nil))) (.cons (.call "_law_draw" (.cons (.var 0) (.cons (.int 4) .nil))) (.cons (.lst true .nil) .nil)))) [some (.loc s), some (.lst (sv l)), none, none, none, none, none, none, none] M
      = .ok .nx [some (.loc s), some (.lst (sv l)), some (.lst (sv q)), some (.int way), some (.loc Mb.length), none, none, none, none] (Mb ++ [some (.lst (linesP []))]) :=
    s_par (es_three (e_call hm (es_two (e_var rfl) (e_var rfl)) ea) (e_call hd0 (es_two (e_var rfl) rfl) eb) (e_lstM es_nil (Nat.zero_le _))) rfl
  obtain ⟨k, Mc, ec, k0, k1, Sc, Tc, Lc⟩ := ev_draw Γ1 (Mb ++ [some (.lst (linesP []))]) s c 7 Sb.app (by decide) (by decide)
  obtain ⟨k, rfl⟩ := Int.eq_ofNat_of_zero_le k0
  have hbc : Mc[Mb.length]? = some (some (.lst (linesP []))) := (Tc.at' _ (by simp) (by omega) (by omega)).trans at_end
  obtain ⟨ρ', M', e2, lines, v5, v6, v7, hρ, S', T', hb', hll, hlj⟩ := s_for (Γ := Γ) (tg := .nm 5) (it := .fn "range" 1 (.cons (.call "_law_draw" (.cons (.var 0) (.cons (.int 7) .nil))) .nil)) (items := rngL 0 k) (ρ := [some (.loc s), some (.lst (sv l)), some (.lst (sv q)), some (.int way), some (.loc Mb.length), none, none, none, none]) (M := Mb ++ [some (.lst (linesP []))]) (M1 := Mc) (b := (.cons (.asg 6 (.var 2))
    (.cons (.ifs (.or (.cmp .eq (.var 3) (.int 0)) (.and (.cmp .eq (.var 3) (.int 1)) (.cmp .eq (.call "_law_draw" (.cons (.var 0) (.cons (.int 3) .nil))) (.int 0))))
    (.cons (.asg 6 (.call "_law_mixed" (.cons (.var 0) (.cons (.var 1) .nil))))
    .nil)
    .nil)
    (.cons (.asg 7 (.call "_law_pick" (.cons (.var 0) (.cons (.lst false (.cons (.int 2) (.cons (.int 3) (.cons (.int 3) (.cons (.int 5) .nil))))) .nil))))
    (.cons (.exp (.mth "list" "append" (.var 4) (.cons (.blt "tuple" (.cons (.cpr (.ls false) [8] (.nm 8) (.seq (.var 6)) (.cmp .gt (.call "_law_draw" (.cons (.var 0) (.cons (.var 7) .nil))) (.int 0)) (.elt (.var 8))) .nil)) .nil)))
    .nil)))))
    (fun j ρ Mx => ∃ (lines : List (List Str)) (v5 v6 v7 : Option PV), ρ = [some (.loc s), some (.lst (sv l)), some (.lst (sv q)), some (.int way), some (.loc Mb.length), v5, v6, v7, none] ∧ St Mx s c ∧ Stay M Mx s c ∧ Mx[Mb.length]? = some (some (.lst (linesP lines))) ∧ (∀ x ∈ lines, x.length ≤ 20 ∧ x.Nodup ∧ x ⊆ l) ∧ lines.length = j)
    (i_fn (es_one (e_call hd0 (es_two (e_var rfl) rfl) ec)) rfl (w_range (by omega))) ⟨[], none, none, none, rfl, Sc, ((Ta.trans Tb).trans Stay.app).trans Tc, hbc, by simp, rfl⟩ (by
    rintro j x ρ Mx hx ⟨lines, v5, v6, v7, rfl, Sx, Tx, hb, hll, hlj⟩
    have hjk : j < k := by have := (List.getElem?_eq_some_iff.mp hx).1; rwa [rngL_len] at this
    have hbl := (List.getElem?_eq_some_iff.mp hb).1
    refine ⟨_, rfl, ?_⟩
    -- which list
    have other : ∃ (o : List Str) (My : Sto), evS Γ (.ifs (.or (.cmp .eq (.var 3) (.int 0)) (.and (.cmp .eq (.var 3) (.int 1)) (.cmp .eq (.call "_law_draw" (.cons (.var 0) (.cons (.int 3) .nil))) (.int 0))))
    (.cons (.asg 6 (.call "_law_mixed" (.cons (.var 0) (.cons (.var 1) .nil))))
    .nil)
    .nil) [some (.loc s), some (.lst (sv l)), some (.lst (sv q)), some (.int way), some (.loc Mb.length), some x, some (.lst (sv q)), v7, none] Mx = .ok .nx [some (.loc s), some (.lst (sv l)), some (.lst (sv q)), some (.int way), some (.loc Mb.length), some x, some (.lst (sv o)), v7, none] My ∧ o.Perm l ∧ St My s c ∧ Stay Mx My s c := by
      have mix : ∀ My, St My s c → ∃ (o : List Str) (Mz : Sto), evSs Γ (.cons (.asg 6 (.call "_law_mixed" (.cons (.var 0) (.cons (.var 1) .nil)))) .nil) [some (.loc s), some (.lst (sv l)), some (.lst (sv q)), some (.int way), some (.loc Mb.length), some x, some (.lst (sv q)), v7, none] My = .ok .nx [some (.loc s), some (.lst (sv l)), some (.lst (sv q)), some (.int way), some (.loc Mb.length), some x, some (.lst (sv o)), v7, none] Mz ∧ o.Perm l ∧ St Mz s c ∧ Stay My Mz s c := fun My SM => by
        obtain ⟨o, Mz, eo, ho, So, To⟩ := ev_mixed Γ3 Γ1 hm2 My s c (.lst (sv l)) l SM rfl (by omega)
        exact ⟨o, Mz, (ss_nx (s_asg (e_call hm (es_two (e_var rfl) (e_var rfl)) eo))).trans ss_nil, ho, So, To⟩
      have c1 : evE Γ (.cmp .eq (.var 3) (.int 0)) [some (.loc s), some (.lst (sv l)), some (.lst (sv q)), some (.int way), some (.loc Mb.length), some x, some (.lst (sv q)), v7, none] Mx = .ok (.bl (decide (way = 0))) Mx := e_cmp (e_var rfl) rfl c_eqi
      by_cases hw0 : way = 0
      · rw [decide_eq_true hw0] at c1
        obtain ⟨o, Mz, eo, ho, So, To⟩ := mix Mx Sx
        exact ⟨o, Mz, (s_ifT (e_orT c1)).trans eo, ho, So, To⟩
      · rw [decide_eq_false hw0] at c1
        have c2 : evE Γ (.cmp .eq (.var 3) (.int 1)) [some (.loc s), some (.lst (sv l)), some (.lst (sv q)), some (.int way), some (.loc Mb.length), some x, some (.lst (sv q)), v7, none] Mx = .ok (.bl (decide (way = 1))) Mx := e_cmp (e_var rfl) rfl c_eqi
        by_cases hw1 : way = 1
        · rw [decide_eq_true hw1] at c2
          obtain ⟨z, My, ez, _, _, Sy, Ty, _⟩ := ev_draw Γ1 Mx s c 3 Sx (by decide) (by decide)
          have c3 : evE Γ (.cmp .eq (.call "_law_draw" (.cons (.var 0) (.cons (.int 3) .nil))) (.int 0)) [some (.loc s), some (.lst (sv l)), some (.lst (sv q)), some (.int way), some (.loc Mb.length), some x, some (.lst (sv q)), v7, none] Mx = .ok (.bl (decide (z = 0))) My := e_cmp (e_call hd0 (es_two (e_var rfl) rfl) ez) rfl c_eqi
          by_cases hz : z = 0
          · rw [decide_eq_true hz] at c3
            obtain ⟨o, Mz, eo, ho, So, To⟩ := mix My Sy
            exact ⟨o, Mz, (s_ifT (e_orF c1 (e_andT c2 c3))).trans eo, ho, So, Ty.trans To⟩
          · rw [decide_eq_false hz] at c3
            exact ⟨q, My, (s_ifF (e_orF c1 (e_andT c2 c3))).trans ss_nil, hq, Sy, Ty⟩
        · rw [decide_eq_false hw1] at c2
          exact ⟨q, Mx, (s_ifF (e_orF c1 (e_andF c2))).trans ss_nil, hq, Sx, Stay.refl⟩
    obtain ⟨o, My, eo, hperm, Sy, Ty⟩ := other
    have ho : o.length ≤ 20 := by rw [hperm.length_eq]; exact hl
    obtain ⟨z, Mz, ez, hz, Sz, Tz, Lz⟩ := ev_pick Γ2 Γ1 hp2 My s c (.lst [.int 2, .int 3, .int 3, .int 5]) _ Sy rfl (by simp) (by decide)
    obtain ⟨size, rfl, hs0, hs1⟩ : ∃ i : Int, z = .int i ∧ 0 < i ∧ i < 100 := by
      simp only [List.mem_cons, List.not_mem_nil, or_false] at hz
      rcases hz with rfl | rfl | rfl | rfl
      · exact ⟨2, rfl, by decide, by decide⟩
      · exact ⟨3, rfl, by decide, by decide⟩
      · exact ⟨3, rfl, by decide, by decide⟩
      · exact ⟨5, rfl, by decide, by decide⟩
    obtain ⟨acc, Mw, ew, ys, rfl, hys, hsub, Sw, Tw, _⟩ := cpr_inv (Γ := Γ) (m := false) (own := [8]) (tg := .nm 8) (it := .seq (.var 6)) (c := .cmp .gt (.call "_law_draw" (.cons (.var 0) (.cons (.var 7) .nil))) (.int 0)) (e := .var 8) (ρ := [some (.loc s), some (.lst (sv l)), some (.lst (sv q)), some (.int way), some (.loc Mb.length), some x, some (.lst (sv o)), some (.int size), none]) (M := Mz) (M1 := Mz) (items := sv o)
      (fun j acc Mv => ∃ ys : List Str, acc = sv ys ∧ ys.length ≤ j ∧ ys.Sublist (o.take j) ∧ St Mv s c ∧ Stay Mz Mv s c ∧ j ≤ 20)
      (i_seq (e_var rfl) rfl) ⟨[], rfl, Nat.le_refl _, by simp, Sz, Stay.refl, by decide⟩
      (fun j acc Mv ⟨ys, e, hl, _, _, _, hj⟩ => by rw [e, List.length_map]; exact Nat.lt_of_le_of_lt (Nat.le_trans hl hj) (by decide))
      (fun j x acc Mv hx ⟨ys, e, hl, hsub, S', T', hj⟩ => by
        subst e
        have hjo : j < o.length := by have := (List.getElem?_eq_some_iff.mp hx).1; rwa [List.length_map] at this
        rw [List.getElem?_map, Option.map_eq_some_iff] at hx
        obtain ⟨y, hy, rfl⟩ := hx
        have htk : o.take (j + 1) = o.take j ++ [y] := by rw [List.take_add_one, hy]; rfl
        obtain ⟨d, Mu, ed, _, _, Su, Tu, _⟩ := ev_draw Γ1 Mv s c size S' hs0 (by omega)
        refine ⟨_, decide (0 < d), Mu, rfl, e_cmp (e_call hd0 (es_two (e_var rfl) (e_var rfl)) ed) rfl c_gt, fun _ => ⟨ys, rfl, by omega, by rw [htk]; exact hsub.trans (List.sublist_append_left _ _), Su, T'.trans Tu, by omega⟩, fun _ => ⟨.str y, Mu, e_var rfl, ys ++ [y], by simp, by rw [List.length_append, List.length_singleton]; omega, by rw [htk]; exact hsub.append (List.Sublist.refl _), Su, T'.trans Tu, by omega⟩⟩)
    rw [List.length_map] at hys
    have hso : ys.Sublist o := hsub.trans (List.take_sublist _ _)
    have hball : Stay Mx Mw s c := (Ty.trans Tz).trans Tw
    have hbw : Mw[Mb.length]? = some (some (.lst (linesP lines))) := (hball.at' _ hbl (by omega) (by omega)).trans hb
    have hby : Mz[Mb.length]? = some (some (.lst (linesP lines))) := ((Ty.trans Tz).at' _ hbl (by omega) (by omega)).trans hb
    refine ⟨.nx, [some (.loc s), some (.lst (sv l)), some (.lst (sv q)), some (.int way), some (.loc Mb.length), some x, some (.lst (sv o)), some (.int size), none], Mw.set Mb.length (some (.lst (linesP lines ++ [.tup (sv ys)]))), (ss_nx (s_asg (e_var rfl))).trans ((ss_nx eo).trans ((ss_nx (s_asg (e_call hp (es_two (e_var rfl) (e_lst (es_cons rfl (es_cons rfl (es_cons rfl (es_one rfl)))) (lim_small (show 4 ≤ 1000 by decide)))) ez))).trans ((ss_nx (s_exp (e_mth (e_var rfl) (ty_loc (locL_at hby)) (es_one (e_blt (es_one ew) (w_tuple rfl))) (w_append (locL_at hbw) ?_)))).trans ss_nil))), .inl rfl, lines ++ [ys], some x, some (.lst (sv o)), some (.int size), rfl, Sw.set (by omega) (by omega), (Tx.trans hball).set hMM, ?_, ?_, by rw [List.length_append, hlj]; rfl⟩
    · unfold linesP
      rw [List.length_map, hlj]
      exact Nat.lt_of_lt_of_le (show j < 7 by omega) (by decide)
    · rw [List.getElem?_set_self (List.getElem?_eq_some_iff.mp hbw).1]
      unfold linesP; simp
    · intro z hz
      rcases List.mem_append.mp hz with hz | hz
      · exact hll z hz
      · rw [List.mem_singleton.mp hz]
        exact ⟨by omega, hso.nodup (hperm.symm.nodup hnl), fun a ha => hperm.subset (hso.subset ha)⟩)
  subst hρ
  rw [rngL_len] at hlj
  exact ⟨lines, _, df_rt rfl ((ss_nx e1).trans ((ss_nx e2).trans ((ss_nx (s_frz rfl (locL_at hb'))).trans (ss_rt (s_ret (e_var rfl)))))), by omega, hll, S'.set (by omega) (by omega), T'.set hMM⟩
/-! ### the state -/
theorem peq_ints {M : Sto} {n : Nat} {k : List Int} (h : locL M n = some (k.map PV.int)) : peq M (.loc n) (.lst []) = some (decide (k = [])) := by
  have key : ∀ k : List Int, toD0L (k.map PV.int) = some (k.map PyData.int) := fun k => by
    induction k with
    | nil => rfl
    | cons i k ih => show (toD0 (.int i)).bind (fun d => (toD0L (k.map PV.int)).map fun r => d :: r) = _; rw [ih]; rfl
  have hd : PyData.depthAll (k.map PyData.int) = 0 := by
    clear h
    induction k with
    | nil => simp [PyData.depthAll]
    | cons i k ih => simp [PyData.depthAll, PyData.depth, ih]
  have ht : toD M (.loc n) = some (.list (k.map PyData.int)) := by
    show (locL M n).bind (fun l => (toD0L l).map PyData.list) = _
    rw [h]
    show (toD0L (k.map PV.int)).map PyData.list = _
    rw [key]; rfl
  rw [peq_nil ht (by omega)]
  congr 1
  rw [decide_eq_decide]; simp
theorem ev_state (Γ : Sig) (ns : List Int) (hl : ns.length ≤ 63) : ∃ s c M, d_law_state.ev Γ [.lst (ns.map PV.int)] [] = .ok (.loc s) M ∧ St M s c := by
  obtain ⟨k, hk, hkl⟩ : ∃ k : List Int, cutP (ns.map PV.int) none (some 63) = k.map PV.int ∧ k.length ≤ ns.length := by
    unfold cutP
    rw [← List.map_drop, ← List.map_take]
    exact ⟨_, rfl, by rw [List.length_take, List.length_drop]; omega⟩
  have e1 : evS Γ (.asg 1 (.cpr (.ls true) [2] (.nm 2) (.seq (.slc (.var 0) .miss (.int 63))) .miss (.elt (.blt "abs" (.cons (.var 2) .nil))))) [some (.lst (ns.map PV.int)), none, none] [] = .ok .nx [some (.lst (ns.map PV.int)), some (.loc 0), none] [some (.lst ((k.map fun i => if i < 0 then -i else i).map PV.int))] := by
    refine s_asg ((cpr_pure (M1 := []) (items := k) PV.int (fun _ => true) (fun i => PV.int (if i < 0 then -i else i)) (i_seq (e_upto (e_var rfl) rfl) (by rw [← hk]; rfl)) (lim_small (by omega)) fun i _ => ⟨_, rfl, rfl, fun _ => e_blt (es_one (e_var rfl)) w_abs⟩).trans ?_)
    rw [List.filter_eq_self.mpr (fun _ _ => rfl), List.map_map]; rfl
  generalize (k.map fun i => if i < 0 then -i else i) = cells at e1
  have hloc : locL [some (MO.lst (cells.map PV.int))] 0 = some (cells.map PV.int) := rfl
  have c1 : evE Γ (.cmp .ne (.var 1) (.lst false .nil)) [some (.lst (ns.map PV.int)), some (.loc 0), none] [some (.lst (cells.map PV.int))] = .ok (.bl (!decide (cells = []))) [some (.lst (cells.map PV.int))] := e_cmp (e_var rfl) (e_lst es_nil (Nat.zero_le _)) (ne_of_peq (peq_ints hloc))
  by_cases hc : cells = []
  · rw [decide_eq_true hc] at c1
    refine ⟨2, 1, [some (.lst (cells.map PV.int)), some (.lst [.int 1]), some (.lst [.loc 1, .int 0, .int 1])], df_rt rfl ((ss_nx e1).trans (ss_rt (s_ret (e_lstM (M1 := [some (.lst (cells.map PV.int)), some (.lst [.int 1])]) (es_three (e_iteF c1 (e_lstM (M1 := [some (.lst (cells.map PV.int))]) (es_one rfl) (lim_small (show 1 ≤ 1000 by decide)))) rfl rfl) (lim_small (show 3 ≤ 1000 by decide)))))), [1], 0, 1, by decide, rfl, rfl, by simp⟩
  · rw [decide_eq_false hc] at c1
    exact ⟨1, 0, [some (.lst (cells.map PV.int)), some (.lst [.loc 0, .int 0, .int 1])], df_rt rfl ((ss_nx e1).trans (ss_rt (s_ret (e_lstM (M1 := [some (.lst (cells.map PV.int))]) (es_three (e_iteT c1 (e_var rfl)) rfl rfl) (lim_small (show 3 ≤ 1000 by decide)))))), cells, 0, 1, by decide, rfl, rfl, hc⟩
/-! ### rounds of steps -/
abbrev Step := Str × Str × Nat
def stpP (x : Step) : PV := .tup [.str x.1, .str x.2.1, .int (x.2.2 : Nat)]
/-- every row is an end of its line -/
def Ends (lines : List (List Str)) (rows : List Row) : Prop := ∀ r ∈ rows, r.1 ≠ [] ∧ ∃ pre, lines[r.2]? = some (pre ++ r.1)
theorem ends_start (lines : List (List Str)) : Ends lines ((lines.zipIdx).filter fun r => decide (r.1 ≠ [])) := fun r hr => by
  obtain ⟨h1, h2⟩ := List.mem_filter.mp hr
  refine ⟨of_decide_eq_true h2, [], ?_⟩
  have := List.mem_zipIdx_iff_getElem?.mp h1
  simpa using this
theorem ends_nxt {lines : List (List Str)} {rows : List Row} {x : Str} (h : Ends lines rows) : Ends lines (nxtR x rows) := fun r hr => by
  obtain ⟨h1, h2⟩ := List.mem_filter.mp hr
  obtain ⟨q, hq, rfl⟩ := List.mem_map.mp h1
  refine ⟨of_decide_eq_true h2, ?_⟩
  obtain ⟨hne, pre, hp⟩ := h q hq
  unfold cutR
  dsimp only
  split
  · cases hl : q.1 with
    | nil => exact absurd hl hne
    | cons a l => exact ⟨pre ++ [a], by rw [hp, hl]; simp⟩
  · exact ⟨pre, hp⟩
theorem mfar_ends (lines : List (List Str)) : ∀ (n : Nat) (rows : List Row) (found : List Str), Ends lines rows → Ends lines (mfar n rows found).2
  | 0, _, _, h => h
  | n + 1, rows, found, h => by
    unfold mfar
    by_cases hr : rows = []
    · rw [if_pos hr]
      exact fun r hr => by cases hr
    · rw [if_neg hr]
      cases hx : freR rows with
      | nil => exact h
      | cons x rest => exact mfar_ends lines n _ _ (ends_nxt h)
theorem mfar_len : ∀ (n : Nat) (rows : List Row) (found : List Str), (mfar n rows found).2.length ≤ rows.length
  | 0, _, _ => Nat.le_refl _
  | n + 1, rows, found => by
    unfold mfar
    by_cases hr : rows = []
    · rw [if_pos hr]; exact Nat.zero_le _
    · rw [if_neg hr]
      cases hx : freR rows with
      | nil => exact Nat.le_refl _
      | cons x rest => exact Nat.le_trans (mfar_len n _ _) nxt_len
theorem mfar_stuck : ∀ (n : Nat) (rows : List Row) (found : List Str), tot rows < n → (∀ r ∈ rows, r.1 ≠ []) → (mfar n rows found).2 = [] ∨ freR (mfar n rows found).2 = []
  | 0, _, _, h, _ => absurd h (Nat.not_lt_zero _)
  | n + 1, rows, found, h, hne => by
    unfold mfar
    by_cases hr : rows = []
    · rw [if_pos hr]; exact .inl rfl
    · rw [if_neg hr]
      cases hx : freR rows with
      | nil => exact .inr hx
      | cons x rest =>
        have := tot_lt (x := x) (rows := rows) (by
          obtain ⟨r, q1, q2⟩ := fre_mem hx
          exact ⟨r, q1, hne r q1, q2⟩)
        exact mfar_stuck n _ _ (by omega) nxt_ne
theorem stuck_next {rows : List Row} (h : freR rows = []) {r : Row} (hr : r ∈ rows) : ∃ q ∈ rows, hd r.1 ∈ q.1.tail := by
  have h2 : rows.filter (fun r => decide (hd r.1 ∉ behR rows)) = [] := List.map_eq_nil_iff.mp h
  have h3 := List.filter_eq_nil_iff.mp h2 r hr
  have h4 : hd r.1 ∈ behR rows := Classical.byContradiction fun z => h3 (decide_eq_true z)
  exact List.mem_flatMap.mp h4
/-- the way so far -/
structure Way (rows : List Row) (ini : List Str) (w : Str) (steps : List Step) : Prop where
  h1 : steps.map (·.1) = (ini ++ [w]).tail
  h2 : steps.map (·.2.1) = ini
  h3 : ∀ x ∈ ini ++ [w], ∃ r ∈ rows, hd r.1 = x
  h4 : ini.Nodup
  h5 : ∀ st ∈ steps, ∃ r ∈ rows, hd r.1 = st.1 ∧ st.2.1 ∈ r.1.tail ∧ st.2.2 = r.2
theorem Way.start {rows : List Row} {r : Row} (h : r ∈ rows) : Way rows [] (hd r.1) [] :=
  ⟨rfl, rfl, fun x hx => ⟨r, h, (List.mem_singleton.mp hx).symm⟩, List.nodup_nil, fun st h => by cases h⟩
theorem Way.next {rows : List Row} {ini : List Str} {w : Str} {steps : List Step} (h : Way rows ini w steps) (hw : w ∉ ini) {r : Row} (hr : r ∈ rows) (ht : w ∈ r.1.tail) : Way rows (ini ++ [w]) (hd r.1) (steps ++ [(hd r.1, w, r.2)]) := by
  refine ⟨?_, ?_, fun x hx => ?_, nodup_snoc h.h4 hw, fun st hs => ?_⟩
  · rw [List.map_append, h.h1]
    cases ini <;> simp
  · rw [List.map_append, h.h2]; rfl
  · rcases List.mem_append.mp hx with hx | hx
    · exact h.h3 x hx
    · exact ⟨r, hr, (List.mem_singleton.mp hx).symm⟩
  · rcases List.mem_append.mp hs with hs | hs
    · exact h.h5 st hs
    · rw [List.mem_singleton.mp hs]
      exact ⟨r, hr, rfl, ht, rfl⟩
theorem Way.le {rows : List Row} {ini : List Str} {w : Str} {steps : List Step} (h : Way rows ini w steps) : ini.length ≤ rows.length := by
  refine Classical.byContradiction fun hn => ?_
  obtain ⟨y, hy, hy2⟩ := pigeon (m := rows.map fun r => hd r.1) h.h4 (by rw [List.length_map]; omega)
  obtain ⟨r, hr, e⟩ := h.h3 y (List.mem_append_left _ hy)
  exact hy2 (List.mem_map.mpr ⟨r, hr, e⟩)
theorem Way.len {rows : List Row} {ini : List Str} {w : Str} {steps : List Step} (h : Way rows ini w steps) : steps.length = ini.length := by
  rw [← h.h2, List.length_map]
/-- each step's second is the next one's first -/
def Round (c : List Step) : Prop := ∃ w m, c.map (·.1) = w :: m ∧ c.map (·.2.1) = m ++ [w]
theorem Way.round {rows : List Row} {a b : List Str} {w : Str} {steps : List Step} (h : Way rows (a ++ w :: b) w steps) : Round (steps.drop a.length).reverse := by
  refine ⟨w, b.reverse, ?_, ?_⟩
  · rw [List.map_reverse, List.map_drop, h.h1, ← List.drop_one, List.drop_drop]
    have : (a ++ w :: b ++ [w]).drop (1 + a.length) = b ++ [w] := by
      rw [List.append_assoc, Nat.add_comm, ← List.drop_drop]
      simp
    rw [this]; simp
  · rw [List.map_reverse, List.map_drop, h.h2]
    simp
theorem Round.turn {c : List Step} (h : Round c) (n : Nat) (hn : n < c.length) : Round (c.drop n ++ c.take n) := by
  obtain ⟨w, m, h1, h2⟩ := h
  cases n with
  | zero => exact ⟨w, m, by simpa using h1, by simpa using h2⟩
  | succ n =>
    have hl : c.length = m.length + 1 := by rw [← List.length_map (f := fun x : Step => x.1), h1]; rfl
    have hlt : n < m.length := by omega
    have e1 : m = m.take n ++ m[n] :: m.drop (n + 1) := by rw [List.getElem_cons_drop, List.take_append_drop]
    generalize hf1 : m.take n = f1 at e1
    generalize m[n] = v at e1
    generalize m.drop (n + 1) = f2 at e1
    have hl1 : f1.length = n := by rw [← hf1, List.length_take]; omega
    subst e1
    have a1 : (c.take (n + 1)).map (·.1) = w :: f1 := by
      rw [List.map_take, h1]
      show w :: List.take n _ = _
      rw [← hl1]; simp
    have a2 : (c.drop (n + 1)).map (·.1) = v :: f2 := by
      rw [List.map_drop, h1]
      show List.drop n _ = _
      rw [← hl1]; simp
    have h2' : c.map (·.2.1) = (f1 ++ [v]) ++ (f2 ++ [w]) := by rw [h2]; simp
    have b1 : (c.take (n + 1)).map (·.2.1) = f1 ++ [v] := by
      rw [List.map_take, h2']
      have : n + 1 = (f1 ++ [v]).length := by rw [List.length_append, hl1]; rfl
      rw [this, List.take_left]
    have b2 : (c.drop (n + 1)).map (·.2.1) = f2 ++ [w] := by
      rw [List.map_drop, h2']
      have : n + 1 = (f1 ++ [v]).length := by rw [List.length_append, hl1]; rfl
      rw [this, List.drop_left]
    exact ⟨v, f2 ++ w :: f1, by rw [List.map_append, a1, a2]; simp, by rw [List.map_append, b1, b2]; simp⟩
theorem Round.twice {c : List Step} (h : Round c) : Round (c ++ c) := by
  obtain ⟨w, m, h1, h2⟩ := h
  exact ⟨w, m ++ w :: m, by rw [List.map_append, h1]; simp, by rw [List.map_append, h2]; simp⟩
/-- a step that the lines bear out -/
def Borne (lines : List (List Str)) (st : Step) : Prop := ∃ l, lines[st.2.2]? = some l ∧ st.1 ∈ l ∧ st.2.1 ∈ l ∧ l.idxOf st.1 < l.idxOf st.2.1
theorem Way.borne {lines : List (List Str)} {rows : List Row} {ini : List Str} {w : Str} {steps : List Step} (h : Way rows ini w steps) (he : Ends lines rows) (hn : ∀ l ∈ lines, l.Nodup) : ∀ st ∈ steps, Borne lines st := fun st hs => by
  obtain ⟨r, hr, q1, q2, q3⟩ := h.h5 st hs
  obtain ⟨hne, pre, hp⟩ := he r hr
  have hnd := hn _ (List.mem_of_getElem? hp)
  cases hl : r.1 with
  | nil => exact absurd hl hne
  | cons a l =>
    rw [hl] at hp hnd q1 q2
    have q1 : a = st.1 := q1
    have q2 : st.2.1 ∈ l := q2
    have hd2 := List.nodup_append.mp hnd
    have hna : st.1 ∉ pre := fun z => hd2.2.2 _ z _ (by rw [← q1]; simp) rfl
    have hnb : st.2.1 ∉ pre := fun z => hd2.2.2 _ z _ (List.mem_cons_of_mem _ q2) rfl
    have hab : st.1 ≠ st.2.1 := fun z => (List.nodup_cons.mp hd2.2.1).1 (by rw [q1, z]; exact q2)
    refine ⟨pre ++ a :: l, by rw [q3]; exact hp, by rw [← q1]; simp, by simp [q2], ?_⟩
    rw [List.idxOf_append, if_neg hna, List.idxOf_append, if_neg hnb, q1, List.idxOf_cons_self, List.idxOf_cons, beq_eq_false_iff_ne.mpr hab, cond_false]
    omega
/-! ### further forms -/
section
variable {Γ : Sig} {ρ : PEnv} {M M1 M2 M3 : Sto}
theorem e_slcT {a hi : E} {v z : PV} {k : Int} (h1 : evE Γ a ρ M = .ok v M1) (hm : isMiss hi = false) (h2 : evE Γ hi ρ M1 = .ok (.int k) M2) (h3 : slcop v none (some k) M2 = .ok z M3) : evE Γ (.slc a .miss hi) ρ M = .ok z M3 := by
  show (evE Γ a ρ M).bnd _ = _
  rw [h1, bnd_ok]
  show (if isMiss hi then Res.ok none M1 else asI (evE Γ hi ρ M1)).bnd _ = _
  rw [if_neg (by rw [hm]; decide), h2]
  exact h3
theorem e_slcF {a lo : E} {v z : PV} {k : Int} (h1 : evE Γ a ρ M = .ok v M1) (hm : isMiss lo = false) (h2 : evE Γ lo ρ M1 = .ok (.int k) M2) (h3 : slcop v (some k) none M2 = .ok z M3) : evE Γ (.slc a lo .miss) ρ M = .ok z M3 := by
  show (evE Γ a ρ M).bnd _ = _
  rw [h1, bnd_ok]
  show (if isMiss lo then Res.ok none M1 else asI (evE Γ lo ρ M1)).bnd _ = _
  rw [if_neg (by rw [hm]; decide), h2]
  exact h3
theorem e_revL {a : E} {l : List PV} (h1 : evE Γ a ρ M = .ok (.lst l) M1) : evE Γ (.rev a) ρ M = .ok (.lst l.reverse) M1 := by
  show (evE Γ a ρ M).bnd _ = _
  rw [h1]; rfl
theorem e_chnT {o o' : CO} {a b c : E} {v w z u : PV} {M4 : Sto} (h1 : evE Γ a ρ M = .ok v M1) (h2 : evE Γ b ρ M1 = .ok w M2) (h3 : cmpop o v w M2 = .ok (.bl true) M2) (h4 : evE Γ c ρ M2 = .ok z M3) (h5 : cmpop o' w z M3 = .ok u M4) : evE Γ (.chn o o' a b c) ρ M = .ok u M4 := by
  show (evE Γ a ρ M).bnd _ = _
  rw [h1, bnd_ok, h2, bnd_ok, h3]
  show (evE Γ c ρ M2).bnd _ = _
  rw [h4]; exact h5
end
theorem atI_last {α : Type} {l : List α} {x : α} : atI (l ++ [x]) (-1) = some x := by
  unfold atI ixN
  rw [List.length_append, List.length_singleton]
  rw [if_neg (by omega)]
  split
  · have : ((-1 : Int) + ((l.length + 1 : Nat) : Int)).toNat = l.length := by omega
    show (l ++ [x])[((-1 : Int) + ((l.length + 1 : Nat) : Int)).toNat]? = _
    rw [this]; simp
  · omega
theorem idx_last {M : Sto} {n : Nat} {l : List PV} {x : PV} (h : locL M n = some (l ++ [x])) : idxop (.loc n) (.int (-1)) M = .ok x M := by
  show ofO ((locL M n).bind fun l => atI l (-1)) M = _
  rw [h]
  show ofO (atI (l ++ [x]) (-1)) M = _
  rw [atI_last]; rfl
theorem cut_last (l : List PV) (x : PV) : cutP (l ++ [x]) none (some (-1)) = l := by
  unfold cutP
  have h1 : HT.sIx (l ++ [x]).length (l ++ [x]).length (some (-1)) = l.length := by
    unfold HT.sIx
    rw [List.length_append, List.length_singleton]
    show (if (-1 : Int) < 0 then ((-1 : Int) + ((l.length + 1 : Nat) : Int)).toNat else _) = _
    rw [if_pos (by decide)]; omega
  rw [h1]
  show ((l ++ [x]).drop 0).take (l.length - 0) = _
  simp
theorem cut_from (l : List PV) (n : Nat) : cutP l (some (n : Int)) none = l.drop n := by
  unfold cutP
  rw [HT.sIx_nat]
  show (l.drop (min n l.length)).take (l.length - min n l.length) = _
  rw [List.take_of_length_le (by rw [List.length_drop]; exact Nat.le_refl _)]
  by_cases h : n ≤ l.length
  · rw [Nat.min_eq_left h]
  · rw [Nat.min_eq_right (by omega), List.drop_length, List.drop_eq_nil_of_le (by omega)]
theorem cut_to (l : List PV) (n : Nat) : cutP l none (some (n : Int)) = l.take n := by
  unfold cutP
  rw [HT.sIx_nat]
  show (l.drop 0).take (min n l.length - 0) = _
  rw [List.drop_zero, Nat.sub_zero]
  by_cases h : n ≤ l.length
  · rw [Nat.min_eq_left h]
  · rw [Nat.min_eq_right (by omega), List.take_length, List.take_of_length_le (by omega)]
theorem find_str (l : List Str) (x : Str) (h : x ∈ l) : (l.map PyData.str).findIdx? (fun z => PyData.eqv z (.str x)) = some (l.idxOf x) := by
  have e : ((fun z => PyData.eqv z (.str x)) ∘ PyData.str) = fun y : Str => y == x := by
    funext y
    simp [PyData.eqv]
  rw [List.findIdx?_map, e]
  induction l with
  | nil => cases h
  | cons y l ih =>
    rw [List.findIdx?_cons, List.idxOf_cons]
    by_cases hy : y = x
    · subst hy; simp
    · have hy2 : (y == x) = false := beq_eq_false_iff_ne.mpr hy
      have := ih (by rcases List.mem_cons.mp h with h | h; exact absurd h.symm hy; exact h)
      rw [this, hy2]; rfl
theorem w_index {v : PV} {M : Sto} {l : List Str} {x : Str} (hv : lstOf M v = some (sv l)) (hx : x ∈ l) : evM "list" "index" v [.str x] M = .ok (.int (l.idxOf x : Nat)) M := by
  have hs : seqOf M v = some (sv l) := by
    cases v <;> first | exact hv | cases hv
  unfold evM
  rw [if_pos rfl, if_neg (by decide +kernel), if_neg (by decide +kernel), if_pos rfl]
  show ofO (((lstOf M v).bind fun _ => (toD M (.str x)).bind fun d => firstEq M v d).map fun j => PV.int (j : Nat)) M = _
  rw [hv]
  show ofO ((firstEq M v (.str x)).map fun j => PV.int (j : Nat)) M = _
  unfold firstEq
  rw [hs]
  show ofO (((toD0L (sv l)).bind _).map _) M = _
  rw [toD0L_str]
  show ofO ((if (PyData.list (l.map PyData.str)).depth ≤ 64 ∧ (PyData.str x).depth ≤ 64 then _ else none).map _) M = _
  rw [if_pos (by simp [PyData.depth, depthAll_str]), find_str l x hx]; rfl
theorem w_all {M : Sto} (l : List Bool) : evB "all" [.lst (l.map PV.bl)] M = .ok (.bl (l.all id)) M := by
  have : ∀ l : List Bool, blsOf (l.map PV.bl) = some l := fun l => by
    induction l with
    | nil => rfl
    | cons b l ih =>
      show (blsOf (l.map PV.bl)).map (b :: ·) = _
      rw [ih]; rfl
  unfold evB
  rw [if_neg (by decide +kernel), if_neg (by decide +kernel), if_neg (by decide +kernel), if_neg (by decide +kernel), if_neg (by decide +kernel), if_pos rfl]
  show ofO ((blsOf (l.map PV.bl)).map fun bs => PV.bl (bs.all id)) M = _
  rw [this]; rfl
theorem w_zip {M : Sto} {v w : PV} {l m : List PV} (h1 : kdOf v = some l) (h2 : kdOf w = some m) : evIt "zip" [v, w] M = .ok (zipL l m) M := by
  unfold evIt
  rw [if_neg (by decide +kernel), if_neg (by decide +kernel), if_pos rfl]
  show ofO ((kdOf v).bind fun l => (kdOf w).map fun m => zipL l m) M = _
  rw [h1, h2]; rfl
/-! ### the cycle, as its text reckons -/
def cyc (rows : List Row) : Nat → List Str → Str → List Step → List Step
  | 0, _, _, _ => []
  | n + 1, ini, w, steps => if w ∈ ini then (steps.drop ((ini ++ [w]).idxOf w)).reverse else match rows.filter (fun r => decide (w ∈ r.1.tail)) with
    | [] => []
    | r :: _ => cyc rows n (ini ++ [w]) (hd r.1) (steps ++ [(hd r.1, w, r.2)])
theorem next_some {rows : List Row} (hs : freR rows = []) {w : Str} (hw : ∃ r ∈ rows, hd r.1 = w) : ∃ r rest, rows.filter (fun r => decide (w ∈ r.1.tail)) = r :: rest ∧ r ∈ rows ∧ w ∈ r.1.tail := by
  obtain ⟨r0, hr0, rfl⟩ := hw
  obtain ⟨q, hq, hq2⟩ := stuck_next hs hr0
  cases hf : rows.filter (fun r => decide (hd r0.1 ∈ r.1.tail)) with
  | nil =>
    have : q ∈ rows.filter (fun r => decide (hd r0.1 ∈ r.1.tail)) := List.mem_filter.mpr ⟨hq, decide_eq_true hq2⟩
    rw [hf] at this; cases this
  | cons r rest =>
    have : r ∈ rows.filter (fun r => decide (hd r0.1 ∈ r.1.tail)) := by rw [hf]; simp
    obtain ⟨h1, h2⟩ := List.mem_filter.mp this
    exact ⟨r, rest, rfl, h1, of_decide_eq_true h2⟩
theorem Way.lt {rows : List Row} {ini : List Str} {w : Str} {steps : List Step} (h : Way rows ini w steps) (hw : w ∉ ini) (hs : freR rows = []) : ini.length < rows.length := by
  obtain ⟨r, rest, _, h1, h2⟩ := next_some hs (h.h3 w (by simp))
  have := (h.next hw h1 h2).le
  rw [List.length_append, List.length_singleton] at this
  omega
theorem cyc_good {lines : List (List Str)} {rows : List Row} (hs : freR rows = []) (he : Ends lines rows) (hn : ∀ l ∈ lines, l.Nodup) : ∀ (n : Nat) (ini : List Str) (w : Str) (steps : List Step), Way rows ini w steps → rows.length - ini.length < n →
    Round (cyc rows n ini w steps) ∧ (∀ st ∈ cyc rows n ini w steps, Borne lines st) ∧ (cyc rows n ini w steps).length ≤ rows.length
  | 0, _, _, _, _, h => absurd h (Nat.not_lt_zero _)
  | n + 1, ini, w, steps, h, hlt => by
    unfold cyc
    by_cases hw : w ∈ ini
    · rw [if_pos hw]
      obtain ⟨a, b, rfl⟩ := List.append_of_mem hw
      have hna : w ∉ a := fun z => (List.nodup_append.mp h.h4).2.2 _ z _ (by simp) rfl
      have hix : (a ++ w :: b ++ [w]).idxOf w = a.length := by
        rw [List.append_assoc, List.idxOf_append, if_neg hna]
        show (w :: (b ++ [w])).idxOf w + a.length = _
        rw [List.idxOf_cons_self]; omega
      rw [hix]
      refine ⟨h.round, fun st hst => h.borne he hn st (List.mem_of_mem_drop (List.mem_reverse.mp hst)), ?_⟩
      rw [List.length_reverse, List.length_drop, h.len]
      have := h.le
      omega
    · rw [if_neg hw]
      obtain ⟨r, rest, e, h1, h2⟩ := next_some hs (h.h3 w (by simp))
      rw [e]
      have := h.lt hw hs
      exact cyc_good hs he hn n _ _ _ (h.next hw h1 h2) (by rw [List.length_append, List.length_singleton]; omega)
def restR (lines : List (List Str)) : List Row := (mfar (totL lines + 1) ((lines.zipIdx).filter fun r => decide (r.1 ≠ [])) []).2
def cycP (lines : List (List Str)) : Option (List Step) := match restR lines with
  | [] => none
  | r :: _ => some (cyc (restR lines) ((restR lines).length + 1) [] (hd r.1) [])
def optS : Option (List Step) → PV
  | none => .non
  | some C => .tup (C.map stpP)
theorem rest_ends (lines : List (List Str)) : Ends lines (restR lines) := mfar_ends lines _ _ _ (ends_start lines)
theorem rest_stuck (lines : List (List Str)) (h : restR lines ≠ []) : freR (restR lines) = [] :=
  (mfar_stuck (totL lines + 1) ((lines.zipIdx).filter fun r => decide (r.1 ≠ [])) [] (by rw [tot_filter, zip_tot]; exact Nat.lt_succ_self _) fun r hr => of_decide_eq_true (List.mem_filter.mp hr).2).resolve_left h
theorem rest_len (lines : List (List Str)) : (restR lines).length ≤ lines.length := Nat.le_trans (mfar_len _ _ _) (Nat.le_trans (List.length_filter_le _ _) (by rw [List.length_zipIdx]; exact Nat.le_refl _))
theorem cycP_good {lines : List (List Str)} (hn : ∀ l ∈ lines, l.Nodup) {C : List Step} (h : cycP lines = some C) : Round C ∧ (∀ st ∈ C, Borne lines st) ∧ C.length ≤ lines.length := by
  unfold cycP at h
  cases hr : restR lines with
  | nil => rw [hr] at h; cases h
  | cons r rest =>
    have hg := cyc_good (rest_stuck lines (by rw [hr]; simp)) (rest_ends lines) hn ((restR lines).length + 1) [] (hd r.1) [] (Way.start (by rw [hr]; simp)) (by simp)
    rw [hr] at h
    dsimp only at h
    injection h with h
    rw [hr, h] at hg
    refine ⟨hg.1, hg.2.1, Nat.le_trans hg.2.2 ?_⟩
    rw [← hr]; exact rest_len lines
theorem cycP_none (lines : List (List Str)) : cycP lines = none ↔ (mrgP lines).isSome := by
  have : mrgP lines = if restR lines = [] then some (mfar (totL lines + 1) ((lines.zipIdx).filter fun r => decide (r.1 ≠ [])) []).1 else none := rfl
  rw [this]
  unfold cycP
  cases hr : restR lines with
  | nil => simp
  | cons r rest => simp
theorem two0 {M : Sto} {a b : Option MO} : (M ++ [a, b])[M.length]? = some a := at_end
theorem two1 {M : Sto} {a b : Option MO} : (M ++ [a, b])[M.length + 1]? = some b := by
  rw [List.getElem?_append_right (by omega)]
  have : M.length + 1 - M.length = 1 := by omega
  rw [this]; rfl
theorem twoS0 {M : Sto} {a b c : Option MO} : (M ++ [a, b]).set M.length c = M ++ [c, b] := set_end
theorem twoS1 {M : Sto} {a b c : Option MO} : (M ++ [a, b]).set (M.length + 1) c = M ++ [a, c] := by
  rw [List.set_append_right _ _ (by omega)]
  have : M.length + 1 - M.length = 1 := by omega
  rw [this]; rfl
theorem ev_cycof (Γ Γ0 Γ1 Γ2 : Sig) (h0 : Γ.fn "merged_far" = some (d_merged_far.ev Γ2)) (h1 : Γ2.fn "reduced" = some (d_reduced.ev Γ0)) (h2 : Γ2.fn "taken" = some (d_taken.ev Γ1)) (h3 : Γ1.fn "reduced" = some (d_reduced.ev Γ0)) (M : Sto) (lists : PV) (lines : List (List Str)) (hk : kdOf lists = some (linesP lines)) (ht : (lines.map List.length).sum < 4000) (hn : lines.length ≤ 1000) :
    ∃ t, d_cycle_of.ev Γ [lists] M = .ok (optS (cycP lines)) (M ++ t) := by
  have hf := ev_far Γ2 Γ0 Γ1 h1 h2 h3 M lists lines hk ht hn _ (Nat.lt_succ_self _) _ rfl
  have e1 : evS Γ (.asg 1 (.idx (.call "merged_far" (.cons (.var 0) .nil)) (.int 1))) [some lists, none, none, none, none, none] M = .ok .nx [some lists, some (.lst ((restR lines).map rowP)), none, none, none, none] M :=
    s_asg (e_idx (e_call h0 (es_one (e_var rfl)) hf) rfl (idx_nat (i := 1) rfl (fun _ h => nomatch h) rfl))
  have c1 : evE Γ (.cmp .eq (.var 1) (.lst false .nil)) [some lists, some (.lst ((restR lines).map rowP)), none, none, none, none] M = .ok (.bl (decide (restR lines = []))) M := e_cmp (e_var rfl) (e_lst es_nil (Nat.zero_le _)) (eq_of_peq (rows_nil M _))
  have hstuck := rest_stuck lines
  have hends := rest_ends lines
  have hrl := rest_len lines
  have hcyc : cycP lines = match restR lines with
    | [] => none
    | r :: _ => some (cyc (restR lines) ((restR lines).length + 1) [] (hd r.1) []) := rfl
  generalize restR lines = rows at *
  rw [hcyc]
  by_cases hr : rows = []
  · subst hr
    exact ⟨[], by rw [List.append_nil]; exact df_rt rfl ((ss_nx e1).trans (ss_rt ((s_ifT (by rw [c1]; rfl)).trans (ss_rt (s_ret rfl)))))⟩
  · rw [decide_eq_false hr] at c1
    obtain ⟨r0, rest, hrr⟩ : ∃ r rest, rows = r :: rest := by
      cases rows with
      | nil => exact absurd rfl hr
      | cons r rest => exact ⟨r, rest, rfl⟩
    have hst := hstuck hr
    rw [hrr]
    dsimp only
    rw [← hrr]
    have hr0 : r0 ∈ rows := by rw [hrr]; simp
    obtain ⟨a0, l0, hl0⟩ : ∃ a l, r0.1 = a :: l := by
      cases h : r0.1 with
      | nil => exact absurd h (hends r0 hr0).1
      | cons a l => exact ⟨a, l, rfl⟩
    have ha0 : hd r0.1 = a0 := by rw [hl0]; rfl
    rw [ha0]
    have e2 : evS Γ (.asgT (.cons (.nm 2) (.cons (.nm 3) .nil)) (.tup (.cons (.lst true (.cons (.idx (.idx (.idx (.var 1) (.int 0)) (.int 0)) (.int 0)) .nil)) (.cons (.lst true .nil) .nil)))) [some lists, some (.lst (rows.map rowP)), none, none, none, none] M
        = .ok .nx [some lists, some (.lst (rows.map rowP)), some (.loc M.length), some (.loc (M.length + 1)), none, none] (M ++ [some (.lst (sv ([] ++ [a0]))), some (.lst (([] : List Step).map stpP))]) := by
      have p1 : evE Γ (.lst true (.cons (.idx (.idx (.idx (.var 1) (.int 0)) (.int 0)) (.int 0)) .nil)) [some lists, some (.lst (rows.map rowP)), none, none, none, none] M = .ok (.loc M.length) (M ++ [some (.lst [.str a0])]) := by
        refine e_lstM (es_one (e_idx (v := .tup (sv r0.1)) (e_idx (v := rowP r0) (e_idx (e_var rfl) rfl (idx_nat (i := 0) rfl (fun _ h => nomatch h) (by rw [hrr]; rfl))) rfl (idx_nat (i := 0) rfl (fun _ h => nomatch h) rfl)) rfl (by rw [hl0]; exact hd_idx))) (lim_small (show 1 ≤ 1000 by decide))
      have p2 : evE Γ (.lst true .nil) [some lists, some (.lst (rows.map rowP)), none, none, none, none] (M ++ [some (.lst [.str a0])]) = .ok (.loc (M.length + 1)) (M ++ [some (.lst [.str a0])] ++ [some (.lst [])]) := by
        have := e_lstM (Γ := Γ) (ρ := [some lists, some (.lst (rows.map rowP)), none, none, none, none]) (M := M ++ [some (.lst [.str a0])]) es_nil (Nat.zero_le _)
        rw [List.length_append, List.length_singleton] at this
        exact this
      rw [show M ++ [some (MO.lst (sv ([] ++ [a0]))), some (.lst (([] : List Step).map stpP))] = M ++ [some (.lst [.str a0])] ++ [some (.lst [])] by simp]
      exact s_asgT (e_tup (es_two p1 p2) (lim_small (show 2 ≤ 1000 by decide))) rfl
    have last : ∀ (v4 v5 : Option PV) (ini : List Str) (w : Str) (steps : List Step), evE Γ (.idx (.var 2) (.neg (.int 1))) [some lists, some (.lst (rows.map rowP)), some (.loc M.length), some (.loc (M.length + 1)), v4, v5] (M ++ [some (.lst (sv (ini ++ [w]))), some (.lst (steps.map stpP))]) = .ok (.str w) (M ++ [some (.lst (sv (ini ++ [w]))), some (.lst (steps.map stpP))]) := fun v4 v5 ini w steps => by
      refine e_idx (e_var rfl) rfl (idx_last (l := sv ini) ?_)
      rw [show sv ini ++ [PV.str w] = sv (ini ++ [w]) by simp]
      exact locL_at two0
    generalize hC : cyc rows (rows.length + 1) [] a0 [] = C
    obtain ⟨v4, v5, ini, w, steps, e3, hw, rfl⟩ : ∃ (v4 v5 : Option PV) (ini : List Str) (w : Str) (steps : List Step), evS Γ (.whl (.cmp .nin (.idx (.var 2) (.neg (.int 1))) (.slc (.var 2) .miss (.neg (.int 1))))
    (.cons (.asgT (.cons (.nm 4) (.cons (.nm 5) .nil)) (.idx (.cpr (.ls false) [4, 5] (.tp (.cons (.nm 4) (.cons (.nm 5) .nil))) (.seq (.var 1)) (.cmp .inn (.idx (.var 2) (.neg (.int 1))) (.slc (.var 4) (.int 1) .miss)) (.elt (.tup (.cons (.var 4) (.cons (.var 5) .nil))))) (.int 0)))
    (.cons (.exp (.mth "list" "append" (.var 3) (.cons (.tup (.cons (.idx (.var 4) (.int 0)) (.cons (.idx (.var 2) (.neg (.int 1))) (.cons (.var 5) .nil)))) .nil)))
    (.cons (.exp (.mth "list" "append" (.var 2) (.cons (.idx (.var 4) (.int 0)) .nil)))
    .nil)))) [some lists, some (.lst (rows.map rowP)), some (.loc M.length), some (.loc (M.length + 1)), none, none] (M ++ [some (.lst (sv ([] ++ [a0]))), some (.lst (([] : List Step).map stpP))]) = .ok .nx [some lists, some (.lst (rows.map rowP)), some (.loc M.length), some (.loc (M.length + 1)), v4, v5] (M ++ [some (.lst (sv (ini ++ [w]))), some (.lst (steps.map stpP))]) ∧ w ∈ ini ∧ C = (steps.drop ((ini ++ [w]).idxOf w)).reverse := by
      refine s_whl (fun m ρ Mc => ∃ ini w steps n v4 v5, ρ = [some lists, some (.lst (rows.map rowP)), some (.loc M.length), some (.loc (M.length + 1)), v4, v5] ∧ Mc = M ++ [some (.lst (sv (ini ++ [w]))), some (.lst (steps.map stpP))] ∧ Way rows ini w steps ∧ m = rows.length - ini.length ∧ m < n ∧ cyc rows n ini w steps = C)
        (fun r => ∃ (v4 v5 : Option PV) (ini : List Str) (w : Str) (steps : List Step), r = .ok .nx [some lists, some (.lst (rows.map rowP)), some (.loc M.length), some (.loc (M.length + 1)), v4, v5] (M ++ [some (.lst (sv (ini ++ [w]))), some (.lst (steps.map stpP))]) ∧ w ∈ ini ∧ C = (steps.drop ((ini ++ [w]).idxOf w)).reverse)
        rows.length (by omega) ⟨[], a0, [], _, none, none, rfl, rfl, by rw [← ha0]; exact Way.start hr0, rfl, Nat.lt_succ_self _, hC⟩ ?_
      rintro m ρ Mc ⟨ini, w, steps, n, v4, v5, rfl, rfl, hway, rfl, hlt, hc⟩
      obtain ⟨n, rfl⟩ : ∃ k, n = k + 1 := ⟨n - 1, by omega⟩
      have cond : evE Γ (.cmp .nin (.idx (.var 2) (.neg (.int 1))) (.slc (.var 2) .miss (.neg (.int 1)))) [some lists, some (.lst (rows.map rowP)), some (.loc M.length), some (.loc (M.length + 1)), v4, v5] (M ++ [some (.lst (sv (ini ++ [w]))), some (.lst (steps.map stpP))]) = .ok (.bl (!decide (w ∈ ini))) (M ++ [some (.lst (sv (ini ++ [w]))), some (.lst (steps.map stpP))]) := by
        refine e_cmp (w := .lst (sv ini)) (last v4 v5 ini w steps) (e_slcT (k := -1) (e_var rfl) rfl rfl ?_) (nin_of (pin_str (v := .lst (sv ini)) rfl (fun _ h => by cases h) (fun _ h => by cases h)))
        show ofO ((locL _ M.length).map fun l => PV.lst (cutP l none (some (-1)))) _ = _
        rw [locL_at two0, show sv (ini ++ [w]) = sv ini ++ [PV.str w] by simp]
        show Res.ok (PV.lst (cutP _ _ _)) _ = _
        rw [cut_last]
      unfold cyc at hc
      by_cases hw : w ∈ ini
      · rw [if_pos hw] at hc
        exact .inl ⟨_, by rw [cond, decide_eq_true hw]; rfl, v4, v5, ini, w, steps, rfl, hw, hc.symm⟩
      · rw [if_neg hw] at hc
        refine .inr ⟨_, by rw [cond, decide_eq_false hw]; rfl, .inl ?_⟩
        obtain ⟨r, rest, hfil, hrm, hrt⟩ := next_some hst (hway.h3 w (by simp))
        have hlt2 := hway.lt hw hst
        rw [hfil] at hc
        dsimp only at hc
        obtain ⟨a, l, hl⟩ : ∃ a l, r.1 = a :: l := by
          cases h : r.1 with
          | nil => exact absurd h (hends r hrm).1
          | cons a l => exact ⟨a, l, rfl⟩
        have ha : hd r.1 = a := by rw [hl]; rfl
        have hnext := hway.next hw hrm hrt
        rw [ha] at hc hnext
        have hsl := hway.len
        have hil := hway.le
        have b1 : evS Γ (.asgT (.cons (.nm 4) (.cons (.nm 5) .nil)) (.idx (.cpr (.ls false) [4, 5] (.tp (.cons (.nm 4) (.cons (.nm 5) .nil))) (.seq (.var 1)) (.cmp .inn (.idx (.var 2) (.neg (.int 1))) (.slc (.var 4) (.int 1) .miss)) (.elt (.tup (.cons (.var 4) (.cons (.var 5) .nil))))) (.int 0))) [some lists, some (.lst (rows.map rowP)), some (.loc M.length), some (.loc (M.length + 1)), v4, v5] (M ++ [some (.lst (sv (ini ++ [w]))), some (.lst (steps.map stpP))])
            = .ok .nx [some lists, some (.lst (rows.map rowP)), some (.loc M.length), some (.loc (M.length + 1)), some (.tup (sv (a :: l))), some (.int (r.2 : Nat))] (M ++ [some (.lst (sv (ini ++ [w]))), some (.lst (steps.map stpP))]) := by
          have f1 : evE Γ (.cpr (.ls false) [4, 5] (.tp (.cons (.nm 4) (.cons (.nm 5) .nil))) (.seq (.var 1)) (.cmp .inn (.idx (.var 2) (.neg (.int 1))) (.slc (.var 4) (.int 1) .miss)) (.elt (.tup (.cons (.var 4) (.cons (.var 5) .nil))))) [some lists, some (.lst (rows.map rowP)), some (.loc M.length), some (.loc (M.length + 1)), v4, v5] (M ++ [some (.lst (sv (ini ++ [w]))), some (.lst (steps.map stpP))]) = .ok (.lst ((rows.filter fun r => decide (w ∈ r.1.tail)).map rowP)) (M ++ [some (.lst (sv (ini ++ [w]))), some (.lst (steps.map stpP))]) := by
            refine (cpr_pure (Γ := Γ) (m := false) (own := [4, 5]) (tg := .tp (.cons (.nm 4) (.cons (.nm 5) .nil))) (it := .seq (.var 1)) (c := .cmp .inn (.idx (.var 2) (.neg (.int 1))) (.slc (.var 4) (.int 1) .miss)) (e := .tup (.cons (.var 4) (.cons (.var 5) .nil))) (ρ := [some lists, some (.lst (rows.map rowP)), some (.loc M.length), some (.loc (M.length + 1)), v4, v5]) (M := M ++ [some (.lst (sv (ini ++ [w]))), some (.lst (steps.map stpP))]) (M1 := M ++ [some (.lst (sv (ini ++ [w]))), some (.lst (steps.map stpP))]) (items := rows) rowP (fun r => decide (w ∈ r.1.tail)) rowP (i_seq (e_var rfl) rfl) (lim_small (by omega)) fun r _ => ⟨_, rfl, ?_, fun _ => ?_⟩).trans ?_
            rotate_left
            · exact e_tup (es_two (e_var rfl) (e_var rfl)) (lim_small (show 2 ≤ 1000 by decide))
            · rfl
            exact e_cmp (last _ _ ini w steps) (e_tl (e_var rfl) slc_tail) (in_of (pin_str (v := .tup (sv r.1.tail)) rfl (fun _ h => by cases h) (fun _ h => by cases h)))
          exact s_asgT (v := rowP r) (e_idx f1 rfl (idx_nat (i := 0) rfl (fun _ h => by cases h) (by rw [hfil]; rfl))) (by
            unfold rowP; rw [hl]; rfl)
        have b2 : evS Γ (.exp (.mth "list" "append" (.var 3) (.cons (.tup (.cons (.idx (.var 4) (.int 0)) (.cons (.idx (.var 2) (.neg (.int 1))) (.cons (.var 5) .nil)))) .nil))) [some lists, some (.lst (rows.map rowP)), some (.loc M.length), some (.loc (M.length + 1)), some (.tup (sv (a :: l))), some (.int (r.2 : Nat))] (M ++ [some (.lst (sv (ini ++ [w]))), some (.lst (steps.map stpP))])
            = .ok .nx [some lists, some (.lst (rows.map rowP)), some (.loc M.length), some (.loc (M.length + 1)), some (.tup (sv (a :: l))), some (.int (r.2 : Nat))] (M ++ [some (.lst (sv (ini ++ [w]))), some (.lst ((steps ++ [(a, w, r.2)]).map stpP))]) := by
          refine (s_exp (e_mth (e_var rfl) (ty_loc (locL_at two1)) (es_one (e_tup (es_three (e_idx (e_var rfl) rfl hd_idx) (last _ _ ini w steps) (e_var rfl)) (lim_small (show 3 ≤ 1000 by decide)))) (w_append (locL_at two1) ?_))).trans ?_
          · rw [List.length_map, hsl]; exact Nat.lt_of_le_of_lt (show ini.length ≤ 1000 by omega) (by decide)
          · rw [twoS1, List.map_append]; rfl
        have b3 : evS Γ (.exp (.mth "list" "append" (.var 2) (.cons (.idx (.var 4) (.int 0)) .nil))) [some lists, some (.lst (rows.map rowP)), some (.loc M.length), some (.loc (M.length + 1)), some (.tup (sv (a :: l))), some (.int (r.2 : Nat))] (M ++ [some (.lst (sv (ini ++ [w]))), some (.lst ((steps ++ [(a, w, r.2)]).map stpP))])
            = .ok .nx [some lists, some (.lst (rows.map rowP)), some (.loc M.length), some (.loc (M.length + 1)), some (.tup (sv (a :: l))), some (.int (r.2 : Nat))] (M ++ [some (.lst (sv (ini ++ [w] ++ [a]))), some (.lst ((steps ++ [(a, w, r.2)]).map stpP))]) := by
          refine (s_exp (e_mth (e_var rfl) (ty_loc (locL_at two0)) (es_one (e_idx (e_var rfl) rfl hd_idx)) (w_append (locL_at two0) ?_))).trans ?_
          · rw [List.length_map, List.length_append, List.length_singleton]; exact Nat.lt_of_le_of_lt (show ini.length + 1 ≤ 1001 by omega) (by decide)
          · rw [twoS0, show sv (ini ++ [w]) ++ [PV.str a] = sv (ini ++ [w] ++ [a]) by simp]
        exact ⟨rows.length - (ini ++ [w]).length, _, _, by rw [List.length_append, List.length_singleton]; omega, .inl ((ss_nx b1).trans ((ss_nx b2).trans ((ss_nx b3).trans ss_nil))), ini ++ [w], a, steps ++ [(a, w, r.2)], n, _, _, rfl, rfl, hnext, rfl, by rw [List.length_append, List.length_singleton]; omega, hc⟩
    refine ⟨[some (.lst (sv (ini ++ [w]))), some (.lst (steps.map stpP))], df_rt rfl ((ss_nx e1).trans ((ss_nx ((s_ifF c1).trans ss_nil)).trans ((ss_nx e2).trans ((ss_nx e3).trans (ss_rt (s_ret (e_blt (es_one (e_revL (e_slcF (k := (((ini ++ [w]).idxOf w : Nat) : Int)) (e_var rfl) rfl (e_mth (e_var rfl) (ty_loc (locL_at two0)) (es_one (last _ _ ini w steps)) (w_index (l := ini ++ [w]) (locL_at two0) (by simp))) (z := .lst ((steps.map stpP).drop ((ini ++ [w]).idxOf w))) ?_))) (w_tuple ?_))))))))⟩
    · show ofO ((locL _ (M.length + 1)).map fun l => PV.lst (cutP l _ none)) _ = _
      rw [locL_at two1]
      show Res.ok (PV.lst (cutP _ _ _)) _ = _
      rw [cut_from]
    · rw [← List.map_drop, ← List.map_reverse]; rfl
/-! ### the law -/
theorem rows_fst (lines : List (List Str)) : ((lines.zipIdx).filter fun r => decide (r.1 ≠ [])).map Prod.fst = lines.filter fun l => decide (l ≠ []) := by
  have h : ∀ (lines : List (List Str)) (k : Nat), ((lines.zipIdx k).filter fun r => decide (r.1 ≠ [])).map Prod.fst = lines.filter fun l => decide (l ≠ []) := fun lines => by
    induction lines with
    | nil => intro k; rfl
    | cons l lines ih =>
      intro k
      rw [List.zipIdx_cons]
      by_cases hl : l = []
      · rw [List.filter_cons_of_neg (by simp [hl]), List.filter_cons_of_neg (by simp [hl]), ih]
      · rw [List.filter_cons_of_pos (by simp [hl]), List.filter_cons_of_pos (by simp [hl]), List.map_cons, ih]
  exact h lines 0
theorem mrg_law (lines : List (List Str)) : mlaw (totL lines + 1) lines [] = mrgP lines := by
  unfold mrgP
  exact far_law _ _ _ _ (rows_fst lines) (by rw [tot_filter, zip_tot]; exact Nat.lt_succ_self _)
theorem peq_opt {M : Sto} (r : Option (List Str)) : peq M (optP r) (optP r) = some true := by
  cases r with
  | none => rfl
  | some l =>
    show peq M (.tup (sv l)) (.tup (sv l)) = _
    rw [peq_tup, decide_eq_true rfl]
theorem peq_lines {M : Sto} (L : List (List Str)) : peq M (.lst (linesP L)) (.lst (linesP L)) = some true := by
  have key : ∀ L : List (List Str), toD0L (linesP L) = some (L.map fun l => .tuple (l.map PyData.str)) := fun L => by
    induction L with
    | nil => rfl
    | cons l L ih =>
      show ((toD0L (sv l)).map PyData.tuple).bind (fun d => (toD0L (linesP L)).map fun r => d :: r) = _
      rw [ih, toD0L_str]; rfl
  have hd : PyData.depthAll (L.map fun l => PyData.tuple (l.map PyData.str)) ≤ 1 := depthAll_le fun d hd => by
    obtain ⟨l, _, rfl⟩ := List.mem_map.mp hd
    simp only [PyData.depth, depthAll_str]; omega
  have he : ∀ L : List (List Str), PyData.eqvAll (L.map fun l => PyData.tuple (l.map PyData.str)) (L.map fun l => PyData.tuple (l.map PyData.str)) = true := fun L => by
    induction L with
    | nil => simp [PyData.eqvAll]
    | cons l L ih =>
      simp only [List.map_cons, PyData.eqvAll, PyData.eqv, eqvAll_str, ih]
      simp
  have ht : toD M (.lst (linesP L)) = some (.list (L.map fun l => PyData.tuple (l.map PyData.str))) := by
    show (toD0L (linesP L)).map PyData.list = _
    rw [key]; rfl
  unfold peq
  rw [ht]
  dsimp only
  rw [if_pos (by simp only [PyData.depth]; omega)]
  simp only [PyData.eqv]
  rw [he]
theorem sum_le (L : List (List Str)) (h : ∀ x ∈ L, x.length ≤ 20) : totL L ≤ 20 * L.length := by
  induction L with
  | nil => exact Nat.le_refl _
  | cons l L ih =>
    have h1 := h l (by simp)
    have h2 := ih fun x hx => h x (by simp [hx])
    unfold totL at h2 ⊢
    rw [List.map_cons, List.sum_cons, List.length_cons]
    omega
/-! ### merges, plainly -/
def del (x : Str) (l : List Str) : List Str := l.filter fun y => decide (y ≠ x)
def Mg : List (List Str) → List Str → Prop
  | L, [] => ∀ l ∈ L, l = []
  | L, x :: m => (∃ rest, freL L = x :: rest) ∧ Mg (L.map (del x)) m
theorem fre_ne {L : List (List Str)} (h : ∀ l ∈ L, l = []) : freL L = [] := by
  unfold freL
  rw [List.map_eq_nil_iff, List.filter_eq_nil_iff]
  intro l hl
  unfold isFre
  simp [h l hl]
theorem mlaw_mg : ∀ (n : Nat) (L : List (List Str)) (found r : List Str), totL L < n → (mlaw n L found = some r ↔ ∃ m, r = found ++ m ∧ Mg L m)
  | 0, _, _, _, h => absurd h (Nat.not_lt_zero _)
  | n + 1, L, found, r, h => by
    unfold mlaw
    by_cases ha : L.all (fun l => decide (l = [])) = true
    · rw [if_pos ha]
      have hall : ∀ l ∈ L, l = [] := fun l hl => of_decide_eq_true (List.all_eq_true.mp ha l hl)
      constructor
      · intro e; cases e; exact ⟨[], by simp, hall⟩
      · rintro ⟨m, rfl, hm⟩
        cases m with
        | nil => simp
        | cons x m =>
          obtain ⟨⟨rest, e⟩, _⟩ := hm
          rw [fre_ne hall] at e; cases e
    · rw [if_neg ha]
      have hnot : ¬ ∀ l ∈ L, l = [] := fun z => ha (List.all_eq_true.mpr fun l hl => decide_eq_true (z l hl))
      cases hf : freL L with
      | nil =>
        constructor
        · intro e; cases e
        · rintro ⟨m, rfl, hm⟩
          cases m with
          | nil => exact absurd hm hnot
          | cons x m =>
            obtain ⟨⟨rest, e⟩, _⟩ := hm
            rw [hf] at e; cases e
      | cons x rest =>
        have hlt := fil_lt hf
        rw [mlaw_mg n (L.map fun l => l.filter fun y => decide (y ≠ x)) (found ++ [x]) r (by omega)]
        constructor
        · rintro ⟨m, rfl, hm⟩
          exact ⟨x :: m, by simp, ⟨rest, hf⟩, hm⟩
        · rintro ⟨m, rfl, hm⟩
          cases m with
          | nil => exact absurd hm hnot
          | cons y m =>
            obtain ⟨⟨rest2, e⟩, h2⟩ := hm
            rw [hf] at e; cases e
            exact ⟨m, by simp, h2⟩
theorem mrg_mg (L : List (List Str)) (m : List Str) : mrgP L = some m ↔ Mg L m := by
  rw [← mrg_law, mlaw_mg _ L [] m (Nat.lt_succ_self _)]
  constructor
  · rintro ⟨_, rfl, h⟩; exact h
  · intro h; exact ⟨m, rfl, h⟩
theorem fre_iff {L : List (List Str)} {l : List Str} : isFre L l = true ↔ l ≠ [] ∧ ∀ o ∈ L, hd l ∉ o.tail := by
  unfold isFre
  rw [Bool.and_eq_true, decide_eq_true_eq, List.all_eq_true]
  simp only [decide_eq_true_eq]
/-- the first free one -/
theorem ff_iff {L : List (List Str)} {x : Str} : (∃ rest, freL L = x :: rest) ↔ ∃ pre l post, L = pre ++ l :: post ∧ isFre L l = true ∧ hd l = x ∧ ∀ p ∈ pre, isFre L p = false := by
  unfold freL
  constructor
  · rintro ⟨rest, e⟩
    obtain ⟨l, q, hq, hx, _⟩ := List.map_eq_cons_iff.mp e
    obtain ⟨pre, post, h1, h2, h3, _⟩ := List.filter_eq_cons_iff.mp hq
    exact ⟨pre, l, post, h1, h3, hx, fun p hp => by simpa using h2 p hp⟩
  · rintro ⟨pre, l, post, e, h1, h2, h3⟩
    have : L.filter (isFre L) = l :: post.filter (isFre L) := by
      conv => lhs; arg 2; rw [e]
      rw [List.filter_append, List.filter_cons_of_pos h1, List.filter_eq_nil_iff.mpr (fun p hp => by rw [h3 p hp]; decide)]
      rfl
    rw [this, List.map_cons, h2]
    exact ⟨_, rfl⟩
theorem hd_cons {l : List Str} (h : l ≠ []) : l = hd l :: l.tail := by
  cases l with
  | nil => exact absurd rfl h
  | cons a l => rfl
theorem del_not {x : Str} {l : List Str} (h : x ∉ l) : del x l = l := List.filter_eq_self.mpr fun y hy => decide_eq_true fun z => h (z ▸ hy)
theorem del_cons {x : Str} {l : List Str} (h : x ∉ l) : del x (x :: l) = l := by
  unfold del
  rw [List.filter_cons_of_neg (by simp)]
  exact del_not h
theorem mem_del {x y : Str} {l : List Str} : y ∈ del x l ↔ y ∈ l ∧ y ≠ x := by unfold del; rw [List.mem_filter, decide_eq_true_eq]
/-- a list that is about to lose x -/
theorem del_case {x : Str} {l : List Str} (h : x ∉ l.tail) : (l = x :: del x l) ∨ (x ∉ l ∧ del x l = l) := by
  cases l with
  | nil => exact .inr ⟨List.not_mem_nil, rfl⟩
  | cons a l =>
    have h : x ∉ l := h
    by_cases e : a = x
    · subst e; rw [del_cons h]; exact .inl rfl
    · have : x ∉ a :: l := fun z => (List.mem_cons.mp z).elim (fun q => e q.symm) h
      exact .inr ⟨this, del_not this⟩
theorem mg_good : ∀ {m : List Str} {L : List (List Str)}, Mg L m → m.Nodup ∧ (∀ l ∈ L, l.Sublist m) ∧ ∀ x ∈ m, ∃ l ∈ L, x ∈ l
  | [], L, h => ⟨List.nodup_nil, fun l hl => by rw [h l hl]; exact List.Sublist.refl _, fun _ z => by cases z⟩
  | x :: m, L, ⟨hf, h⟩ => by
    obtain ⟨n1, s1, c1⟩ := mg_good h
    obtain ⟨pre, l, post, e, h1, h2, h3⟩ := ff_iff.mp hf
    obtain ⟨hne, hfree⟩ := fre_iff.mp h1
    rw [h2] at hfree
    have hl : l ∈ L := by rw [e]; simp
    refine ⟨List.nodup_cons.mpr ⟨fun z => ?_, n1⟩, fun q hq => ?_, fun y hy => ?_⟩
    · obtain ⟨q, hq, hx⟩ := c1 x z
      obtain ⟨r, _, rfl⟩ := List.mem_map.mp hq
      exact (mem_del.mp hx).2 rfl
    · have hs := s1 (del x q) (List.mem_map.mpr ⟨q, hq, rfl⟩)
      rcases del_case (hfree q hq) with z | ⟨_, z⟩
      · rw [z]; exact hs.cons_cons x
      · rw [z] at hs; exact hs.cons x
    · rcases List.mem_cons.mp hy with rfl | hy
      · exact ⟨l, hl, by rw [hd_cons hne, h2]; simp⟩
      · obtain ⟨q, hq, hx⟩ := c1 y hy
        obtain ⟨r, hr, rfl⟩ := List.mem_map.mp hq
        exact ⟨r, hr, (mem_del.mp hx).1⟩
theorem sub_tail {x : Str} {o p : List Str} (h : p.Sublist (x :: o)) : p.Sublist o ∨ ∃ q, p = x :: q ∧ q.Sublist o := by
  cases h with
  | cons _ h => exact .inl h
  | cons_cons _ h => exact .inr ⟨_, rfl, h⟩
theorem head_free {x : Str} {o p : List Str} (hn : (x :: o).Nodup) (h : p.Sublist (x :: o)) : x ∉ p.tail := by
  have hx := (List.nodup_cons.mp hn).1
  rcases sub_tail h with h2 | ⟨q, rfl, h2⟩
  · exact fun z => hx (h2.subset (List.mem_of_mem_tail z))
  · exact fun z => hx (h2.subset z)
theorem sub_del {x : Str} {o p : List Str} (h : p.Sublist o) : (del x p).Sublist (del x o) := h.filter _
theorem mg_some : ∀ (n : Nat) {L : List (List Str)} {o : List Str}, o.length ≤ n → o.Nodup → (∀ l ∈ L, l.Sublist o) → ∃ m, Mg L m
  | n, L, [], _, _, hs => ⟨[], fun l hl => List.sublist_nil.mp (hs l hl)⟩
  | 0, _, _ :: _, h, _, _ => absurd h (by simp)
  | n + 1, L, x :: o, hl, hn, hs => by
    by_cases hx : ∃ l ∈ L, x ∈ l
    · obtain ⟨l, hlL, hxl⟩ := hx
      have hlx : l ≠ [] ∧ hd l = x := by
        rcases sub_tail (hs l hlL) with h | ⟨q, rfl, _⟩
        · exact absurd (h.subset hxl) (List.nodup_cons.mp hn).1
        · exact ⟨by simp, rfl⟩
      have hfl : isFre L l = true := fre_iff.mpr ⟨hlx.1, fun q hq => by rw [hlx.2]; exact head_free hn (hs q hq)⟩
      cases hf : freL L with
      | nil =>
        have : x ∈ freL L := List.mem_map.mpr ⟨l, List.mem_filter.mpr ⟨hlL, hfl⟩, hlx.2⟩
        rw [hf] at this; cases this
      | cons y rest =>
        obtain ⟨pre, r, post, e, h1, h2, _⟩ := ff_iff.mp ⟨rest, hf⟩
        have hr : r ∈ L := by rw [e]; simp
        have hy : y ∈ x :: o := (hs r hr).subset (by rw [hd_cons (fre_iff.mp h1).1, h2]; simp)
        have hlen : (del y (x :: o)).length < (x :: o).length := by
          have h1 := List.length_filter_le (fun z => decide (z ≠ y)) (x :: o)
          rcases Nat.lt_or_ge (del y (x :: o)).length (x :: o).length with h | h
          · exact h
          · have : del y (x :: o) = x :: o := List.Sublist.eq_of_length_le List.filter_sublist h
            rw [← this] at hy
            exact absurd rfl (mem_del.mp hy).2
        obtain ⟨m, hm⟩ := mg_some n (L := L.map (del y)) (o := del y (x :: o)) (by rw [List.length_cons] at hl hlen; omega) (hn.filter _) (fun q hq => by
          obtain ⟨p, hp, rfl⟩ := List.mem_map.mp hq
          exact sub_del (hs p hp))
        exact ⟨y :: m, ⟨rest, hf⟩, hm⟩
    · refine mg_some n (o := o) (by rw [List.length_cons] at hl; omega) (List.nodup_cons.mp hn).2 fun l hlL => ?_
      rcases sub_tail (hs l hlL) with h | ⟨q, rfl, _⟩
      · exact h
      · exact absurd ⟨_, hlL, by simp⟩ hx
theorem mg_add : ∀ {m : List Str} {L P : List (List Str)}, Mg L m → (∀ p ∈ P, p.Sublist m) → Mg (L ++ P) m
  | [], L, P, h, hp => fun l hl => (List.mem_append.mp hl).elim (h l) fun z => List.sublist_nil.mp (hp l z)
  | x :: m, L, P, h, hp => by
    have hn := (mg_good h).1
    obtain ⟨hf, h⟩ := h
    obtain ⟨pre, l, post, e, h1, h2, h3⟩ := ff_iff.mp hf
    obtain ⟨hne, hfree⟩ := fre_iff.mp h1
    rw [h2] at hfree
    refine ⟨ff_iff.mpr ⟨pre, l, post ++ P, by rw [e]; simp, fre_iff.mpr ⟨hne, fun o ho => ?_⟩, h2, fun p hp2 => ?_⟩, ?_⟩
    · rw [h2]
      rcases List.mem_append.mp ho with ho | ho
      · exact hfree o ho
      · exact head_free hn (hp o ho)
    · cases hc : isFre (L ++ P) p with
      | false => rfl
      | true =>
        obtain ⟨q1, q2⟩ := fre_iff.mp hc
        have : isFre L p = true := fre_iff.mpr ⟨q1, fun o ho => q2 o (List.mem_append_left _ ho)⟩
        rw [h3 p hp2] at this; cases this
    · rw [List.map_append]
      refine mg_add h fun q hq => ?_
      obtain ⟨p, hp2, rfl⟩ := List.mem_map.mp hq
      have := sub_del (x := x) (hp p hp2)
      rw [del_cons (List.nodup_cons.mp hn).1] at this
      exact this
theorem mg_self : ∀ {m : List Str} {P : List (List Str)}, m.Nodup → (∀ p ∈ P, p.Sublist m) → Mg (m :: P) m
  | [], P, _, hp => fun l hl => (List.mem_cons.mp hl).elim id fun z => List.sublist_nil.mp (hp l z)
  | x :: m, P, hn, hp => by
    have hx := (List.nodup_cons.mp hn).1
    refine ⟨ff_iff.mpr ⟨[], x :: m, P, rfl, fre_iff.mpr ⟨by simp, fun o ho => ?_⟩, rfl, fun _ z => by cases z⟩, ?_⟩
    · rcases List.mem_cons.mp ho with rfl | ho
      · exact hx
      · exact head_free hn (hp o ho)
    · rw [List.map_cons, del_cons hx]
      refine mg_self (List.nodup_cons.mp hn).2 fun q hq => ?_
      obtain ⟨p, hp2, rfl⟩ := List.mem_map.mp hq
      have := sub_del (x := x) (hp p hp2)
      rw [del_cons hx] at this
      exact this
theorem mg_empty : ∀ {m : List Str} {L : List (List Str)}, Mg L m → Mg ([] :: L) m
  | [], L, h => fun l hl => (List.mem_cons.mp hl).elim id (h l)
  | x :: m, L, ⟨hf, h⟩ => by
    obtain ⟨pre, l, post, e, h1, h2, h3⟩ := ff_iff.mp hf
    have same : ∀ p, isFre ([] :: L) p = isFre L p := fun p => by
      unfold isFre; simp
    exact ⟨ff_iff.mpr ⟨[] :: pre, l, post, by rw [e]; rfl, by rw [same]; exact h1, h2, fun p hp => by
      rcases List.mem_cons.mp hp with rfl | hp
      · unfold isFre; simp
      · rw [same]; exact h3 p hp⟩, mg_empty h⟩
/-- other names -/
theorem mg_names (f : Str → Str) (S : List Str) (hf : ∀ a ∈ S, ∀ b ∈ S, f a = f b → a = b) : ∀ {m : List Str} {L : List (List Str)}, (∀ l ∈ L, l ⊆ S) → Mg L m → Mg (L.map (List.map f)) (m.map f)
  | [], L, _, h => fun q hq => by
    obtain ⟨l, hl, rfl⟩ := List.mem_map.mp hq
    rw [h l hl]; rfl
  | x :: m, L, hS, ⟨hff, h⟩ => by
    obtain ⟨pre, l, post, e, h1, h2, h3⟩ := ff_iff.mp hff
    have hl : l ∈ L := by rw [e]; simp
    have hxS : x ∈ S := hS l hl (by rw [hd_cons (fre_iff.mp h1).1, h2]; simp)
    have hdm : ∀ l : List Str, l ≠ [] → hd (l.map f) = f (hd l) := fun l hl => by
      cases l with
      | nil => exact absurd rfl hl
      | cons a l => rfl
    have same : ∀ p ∈ L, isFre (L.map (List.map f)) (p.map f) = isFre L p := fun p hp => by
      rw [Bool.eq_iff_iff, fre_iff, fre_iff]
      by_cases hpe : p = []
      · subst hpe; simp
      · have hpS : hd p ∈ S := hS p hp (by
          have := hd_cons hpe
          rw [this]; exact List.mem_cons_self)
        refine and_congr (by simp) ⟨fun q o ho z => ?_, fun q o ho z => ?_⟩
        · refine q (o.map f) (List.mem_map.mpr ⟨o, ho, rfl⟩) ?_
          rw [hdm p hpe, ← List.map_tail]
          exact List.mem_map.mpr ⟨_, z, rfl⟩
        · obtain ⟨r, hr, rfl⟩ := List.mem_map.mp ho
          rw [hdm p hpe, ← List.map_tail] at z
          obtain ⟨y, hy, e⟩ := List.mem_map.mp z
          have := hf y (hS r hr (List.mem_of_mem_tail hy)) _ hpS e
          rw [this] at hy
          exact q r hr hy
    have hdel : ∀ l ∈ L, del (f x) (l.map f) = (del x l).map f := fun l hl => by
      unfold del
      rw [List.filter_map]
      congr 1
      refine List.filter_congr fun y hy => ?_
      by_cases hyx : y = x
      · subst hyx; simp
      · have : f y ≠ f x := fun z => hyx (hf y (hS l hl hy) x hxS z)
        simp [hyx, this]
    refine ⟨ff_iff.mpr ⟨pre.map (List.map f), l.map f, post.map (List.map f), by rw [e]; simp, by rw [same l hl]; exact h1, by rw [hdm l (fre_iff.mp h1).1, h2], fun q hq => ?_⟩, ?_⟩
    · obtain ⟨p, hp, rfl⟩ := List.mem_map.mp hq
      rw [same p (by rw [e]; exact List.mem_append_left _ hp)]
      exact h3 p hp
    · have : (L.map (List.map f)).map (del (f x)) = (L.map (del x)).map (List.map f) := by
        rw [List.map_map, List.map_map]
        exact List.map_congr_left hdel
      rw [this]
      refine mg_names f S hf (fun q hq => ?_) h
      obtain ⟨p, hp, rfl⟩ := List.mem_map.mp hq
      exact fun y hy => hS p hp (mem_del.mp hy).1
theorem part_filter : ∀ {o l : List Str}, o.Nodup → l.Sublist o → (o.filter fun x => decide (x ∈ l)) = l
  | [], l, _, h => by rw [List.sublist_nil.mp h]; rfl
  | x :: o, l, hn, h => by
    have hx := (List.nodup_cons.mp hn).1
    rcases sub_tail h with h2 | ⟨q, rfl, h2⟩
    · rw [List.filter_cons_of_neg (by simpa using fun z => hx (h2.subset z))]
      exact part_filter (List.nodup_cons.mp hn).2 h2
    · rw [List.filter_cons_of_pos (by simp)]
      congr 1
      have ih := part_filter (List.nodup_cons.mp hn).2 h2
      refine Eq.trans (List.filter_congr fun y hy => ?_) ih
      have hyx : y ≠ x := fun z => hx (z ▸ hy)
      simp [hyx]
/-- no merge of some, none of more -/
theorem mrg_more {L P : List (List Str)} (h : mrgP L = none) : mrgP (L ++ P) = none := by
  cases e : mrgP (L ++ P) with
  | none => rfl
  | some m =>
    obtain ⟨n1, s1, _⟩ := mg_good ((mrg_mg _ _).mp e)
    obtain ⟨m', hm⟩ := mg_some _ (Nat.le_refl _) n1 fun l hl => s1 l (List.mem_append_left P hl)
    rw [(mrg_mg _ _).mpr hm] at h; cases h
theorem k_r1 : G1.fn "reduced" = some (d_reduced.ev G0) := Sig.same
theorem k_r2 : G2.fn "reduced" = some (d_reduced.ev G0) := (Sig.other (by decide +kernel)).trans Sig.same
theorem k_t2 : G2.fn "taken" = some (d_taken.ev G1) := Sig.same
theorem k_f3 : G3.fn "merged_far" = some (d_merged_far.ev G2) := Sig.same
theorem k_f4 : G4.fn "merged_far" = some (d_merged_far.ev G2) := (Sig.other (by decide +kernel)).trans Sig.same
theorem k_d7 : G7.fn "_law_draw" = some (d_law_draw.ev G6) := Sig.same
theorem k_d8 : G8.fn "_law_draw" = some (d_law_draw.ev G6) := (Sig.other (by decide +kernel)).trans Sig.same
theorem k_p9 : G9.fn "_law_pick" = some (d_law_pick.ev G7) := (Sig.other (by decide +kernel)).trans Sig.same
theorem k_d10 : G10.fn "_law_draw" = some (d_law_draw.ev G6) := (Sig.other (by decide +kernel)).trans ((Sig.other (by decide +kernel)).trans ((Sig.other (by decide +kernel)).trans Sig.same))
theorem k_p10 : G10.fn "_law_pick" = some (d_law_pick.ev G7) := (Sig.other (by decide +kernel)).trans ((Sig.other (by decide +kernel)).trans Sig.same)
theorem k_x10 : G10.fn "_law_mixed" = some (d_law_mixed.ev G8) := (Sig.other (by decide +kernel)).trans Sig.same
theorem k_m : G14.fn "merge" = some (d_merge.ev G3) := (Sig.other (by decide +kernel)).trans ((Sig.other (by decide +kernel)).trans ((Sig.other (by decide +kernel)).trans ((Sig.other (by decide +kernel)).trans ((Sig.other (by decide +kernel)).trans ((Sig.other (by decide +kernel)).trans ((Sig.other (by decide +kernel)).trans ((Sig.other (by decide +kernel)).trans ((Sig.other (by decide +kernel)).trans ((Sig.other (by decide +kernel)).trans Sig.same)))))))))
theorem k_c : G14.fn "cycle_of" = some (d_cycle_of.ev G4) := (Sig.other (by decide +kernel)).trans ((Sig.other (by decide +kernel)).trans ((Sig.other (by decide +kernel)).trans ((Sig.other (by decide +kernel)).trans ((Sig.other (by decide +kernel)).trans ((Sig.other (by decide +kernel)).trans ((Sig.other (by decide +kernel)).trans ((Sig.other (by decide +kernel)).trans ((Sig.other (by decide +kernel)).trans Sig.same))))))))
theorem k_st : G14.fn "_law_state" = some (d_law_state.ev G5) := (Sig.other (by decide +kernel)).trans ((Sig.other (by decide +kernel)).trans ((Sig.other (by decide +kernel)).trans ((Sig.other (by decide +kernel)).trans ((Sig.other (by decide +kernel)).trans ((Sig.other (by decide +kernel)).trans ((Sig.other (by decide +kernel)).trans ((Sig.other (by decide +kernel)).trans Sig.same)))))))
theorem k_dr : G14.fn "_law_draw" = some (d_law_draw.ev G6) := (Sig.other (by decide +kernel)).trans ((Sig.other (by decide +kernel)).trans ((Sig.other (by decide +kernel)).trans ((Sig.other (by decide +kernel)).trans ((Sig.other (by decide +kernel)).trans ((Sig.other (by decide +kernel)).trans ((Sig.other (by decide +kernel)).trans Sig.same))))))
theorem k_ti : G14.fn "_law_titles" = some (d_law_titles.ev G9) := (Sig.other (by decide +kernel)).trans ((Sig.other (by decide +kernel)).trans ((Sig.other (by decide +kernel)).trans ((Sig.other (by decide +kernel)).trans Sig.same)))
theorem k_li : G14.fn "_law_lists" = some (d_law_lists.ev G10) := (Sig.other (by decide +kernel)).trans ((Sig.other (by decide +kernel)).trans ((Sig.other (by decide +kernel)).trans Sig.same))
theorem k_ao : G14.fn "_law_all_orders" = some (d_law_all_orders.ev G11) := (Sig.other (by decide +kernel)).trans ((Sig.other (by decide +kernel)).trans Sig.same)
theorem k_ha : G14.fn "_law_has" = some (d_law_has.ev G12) := (Sig.other (by decide +kernel)).trans Sig.same
theorem k_fl : G14.fn "_law_first_lists" = some (d_law_first_lists.ev G13) := Sig.same
/-! ### all orders, plainly -/
def insA (x : Str) (o : List Str) : List (List Str) := (List.range (o.length + 1)).map fun k => o.take k ++ [x] ++ o.drop k
def ordsF (names : List Str) (found : List (List Str)) : List (List Str) := names.foldl (fun f x => f.flatMap (insA x)) found
theorem mem_ins {x : Str} {o p : List Str} : o ∈ insA x p ↔ ∃ a b, p = a ++ b ∧ o = a ++ x :: b := by
  unfold insA
  rw [List.mem_map]
  constructor
  · rintro ⟨k, _, rfl⟩
    exact ⟨p.take k, p.drop k, (List.take_append_drop k p).symm, by simp⟩
  · rintro ⟨a, b, rfl, rfl⟩
    refine ⟨a.length, List.mem_range.mpr (by rw [List.length_append]; omega), by simp⟩
theorem mem_ords : ∀ (names : List Str) (found : List (List Str)) (S : List Str), (∀ o, o ∈ found ↔ o.Perm S) → ∀ o, o ∈ ordsF names found ↔ o.Perm (names.reverse ++ S)
  | [], found, S, h, o => by simpa [ordsF] using h o
  | x :: names, found, S, h, o => by
    have step : ∀ o, o ∈ found.flatMap (insA x) ↔ o.Perm (x :: S) := fun o => by
      rw [List.mem_flatMap]
      constructor
      · rintro ⟨p, hp, ho⟩
        obtain ⟨a, b, rfl, rfl⟩ := mem_ins.mp ho
        exact List.perm_middle.trans (((h _).mp hp).cons x)
      · intro hp
        obtain ⟨a, b, rfl⟩ := List.append_of_mem (hp.mem_iff.mpr (List.mem_cons_self (a := x) (l := S)))
        exact ⟨a ++ b, (h _).mpr ((List.perm_middle.symm.trans hp).cons_inv), mem_ins.mpr ⟨a, b, rfl, rfl⟩⟩
    have := mem_ords names (found.flatMap (insA x)) (x :: S) step o
    rw [show ordsF (x :: names) found = ordsF names (found.flatMap (insA x)) from rfl, this, List.reverse_cons, List.append_assoc]
    rfl
theorem mem_all {names o : List Str} : o ∈ ordsF names [[]] ↔ o.Perm names := by
  rw [mem_ords names [[]] [] (fun o => by rw [List.mem_singleton, List.perm_nil]) o, List.append_nil]
  exact ⟨fun h => h.trans (List.reverse_perm _), fun h => h.trans (List.reverse_perm _).symm⟩
/-- all names -/
def uniF (L : List (List Str)) (acc : List Str) : List Str := L.foldl (fun acc l => acc ++ l.filter fun y => decide (y ∉ acc)) acc
theorem uni_ok : ∀ (L : List (List Str)) (acc : List Str), acc.Nodup → (∀ l ∈ L, l.Nodup) → (uniF L acc).Nodup ∧ ∀ x, x ∈ uniF L acc ↔ x ∈ acc ∨ ∃ l ∈ L, x ∈ l
  | [], acc, h, _ => ⟨h, fun x => by simp [uniF]⟩
  | l :: L, acc, h, hL => by
    have h2 : (acc ++ l.filter fun y => decide (y ∉ acc)).Nodup := List.nodup_append.mpr ⟨h, (hL l (List.mem_cons_self ..)).filter _, fun a ha b hb z => by
      have := (List.mem_filter.mp hb).2
      rw [decide_eq_true_eq] at this
      exact this (z ▸ ha)⟩
    obtain ⟨n, m⟩ := uni_ok L _ h2 fun q hq => hL q (List.mem_cons_of_mem _ hq)
    refine ⟨n, fun x => ?_⟩
    rw [show uniF (l :: L) acc = uniF L (acc ++ l.filter fun y => decide (y ∉ acc)) from rfl, m x, List.mem_append, List.mem_filter, decide_eq_true_eq]
    constructor
    · rintro ((h | ⟨h, _⟩) | ⟨q, hq, h⟩)
      · exact .inl h
      · exact .inr ⟨l, List.mem_cons_self .., h⟩
      · exact .inr ⟨q, List.mem_cons_of_mem _ hq, h⟩
    · rintro (h | ⟨q, hq, h⟩)
      · exact .inl (.inl h)
      · rcases List.mem_cons.mp hq with rfl | hq
        · by_cases ha : x ∈ acc
          · exact .inl (.inl ha)
          · exact .inl (.inr ⟨h, ha⟩)
        · exact .inr ⟨q, hq, h⟩
def hasB (o l : List Str) : Bool := decide ((o.filter fun y => decide (y ∈ l)) = l)
def goodL (L : List (List Str)) : List (List Str) := (ordsF (uniF L []) [[]]).filter fun o => L.all fun l => hasB o l
theorem has_iff {o l : List Str} (hn : o.Nodup) : hasB o l = true ↔ l.Sublist o := by
  unfold hasB
  rw [decide_eq_true_eq]
  constructor
  · intro h; rw [← h]; exact List.filter_sublist
  · exact part_filter hn
theorem mem_good {L : List (List Str)} (hL : ∀ l ∈ L, l.Nodup) {o : List Str} : o ∈ goodL L ↔ o.Perm (uniF L []) ∧ ∀ l ∈ L, l.Sublist o := by
  have hn := (uni_ok L [] List.nodup_nil hL).1
  unfold goodL
  rw [List.mem_filter, mem_all, List.all_eq_true]
  refine and_congr_right fun hp => ?_
  have ho : o.Nodup := hp.nodup_iff.mpr hn
  exact ⟨fun h l hl => (has_iff ho).mp (h l hl), fun h l hl => (has_iff ho).mpr (h l hl)⟩
/-! ### the merge is the earliest one -/
def fi (L : List (List Str)) (x : Str) : Nat := L.findIdx fun l => decide (x ∈ l)
def keyI (L : List (List Str)) (o : List Str) : List Int := o.map fun x => (fi L x : Int)
theorem fi_del {x y : Str} (h : x ≠ y) : ∀ L : List (List Str), fi (L.map (del y)) x = fi L x
  | [] => rfl
  | l :: L => by
    have ih := fi_del h L
    unfold fi at ih ⊢
    rw [List.map_cons, List.findIdx_cons, List.findIdx_cons, ih]
    have : decide (x ∈ del y l) = decide (x ∈ l) := decide_eq_decide.mpr ⟨fun z => (mem_del.mp z).1, fun z => mem_del.mpr ⟨z, h⟩⟩
    rw [this]
theorem fi_at {x : Str} {l : List Str} {post : List (List Str)} (hx : x ∈ l) : ∀ pre : List (List Str), (∀ p ∈ pre, x ∉ p) → fi (pre ++ l :: post) x = pre.length
  | [], _ => by unfold fi; rw [List.nil_append, List.findIdx_cons, decide_eq_true hx]; rfl
  | p :: pre, h => by
    have ih := fi_at (post := post) hx pre fun q hq => h q (List.mem_cons_of_mem _ hq)
    unfold fi at ih ⊢
    rw [List.cons_append, List.findIdx_cons, decide_eq_false (h p (List.mem_cons_self ..)), ih]; rfl
theorem fi_gt {y : Str} {l : List Str} {post : List (List Str)} (hy : y ∉ l) : ∀ pre : List (List Str), (∀ p ∈ pre, y ∉ p) → pre.length < fi (pre ++ l :: post) y
  | [], _ => by unfold fi; rw [List.nil_append, List.findIdx_cons, decide_eq_false hy]; exact Nat.succ_pos _
  | p :: pre, h => by
    have ih := fi_gt (post := post) hy pre fun q hq => h q (List.mem_cons_of_mem _ hq)
    unfold fi at ih ⊢
    rw [List.cons_append, List.findIdx_cons, decide_eq_false (h p (List.mem_cons_self ..)), List.length_cons]
    exact Nat.succ_lt_succ ih
theorem key_del {x : Str} {L : List (List Str)} {o : List Str} (h : x ∉ o) : keyI (L.map (del x)) o = keyI L o :=
  List.map_congr_left fun y hy => by rw [fi_del (x := y) (y := x) (fun z => h (z ▸ hy))]
theorem key_lt : ∀ {m : List Str} {L : List (List Str)} {o : List Str}, Mg L m → o.Nodup → (∀ l ∈ L, l.Sublist o) → (∀ x ∈ o, ∃ l ∈ L, x ∈ l) → o = m ∨ keyI L m < keyI L o
  | [], L, o, h, _, _, hc => by
    cases o with
    | nil => exact .inl rfl
    | cons y o =>
      obtain ⟨l, hl, hy⟩ := hc y (List.mem_cons_self ..)
      rw [h l hl] at hy; cases hy
  | x :: m, L, o, hm, hn, hs, hc => by
    have hxm : x ∉ m := (List.nodup_cons.mp (mg_good hm).1).1
    obtain ⟨hf, hm⟩ := hm
    obtain ⟨pre, l, post, e, h1, h2, h3⟩ := ff_iff.mp hf
    obtain ⟨hne, hfree⟩ := fre_iff.mp h1
    rw [h2] at hfree
    have hlL : l ∈ L := by rw [e]; simp
    have hxl : x ∈ l := by rw [hd_cons hne, h2]; simp
    cases o with
    | nil => have := hs l hlL; rw [List.sublist_nil.mp this] at hxl; cases hxl
    | cons y o =>
      by_cases hyx : y = x
      · subst hyx
        have hyo := (List.nodup_cons.mp hn).1
        have ih := key_lt (o := o) hm (List.nodup_cons.mp hn).2 (fun q hq => by
          obtain ⟨p, hp, rfl⟩ := List.mem_map.mp hq
          have := sub_del (x := y) (hs p hp)
          rw [del_cons hyo] at this
          exact this) (fun z hz => by
          obtain ⟨p, hp, hzp⟩ := hc z (List.mem_cons_of_mem _ hz)
          exact ⟨del y p, List.mem_map.mpr ⟨p, hp, rfl⟩, mem_del.mpr ⟨hzp, fun q => hyo (q ▸ hz)⟩⟩)
        rcases ih with rfl | ih
        · exact .inl rfl
        · rw [key_del hxm, key_del hyo] at ih
          exact .inr (List.cons_lt_cons_iff.mpr (.inr ⟨rfl, ih⟩))
      · refine .inr (List.cons_lt_cons_iff.mpr (.inl ?_))
        -- a list that has one of the two free ones ahead of the chosen list would be free itself
        have px : ∀ p ∈ pre, x ∉ p := fun p hp z => by
          have hpL : p ∈ L := by rw [e]; exact List.mem_append_left _ hp
          have hpx : hd p = x ∧ p ≠ [] := by
            rcases del_case (hfree p hpL) with q | ⟨q, _⟩
            · rw [q]; exact ⟨rfl, by simp⟩
            · exact absurd z q
          have : isFre L p = true := fre_iff.mpr ⟨hpx.2, fun o' ho' => by rw [hpx.1]; exact hfree o' ho'⟩
          rw [h3 p hp] at this; cases this
        have yhd : ∀ p ∈ L, y ∈ p → hd p = y ∧ p ≠ [] := fun p hp z => by
          rcases sub_tail (hs p hp) with q | ⟨q, rfl, _⟩
          · exact absurd (q.subset z) (List.nodup_cons.mp hn).1
          · exact ⟨rfl, by simp⟩
        have py : ∀ p ∈ pre, y ∉ p := fun p hp z => by
          have hpL : p ∈ L := by rw [e]; exact List.mem_append_left _ hp
          obtain ⟨q1, q2⟩ := yhd p hpL z
          have : isFre L p = true := fre_iff.mpr ⟨q2, fun o' ho' => by rw [q1]; exact head_free hn (hs o' ho')⟩
          rw [h3 p hp] at this; cases this
        have yl : y ∉ l := fun z => by
          have := (yhd l hlL z).1
          rw [h2] at this
          exact hyx this.symm
        have e1 : fi L x = pre.length := by rw [e]; exact fi_at hxl pre px
        have e2 : pre.length < fi L y := by rw [e]; exact fi_gt yl pre py
        show (fi L x : Int) < (fi L y : Int)
        omega
theorem good_merge {L : List (List Str)} (hL : ∀ l ∈ L, l.Nodup) : (goodL L = [] ↔ mrgP L = none) ∧ ∀ m, mrgP L = some m → m ∈ goodL L ∧ ∀ o ∈ goodL L, o = m ∨ keyI L m < keyI L o := by
  obtain ⟨un, um⟩ := uni_ok L [] List.nodup_nil hL
  have part2 : ∀ m, mrgP L = some m → m ∈ goodL L ∧ ∀ o ∈ goodL L, o = m ∨ keyI L m < keyI L o := fun m hm => by
    have hmg := (mrg_mg L m).mp hm
    obtain ⟨mn, ms, mc⟩ := mg_good hmg
    refine ⟨(mem_good hL).mpr ⟨?_, ms⟩, fun o ho => ?_⟩
    · refine (List.perm_ext_iff_of_nodup mn un).mpr fun x => ?_
      rw [um x]
      exact ⟨fun h => .inr (mc x h), fun h => h.elim (fun z => nomatch z) fun ⟨l, hl, hx⟩ => (ms l hl).subset hx⟩
    · obtain ⟨hp, hs⟩ := (mem_good hL).mp ho
      refine key_lt hmg (hp.nodup_iff.mpr un) hs fun x hx => ?_
      rcases (um x).mp (hp.mem_iff.mp hx) with z | z
      · cases z
      · exact z
  refine ⟨⟨fun h => ?_, fun h => ?_⟩, part2⟩
  · cases hm : mrgP L with
    | none => rfl
    | some m => have := (part2 m hm).1; rw [h] at this; cases this
  · cases hg : goodL L with
    | nil => rfl
    | cons o r =>
      obtain ⟨hp, hs⟩ := (mem_good hL).mp (show o ∈ goodL L by rw [hg]; simp)
      obtain ⟨m, hm⟩ := mg_some _ (Nat.le_refl _) (hp.nodup_iff.mpr un) hs
      rw [(mrg_mg L m).mpr hm] at h; cases h
/-! ### the helpers -/
theorem lines_app (L P : List (List Str)) : linesP L ++ linesP P = linesP (L ++ P) := by unfold linesP; rw [List.map_append]
theorem lines_len (L : List (List Str)) : (linesP L).length = L.length := by unfold linesP; rw [List.length_map]
theorem WO_mkF {M : Sto} {l : List PV} {P : PV → Sto → Prop} : WO (mkL false l M) P = P (.lst l) M := WO_ok
theorem ev_of_WO {M : Sto} {r : Res PV} {v : PV} (h : WO r fun w M' => w = v ∧ M' = M) : r = .ok v M := by
  obtain ⟨w, M', e, rfl, rfl⟩ := h
  exact e
theorem sv_get {m : List Str} {i : Nat} {x : PV} (h : (sv m)[i]? = some x) : ∃ y, x = .str y ∧ m[i]? = some y := by
  rw [List.getElem?_map, Option.map_eq_some_iff] at h
  obtain ⟨y, h1, rfl⟩ := h
  exact ⟨y, rfl, h1⟩
theorem lines_get {L : List (List Str)} {i : Nat} {x : PV} (h : (linesP L)[i]? = some x) : ∃ y, x = .tup (sv y) ∧ L[i]? = some y := by
  unfold linesP at h
  rw [List.getElem?_map, Option.map_eq_some_iff] at h
  obtain ⟨y, h1, rfl⟩ := h
  exact ⟨y, rfl, h1⟩
theorem take_snoc {α : Type} {m : List α} {i : Nat} {y : α} (h : m[i]? = some y) : m.take (i + 1) = m.take i ++ [y] := by rw [List.take_succ, h]; rfl
theorem sv_take (l : List Str) (k : Nat) : (sv l).take k = sv (l.take k) := List.map_take.symm
theorem sv_drop (l : List Str) (k : Nat) : (sv l).drop k = sv (l.drop k) := List.map_drop.symm
theorem WO_lenTs {M : Sto} {l : List Str} {P : PV → Sto → Prop} : WO (evB "len" [.tup (sv l)] M) P = P (.int (l.length : Nat)) M := WO_len (show lenOf M (.tup (sv l)) = some l.length by show (some (sv l)).map (·.length) = _; simp)
theorem WO_slto {M : Sto} {l : List Str} {k : Nat} {P : PV → Sto → Prop} : WO (slcop (.tup (sv l)) none (some (k : Int)) M) P = P (.tup (sv (l.take k))) M := by
  rw [show slcop (.tup (sv l)) none (some (k : Int)) M = .ok (.tup (cutP (sv l) none (some (k : Int)))) M from rfl, WO_ok, cut_to, sv_take]
theorem WO_slfrom {M : Sto} {l : List Str} {k : Nat} {P : PV → Sto → Prop} : WO (slcop (.tup (sv l)) (some (k : Int)) none M) P = P (.tup (sv (l.drop k))) M := by
  rw [show slcop (.tup (sv l)) (some (k : Int)) none M = .ok (.tup (cutP (sv l) (some (k : Int)) none)) M from rfl, WO_ok, cut_from, sv_drop]
theorem ords_len {names o : List Str} (h : o ∈ ordsF names [[]]) : o.length = names.length := (mem_all.mp h).length_eq
theorem ords_snoc (names : List Str) (x : Str) : ordsF (names ++ [x]) [[]] = (ordsF names [[]]).flatMap (insA x) := by
  unfold ordsF
  rw [List.foldl_append]; rfl
theorem ev_all (Γ : Sig) (names : List Str) (hn : names.length ≤ 5) (M : Sto) : d_law_all_orders.ev Γ [.lst (sv names)] M = .ok (.lst (linesP (ordsF names [[]]))) M ∧ (ordsF names [[]]).length ≤ 7776 := by
  have key : WO (d_law_all_orders.ev Γ [.lst (sv names)] M) fun v M' => (v = .lst (linesP (ordsF names [[]])) ∧ M' = M) ∧ (ordsF names [[]]).length ≤ 7776 := by
    rw [WO_df rfl]
    simp only [d_law_all_orders, WO_ok, WO_okIf, WE_var, WE_non, WE_bl, WE_int, WE_str, WE_miss, WE_bin, WE_cmp, WE_cmx, WE_idx, WE_tup, WE_lst, WE_lstM, WE_and, WE_or, WE_not, WE_ite, WE_chn, WE_call, WE_callK, WE_blt, WE_lof, WE_slc, Wi, isMiss, if_true, if_false, Bool.false_eq_true, reduceIte, WE_lr, WE_lz, WE_addM, WE_up, WE_glb, WE_dsp, WE_dof, WE_isi, WE_mth, WEs_nil, WEs_cons, WEs_star, WI_seq, WI_fn, Wb_t, Wb_f, Wb_n, WSs_nil, WSs_cons, Kss_nx, Kss_rt, Kss_bk, Kss_ct, Kif_t, Kif_f, Kif_n, Kde_rt, Kde_nx, WS_asg, WS_ret, WS_retN, WS_exp, WS_pas, WS_brk, WS_cnt, WS_asgT, WS_asgS, WS_par, WS_sub, WS_ifs, WS_frz, WO_addi, WO_subi, WO_muli, WO_fdiv, WO_mod, WO_pow, WO_addl, WO_addt, WO_lti, WO_lei, WO_gti, WO_gei, WO_eqi, WO_nei, WO_eqs, WO_nes, WO_isn0, WO_isnn0, WO_isb, WO_isnb, isNon, setAll, Sk.bindG, Sk.bindGs, Option.bind_some, Option.some.injEq, exists_eq_left', List.map_cons, List.map_nil, List.cons_append, List.nil_append, List.replicate, List.getElem?_cons_zero, List.getElem?_cons_succ, List.set_cons_zero, List.set_cons_succ, List.length_cons, List.length_nil, Nat.reduceAdd, Nat.reduceSub, lim, Nat.reduceLeDiff, true_and, and_true, true_or, not_true_eq_false, not_false_eq_true, forall_const, false_implies, true_implies, decide_true, decide_false, Bool.not_true, Bool.not_false, tgN, tgsN, clN, wipeP]
    refine WS_for (fun j ρ M' => M = M' ∧ ∃ v2 v3 v4 : Option PV, ρ = [some (.lst (sv names)), some (.lst (linesP (ordsF (names.take j) [[]]))), v2, v3, v4, none] ∧ (ordsF (names.take j) [[]]).length ≤ 6 ^ j ∧ j ≤ 5) ?_
    simp only [WO_ok, WO_okIf, WE_var, WE_non, WE_bl, WE_int, WE_str, WE_miss, WE_bin, WE_cmp, WE_cmx, WE_idx, WE_tup, WE_lst, WE_lstM, WE_and, WE_or, WE_not, WE_ite, WE_chn, WE_call, WE_callK, WE_blt, WE_lof, WE_slc, Wi, isMiss, if_true, if_false, Bool.false_eq_true, reduceIte, WE_lr, WE_lz, WE_addM, WE_up, WE_glb, WE_dsp, WE_dof, WE_isi, WE_mth, WEs_nil, WEs_cons, WEs_star, WI_seq, WI_fn, Wb_t, Wb_f, Wb_n, WSs_nil, WSs_cons, Kss_nx, Kss_rt, Kss_bk, Kss_ct, Kif_t, Kif_f, Kif_n, Kde_rt, Kde_nx, WS_asg, WS_ret, WS_retN, WS_exp, WS_pas, WS_brk, WS_cnt, WS_asgT, WS_asgS, WS_par, WS_sub, WS_ifs, WS_frz, WO_addi, WO_subi, WO_muli, WO_fdiv, WO_mod, WO_pow, WO_addl, WO_addt, WO_lti, WO_lei, WO_gti, WO_gei, WO_eqi, WO_nei, WO_eqs, WO_nes, WO_isn0, WO_isnn0, WO_isb, WO_isnb, isNon, setAll, Sk.bindG, Sk.bindGs, Option.bind_some, Option.some.injEq, exists_eq_left', List.map_cons, List.map_nil, List.cons_append, List.nil_append, List.replicate, List.getElem?_cons_zero, List.getElem?_cons_succ, List.set_cons_zero, List.set_cons_succ, List.length_cons, List.length_nil, Nat.reduceAdd, Nat.reduceSub, lim, Nat.reduceLeDiff, true_and, and_true, true_or, not_true_eq_false, not_false_eq_true, forall_const, false_implies, true_implies, decide_true, decide_false, Bool.not_true, Bool.not_false, tgN, tgsN, clN, wipeP, itemsOf]
    refine ⟨⟨_, _, _, rfl, by simp [ordsF]⟩, ?_, ?_⟩
    · rintro j x ρ M' hx ⟨rfl, v2, v3, v4, rfl, hlen, hj⟩
      obtain ⟨x, rfl, hx2⟩ := sv_get hx
      have hjn : j < names.length := (List.getElem?_eq_some_iff.mp hx2).1
      have hts := take_snoc hx2
      have hol : ∀ o ∈ ordsF (names.take j) [[]], o.length = j := fun o ho => by rw [ords_len ho, List.length_take]; omega
      have hbig : ordsF (names.take (j + 1)) [[]] = (ordsF (names.take j) [[]]).flatMap (insA x) := by rw [hts, ords_snoc]
      have h6 : 6 ^ j ≤ 6 ^ 4 := Nat.pow_le_pow_right (by decide) (by omega)
      generalize ordsF (names.take j) [[]] = F at *
      simp only [WO_ok, WO_okIf, WE_var, WE_non, WE_bl, WE_int, WE_str, WE_miss, WE_bin, WE_cmp, WE_cmx, WE_idx, WE_tup, WE_lst, WE_lstM, WE_and, WE_or, WE_not, WE_ite, WE_chn, WE_call, WE_callK, WE_blt, WE_lof, WE_slc, Wi, isMiss, if_true, if_false, Bool.false_eq_true, reduceIte, WE_lr, WE_lz, WE_addM, WE_up, WE_glb, WE_dsp, WE_dof, WE_isi, WE_mth, WEs_nil, WEs_cons, WEs_star, WI_seq, WI_fn, Wb_t, Wb_f, Wb_n, WSs_nil, WSs_cons, Kss_nx, Kss_rt, Kss_bk, Kss_ct, Kif_t, Kif_f, Kif_n, Kde_rt, Kde_nx, WS_asg, WS_ret, WS_retN, WS_exp, WS_pas, WS_brk, WS_cnt, WS_asgT, WS_asgS, WS_par, WS_sub, WS_ifs, WS_frz, WO_addi, WO_subi, WO_muli, WO_fdiv, WO_mod, WO_pow, WO_addl, WO_addt, WO_lti, WO_lei, WO_gti, WO_gei, WO_eqi, WO_nei, WO_eqs, WO_nes, WO_isn0, WO_isnn0, WO_isb, WO_isnb, isNon, setAll, Sk.bindG, Sk.bindGs, Option.bind_some, Option.some.injEq, exists_eq_left', List.map_cons, List.map_nil, List.cons_append, List.nil_append, List.replicate, List.getElem?_cons_zero, List.getElem?_cons_succ, List.set_cons_zero, List.set_cons_succ, List.length_cons, List.length_nil, Nat.reduceAdd, Nat.reduceSub, lim, Nat.reduceLeDiff, true_and, and_true, true_or, not_true_eq_false, not_false_eq_true, forall_const, false_implies, true_implies, decide_true, decide_false, Bool.not_true, Bool.not_false, tgN, tgsN, clN, wipeP]
      refine WS_for (fun i ρ M' => M = M' ∧ ∃ v4 : Option PV, ρ = [some (.lst (sv names)), some (.lst (linesP F)), some (.str x), some (.lst (linesP ((F.take i).flatMap (insA x)))), v4, none] ∧ ((F.take i).flatMap (insA x)).length ≤ 6 * i) ?_
      simp only [WO_ok, WO_okIf, WE_var, WE_non, WE_bl, WE_int, WE_str, WE_miss, WE_bin, WE_cmp, WE_cmx, WE_idx, WE_tup, WE_lst, WE_lstM, WE_and, WE_or, WE_not, WE_ite, WE_chn, WE_call, WE_callK, WE_blt, WE_lof, WE_slc, Wi, isMiss, if_true, if_false, Bool.false_eq_true, reduceIte, WE_lr, WE_lz, WE_addM, WE_up, WE_glb, WE_dsp, WE_dof, WE_isi, WE_mth, WEs_nil, WEs_cons, WEs_star, WI_seq, WI_fn, Wb_t, Wb_f, Wb_n, WSs_nil, WSs_cons, Kss_nx, Kss_rt, Kss_bk, Kss_ct, Kif_t, Kif_f, Kif_n, Kde_rt, Kde_nx, WS_asg, WS_ret, WS_retN, WS_exp, WS_pas, WS_brk, WS_cnt, WS_asgT, WS_asgS, WS_par, WS_sub, WS_ifs, WS_frz, WO_addi, WO_subi, WO_muli, WO_fdiv, WO_mod, WO_pow, WO_addl, WO_addt, WO_lti, WO_lei, WO_gti, WO_gei, WO_eqi, WO_nei, WO_eqs, WO_nes, WO_isn0, WO_isnn0, WO_isb, WO_isnb, isNon, setAll, Sk.bindG, Sk.bindGs, Option.bind_some, Option.some.injEq, exists_eq_left', List.map_cons, List.map_nil, List.cons_append, List.nil_append, List.replicate, List.getElem?_cons_zero, List.getElem?_cons_succ, List.set_cons_zero, List.set_cons_succ, List.length_cons, List.length_nil, Nat.reduceAdd, Nat.reduceSub, lim, Nat.reduceLeDiff, true_and, and_true, true_or, not_true_eq_false, not_false_eq_true, forall_const, false_implies, true_implies, decide_true, decide_false, Bool.not_true, Bool.not_false, tgN, tgsN, clN, wipeP, itemsOf]
      refine ⟨⟨_, rfl, Nat.zero_le _⟩, ?_, ?_⟩
      · rintro i o ρ M' ho ⟨rfl, v4, rfl, hl⟩
        obtain ⟨o, rfl, ho2⟩ := lines_get ho
        have hoj := hol o (List.mem_of_getElem? ho2)
        have hiF : i < F.length := (List.getElem?_eq_some_iff.mp ho2).1
        simp only [WO_ok, WO_okIf, WE_var, WE_non, WE_bl, WE_int, WE_str, WE_miss, WE_bin, WE_cmp, WE_cmx, WE_idx, WE_tup, WE_lst, WE_lstM, WE_and, WE_or, WE_not, WE_ite, WE_chn, WE_call, WE_callK, WE_blt, WE_lof, WE_slc, Wi, isMiss, if_true, if_false, Bool.false_eq_true, reduceIte, WE_lr, WE_lz, WE_addM, WE_up, WE_glb, WE_dsp, WE_dof, WE_isi, WE_mth, WEs_nil, WEs_cons, WEs_star, WI_seq, WI_fn, Wb_t, Wb_f, Wb_n, WSs_nil, WSs_cons, Kss_nx, Kss_rt, Kss_bk, Kss_ct, Kif_t, Kif_f, Kif_n, Kde_rt, Kde_nx, WS_asg, WS_ret, WS_retN, WS_exp, WS_pas, WS_brk, WS_cnt, WS_asgT, WS_asgS, WS_par, WS_sub, WS_ifs, WS_frz, WO_addi, WO_subi, WO_muli, WO_fdiv, WO_mod, WO_pow, WO_addl, WO_addt, WO_lti, WO_lei, WO_gti, WO_gei, WO_eqi, WO_nei, WO_eqs, WO_nes, WO_isn0, WO_isnn0, WO_isb, WO_isnb, isNon, setAll, Sk.bindG, Sk.bindGs, Option.bind_some, Option.some.injEq, exists_eq_left', List.map_cons, List.map_nil, List.cons_append, List.nil_append, List.replicate, List.getElem?_cons_zero, List.getElem?_cons_succ, List.set_cons_zero, List.set_cons_succ, List.length_cons, List.length_nil, Nat.reduceAdd, Nat.reduceSub, lim, Nat.reduceLeDiff, true_and, and_true, true_or, not_true_eq_false, not_false_eq_true, forall_const, false_implies, true_implies, decide_true, decide_false, Bool.not_true, Bool.not_false, tgN, tgsN, clN, wipeP]
        refine WE_cpr (fun k acc M' => M = M' ∧ acc = linesP ((List.range k).map fun t => o.take t ++ [x] ++ o.drop t) ∧ k ≤ 6) ?_
        simp only [WO_ok, WO_okIf, WE_var, WE_non, WE_bl, WE_int, WE_str, WE_miss, WE_bin, WE_cmp, WE_cmx, WE_idx, WE_tup, WE_lst, WE_lstM, WE_and, WE_or, WE_not, WE_ite, WE_chn, WE_call, WE_callK, WE_blt, WE_lof, WE_slc, Wi, isMiss, if_true, if_false, Bool.false_eq_true, reduceIte, WE_lr, WE_lz, WE_addM, WE_up, WE_glb, WE_dsp, WE_dof, WE_isi, WE_mth, WEs_nil, WEs_cons, WEs_star, WI_seq, WI_fn, Wb_t, Wb_f, Wb_n, WSs_nil, WSs_cons, Kss_nx, Kss_rt, Kss_bk, Kss_ct, Kif_t, Kif_f, Kif_n, Kde_rt, Kde_nx, WS_asg, WS_ret, WS_retN, WS_exp, WS_pas, WS_brk, WS_cnt, WS_asgT, WS_asgS, WS_par, WS_sub, WS_ifs, WS_frz, WO_addi, WO_subi, WO_muli, WO_fdiv, WO_mod, WO_pow, WO_addl, WO_addt, WO_lti, WO_lei, WO_gti, WO_gei, WO_eqi, WO_nei, WO_eqs, WO_nes, WO_isn0, WO_isnn0, WO_isb, WO_isnb, isNon, setAll, Sk.bindG, Sk.bindGs, Option.bind_some, Option.some.injEq, exists_eq_left', List.map_cons, List.map_nil, List.cons_append, List.nil_append, List.replicate, List.getElem?_cons_zero, List.getElem?_cons_succ, List.set_cons_zero, List.set_cons_succ, List.length_cons, List.length_nil, Nat.reduceAdd, Nat.reduceSub, lim, Nat.reduceLeDiff, true_and, and_true, true_or, not_true_eq_false, not_false_eq_true, forall_const, false_implies, true_implies, decide_true, decide_false, Bool.not_true, Bool.not_false, tgN, tgsN, clN, wipeP, WO_lenTs]
        rw [show ((o.length : Int) + 1) = ((o.length + 1 : Nat) : Int) from rfl, WO_rng (by omega), rngL_len]
        refine ⟨⟨rfl, rfl⟩, ?_, fun n acc M h => ?_, ?_⟩
        · rintro k y acc M2 hy ⟨rfl, rfl, hk⟩
          obtain ⟨rfl, hk1⟩ := rngL_get hy
          rw [show ((0 : Int) + (k : Nat)) = (k : Int) by omega]
          simp only [WO_ok, WO_okIf, WE_var, WE_non, WE_bl, WE_int, WE_str, WE_miss, WE_bin, WE_cmp, WE_cmx, WE_idx, WE_tup, WE_lst, WE_lstM, WE_and, WE_or, WE_not, WE_ite, WE_chn, WE_call, WE_callK, WE_blt, WE_lof, WE_slc, Wi, isMiss, if_true, if_false, Bool.false_eq_true, reduceIte, WE_lr, WE_lz, WE_addM, WE_up, WE_glb, WE_dsp, WE_dof, WE_isi, WE_mth, WEs_nil, WEs_cons, WEs_star, WI_seq, WI_fn, Wb_t, Wb_f, Wb_n, WSs_nil, WSs_cons, Kss_nx, Kss_rt, Kss_bk, Kss_ct, Kif_t, Kif_f, Kif_n, Kde_rt, Kde_nx, WS_asg, WS_ret, WS_retN, WS_exp, WS_pas, WS_brk, WS_cnt, WS_asgT, WS_asgS, WS_par, WS_sub, WS_ifs, WS_frz, WO_addi, WO_subi, WO_muli, WO_fdiv, WO_mod, WO_pow, WO_addl, WO_addt, WO_lti, WO_lei, WO_gti, WO_gei, WO_eqi, WO_nei, WO_eqs, WO_nes, WO_isn0, WO_isnn0, WO_isb, WO_isnb, isNon, setAll, Sk.bindG, Sk.bindGs, Option.bind_some, Option.some.injEq, exists_eq_left', List.map_cons, List.map_nil, List.cons_append, List.nil_append, List.replicate, List.getElem?_cons_zero, List.getElem?_cons_succ, List.set_cons_zero, List.set_cons_succ, List.length_cons, List.length_nil, Nat.reduceAdd, Nat.reduceSub, lim, Nat.reduceLeDiff, true_and, and_true, true_or, not_true_eq_false, not_false_eq_true, forall_const, false_implies, true_implies, decide_true, decide_false, Bool.not_true, Bool.not_false, tgN, tgsN, clN, wipeP, WO_slto, WO_slfrom]
          have l1 : (sv (o.take k)).length ≤ 5 := by rw [List.length_map, List.length_take]; omega
          have l2 : (sv (o.drop k)).length ≤ 5 := by rw [List.length_map, List.length_drop]; omega
          refine ⟨by omega, by rw [List.length_append, List.length_singleton]; omega, ?_, by omega⟩
          rw [List.range_succ, List.map_append, ← lines_app]
          congr 1
          show [PV.tup _] = [PV.tup (sv (o.take k ++ [x] ++ o.drop k))]
          unfold sv
          simp
        · rw [h.2.1, lines_len, List.length_map, List.length_range]; exact Nat.lt_of_le_of_lt h.2.2 (by decide)
        · rintro acc M2 ⟨rfl, rfl, hk⟩
          rw [WO_mkF]
          simp only [WO_ok, WO_okIf, WE_var, WE_non, WE_bl, WE_int, WE_str, WE_miss, WE_bin, WE_cmp, WE_cmx, WE_idx, WE_tup, WE_lst, WE_lstM, WE_and, WE_or, WE_not, WE_ite, WE_chn, WE_call, WE_callK, WE_blt, WE_lof, WE_slc, Wi, isMiss, if_true, if_false, Bool.false_eq_true, reduceIte, WE_lr, WE_lz, WE_addM, WE_up, WE_glb, WE_dsp, WE_dof, WE_isi, WE_mth, WEs_nil, WEs_cons, WEs_star, WI_seq, WI_fn, Wb_t, Wb_f, Wb_n, WSs_nil, WSs_cons, Kss_nx, Kss_rt, Kss_bk, Kss_ct, Kif_t, Kif_f, Kif_n, Kde_rt, Kde_nx, WS_asg, WS_ret, WS_retN, WS_exp, WS_pas, WS_brk, WS_cnt, WS_asgT, WS_asgS, WS_par, WS_sub, WS_ifs, WS_frz, WO_addi, WO_subi, WO_muli, WO_fdiv, WO_mod, WO_pow, WO_addl, WO_addt, WO_lti, WO_lei, WO_gti, WO_gei, WO_eqi, WO_nei, WO_eqs, WO_nes, WO_isn0, WO_isnn0, WO_isb, WO_isnb, isNon, setAll, Sk.bindG, Sk.bindGs, Option.bind_some, Option.some.injEq, exists_eq_left', List.map_cons, List.map_nil, List.cons_append, List.nil_append, List.replicate, List.getElem?_cons_zero, List.getElem?_cons_succ, List.set_cons_zero, List.set_cons_succ, List.length_cons, List.length_nil, Nat.reduceAdd, Nat.reduceSub, lim, Nat.reduceLeDiff, true_and, and_true, true_or, not_true_eq_false, not_false_eq_true, forall_const, false_implies, true_implies, decide_true, decide_false, Bool.not_true, Bool.not_false, tgN, tgsN, clN, wipeP]
          have hi : (insA x o).length = o.length + 1 := by unfold insA; rw [List.length_map, List.length_range]
          rw [show ((List.range (o.length + 1)).map fun t => o.take t ++ [x] ++ o.drop t) = insA x o from rfl, lines_app, lines_len, lines_len]
          refine ⟨by omega, some (.tup (sv o)), ?_, ?_⟩
          · rw [take_snoc ho2, List.flatMap_append, List.flatMap_singleton]
          · rw [take_snoc ho2, List.flatMap_append, List.flatMap_singleton, List.length_append]; omega
      · rintro ρ' M' ⟨rfl, v4, rfl, hl⟩
        rw [lines_len] at hl
        simp only [WO_ok, WO_okIf, WE_var, WE_non, WE_bl, WE_int, WE_str, WE_miss, WE_bin, WE_cmp, WE_cmx, WE_idx, WE_tup, WE_lst, WE_lstM, WE_and, WE_or, WE_not, WE_ite, WE_chn, WE_call, WE_callK, WE_blt, WE_lof, WE_slc, Wi, isMiss, if_true, if_false, Bool.false_eq_true, reduceIte, WE_lr, WE_lz, WE_addM, WE_up, WE_glb, WE_dsp, WE_dof, WE_isi, WE_mth, WEs_nil, WEs_cons, WEs_star, WI_seq, WI_fn, Wb_t, Wb_f, Wb_n, WSs_nil, WSs_cons, Kss_nx, Kss_rt, Kss_bk, Kss_ct, Kif_t, Kif_f, Kif_n, Kde_rt, Kde_nx, WS_asg, WS_ret, WS_retN, WS_exp, WS_pas, WS_brk, WS_cnt, WS_asgT, WS_asgS, WS_par, WS_sub, WS_ifs, WS_frz, WO_addi, WO_subi, WO_muli, WO_fdiv, WO_mod, WO_pow, WO_addl, WO_addt, WO_lti, WO_lei, WO_gti, WO_gei, WO_eqi, WO_nei, WO_eqs, WO_nes, WO_isn0, WO_isnn0, WO_isb, WO_isnb, isNon, setAll, Sk.bindG, Sk.bindGs, Option.bind_some, Option.some.injEq, exists_eq_left', List.map_cons, List.map_nil, List.cons_append, List.nil_append, List.replicate, List.getElem?_cons_zero, List.getElem?_cons_succ, List.set_cons_zero, List.set_cons_succ, List.length_cons, List.length_nil, Nat.reduceAdd, Nat.reduceSub, lim, Nat.reduceLeDiff, true_and, and_true, true_or, not_true_eq_false, not_false_eq_true, forall_const, false_implies, true_implies, decide_true, decide_false, Bool.not_true, Bool.not_false, tgN, tgsN, clN, wipeP]
        rw [lines_len, List.take_length] at *
        refine ⟨some (.str x), some (.lst (linesP (F.flatMap (insA x)))), v4, by rw [hbig], ?_, by omega⟩
        rw [hbig, Nat.pow_succ]; omega
    · rintro ρ' M' ⟨rfl, v2, v3, v4, rfl, hlen, hj⟩
      simp only [WO_ok, WO_okIf, WE_var, WE_non, WE_bl, WE_int, WE_str, WE_miss, WE_bin, WE_cmp, WE_cmx, WE_idx, WE_tup, WE_lst, WE_lstM, WE_and, WE_or, WE_not, WE_ite, WE_chn, WE_call, WE_callK, WE_blt, WE_lof, WE_slc, Wi, isMiss, if_true, if_false, Bool.false_eq_true, reduceIte, WE_lr, WE_lz, WE_addM, WE_up, WE_glb, WE_dsp, WE_dof, WE_isi, WE_mth, WEs_nil, WEs_cons, WEs_star, WI_seq, WI_fn, Wb_t, Wb_f, Wb_n, WSs_nil, WSs_cons, Kss_nx, Kss_rt, Kss_bk, Kss_ct, Kif_t, Kif_f, Kif_n, Kde_rt, Kde_nx, WS_asg, WS_ret, WS_retN, WS_exp, WS_pas, WS_brk, WS_cnt, WS_asgT, WS_asgS, WS_par, WS_sub, WS_ifs, WS_frz, WO_addi, WO_subi, WO_muli, WO_fdiv, WO_mod, WO_pow, WO_addl, WO_addt, WO_lti, WO_lei, WO_gti, WO_gei, WO_eqi, WO_nei, WO_eqs, WO_nes, WO_isn0, WO_isnn0, WO_isb, WO_isnb, isNon, setAll, Sk.bindG, Sk.bindGs, Option.bind_some, Option.some.injEq, exists_eq_left', List.map_cons, List.map_nil, List.cons_append, List.nil_append, List.replicate, List.getElem?_cons_zero, List.getElem?_cons_succ, List.set_cons_zero, List.set_cons_succ, List.length_cons, List.length_nil, Nat.reduceAdd, Nat.reduceSub, lim, Nat.reduceLeDiff, true_and, and_true, true_or, not_true_eq_false, not_false_eq_true, forall_const, false_implies, true_implies, decide_true, decide_false, Bool.not_true, Bool.not_false, tgN, tgsN, clN, wipeP]
      rw [List.length_map, List.take_length] at *
      refine ⟨rfl, Nat.le_trans hlen ?_⟩
      exact Nat.le_trans (Nat.pow_le_pow_right (by decide) hn) (by decide)
  obtain ⟨v, M', e, ⟨rfl, rfl⟩, h⟩ := key
  exact ⟨e, h⟩
theorem ev_has (Γ : Sig) (o l : List Str) (ho : o.length ≤ 1000) (M : Sto) : d_law_has.ev Γ [.tup (sv o), .tup (sv l)] M = .ok (.bl (hasB o l)) M := by
  refine ev_of_WO ?_
  rw [WO_df rfl]
  simp only [d_law_has, WO_ok, WO_okIf, WE_var, WE_non, WE_bl, WE_int, WE_str, WE_miss, WE_bin, WE_cmp, WE_cmx, WE_idx, WE_tup, WE_lst, WE_lstM, WE_and, WE_or, WE_not, WE_ite, WE_chn, WE_call, WE_callK, WE_blt, WE_lof, WE_slc, Wi, isMiss, if_true, if_false, Bool.false_eq_true, reduceIte, WE_lr, WE_lz, WE_addM, WE_up, WE_glb, WE_dsp, WE_dof, WE_isi, WE_mth, WEs_nil, WEs_cons, WEs_star, WI_seq, WI_fn, Wb_t, Wb_f, Wb_n, WSs_nil, WSs_cons, Kss_nx, Kss_rt, Kss_bk, Kss_ct, Kif_t, Kif_f, Kif_n, Kde_rt, Kde_nx, WS_asg, WS_ret, WS_retN, WS_exp, WS_pas, WS_brk, WS_cnt, WS_asgT, WS_asgS, WS_par, WS_sub, WS_ifs, WS_frz, WO_addi, WO_subi, WO_muli, WO_fdiv, WO_mod, WO_pow, WO_addl, WO_addt, WO_lti, WO_lei, WO_gti, WO_gei, WO_eqi, WO_nei, WO_eqs, WO_nes, WO_isn0, WO_isnn0, WO_isb, WO_isnb, isNon, setAll, Sk.bindG, Sk.bindGs, Option.bind_some, Option.some.injEq, exists_eq_left', List.map_cons, List.map_nil, List.cons_append, List.nil_append, List.replicate, List.getElem?_cons_zero, List.getElem?_cons_succ, List.set_cons_zero, List.set_cons_succ, List.length_cons, List.length_nil, Nat.reduceAdd, Nat.reduceSub, lim, Nat.reduceLeDiff, true_and, and_true, true_or, not_true_eq_false, not_false_eq_true, forall_const, false_implies, true_implies, decide_true, decide_false, Bool.not_true, Bool.not_false, tgN, tgsN, clN, wipeP]
  have cp : evE Γ (.cpr (.ls false) [2] (.nm 2) (.seq (.var 0)) (.cmp .inn (.var 2) (.var 1)) (.elt (.var 2))) [some (.tup (sv o)), some (.tup (sv l)), none] M = .ok (.lst (sv (o.filter fun y => decide (y ∈ l)))) M :=
    cpr_pure (M1 := M) (items := o) PV.str (fun y => decide (y ∈ l)) PV.str (i_seq (e_var rfl) rfl) (lim_small ho) fun s _ => ⟨_, rfl, e_cmp (e_var rfl) (e_var rfl) (in_of pin_strs), fun _ => e_var rfl⟩
  refine ⟨_, _, cp, ?_⟩
  dsimp only
  rw [show lofP false [PV.tup (sv l)] M = .ok (.lst (sv l)) M from rfl, WO_ok, WO_eq peq_lst]
  exact ⟨rfl, rfl⟩
theorem zip_first {x : Str} : ∀ (L : List (List Str)) (k : Nat), (∃ l ∈ L, x ∈ l) → ∃ l rest, ((L.zipIdx k).filter fun p => decide (x ∈ p.1)) = (l, k + fi L x) :: rest
  | [], _, h => by obtain ⟨l, hl, _⟩ := h; cases hl
  | l :: L, k, h => by
    rw [List.zipIdx_cons]
    by_cases hx : x ∈ l
    · refine ⟨l, (L.zipIdx (k + 1)).filter fun p => decide (x ∈ p.1), ?_⟩
      rw [List.filter_cons_of_pos (by simpa using hx)]
      have : fi (l :: L) x = 0 := by unfold fi; rw [List.findIdx_cons, decide_eq_true hx]; rfl
      rw [this]; rfl
    · rw [List.filter_cons_of_neg (by simpa using hx)]
      obtain ⟨q, rest, e⟩ := zip_first (x := x) L (k + 1) (by
        obtain ⟨p, hp, hxp⟩ := h
        rcases List.mem_cons.mp hp with rfl | hp
        · exact absurd hxp hx
        · exact ⟨p, hp, hxp⟩)
      refine ⟨q, rest, ?_⟩
      have : fi (l :: L) x = fi L x + 1 := by unfold fi; rw [List.findIdx_cons, decide_eq_false hx]; rfl
      rw [e, this]
      congr 2
      omega
theorem ev_firsts (Γ : Sig) (L : List (List Str)) (o : List Str) (hL : L.length ≤ 1000) (ho : o.length ≤ 1000) (hc : ∀ x ∈ o, ∃ l ∈ L, x ∈ l) (M : Sto) : d_law_first_lists.ev Γ [.tup (sv o), .lst (linesP L)] M = .ok (.lst ((keyI L o).map PV.int)) M := by
  refine ev_of_WO ?_
  rw [WO_df rfl]
  simp only [d_law_first_lists, WO_ok, WO_okIf, WE_var, WE_non, WE_bl, WE_int, WE_str, WE_miss, WE_bin, WE_cmp, WE_cmx, WE_idx, WE_tup, WE_lst, WE_lstM, WE_and, WE_or, WE_not, WE_ite, WE_chn, WE_call, WE_callK, WE_blt, WE_lof, WE_slc, Wi, isMiss, if_true, if_false, Bool.false_eq_true, reduceIte, WE_lr, WE_lz, WE_addM, WE_up, WE_glb, WE_dsp, WE_dof, WE_isi, WE_mth, WEs_nil, WEs_cons, WEs_star, WI_seq, WI_fn, Wb_t, Wb_f, Wb_n, WSs_nil, WSs_cons, Kss_nx, Kss_rt, Kss_bk, Kss_ct, Kif_t, Kif_f, Kif_n, Kde_rt, Kde_nx, WS_asg, WS_ret, WS_retN, WS_exp, WS_pas, WS_brk, WS_cnt, WS_asgT, WS_asgS, WS_par, WS_sub, WS_ifs, WS_frz, WO_addi, WO_subi, WO_muli, WO_fdiv, WO_mod, WO_pow, WO_addl, WO_addt, WO_lti, WO_lei, WO_gti, WO_gei, WO_eqi, WO_nei, WO_eqs, WO_nes, WO_isn0, WO_isnn0, WO_isb, WO_isnb, isNon, setAll, Sk.bindG, Sk.bindGs, Option.bind_some, Option.some.injEq, exists_eq_left', List.map_cons, List.map_nil, List.cons_append, List.nil_append, List.replicate, List.getElem?_cons_zero, List.getElem?_cons_succ, List.set_cons_zero, List.set_cons_succ, List.length_cons, List.length_nil, Nat.reduceAdd, Nat.reduceSub, lim, Nat.reduceLeDiff, true_and, and_true, true_or, not_true_eq_false, not_false_eq_true, forall_const, false_implies, true_implies, decide_true, decide_false, Bool.not_true, Bool.not_false, tgN, tgsN, clN, wipeP]
  have cp : evE Γ (.cpr (.ls false) [2] (.nm 2) (.seq (.var 0)) .miss (.elt (.idx (.cpr (.ls false) [3, 4] (.tp (.cons (.nm 3) (.cons (.nm 4) .nil))) (.fn "enumerate" 1 (.cons (.var 1) .nil)) (.cmp .inn (.var 2) (.var 4)) (.elt (.var 3))) (.int 0)))) [some (.tup (sv o)), some (.lst (linesP L)), none, none, none] M = .ok (.lst ((keyI L o).map PV.int)) M := by
    refine (cpr_pure (M1 := M) (items := o) PV.str (fun _ => true) (fun x => .int (fi L x : Int)) (i_seq (e_var rfl) rfl) (lim_small ho) fun x hx => ⟨_, rfl, rfl, fun _ => ?_⟩).trans ?_
    · obtain ⟨l, rest, e⟩ := zip_first L 0 (hc x hx)
      rw [Nat.zero_add] at e
      have inner : evE Γ (.cpr (.ls false) [3, 4] (.tp (.cons (.nm 3) (.cons (.nm 4) .nil))) (.fn "enumerate" 1 (.cons (.var 1) .nil)) (.cmp .inn (.var 2) (.var 4)) (.elt (.var 3))) [some (.tup (sv o)), some (.lst (linesP L)), some (.str x), none, none] M = .ok (.lst (((L.zipIdx).filter fun p => decide (x ∈ p.1)).map fun p => PV.int (p.2 : Nat))) M :=
        cpr_pure (M1 := M) (items := L.zipIdx) (fun p => .tup [.int (p.2 : Nat), .tup (sv p.1)]) (fun p => decide (x ∈ p.1)) (fun p => .int (p.2 : Nat)) (i_fn (es_one (e_var rfl)) rfl ((w_enum rfl).trans (by rw [show linesP L = L.map fun x => PV.tup (sv x) from rfl, enumL_lines]))) (by rw [List.length_zipIdx]; exact lim_small hL)
          fun p _ => ⟨_, rfl, e_cmp (e_var rfl) (e_var rfl) (in_of pin_strs), fun _ => e_var rfl⟩
      rw [e] at inner
      exact e_idx inner rfl (idx_nat (i := 0) rfl (fun _ h => nomatch h) rfl)
    · rw [List.filter_eq_self.mpr (fun _ _ => rfl)]
      unfold keyI
      rw [List.map_map]; rfl
  exact ⟨_, _, cp, rfl, rfl⟩
/-! ### the earliest one is first -/
def pairP (L : List (List Str)) (o : List Str) : PV := .tup [.lst ((keyI L o).map PV.int), .tup (sv o)]
def pairD (L : List (List Str)) (o : List Str) : PyData := .tuple [.list ((keyI L o).map PyData.int), .tuple (o.map PyData.str)]
theorem toD0L_int : ∀ l : List Int, toD0L (l.map PV.int) = some (l.map PyData.int)
  | [] => rfl
  | i :: l => by
    show (toD0 (.int i)).bind _ = _
    rw [toD0L_int l]; rfl
theorem toD0_pair (L : List (List Str)) (o : List Str) : toD0 (pairP L o) = some (pairD L o) := by
  show ((toD0 (.lst ((keyI L o).map PV.int))).bind fun d => ((toD0 (.tup (sv o))).bind fun e => (some []).map fun r => e :: r).map fun r => d :: r).map PyData.tuple = _
  rw [show toD0 (.lst ((keyI L o).map PV.int)) = (toD0L ((keyI L o).map PV.int)).map PyData.list from rfl, toD0L_int, show toD0 (.tup (sv o)) = (toD0L (sv o)).map PyData.tuple from rfl, toD0L_str]
  rfl
theorem toD0L_pairs (L : List (List Str)) : ∀ os : List (List Str), toD0L (os.map (pairP L)) = some (os.map (pairD L))
  | [] => rfl
  | o :: os => by
    show (toD0 (pairP L o)).bind _ = _
    rw [toD0_pair, toD0L_pairs L os]; rfl
theorem alike_strs : ∀ xs ys : List Str, PySem.W.alikeAll (xs.map PyData.str) (ys.map PyData.str) = true
  | [], _ => by simp [PySem.W.alikeAll]
  | _ :: _, [] => by simp [PySem.W.alikeAll]
  | x :: xs, y :: ys => by
    show PySem.W.alikeAll (.str x :: xs.map PyData.str) (.str y :: ys.map PyData.str) = true
    rw [PySem.W.alikeAll, alike_strs xs ys]
    simp [PySem.W.alike]
theorem alike_keys (a b : List Int) : PySem.W.alike (.list (a.map PyData.int)) (.list (b.map PyData.int)) = true := by simp only [PySem.W.alike, PySem.W.alike_ints]
theorem alike_tups (a b : List Str) : PySem.W.alike (.tuple (a.map PyData.str)) (.tuple (b.map PyData.str)) = true := by simp only [PySem.W.alike, alike_strs]
theorem alike_pair (L : List (List Str)) (o p : List Str) : PySem.W.alike (pairD L o) (pairD L p) = true := by
  unfold pairD
  simp only [PySem.W.alike, PySem.W.alikeAll, PySem.W.alike_ints, alike_strs, Bool.and_self]
theorem depth_pair (L : List (List Str)) (o : List Str) : (pairD L o).depth ≤ 63 := by
  unfold pairD
  simp only [PyData.depth, PyData.depthAll, PySem.W.depth_ints, depthAll_str]
  decide
theorem srt_pairs (L : List (List Str)) (os : List (List Str)) : srtL (os.map (pairP L)) = some ((os.mergeSort (PySem.W.dataLe false (pairD L))).map (pairP L)) := by
  unfold srtL
  rw [toD0L_pairs, Option.bind_some, if_pos]
  · congr 1
    exact (List.map_mergeSort (r := PySem.W.dataLe false (pairD L)) (s := leP) (f := pairP L) (l := os) fun a _ b _ => by
      unfold leP
      rw [toD0_pair, toD0_pair]; rfl).symm
  · refine ⟨?_, ?_, ?_⟩
    · unfold alikeB
      rw [List.all_eq_true]
      intro d hd
      rw [List.all_eq_true]
      intro e he
      obtain ⟨o, _, rfl⟩ := List.mem_map.mp hd
      obtain ⟨p, _, rfl⟩ := List.mem_map.mp he
      exact alike_pair L o p
    · unfold sortableB
      rw [Bool.or_eq_true]
      refine .inl (List.all_eq_true.mpr fun d hd => ?_)
      obtain ⟨o, _, rfl⟩ := List.mem_map.mp hd
      rfl
    · rw [List.all_eq_true]
      intro d hd
      obtain ⟨o, _, rfl⟩ := List.mem_map.mp hd
      exact decide_eq_true (depth_pair L o)
theorem eqvAll_int : ∀ l m : List Int, PyData.eqvAll (l.map PyData.int) (m.map PyData.int) = decide (l = m)
  | [], [] => by simp [PyData.eqvAll]
  | [], _ :: _ => by simp [PyData.eqvAll]
  | _ :: _, [] => by simp [PyData.eqvAll]
  | x :: l, y :: m => by
    simp only [List.map_cons, PyData.eqvAll, PyData.eqv]
    rw [eqvAll_int l m, Bool.eq_iff_iff]
    simp
theorem lt_pair {L : List (List Str)} {o p : List Str} (h : keyI L o < keyI L p) : PySem.W.dataLt (pairD L o) (pairD L p) = true := by
  have hne : ¬ keyI L o = keyI L p := fun z => List.lt_irrefl (keyI L p) (by rw [z] at h; exact h)
  unfold pairD
  rw [PySem.W.dataLt_pair (alike_keys _ _) (alike_tups _ _)]
  have e : PyData.eqv (.list ((keyI L o).map PyData.int)) (.list ((keyI L p).map PyData.int)) = false := by
    simp only [PyData.eqv]
    rw [eqvAll_int, decide_eq_false hne]
  rw [e, if_neg Bool.false_ne_true, PySem.W.dataLt_list]
  show PySem.W.rowLt _ _ = true
  rw [PySem.W.dataLt_ints]
  exact decide_eq_true h
theorem first_srt {L : List (List Str)} {os : List (List Str)} {m : List Str} (hm : m ∈ os) (h : ∀ o ∈ os, o = m ∨ keyI L m < keyI L o) : ∃ rest, os.mergeSort (PySem.W.dataLe false (pairD L)) = m :: rest := by
  have hp : (os.mergeSort (PySem.W.dataLe false (pairD L))).Perm os := List.mergeSort_perm _ _
  have hs : (os.mergeSort (PySem.W.dataLe false (pairD L))).Pairwise fun a b => PySem.W.dataLe false (pairD L) a b = true := PySem.W.sort_pairwise (PySem.W.sortLe_total (PyProof.Rows.listOrd PyProof.Rows.itemOrd) false fun o => PySem.W.keyToks (pairD L o)) os
  generalize os.mergeSort (PySem.W.dataLe false (pairD L)) = S at hp hs
  cases S with
  | nil => rw [hp.symm.eq_nil] at hm; cases hm
  | cons b rest =>
    rcases h b (hp.mem_iff.mp (List.mem_cons_self ..)) with rfl | hb
    · exact ⟨rest, rfl⟩
    · have hmS : m ∈ b :: rest := hp.mem_iff.mpr hm
      rcases List.mem_cons.mp hmS with rfl | hmr
      · exact ⟨rest, rfl⟩
      · have q := (List.pairwise_cons.mp hs).1 m hmr
        have q : (!PySem.W.dataLt (pairD L m) (pairD L b)) = true := q
        rw [lt_pair hb] at q; cases q
theorem WO_srt {M : Sto} {l r : List PV} {P : PV → Sto → Prop} (h : srtL l = some r) : WO (evB "sorted" [.lst l] M) P = P (.lst r) M := by
  have e : evB "sorted" [.lst l] M = .ok (.lst r) M := by
    unfold evB
    rw [if_neg (by decide +kernel), if_neg (by decide +kernel), if_neg (by decide +kernel), if_neg (by decide +kernel), if_neg (by decide +kernel), if_neg (by decide +kernel), if_neg (by decide +kernel), if_neg (by decide +kernel), if_neg (by decide +kernel), if_pos rfl]
    show ofO (((some l).bind srtL).map PV.lst) M = _
    rw [Option.bind_some, h]; rfl
  rw [e, WO_ok]
/-! ### the law -/
theorem mg_k (M : Sto) (v : PV) (L : List (List Str)) (hv : kdOf v = some (linesP L)) (hL : L.length ≤ 40) (hx : ∀ x ∈ L, x.length ≤ 20) : d_merge.ev G3 [v] M = .ok (optP (mrgP L)) M :=
  ev_merge G3 G0 G1 G2 k_f3 k_r2 k_t2 k_r1 M v L hv (show totL L < 4000 by have := sum_le L hx; omega) (by omega)
theorem toD0L_lines : ∀ L : List (List Str), toD0L (linesP L) = some (L.map fun l => PyData.tuple (l.map PyData.str))
  | [] => rfl
  | l :: L => by
    show (toD0 (.tup (sv l))).bind (fun d => (toD0L (linesP L)).map fun r => d :: r) = _
    rw [toD0L_lines L, show toD0 (.tup (sv l)) = (toD0L (sv l)).map PyData.tuple from rfl, toD0L_str]; rfl
theorem peq_lines0 {M : Sto} {L : List (List Str)} : peq M (.lst (linesP L)) (.lst []) = some (decide (L = [])) := by
  have h : toD M (.lst (linesP L)) = some (.list (L.map fun l => PyData.tuple (l.map PyData.str))) := by
    show (toD0L (linesP L)).map PyData.list = _
    rw [toD0L_lines]; rfl
  rw [peq_nil h (depthAll_le fun d hd => by
    obtain ⟨l, _, rfl⟩ := List.mem_map.mp hd
    simp only [PyData.depth, depthAll_str]; decide)]
  congr 1
  rw [decide_eq_decide]; simp
theorem peq_bl {M : Sto} {a b : Bool} : peq M (.bl a) (.bl b) = some (decide (a = b)) := by
  unfold peq
  show (if (PyData.bool a).depth ≤ 64 ∧ (PyData.bool b).depth ≤ 64 then some (PyData.eqv (.bool a) (.bool b)) else none) = _
  rw [if_pos (by simp [PyData.depth]), show PyData.eqv (.bool a) (.bool b) = decide (a = b) from by simp only [PyData.eqv]; cases a <;> cases b <;> rfl]
theorem WO_sl5 {M : Sto} {L : List (List Str)} {P : PV → Sto → Prop} : WO (slcop (.lst (linesP L)) none (some 5) M) P = P (.lst (linesP (L.take 5))) M := by
  rw [show slcop (.lst (linesP L)) none (some 5) M = .ok (.lst (cutP (linesP L) none (some ((5 : Nat) : Int)))) M from rfl, WO_ok, cut_to, show (linesP L).take 5 = linesP (L.take 5) from List.map_take.symm]
theorem uni_snoc (L : List (List Str)) (l : List Str) : uniF (L ++ [l]) [] = uniF L [] ++ l.filter fun y => decide (y ∉ uniF L []) := by
  unfold uniF
  rw [List.foldl_append]; rfl
theorem ord_in {Γ : Sig} {M : Sto} {L : List (List Str)} (hL : L.length ≤ 40) (hΓ : Γ.fn "_law_has" = some (d_law_has.ev G12)) (o : List Str) (ho : o.length ≤ 1000) (ρ : PEnv) (h3 : ρ[3]? = some (some (.lst (linesP L)))) (h9 : ρ[9]? = some (some (.tup (sv o)))) (hl : ρ.length = 11) :
    evE Γ (.cmp .eq (.cpr (.ls false) [5] (.nm 5) (.seq (.var 3)) (.not (.call "_law_has" (.cons (.var 9) (.cons (.var 5) .nil)))) (.elt (.var 5))) (.lst false .nil)) ρ M = .ok (.bl (L.all fun l => hasB o l)) M := by
  have inner : evE Γ (.cpr (.ls false) [5] (.nm 5) (.seq (.var 3)) (.not (.call "_law_has" (.cons (.var 9) (.cons (.var 5) .nil)))) (.elt (.var 5))) ρ M = .ok (.lst (linesP (L.filter fun l => !hasB o l))) M := by
    refine cpr_pure (M1 := M) (items := L) (fun l => .tup (sv l)) (fun l => !hasB o l) (fun l => .tup (sv l)) (i_seq (e_var h3) rfl) (lim_small (by omega)) fun l _ => ⟨_, rfl, ?_, fun _ => ?_⟩
    · refine e_not (e_call hΓ (es_two (e_var ?_) (e_var ?_)) (ev_has G12 o l ho M))
      · show ((ρ.set 5 none).set 5 (some (PV.tup (sv l))))[9]? = _
        rw [List.getElem?_set_ne (by decide), List.getElem?_set_ne (by decide)]; exact h9
      · exact List.getElem?_set_self (by show 5 < (ρ.set 5 none).length; rw [List.length_set, hl]; decide)
    · exact e_var (List.getElem?_set_self (by show 5 < (ρ.set 5 none).length; rw [List.length_set, hl]; decide))
  refine (e_cmp inner (e_lst es_nil (Nat.zero_le _)) (eq_of_peq peq_lines0)).trans ?_
  congr 2
  rw [Bool.eq_iff_iff, decide_eq_true_eq, List.filter_eq_nil_iff, List.all_eq_true]
  simp
theorem law_ok (ns : List Int) (hl : ns.length ≤ 63) : ∃ M, d_law.ev G14 [.lst (ns.map PV.int)] [] = .ok (.bl true) M := by
  have key : WO (d_law.ev G14 [.lst (ns.map PV.int)] []) fun v _ => v = .bl true := by
    rw [WO_df rfl]
    simp only [d_law, WO_ok, WO_okIf, WE_var, WE_non, WE_bl, WE_int, WE_str, WE_miss, WE_bin, WE_cmp, WE_cmx, WE_idx, WE_tup, WE_lst, WE_lstM, WE_and, WE_or, WE_not, WE_ite, WE_chn, WE_call, WE_callK, WE_blt, WE_lof, WE_slc, Wi, isMiss, if_true, if_false, Bool.false_eq_true, reduceIte, WE_lr, WE_lz, WE_addM, WE_up, WE_glb, WE_dsp, WE_dof, WE_isi, WE_mth, WEs_nil, WEs_cons, WEs_star, WI_seq, WI_fn, Wb_t, Wb_f, Wb_n, WSs_nil, WSs_cons, Kss_nx, Kss_rt, Kss_bk, Kss_ct, Kif_t, Kif_f, Kif_n, Kde_rt, Kde_nx, WS_asg, WS_ret, WS_retN, WS_exp, WS_pas, WS_brk, WS_cnt, WS_asgT, WS_asgS, WS_par, WS_sub, WS_ifs, WS_frz, WO_addi, WO_subi, WO_muli, WO_fdiv, WO_mod, WO_pow, WO_addl, WO_addt, WO_lti, WO_lei, WO_gti, WO_gei, WO_eqi, WO_nei, WO_eqs, WO_nes, WO_isn0, WO_isnn0, WO_isb, WO_isnb, isNon, setAll, Sk.bindG, Sk.bindGs, Option.bind_some, Option.some.injEq, exists_eq_left', List.map_cons, List.map_nil, List.cons_append, List.nil_append, List.replicate, List.getElem?_cons_zero, List.getElem?_cons_succ, List.set_cons_zero, List.set_cons_succ, List.length_cons, List.length_nil, Nat.reduceAdd, Nat.reduceSub, lim, Nat.reduceLeDiff, true_and, and_true, true_or, not_true_eq_false, not_false_eq_true, forall_const, false_implies, true_implies, decide_true, decide_false, Bool.not_true, Bool.not_false, tgN, tgsN, clN, wipeP]
    obtain ⟨s, c, M0, e, S0⟩ := ev_state G5 ns hl
    refine .mk k_st e ?_
    (try simp only [WO_ok, WO_okIf, WE_var, WE_non, WE_bl, WE_int, WE_str, WE_miss, WE_bin, WE_cmp, WE_cmx, WE_idx, WE_tup, WE_lst, WE_lstM, WE_and, WE_or, WE_not, WE_ite, WE_chn, WE_call, WE_callK, WE_blt, WE_lof, WE_slc, Wi, isMiss, if_true, if_false, Bool.false_eq_true, reduceIte, WE_lr, WE_lz, WE_addM, WE_up, WE_glb, WE_dsp, WE_dof, WE_isi, WE_mth, WEs_nil, WEs_cons, WEs_star, WI_seq, WI_fn, Wb_t, Wb_f, Wb_n, WSs_nil, WSs_cons, Kss_nx, Kss_rt, Kss_bk, Kss_ct, Kif_t, Kif_f, Kif_n, Kde_rt, Kde_nx, WS_asg, WS_ret, WS_retN, WS_exp, WS_pas, WS_brk, WS_cnt, WS_asgT, WS_asgS, WS_par, WS_sub, WS_ifs, WS_frz, WO_addi, WO_subi, WO_muli, WO_fdiv, WO_mod, WO_pow, WO_addl, WO_addt, WO_lti, WO_lei, WO_gti, WO_gei, WO_eqi, WO_nei, WO_eqs, WO_nes, WO_isn0, WO_isnn0, WO_isb, WO_isnb, isNon, setAll, Sk.bindG, Sk.bindGs, Option.bind_some, Option.some.injEq, exists_eq_left', List.map_cons, List.map_nil, List.cons_append, List.nil_append, List.replicate, List.getElem?_cons_zero, List.getElem?_cons_succ, List.set_cons_zero, List.set_cons_succ, List.length_cons, List.length_nil, Nat.reduceAdd, Nat.reduceSub, lim, Nat.reduceLeDiff, true_and, and_true, true_or, not_true_eq_false, not_false_eq_true, forall_const, false_implies, true_implies, decide_true, decide_false, Bool.not_true, Bool.not_false, tgN, tgsN, clN, wipeP])
    refine WS_for (fun j ρ M => ∃ v2 v3 v4 v5 v6 v7 v8 v9 v10 : Option PV, ρ = [some (.lst (ns.map PV.int)), some (.loc s), v2, v3, v4, v5, v6, v7, v8, v9, v10] ∧ St M s c) ?_
    simp only [WO_ok, WO_okIf, WE_var, WE_non, WE_bl, WE_int, WE_str, WE_miss, WE_bin, WE_cmp, WE_cmx, WE_idx, WE_tup, WE_lst, WE_lstM, WE_and, WE_or, WE_not, WE_ite, WE_chn, WE_call, WE_callK, WE_blt, WE_lof, WE_slc, Wi, isMiss, if_true, if_false, Bool.false_eq_true, reduceIte, WE_lr, WE_lz, WE_addM, WE_up, WE_glb, WE_dsp, WE_dof, WE_isi, WE_mth, WEs_nil, WEs_cons, WEs_star, WI_seq, WI_fn, Wb_t, Wb_f, Wb_n, WSs_nil, WSs_cons, Kss_nx, Kss_rt, Kss_bk, Kss_ct, Kif_t, Kif_f, Kif_n, Kde_rt, Kde_nx, WS_asg, WS_ret, WS_retN, WS_exp, WS_pas, WS_brk, WS_cnt, WS_asgT, WS_asgS, WS_par, WS_sub, WS_ifs, WS_frz, WO_addi, WO_subi, WO_muli, WO_fdiv, WO_mod, WO_pow, WO_addl, WO_addt, WO_lti, WO_lei, WO_gti, WO_gei, WO_eqi, WO_nei, WO_eqs, WO_nes, WO_isn0, WO_isnn0, WO_isb, WO_isnb, isNon, setAll, Sk.bindG, Sk.bindGs, Option.bind_some, Option.some.injEq, exists_eq_left', List.map_cons, List.map_nil, List.cons_append, List.nil_append, List.replicate, List.getElem?_cons_zero, List.getElem?_cons_succ, List.set_cons_zero, List.set_cons_succ, List.length_cons, List.length_nil, Nat.reduceAdd, Nat.reduceSub, lim, Nat.reduceLeDiff, true_and, and_true, true_or, not_true_eq_false, not_false_eq_true, forall_const, false_implies, true_implies, decide_true, decide_false, Bool.not_true, Bool.not_false, tgN, tgsN, clN, wipeP]
    rw [WO_len (show lenOf M0 (.lst (ns.map PV.int)) = some ns.length by show (some (ns.map PV.int)).map (·.length) = _; simp)]
    rw [w_min, WO_ok]
    (try simp only [WO_ok, WO_okIf, WE_var, WE_non, WE_bl, WE_int, WE_str, WE_miss, WE_bin, WE_cmp, WE_cmx, WE_idx, WE_tup, WE_lst, WE_lstM, WE_and, WE_or, WE_not, WE_ite, WE_chn, WE_call, WE_callK, WE_blt, WE_lof, WE_slc, Wi, isMiss, if_true, if_false, Bool.false_eq_true, reduceIte, WE_lr, WE_lz, WE_addM, WE_up, WE_glb, WE_dsp, WE_dof, WE_isi, WE_mth, WEs_nil, WEs_cons, WEs_star, WI_seq, WI_fn, Wb_t, Wb_f, Wb_n, WSs_nil, WSs_cons, Kss_nx, Kss_rt, Kss_bk, Kss_ct, Kif_t, Kif_f, Kif_n, Kde_rt, Kde_nx, WS_asg, WS_ret, WS_retN, WS_exp, WS_pas, WS_brk, WS_cnt, WS_asgT, WS_asgS, WS_par, WS_sub, WS_ifs, WS_frz, WO_addi, WO_subi, WO_muli, WO_fdiv, WO_mod, WO_pow, WO_addl, WO_addt, WO_lti, WO_lei, WO_gti, WO_gei, WO_eqi, WO_nei, WO_eqs, WO_nes, WO_isn0, WO_isnn0, WO_isb, WO_isnb, isNon, setAll, Sk.bindG, Sk.bindGs, Option.bind_some, Option.some.injEq, exists_eq_left', List.map_cons, List.map_nil, List.cons_append, List.nil_append, List.replicate, List.getElem?_cons_zero, List.getElem?_cons_succ, List.set_cons_zero, List.set_cons_succ, List.length_cons, List.length_nil, Nat.reduceAdd, Nat.reduceSub, lim, Nat.reduceLeDiff, true_and, and_true, true_or, not_true_eq_false, not_false_eq_true, forall_const, false_implies, true_implies, decide_true, decide_false, Bool.not_true, Bool.not_false, tgN, tgsN, clN, wipeP])
    rw [WO_rngI (by split <;> omega) (by split <;> omega)]
    refine ⟨⟨_, _, _, _, _, _, _, _, _, rfl, S0⟩, ?_, ?_⟩
    · rintro j x ρ M hx ⟨v2, v3, v4, v5, v6, v7, v8, v9, v10, rfl, S1⟩
      simp only [WO_ok, WO_okIf, WE_var, WE_non, WE_bl, WE_int, WE_str, WE_miss, WE_bin, WE_cmp, WE_cmx, WE_idx, WE_tup, WE_lst, WE_lstM, WE_and, WE_or, WE_not, WE_ite, WE_chn, WE_call, WE_callK, WE_blt, WE_lof, WE_slc, Wi, isMiss, if_true, if_false, Bool.false_eq_true, reduceIte, WE_lr, WE_lz, WE_addM, WE_up, WE_glb, WE_dsp, WE_dof, WE_isi, WE_mth, WEs_nil, WEs_cons, WEs_star, WI_seq, WI_fn, Wb_t, Wb_f, Wb_n, WSs_nil, WSs_cons, Kss_nx, Kss_rt, Kss_bk, Kss_ct, Kif_t, Kif_f, Kif_n, Kde_rt, Kde_nx, WS_asg, WS_ret, WS_retN, WS_exp, WS_pas, WS_brk, WS_cnt, WS_asgT, WS_asgS, WS_par, WS_sub, WS_ifs, WS_frz, WO_addi, WO_subi, WO_muli, WO_fdiv, WO_mod, WO_pow, WO_addl, WO_addt, WO_lti, WO_lei, WO_gti, WO_gei, WO_eqi, WO_nei, WO_eqs, WO_nes, WO_isn0, WO_isnn0, WO_isb, WO_isnb, isNon, setAll, Sk.bindG, Sk.bindGs, Option.bind_some, Option.some.injEq, exists_eq_left', List.map_cons, List.map_nil, List.cons_append, List.nil_append, List.replicate, List.getElem?_cons_zero, List.getElem?_cons_succ, List.set_cons_zero, List.set_cons_succ, List.length_cons, List.length_nil, Nat.reduceAdd, Nat.reduceSub, lim, Nat.reduceLeDiff, true_and, and_true, true_or, not_true_eq_false, not_false_eq_true, forall_const, false_implies, true_implies, decide_true, decide_false, Bool.not_true, Bool.not_false, tgN, tgsN, clN, wipeP]
      obtain ⟨z, M1, e, z0, z1, S1, _⟩ := ev_draw G6 M s c 5 S1 (by decide) (by decide)
      refine .mk k_dr e ?_
      (try simp only [WO_ok, WO_okIf, WE_var, WE_non, WE_bl, WE_int, WE_str, WE_miss, WE_bin, WE_cmp, WE_cmx, WE_idx, WE_tup, WE_lst, WE_lstM, WE_and, WE_or, WE_not, WE_ite, WE_chn, WE_call, WE_callK, WE_blt, WE_lof, WE_slc, Wi, isMiss, if_true, if_false, Bool.false_eq_true, reduceIte, WE_lr, WE_lz, WE_addM, WE_up, WE_glb, WE_dsp, WE_dof, WE_isi, WE_mth, WEs_nil, WEs_cons, WEs_star, WI_seq, WI_fn, Wb_t, Wb_f, Wb_n, WSs_nil, WSs_cons, Kss_nx, Kss_rt, Kss_bk, Kss_ct, Kif_t, Kif_f, Kif_n, Kde_rt, Kde_nx, WS_asg, WS_ret, WS_retN, WS_exp, WS_pas, WS_brk, WS_cnt, WS_asgT, WS_asgS, WS_par, WS_sub, WS_ifs, WS_frz, WO_addi, WO_subi, WO_muli, WO_fdiv, WO_mod, WO_pow, WO_addl, WO_addt, WO_lti, WO_lei, WO_gti, WO_gei, WO_eqi, WO_nei, WO_eqs, WO_nes, WO_isn0, WO_isnn0, WO_isb, WO_isnb, isNon, setAll, Sk.bindG, Sk.bindGs, Option.bind_some, Option.some.injEq, exists_eq_left', List.map_cons, List.map_nil, List.cons_append, List.nil_append, List.replicate, List.getElem?_cons_zero, List.getElem?_cons_succ, List.set_cons_zero, List.set_cons_succ, List.length_cons, List.length_nil, Nat.reduceAdd, Nat.reduceSub, lim, Nat.reduceLeDiff, true_and, and_true, true_or, not_true_eq_false, not_false_eq_true, forall_const, false_implies, true_implies, decide_true, decide_false, Bool.not_true, Bool.not_false, tgN, tgsN, clN, wipeP])
      obtain ⟨n, hn, hn8⟩ : ∃ n : Nat, (1 + z : Int) = (n : Int) ∧ n ≤ 5 := ⟨(1 + z).toNat, by omega, by omega⟩
      rw [hn]
      obtain ⟨q, M2, e, hq, hqn, S1, _⟩ := ev_titles G9 G6 G7 k_p9 k_d7 M1 s c n S1 (by omega)
      refine .mk k_ti e ?_
      (try simp only [WO_ok, WO_okIf, WE_var, WE_non, WE_bl, WE_int, WE_str, WE_miss, WE_bin, WE_cmp, WE_cmx, WE_idx, WE_tup, WE_lst, WE_lstM, WE_and, WE_or, WE_not, WE_ite, WE_chn, WE_call, WE_callK, WE_blt, WE_lof, WE_slc, Wi, isMiss, if_true, if_false, Bool.false_eq_true, reduceIte, WE_lr, WE_lz, WE_addM, WE_up, WE_glb, WE_dsp, WE_dof, WE_isi, WE_mth, WEs_nil, WEs_cons, WEs_star, WI_seq, WI_fn, Wb_t, Wb_f, Wb_n, WSs_nil, WSs_cons, Kss_nx, Kss_rt, Kss_bk, Kss_ct, Kif_t, Kif_f, Kif_n, Kde_rt, Kde_nx, WS_asg, WS_ret, WS_retN, WS_exp, WS_pas, WS_brk, WS_cnt, WS_asgT, WS_asgS, WS_par, WS_sub, WS_ifs, WS_frz, WO_addi, WO_subi, WO_muli, WO_fdiv, WO_mod, WO_pow, WO_addl, WO_addt, WO_lti, WO_lei, WO_gti, WO_gei, WO_eqi, WO_nei, WO_eqs, WO_nes, WO_isn0, WO_isnn0, WO_isb, WO_isnb, isNon, setAll, Sk.bindG, Sk.bindGs, Option.bind_some, Option.some.injEq, exists_eq_left', List.map_cons, List.map_nil, List.cons_append, List.nil_append, List.replicate, List.getElem?_cons_zero, List.getElem?_cons_succ, List.set_cons_zero, List.set_cons_succ, List.length_cons, List.length_nil, Nat.reduceAdd, Nat.reduceSub, lim, Nat.reduceLeDiff, true_and, and_true, true_or, not_true_eq_false, not_false_eq_true, forall_const, false_implies, true_implies, decide_true, decide_false, Bool.not_true, Bool.not_false, tgN, tgsN, clN, wipeP])
      obtain ⟨L0, M3, e, hL0, hLx0, S1, _⟩ := ev_lists G10 G6 G7 G8 k_d10 k_p10 k_d7 k_x10 k_d8 M2 s c q S1 (by omega) hqn
      refine .mk k_li e ?_
      simp only [WO_sl5, WO_ok, WO_okIf, WE_var, WE_non, WE_bl, WE_int, WE_str, WE_miss, WE_bin, WE_cmp, WE_cmx, WE_idx, WE_tup, WE_lst, WE_lstM, WE_and, WE_or, WE_not, WE_ite, WE_chn, WE_call, WE_callK, WE_blt, WE_lof, WE_slc, Wi, isMiss, if_true, if_false, Bool.false_eq_true, reduceIte, WE_lr, WE_lz, WE_addM, WE_up, WE_glb, WE_dsp, WE_dof, WE_isi, WE_mth, WEs_nil, WEs_cons, WEs_star, WI_seq, WI_fn, Wb_t, Wb_f, Wb_n, WSs_nil, WSs_cons, Kss_nx, Kss_rt, Kss_bk, Kss_ct, Kif_t, Kif_f, Kif_n, Kde_rt, Kde_nx, WS_asg, WS_ret, WS_retN, WS_exp, WS_pas, WS_brk, WS_cnt, WS_asgT, WS_asgS, WS_par, WS_sub, WS_ifs, WS_frz, WO_addi, WO_subi, WO_muli, WO_fdiv, WO_mod, WO_pow, WO_addl, WO_addt, WO_lti, WO_lei, WO_gti, WO_gei, WO_eqi, WO_nei, WO_eqs, WO_nes, WO_isn0, WO_isnn0, WO_isb, WO_isnb, isNon, setAll, Sk.bindG, Sk.bindGs, Option.bind_some, Option.some.injEq, exists_eq_left', List.map_cons, List.map_nil, List.cons_append, List.nil_append, List.replicate, List.getElem?_cons_zero, List.getElem?_cons_succ, List.set_cons_zero, List.set_cons_succ, List.length_cons, List.length_nil, Nat.reduceAdd, Nat.reduceSub, lim, Nat.reduceLeDiff, true_and, and_true, true_or, not_true_eq_false, not_false_eq_true, forall_const, false_implies, true_implies, decide_true, decide_false, Bool.not_true, Bool.not_false, tgN, tgsN, clN, wipeP]
      have hL : (L0.take 5).length ≤ 5 := by rw [List.length_take]; omega
      have hLx : ∀ l ∈ L0.take 5, l.length ≤ 20 ∧ l.Nodup ∧ l ⊆ q := fun l h => hLx0 l (List.mem_of_mem_take h)
      generalize L0.take 5 = L at hL hLx
      have hLn : ∀ l ∈ L, l.Nodup := fun l h => (hLx l h).2.1
      have small : ∀ i, (uniF (L.take i) []).length ≤ 5 := fun i => by
        obtain ⟨u1, u2⟩ := uni_ok (L.take i) [] List.nodup_nil fun l h => hLn l (List.mem_of_mem_take h)
        refine Nat.le_trans (sub_len _ q u1 fun y hy => ?_) (by omega)
        rcases (u2 y).mp hy with h | ⟨l, h1, h2⟩
        · cases h
        · exact (hLx l (List.mem_of_mem_take h1)).2.2 h2
      refine WS_for (fun i ρ M' => M3 = M' ∧ ∃ v5 v10 : Option PV, ρ = [some (.lst (ns.map PV.int)), some (.loc s), some x, some (.lst (linesP L)), some (.lst (sv (uniF (L.take i) []))), v5, v6, v7, v8, v9, v10]) ?_
      simp only [WO_ok, WO_okIf, WE_var, WE_non, WE_bl, WE_int, WE_str, WE_miss, WE_bin, WE_cmp, WE_cmx, WE_idx, WE_tup, WE_lst, WE_lstM, WE_and, WE_or, WE_not, WE_ite, WE_chn, WE_call, WE_callK, WE_blt, WE_lof, WE_slc, Wi, isMiss, if_true, if_false, Bool.false_eq_true, reduceIte, WE_lr, WE_lz, WE_addM, WE_up, WE_glb, WE_dsp, WE_dof, WE_isi, WE_mth, WEs_nil, WEs_cons, WEs_star, WI_seq, WI_fn, Wb_t, Wb_f, Wb_n, WSs_nil, WSs_cons, Kss_nx, Kss_rt, Kss_bk, Kss_ct, Kif_t, Kif_f, Kif_n, Kde_rt, Kde_nx, WS_asg, WS_ret, WS_retN, WS_exp, WS_pas, WS_brk, WS_cnt, WS_asgT, WS_asgS, WS_par, WS_sub, WS_ifs, WS_frz, WO_addi, WO_subi, WO_muli, WO_fdiv, WO_mod, WO_pow, WO_addl, WO_addt, WO_lti, WO_lei, WO_gti, WO_gei, WO_eqi, WO_nei, WO_eqs, WO_nes, WO_isn0, WO_isnn0, WO_isb, WO_isnb, isNon, setAll, Sk.bindG, Sk.bindGs, Option.bind_some, Option.some.injEq, exists_eq_left', List.map_cons, List.map_nil, List.cons_append, List.nil_append, List.replicate, List.getElem?_cons_zero, List.getElem?_cons_succ, List.set_cons_zero, List.set_cons_succ, List.length_cons, List.length_nil, Nat.reduceAdd, Nat.reduceSub, lim, Nat.reduceLeDiff, true_and, and_true, true_or, not_true_eq_false, not_false_eq_true, forall_const, false_implies, true_implies, decide_true, decide_false, Bool.not_true, Bool.not_false, tgN, tgsN, clN, wipeP, itemsOf]
      refine ⟨⟨_, _, rfl⟩, ?_, ?_⟩
      · rintro i y ρ M' hy ⟨rfl, v5, v10, rfl⟩
        obtain ⟨l, rfl, hy2⟩ := lines_get hy
        have hlL := List.mem_of_getElem? hy2
        simp only [WO_ok, WO_okIf, WE_var, WE_non, WE_bl, WE_int, WE_str, WE_miss, WE_bin, WE_cmp, WE_cmx, WE_idx, WE_tup, WE_lst, WE_lstM, WE_and, WE_or, WE_not, WE_ite, WE_chn, WE_call, WE_callK, WE_blt, WE_lof, WE_slc, Wi, isMiss, if_true, if_false, Bool.false_eq_true, reduceIte, WE_lr, WE_lz, WE_addM, WE_up, WE_glb, WE_dsp, WE_dof, WE_isi, WE_mth, WEs_nil, WEs_cons, WEs_star, WI_seq, WI_fn, Wb_t, Wb_f, Wb_n, WSs_nil, WSs_cons, Kss_nx, Kss_rt, Kss_bk, Kss_ct, Kif_t, Kif_f, Kif_n, Kde_rt, Kde_nx, WS_asg, WS_ret, WS_retN, WS_exp, WS_pas, WS_brk, WS_cnt, WS_asgT, WS_asgS, WS_par, WS_sub, WS_ifs, WS_frz, WO_addi, WO_subi, WO_muli, WO_fdiv, WO_mod, WO_pow, WO_addl, WO_addt, WO_lti, WO_lei, WO_gti, WO_gei, WO_eqi, WO_nei, WO_eqs, WO_nes, WO_isn0, WO_isnn0, WO_isb, WO_isnb, isNon, setAll, Sk.bindG, Sk.bindGs, Option.bind_some, Option.some.injEq, exists_eq_left', List.map_cons, List.map_nil, List.cons_append, List.nil_append, List.replicate, List.getElem?_cons_zero, List.getElem?_cons_succ, List.set_cons_zero, List.set_cons_succ, List.length_cons, List.length_nil, Nat.reduceAdd, Nat.reduceSub, lim, Nat.reduceLeDiff, true_and, and_true, true_or, not_true_eq_false, not_false_eq_true, forall_const, false_implies, true_implies, decide_true, decide_false, Bool.not_true, Bool.not_false, tgN, tgsN, clN, wipeP]
        have cp : evE G14 (.cpr (.ls false) [10] (.nm 10) (.seq (.var 5)) (.cmp .nin (.var 10) (.var 4)) (.elt (.var 10))) [some (.lst (ns.map PV.int)), some (.loc s), some x, some (.lst (linesP L)), some (.lst (sv (uniF (L.take i) []))), some (.tup (sv l)), v6, v7, v8, v9, v10] M3 = .ok (.lst (sv (l.filter fun y => !decide (y ∈ uniF (L.take i) [])))) M3 :=
          cpr_pure (M1 := M3) (items := l) PV.str (fun y => !decide (y ∈ uniF (L.take i) [])) PV.str (i_seq (e_var rfl) rfl) (lim_small (by have := (hLx l hlL).1; omega)) fun s _ => ⟨_, rfl, e_cmp (e_var rfl) (e_var rfl) (nin_of pin_strsL), fun _ => e_var rfl⟩
        refine ⟨_, _, cp, ?_⟩
        dsimp only
        rw [WO_addl]
        have f1 : (l.filter fun y => !decide (y ∈ uniF (L.take i) [])).length ≤ 20 := Nat.le_trans (List.length_filter_le _ _) (hLx l hlL).1
        have f2 := small i
        refine ⟨by rw [List.length_map, List.length_map]; exact lim_small (by omega), ?_⟩
        have f3 : (l.filter fun y => !decide (y ∈ uniF (L.take i) [])) = l.filter fun y => decide (y ∉ uniF (L.take i) []) := List.filter_congr fun y _ => by simp
        simp only [WO_ok, WO_okIf, WE_var, WE_non, WE_bl, WE_int, WE_str, WE_miss, WE_bin, WE_cmp, WE_cmx, WE_idx, WE_tup, WE_lst, WE_lstM, WE_and, WE_or, WE_not, WE_ite, WE_chn, WE_call, WE_callK, WE_blt, WE_lof, WE_slc, Wi, isMiss, if_true, if_false, Bool.false_eq_true, reduceIte, WE_lr, WE_lz, WE_addM, WE_up, WE_glb, WE_dsp, WE_dof, WE_isi, WE_mth, WEs_nil, WEs_cons, WEs_star, WI_seq, WI_fn, Wb_t, Wb_f, Wb_n, WSs_nil, WSs_cons, Kss_nx, Kss_rt, Kss_bk, Kss_ct, Kif_t, Kif_f, Kif_n, Kde_rt, Kde_nx, WS_asg, WS_ret, WS_retN, WS_exp, WS_pas, WS_brk, WS_cnt, WS_asgT, WS_asgS, WS_par, WS_sub, WS_ifs, WS_frz, WO_addi, WO_subi, WO_muli, WO_fdiv, WO_mod, WO_pow, WO_addl, WO_addt, WO_lti, WO_lei, WO_gti, WO_gei, WO_eqi, WO_nei, WO_eqs, WO_nes, WO_isn0, WO_isnn0, WO_isb, WO_isnb, isNon, setAll, Sk.bindG, Sk.bindGs, Option.bind_some, Option.some.injEq, exists_eq_left', List.map_cons, List.map_nil, List.cons_append, List.nil_append, List.replicate, List.getElem?_cons_zero, List.getElem?_cons_succ, List.set_cons_zero, List.set_cons_succ, List.length_cons, List.length_nil, Nat.reduceAdd, Nat.reduceSub, lim, Nat.reduceLeDiff, true_and, and_true, true_or, not_true_eq_false, not_false_eq_true, forall_const, false_implies, true_implies, decide_true, decide_false, Bool.not_true, Bool.not_false, tgN, tgsN, clN, wipeP]
        refine ⟨some (.tup (sv l)), v10, ?_⟩
        rw [take_snoc hy2, uni_snoc, f3]
        unfold sv
        rw [List.map_append]
      · rintro ρ' M' ⟨rfl, v5, v10, rfl⟩
        rw [lines_len, List.take_length]
        have hu5 := small L.length
        rw [List.take_length] at hu5
        obtain ⟨ao, aol⟩ := ev_all G11 (uniF L []) hu5 M3
        have hol : ∀ o ∈ ordsF (uniF L []) [[]], o.length ≤ 5 := fun o h => by rw [ords_len h]; exact hu5
        simp only [WO_ok, WO_okIf, WE_var, WE_non, WE_bl, WE_int, WE_str, WE_miss, WE_bin, WE_cmp, WE_cmx, WE_idx, WE_tup, WE_lst, WE_lstM, WE_and, WE_or, WE_not, WE_ite, WE_chn, WE_call, WE_callK, WE_blt, WE_lof, WE_slc, Wi, isMiss, if_true, if_false, Bool.false_eq_true, reduceIte, WE_lr, WE_lz, WE_addM, WE_up, WE_glb, WE_dsp, WE_dof, WE_isi, WE_mth, WEs_nil, WEs_cons, WEs_star, WI_seq, WI_fn, Wb_t, Wb_f, Wb_n, WSs_nil, WSs_cons, Kss_nx, Kss_rt, Kss_bk, Kss_ct, Kif_t, Kif_f, Kif_n, Kde_rt, Kde_nx, WS_asg, WS_ret, WS_retN, WS_exp, WS_pas, WS_brk, WS_cnt, WS_asgT, WS_asgS, WS_par, WS_sub, WS_ifs, WS_frz, WO_addi, WO_subi, WO_muli, WO_fdiv, WO_mod, WO_pow, WO_addl, WO_addt, WO_lti, WO_lei, WO_gti, WO_gei, WO_eqi, WO_nei, WO_eqs, WO_nes, WO_isn0, WO_isnn0, WO_isb, WO_isnb, isNon, setAll, Sk.bindG, Sk.bindGs, Option.bind_some, Option.some.injEq, exists_eq_left', List.map_cons, List.map_nil, List.cons_append, List.nil_append, List.replicate, List.getElem?_cons_zero, List.getElem?_cons_succ, List.set_cons_zero, List.set_cons_succ, List.length_cons, List.length_nil, Nat.reduceAdd, Nat.reduceSub, lim, Nat.reduceLeDiff, true_and, and_true, true_or, not_true_eq_false, not_false_eq_true, forall_const, false_implies, true_implies, decide_true, decide_false, Bool.not_true, Bool.not_false, tgN, tgsN, clN, wipeP]
        have cp : evE G14 (.cpr (.ls false) [9] (.nm 9) (.seq (.call "_law_all_orders" (.cons (.var 4) .nil))) (.cmp .eq (.cpr (.ls false) [5] (.nm 5) (.seq (.var 3)) (.not (.call "_law_has" (.cons (.var 9) (.cons (.var 5) .nil)))) (.elt (.var 5))) (.lst false .nil)) (.elt (.var 9))) [some (.lst (ns.map PV.int)), some (.loc s), some x, some (.lst (linesP L)), some (.lst (sv (uniF L []))), v5, v6, v7, v8, v9, v10] M3 = .ok (.lst (linesP (goodL L))) M3 :=
          cpr_pure (M1 := M3) (items := ordsF (uniF L []) [[]]) (fun o => .tup (sv o)) (fun o => L.all fun l => hasB o l) (fun o => .tup (sv o)) (i_seq (e_call k_ao (es_one (e_var rfl)) ao) rfl) (Nat.le_trans aol (by decide)) fun o ho => ⟨_, rfl, ord_in (by omega) k_ha o (by have := hol o ho; omega) _ rfl rfl rfl, fun _ => e_var rfl⟩
        refine ⟨_, _, cp, ?_⟩
        simp only [WO_ok, WO_okIf, WE_var, WE_non, WE_bl, WE_int, WE_str, WE_miss, WE_bin, WE_cmp, WE_cmx, WE_idx, WE_tup, WE_lst, WE_lstM, WE_and, WE_or, WE_not, WE_ite, WE_chn, WE_call, WE_callK, WE_blt, WE_lof, WE_slc, Wi, isMiss, if_true, if_false, Bool.false_eq_true, reduceIte, WE_lr, WE_lz, WE_addM, WE_up, WE_glb, WE_dsp, WE_dof, WE_isi, WE_mth, WEs_nil, WEs_cons, WEs_star, WI_seq, WI_fn, Wb_t, Wb_f, Wb_n, WSs_nil, WSs_cons, Kss_nx, Kss_rt, Kss_bk, Kss_ct, Kif_t, Kif_f, Kif_n, Kde_rt, Kde_nx, WS_asg, WS_ret, WS_retN, WS_exp, WS_pas, WS_brk, WS_cnt, WS_asgT, WS_asgS, WS_par, WS_sub, WS_ifs, WS_frz, WO_addi, WO_subi, WO_muli, WO_fdiv, WO_mod, WO_pow, WO_addl, WO_addt, WO_lti, WO_lei, WO_gti, WO_gei, WO_eqi, WO_nei, WO_eqs, WO_nes, WO_isn0, WO_isnn0, WO_isb, WO_isnb, isNon, setAll, Sk.bindG, Sk.bindGs, Option.bind_some, Option.some.injEq, exists_eq_left', List.map_cons, List.map_nil, List.cons_append, List.nil_append, List.replicate, List.getElem?_cons_zero, List.getElem?_cons_succ, List.set_cons_zero, List.set_cons_succ, List.length_cons, List.length_nil, Nat.reduceAdd, Nat.reduceSub, lim, Nat.reduceLeDiff, true_and, and_true, true_or, not_true_eq_false, not_false_eq_true, forall_const, false_implies, true_implies, decide_true, decide_false, Bool.not_true, Bool.not_false, tgN, tgsN, clN, wipeP]
        refine .mk k_m (mg_k M3 _ L rfl (by omega) fun x hx => (hLx x hx).1) ?_
        obtain ⟨gm1, gm2⟩ := good_merge hLn
        obtain ⟨t1, ec⟩ := ev_cycof G4 G0 G1 G2 k_f4 k_r2 k_t2 k_r1 M3 (.lst (linesP L)) L rfl (show totL L < 4000 by have := sum_le L fun x hx => (hLx x hx).1; omega) (by omega)
        have hgl : ∀ o ∈ goodL L, o.length ≤ 5 ∧ ∀ y ∈ o, ∃ l ∈ L, y ∈ l := fun o ho => by
          obtain ⟨h1, _⟩ := (mem_good hLn).mp ho
          refine ⟨by rw [h1.length_eq]; exact hu5, fun y hy => ?_⟩
          rcases ((uni_ok L [] List.nodup_nil hLn).2 y).mp (h1.mem_iff.mp hy) with h | h
          · cases h
          · exact h
        have hgn : (goodL L).length ≤ 7776 := Nat.le_trans (List.length_filter_le _ _) aol
        cases hm : mrgP L with
        | none =>
          have hg : goodL L = [] := gm1.mpr hm
          have hc : ∃ C, cycP L = some C := by
            cases h : cycP L with
            | some C => exact ⟨C, rfl⟩
            | none => rw [cycP_none, hm] at h; cases h
          obtain ⟨C, hC⟩ := hc
          rw [hC] at ec
          rw [hg]
          simp only [optP, WO_eq peq_lines0, WO_ne peq_lines0, WO_ne peq_bl, WO_ok, WO_okIf, WE_var, WE_non, WE_bl, WE_int, WE_str, WE_miss, WE_bin, WE_cmp, WE_cmx, WE_idx, WE_tup, WE_lst, WE_lstM, WE_and, WE_or, WE_not, WE_ite, WE_chn, WE_call, WE_callK, WE_blt, WE_lof, WE_slc, Wi, isMiss, if_true, if_false, Bool.false_eq_true, reduceIte, WE_lr, WE_lz, WE_addM, WE_up, WE_glb, WE_dsp, WE_dof, WE_isi, WE_mth, WEs_nil, WEs_cons, WEs_star, WI_seq, WI_fn, Wb_t, Wb_f, Wb_n, WSs_nil, WSs_cons, Kss_nx, Kss_rt, Kss_bk, Kss_ct, Kif_t, Kif_f, Kif_n, Kde_rt, Kde_nx, WS_asg, WS_ret, WS_retN, WS_exp, WS_pas, WS_brk, WS_cnt, WS_asgT, WS_asgS, WS_par, WS_sub, WS_ifs, WS_frz, WO_addi, WO_subi, WO_muli, WO_fdiv, WO_mod, WO_pow, WO_addl, WO_addt, WO_lti, WO_lei, WO_gti, WO_gei, WO_eqi, WO_nei, WO_eqs, WO_nes, WO_isn0, WO_isnn0, WO_isb, WO_isnb, isNon, setAll, Sk.bindG, Sk.bindGs, Option.bind_some, Option.some.injEq, exists_eq_left', List.map_cons, List.map_nil, List.cons_append, List.nil_append, List.replicate, List.getElem?_cons_zero, List.getElem?_cons_succ, List.set_cons_zero, List.set_cons_succ, List.length_cons, List.length_nil, Nat.reduceAdd, Nat.reduceSub, lim, Nat.reduceLeDiff, true_and, and_true, true_or, not_true_eq_false, not_false_eq_true, forall_const, false_implies, true_implies, decide_true, decide_false, Bool.not_true, Bool.not_false, tgN, tgsN, clN, wipeP]
          refine .mk k_c ec ?_
          simp only [optS, WO_eq peq_lines0, WO_ne peq_lines0, WO_ne peq_bl, WO_ok, WO_okIf, WE_var, WE_non, WE_bl, WE_int, WE_str, WE_miss, WE_bin, WE_cmp, WE_cmx, WE_idx, WE_tup, WE_lst, WE_lstM, WE_and, WE_or, WE_not, WE_ite, WE_chn, WE_call, WE_callK, WE_blt, WE_lof, WE_slc, Wi, isMiss, if_true, if_false, Bool.false_eq_true, reduceIte, WE_lr, WE_lz, WE_addM, WE_up, WE_glb, WE_dsp, WE_dof, WE_isi, WE_mth, WEs_nil, WEs_cons, WEs_star, WI_seq, WI_fn, Wb_t, Wb_f, Wb_n, WSs_nil, WSs_cons, Kss_nx, Kss_rt, Kss_bk, Kss_ct, Kif_t, Kif_f, Kif_n, Kde_rt, Kde_nx, WS_asg, WS_ret, WS_retN, WS_exp, WS_pas, WS_brk, WS_cnt, WS_asgT, WS_asgS, WS_par, WS_sub, WS_ifs, WS_frz, WO_addi, WO_subi, WO_muli, WO_fdiv, WO_mod, WO_pow, WO_addl, WO_addt, WO_lti, WO_lei, WO_gti, WO_gei, WO_eqi, WO_nei, WO_eqs, WO_nes, WO_isn0, WO_isnn0, WO_isb, WO_isnb, isNon, setAll, Sk.bindG, Sk.bindGs, Option.bind_some, Option.some.injEq, exists_eq_left', List.map_cons, List.map_nil, List.cons_append, List.nil_append, List.replicate, List.getElem?_cons_zero, List.getElem?_cons_succ, List.set_cons_zero, List.set_cons_succ, List.length_cons, List.length_nil, Nat.reduceAdd, Nat.reduceSub, lim, Nat.reduceLeDiff, true_and, and_true, true_or, not_true_eq_false, not_false_eq_true, forall_const, false_implies, true_implies, decide_true, decide_false, Bool.not_true, Bool.not_false, tgN, tgsN, clN, wipeP]
          exact ⟨_, _, _, _, _, _, _, _, _, rfl, S1.app⟩
        | some m =>
          obtain ⟨hmg, hmin⟩ := gm2 m hm
          have hg : goodL L ≠ [] := fun z => by rw [z] at hmg; cases hmg
          have hc : cycP L = none := by rw [cycP_none, hm]; rfl
          rw [hc] at ec
          simp only [optP, WO_eq peq_lines0, WO_ne peq_lines0, WO_ne peq_bl, decide_eq_false hg, WO_ok, WO_okIf, WE_var, WE_non, WE_bl, WE_int, WE_str, WE_miss, WE_bin, WE_cmp, WE_cmx, WE_idx, WE_tup, WE_lst, WE_lstM, WE_and, WE_or, WE_not, WE_ite, WE_chn, WE_call, WE_callK, WE_blt, WE_lof, WE_slc, Wi, isMiss, if_true, if_false, Bool.false_eq_true, reduceIte, WE_lr, WE_lz, WE_addM, WE_up, WE_glb, WE_dsp, WE_dof, WE_isi, WE_mth, WEs_nil, WEs_cons, WEs_star, WI_seq, WI_fn, Wb_t, Wb_f, Wb_n, WSs_nil, WSs_cons, Kss_nx, Kss_rt, Kss_bk, Kss_ct, Kif_t, Kif_f, Kif_n, Kde_rt, Kde_nx, WS_asg, WS_ret, WS_retN, WS_exp, WS_pas, WS_brk, WS_cnt, WS_asgT, WS_asgS, WS_par, WS_sub, WS_ifs, WS_frz, WO_addi, WO_subi, WO_muli, WO_fdiv, WO_mod, WO_pow, WO_addl, WO_addt, WO_lti, WO_lei, WO_gti, WO_gei, WO_eqi, WO_nei, WO_eqs, WO_nes, WO_isn0, WO_isnn0, WO_isb, WO_isnb, isNon, setAll, Sk.bindG, Sk.bindGs, Option.bind_some, Option.some.injEq, exists_eq_left', List.map_cons, List.map_nil, List.cons_append, List.nil_append, List.replicate, List.getElem?_cons_zero, List.getElem?_cons_succ, List.set_cons_zero, List.set_cons_succ, List.length_cons, List.length_nil, Nat.reduceAdd, Nat.reduceSub, lim, Nat.reduceLeDiff, true_and, and_true, true_or, not_true_eq_false, not_false_eq_true, forall_const, false_implies, true_implies, decide_true, decide_false, Bool.not_true, Bool.not_false, tgN, tgsN, clN, wipeP]
          refine .mk k_c ec ?_
          simp only [optS, WO_eq peq_lines0, WO_ne peq_lines0, WO_ne peq_bl, decide_eq_false hg, WO_ok, WO_okIf, WE_var, WE_non, WE_bl, WE_int, WE_str, WE_miss, WE_bin, WE_cmp, WE_cmx, WE_idx, WE_tup, WE_lst, WE_lstM, WE_and, WE_or, WE_not, WE_ite, WE_chn, WE_call, WE_callK, WE_blt, WE_lof, WE_slc, Wi, isMiss, if_true, if_false, Bool.false_eq_true, reduceIte, WE_lr, WE_lz, WE_addM, WE_up, WE_glb, WE_dsp, WE_dof, WE_isi, WE_mth, WEs_nil, WEs_cons, WEs_star, WI_seq, WI_fn, Wb_t, Wb_f, Wb_n, WSs_nil, WSs_cons, Kss_nx, Kss_rt, Kss_bk, Kss_ct, Kif_t, Kif_f, Kif_n, Kde_rt, Kde_nx, WS_asg, WS_ret, WS_retN, WS_exp, WS_pas, WS_brk, WS_cnt, WS_asgT, WS_asgS, WS_par, WS_sub, WS_ifs, WS_frz, WO_addi, WO_subi, WO_muli, WO_fdiv, WO_mod, WO_pow, WO_addl, WO_addt, WO_lti, WO_lei, WO_gti, WO_gei, WO_eqi, WO_nei, WO_eqs, WO_nes, WO_isn0, WO_isnn0, WO_isb, WO_isnb, isNon, setAll, Sk.bindG, Sk.bindGs, Option.bind_some, Option.some.injEq, exists_eq_left', List.map_cons, List.map_nil, List.cons_append, List.nil_append, List.replicate, List.getElem?_cons_zero, List.getElem?_cons_succ, List.set_cons_zero, List.set_cons_succ, List.length_cons, List.length_nil, Nat.reduceAdd, Nat.reduceSub, lim, Nat.reduceLeDiff, true_and, and_true, true_or, not_true_eq_false, not_false_eq_true, forall_const, false_implies, true_implies, decide_true, decide_false, Bool.not_true, Bool.not_false, tgN, tgsN, clN, wipeP]
          have cp2 : evE G14 (.cpr (.ls false) [9] (.nm 9) (.seq (.var 6)) .miss (.elt (.tup (.cons (.call "_law_first_lists" (.cons (.var 9) (.cons (.var 3) .nil))) (.cons (.var 9) .nil))))) [some (.lst (ns.map PV.int)), some (.loc s), some x, some (.lst (linesP L)), some (.lst (sv (uniF L []))), v5, some (.lst (linesP (goodL L))), some (.tup (sv m)), v8, v9, v10] (M3 ++ t1) = .ok (.lst ((goodL L).map (pairP L))) (M3 ++ t1) := by
            refine (cpr_pure (M1 := M3 ++ t1) (items := goodL L) (fun o => .tup (sv o)) (fun _ => true) (pairP L) (i_seq (e_var rfl) rfl) (Nat.le_trans hgn (by decide)) fun o ho => ⟨_, rfl, rfl, fun _ => ?_⟩).trans ?_
            · exact e_tup (es_two (e_call k_fl (es_two (e_var rfl) (e_var rfl)) (ev_firsts G13 L o (by omega) (by have := (hgl o ho).1; omega) (hgl o ho).2 _)) (e_var rfl)) (lim_small (by simp))
            · rw [List.filter_eq_self.mpr (fun _ _ => rfl)]; rfl
          refine ⟨_, _, cp2, ?_⟩
          dsimp only
          rw [WO_srt (srt_pairs L _)]
          obtain ⟨rest, er⟩ := first_srt hmg hmin
          rw [er]
          simp only [WO_ok, WO_okIf, WE_var, WE_non, WE_bl, WE_int, WE_str, WE_miss, WE_bin, WE_cmp, WE_cmx, WE_idx, WE_tup, WE_lst, WE_lstM, WE_and, WE_or, WE_not, WE_ite, WE_chn, WE_call, WE_callK, WE_blt, WE_lof, WE_slc, Wi, isMiss, if_true, if_false, Bool.false_eq_true, reduceIte, WE_lr, WE_lz, WE_addM, WE_up, WE_glb, WE_dsp, WE_dof, WE_isi, WE_mth, WEs_nil, WEs_cons, WEs_star, WI_seq, WI_fn, Wb_t, Wb_f, Wb_n, WSs_nil, WSs_cons, Kss_nx, Kss_rt, Kss_bk, Kss_ct, Kif_t, Kif_f, Kif_n, Kde_rt, Kde_nx, WS_asg, WS_ret, WS_retN, WS_exp, WS_pas, WS_brk, WS_cnt, WS_asgT, WS_asgS, WS_par, WS_sub, WS_ifs, WS_frz, WO_addi, WO_subi, WO_muli, WO_fdiv, WO_mod, WO_pow, WO_addl, WO_addt, WO_lti, WO_lei, WO_gti, WO_gei, WO_eqi, WO_nei, WO_eqs, WO_nes, WO_isn0, WO_isnn0, WO_isb, WO_isnb, isNon, setAll, Sk.bindG, Sk.bindGs, Option.bind_some, Option.some.injEq, exists_eq_left', List.map_cons, List.map_nil, List.cons_append, List.nil_append, List.replicate, List.getElem?_cons_zero, List.getElem?_cons_succ, List.set_cons_zero, List.set_cons_succ, List.length_cons, List.length_nil, Nat.reduceAdd, Nat.reduceSub, lim, Nat.reduceLeDiff, true_and, and_true, true_or, not_true_eq_false, not_false_eq_true, forall_const, false_implies, true_implies, decide_true, decide_false, Bool.not_true, Bool.not_false, tgN, tgsN, clN, wipeP]
          rw [show idxop (.lst (pairP L m :: rest.map (pairP L))) (.int 0) (M3 ++ t1) = .ok (pairP L m) (M3 ++ t1) from idx_nat (i := 0) rfl (fun _ h => nomatch h) rfl, WO_ok]
          (try simp only [WO_ok, WO_okIf, WE_var, WE_non, WE_bl, WE_int, WE_str, WE_miss, WE_bin, WE_cmp, WE_cmx, WE_idx, WE_tup, WE_lst, WE_lstM, WE_and, WE_or, WE_not, WE_ite, WE_chn, WE_call, WE_callK, WE_blt, WE_lof, WE_slc, Wi, isMiss, if_true, if_false, Bool.false_eq_true, reduceIte, WE_lr, WE_lz, WE_addM, WE_up, WE_glb, WE_dsp, WE_dof, WE_isi, WE_mth, WEs_nil, WEs_cons, WEs_star, WI_seq, WI_fn, Wb_t, Wb_f, Wb_n, WSs_nil, WSs_cons, Kss_nx, Kss_rt, Kss_bk, Kss_ct, Kif_t, Kif_f, Kif_n, Kde_rt, Kde_nx, WS_asg, WS_ret, WS_retN, WS_exp, WS_pas, WS_brk, WS_cnt, WS_asgT, WS_asgS, WS_par, WS_sub, WS_ifs, WS_frz, WO_addi, WO_subi, WO_muli, WO_fdiv, WO_mod, WO_pow, WO_addl, WO_addt, WO_lti, WO_lei, WO_gti, WO_gei, WO_eqi, WO_nei, WO_eqs, WO_nes, WO_isn0, WO_isnn0, WO_isb, WO_isnb, isNon, setAll, Sk.bindG, Sk.bindGs, Option.bind_some, Option.some.injEq, exists_eq_left', List.map_cons, List.map_nil, List.cons_append, List.nil_append, List.replicate, List.getElem?_cons_zero, List.getElem?_cons_succ, List.set_cons_zero, List.set_cons_succ, List.length_cons, List.length_nil, Nat.reduceAdd, Nat.reduceSub, lim, Nat.reduceLeDiff, true_and, and_true, true_or, not_true_eq_false, not_false_eq_true, forall_const, false_implies, true_implies, decide_true, decide_false, Bool.not_true, Bool.not_false, tgN, tgsN, clN, wipeP])
          rw [show idxop (pairP L m) (.int 1) (M3 ++ t1) = .ok (.tup (sv m)) (M3 ++ t1) from idx_nat (i := 1) (l := [.lst ((keyI L m).map PV.int), .tup (sv m)]) rfl (fun _ h => nomatch h) rfl, WO_ok]
          simp only [WO_ne peq_tup, WO_ok, WO_okIf, WE_var, WE_non, WE_bl, WE_int, WE_str, WE_miss, WE_bin, WE_cmp, WE_cmx, WE_idx, WE_tup, WE_lst, WE_lstM, WE_and, WE_or, WE_not, WE_ite, WE_chn, WE_call, WE_callK, WE_blt, WE_lof, WE_slc, Wi, isMiss, if_true, if_false, Bool.false_eq_true, reduceIte, WE_lr, WE_lz, WE_addM, WE_up, WE_glb, WE_dsp, WE_dof, WE_isi, WE_mth, WEs_nil, WEs_cons, WEs_star, WI_seq, WI_fn, Wb_t, Wb_f, Wb_n, WSs_nil, WSs_cons, Kss_nx, Kss_rt, Kss_bk, Kss_ct, Kif_t, Kif_f, Kif_n, Kde_rt, Kde_nx, WS_asg, WS_ret, WS_retN, WS_exp, WS_pas, WS_brk, WS_cnt, WS_asgT, WS_asgS, WS_par, WS_sub, WS_ifs, WS_frz, WO_addi, WO_subi, WO_muli, WO_fdiv, WO_mod, WO_pow, WO_addl, WO_addt, WO_lti, WO_lei, WO_gti, WO_gei, WO_eqi, WO_nei, WO_eqs, WO_nes, WO_isn0, WO_isnn0, WO_isb, WO_isnb, isNon, setAll, Sk.bindG, Sk.bindGs, Option.bind_some, Option.some.injEq, exists_eq_left', List.map_cons, List.map_nil, List.cons_append, List.nil_append, List.replicate, List.getElem?_cons_zero, List.getElem?_cons_succ, List.set_cons_zero, List.set_cons_succ, List.length_cons, List.length_nil, Nat.reduceAdd, Nat.reduceSub, lim, Nat.reduceLeDiff, true_and, and_true, true_or, not_true_eq_false, not_false_eq_true, forall_const, false_implies, true_implies, decide_true, decide_false, Bool.not_true, Bool.not_false, tgN, tgsN, clN, wipeP]
          exact ⟨_, _, _, _, _, _, _, _, _, rfl, S1.app⟩
    · rintro ρ' M' ⟨v2, v3, v4, v5, v6, v7, v8, v9, v10, rfl, S1⟩
      simp only [WO_ok, WO_okIf, WE_var, WE_non, WE_bl, WE_int, WE_str, WE_miss, WE_bin, WE_cmp, WE_cmx, WE_idx, WE_tup, WE_lst, WE_lstM, WE_and, WE_or, WE_not, WE_ite, WE_chn, WE_call, WE_callK, WE_blt, WE_lof, WE_slc, Wi, isMiss, if_true, if_false, Bool.false_eq_true, reduceIte, WE_lr, WE_lz, WE_addM, WE_up, WE_glb, WE_dsp, WE_dof, WE_isi, WE_mth, WEs_nil, WEs_cons, WEs_star, WI_seq, WI_fn, Wb_t, Wb_f, Wb_n, WSs_nil, WSs_cons, Kss_nx, Kss_rt, Kss_bk, Kss_ct, Kif_t, Kif_f, Kif_n, Kde_rt, Kde_nx, WS_asg, WS_ret, WS_retN, WS_exp, WS_pas, WS_brk, WS_cnt, WS_asgT, WS_asgS, WS_par, WS_sub, WS_ifs, WS_frz, WO_addi, WO_subi, WO_muli, WO_fdiv, WO_mod, WO_pow, WO_addl, WO_addt, WO_lti, WO_lei, WO_gti, WO_gei, WO_eqi, WO_nei, WO_eqs, WO_nes, WO_isn0, WO_isnn0, WO_isb, WO_isnb, isNon, setAll, Sk.bindG, Sk.bindGs, Option.bind_some, Option.some.injEq, exists_eq_left', List.map_cons, List.map_nil, List.cons_append, List.nil_append, List.replicate, List.getElem?_cons_zero, List.getElem?_cons_succ, List.set_cons_zero, List.set_cons_succ, List.length_cons, List.length_nil, Nat.reduceAdd, Nat.reduceSub, lim, Nat.reduceLeDiff, true_and, and_true, true_or, not_true_eq_false, not_false_eq_true, forall_const, false_implies, true_implies, decide_true, decide_false, Bool.not_true, Bool.not_false, tgN, tgsN, clN, wipeP]
  obtain ⟨v, M, e, rfl⟩ := key
  exact ⟨M, e⟩
end K08

namespace K08
open PySem PySem.Spec PyProof.Rows PySem.W L2 Sk
def top (i : Nat) : Stmt := PySem.Challenge.pw_seekline_k08_whole_merges_among_all_orde.main.body.getD i (.Pass ⟨0, 0, 0, 0⟩)
def kws : List (Str × Nat × List Str × List Nat) := []
def blts : List Str := ["tuple", "enumerate", "abs", "len", "list", "range", "min", "sorted"]
def glbs : List Str := []
abbrev s_reduced : Stmt := top 1
def N_reduced : List Str := ["rows", "one", "k"]
def P_reduced : List Str := ["rows"]
def F0 : List Str := []
theorem sc_reduced : FnScope N_reduced P_reduced (defScope s_reduced) := ⟨rfl, rfl, rfl, by decide +kernel, rfl, by decide +kernel, by decide +kernel⟩
theorem m_reduced : mSs ⟨N_reduced, F0, kws, blts, glbs⟩ (defScope s_reduced) (fun _ => true) d_reduced.body (defBody s_reduced) = true := by decide +kernel
abbrev s_taken : Stmt := top 2
def N_taken : List Str := ["rows", "name", "one", "k"]
def P_taken : List Str := ["rows", "name"]
def F1 : List Str := ["reduced"]
theorem sc_taken : FnScope N_taken P_taken (defScope s_taken) := ⟨rfl, rfl, rfl, by decide +kernel, rfl, by decide +kernel, by decide +kernel⟩
theorem m_taken : mSs ⟨N_taken, F1, kws, blts, glbs⟩ (defScope s_taken) (fun _ => true) d_taken.body (defBody s_taken) = true := by decide +kernel
abbrev s_merged_far : Stmt := top 3
def N_merged_far : List Str := ["lists", "rows", "found", "behind", "free", "one", "k", "name"]
def P_merged_far : List Str := ["lists"]
def F2 : List Str := ["taken", "reduced"]
theorem sc_merged_far : FnScope N_merged_far P_merged_far (defScope s_merged_far) := ⟨rfl, rfl, rfl, by decide +kernel, rfl, by decide +kernel, by decide +kernel⟩
theorem m_merged_far : mSs ⟨N_merged_far, F2, kws, blts, glbs⟩ (defScope s_merged_far) (fun _ => true) d_merged_far.body (defBody s_merged_far) = true := by decide +kernel
abbrev s_merge : Stmt := top 4
def N_merge : List Str := ["lists", "found", "rest"]
def P_merge : List Str := ["lists"]
def F3 : List Str := ["merged_far", "taken", "reduced"]
theorem sc_merge : FnScope N_merge P_merge (defScope s_merge) := ⟨rfl, rfl, rfl, by decide +kernel, rfl, by decide +kernel, by decide +kernel⟩
theorem m_merge : mSs ⟨N_merge, F3, kws, blts, glbs⟩ (defScope s_merge) (fun _ => true) d_merge.body (defBody s_merge) = true := by decide +kernel
abbrev s_cycle_of : Stmt := top 5
def N_cycle_of : List Str := ["lists", "rows", "way", "steps", "one", "k"]
def P_cycle_of : List Str := ["lists"]
def F4 : List Str := ["merge", "merged_far", "taken", "reduced"]
theorem sc_cycle_of : FnScope N_cycle_of P_cycle_of (defScope s_cycle_of) := ⟨rfl, rfl, rfl, by decide +kernel, rfl, by decide +kernel, by decide +kernel⟩
theorem m_cycle_of : mSs ⟨N_cycle_of, F4, kws, blts, glbs⟩ (defScope s_cycle_of) (fun _ => true) d_cycle_of.body (defBody s_cycle_of) = true := by decide +kernel
abbrev s_law_state : Stmt := top 7
def N_law_state : List Str := ["_law_script", "_law_cells", "_law_cell"]
def P_law_state : List Str := ["_law_script"]
def F5 : List Str := ["cycle_of", "merge", "merged_far", "taken", "reduced"]
theorem sc_law_state : FnScope N_law_state P_law_state (defScope s_law_state) := ⟨rfl, rfl, rfl, by decide +kernel, rfl, by decide +kernel, by decide +kernel⟩
theorem m_law_state : mSs ⟨N_law_state, F5, kws, blts, glbs⟩ (defScope s_law_state) (fun _ => true) d_law_state.body (defBody s_law_state) = true := by decide +kernel
abbrev s_law_draw : Stmt := top 8
def N_law_draw : List Str := ["_law_state_here", "_law_many", "_law_cells", "_law_at", "_law_cell"]
def P_law_draw : List Str := ["_law_state_here", "_law_many"]
def F6 : List Str := ["_law_state", "cycle_of", "merge", "merged_far", "taken", "reduced"]
theorem sc_law_draw : FnScope N_law_draw P_law_draw (defScope s_law_draw) := ⟨rfl, rfl, rfl, by decide +kernel, rfl, by decide +kernel, by decide +kernel⟩
theorem m_law_draw : mSs ⟨N_law_draw, F6, kws, blts, glbs⟩ (defScope s_law_draw) (fun _ => true) d_law_draw.body (defBody s_law_draw) = true := by decide +kernel
abbrev s_law_pick : Stmt := top 9
def N_law_pick : List Str := ["_law_state_here", "_law_some"]
def P_law_pick : List Str := ["_law_state_here", "_law_some"]
def F7 : List Str := ["_law_draw", "_law_state", "cycle_of", "merge", "merged_far", "taken", "reduced"]
theorem sc_law_pick : FnScope N_law_pick P_law_pick (defScope s_law_pick) := ⟨rfl, rfl, rfl, by decide +kernel, rfl, by decide +kernel, by decide +kernel⟩
theorem m_law_pick : mSs ⟨N_law_pick, F7, kws, blts, glbs⟩ (defScope s_law_pick) (fun _ => true) d_law_pick.body (defBody s_law_pick) = true := by decide +kernel
abbrev s_law_mixed : Stmt := top 10
def N_law_mixed : List Str := ["_law_state_here", "_law_some", "_law_left", "_law_found"]
def P_law_mixed : List Str := ["_law_state_here", "_law_some"]
def F8 : List Str := ["_law_pick", "_law_draw", "_law_state", "cycle_of", "merge", "merged_far", "taken", "reduced"]
theorem sc_law_mixed : FnScope N_law_mixed P_law_mixed (defScope s_law_mixed) := ⟨rfl, rfl, rfl, by decide +kernel, rfl, by decide +kernel, by decide +kernel⟩
theorem m_law_mixed : mSs ⟨N_law_mixed, F8, kws, blts, glbs⟩ (defScope s_law_mixed) (fun _ => true) d_law_mixed.body (defBody s_law_mixed) = true := by decide +kernel
abbrev s_law_titles : Stmt := top 11
def N_law_titles : List Str := ["_law_state_here", "_law_many", "_law_letters", "_law_found", "_law_at", "_law_word", "_law_spares", "_law_letter", "_law_turn", "_law_name"]
def P_law_titles : List Str := ["_law_state_here", "_law_many"]
def F9 : List Str := ["_law_mixed", "_law_pick", "_law_draw", "_law_state", "cycle_of", "merge", "merged_far", "taken", "reduced"]
theorem sc_law_titles : FnScope N_law_titles P_law_titles (defScope s_law_titles) := ⟨rfl, rfl, rfl, by decide +kernel, rfl, by decide +kernel, by decide +kernel⟩
theorem m_law_titles : mSs ⟨N_law_titles, F9, kws, blts, glbs⟩ (defScope s_law_titles) (fun _ => true) d_law_titles.body (defBody s_law_titles) = true := by decide +kernel
abbrev s_law_lists : Stmt := top 12
def N_law_lists : List Str := ["_law_state_here", "_law_names", "_law_whole", "_law_way", "_law_found", "_law_turn", "_law_other", "_law_size", "_law_name"]
def P_law_lists : List Str := ["_law_state_here", "_law_names"]
def F10 : List Str := ["_law_titles", "_law_mixed", "_law_pick", "_law_draw", "_law_state", "cycle_of", "merge", "merged_far", "taken", "reduced"]
theorem sc_law_lists : FnScope N_law_lists P_law_lists (defScope s_law_lists) := ⟨rfl, rfl, rfl, by decide +kernel, rfl, by decide +kernel, by decide +kernel⟩
theorem m_law_lists : mSs ⟨N_law_lists, F10, kws, blts, glbs⟩ (defScope s_law_lists) (fun _ => true) d_law_lists.body (defBody s_law_lists) = true := by decide +kernel
abbrev s_law_all_orders : Stmt := top 13
def N_law_all_orders : List Str := ["_law_names", "_law_found", "_law_name", "_law_longer", "_law_order", "_law_at"]
def P_law_all_orders : List Str := ["_law_names"]
def F11 : List Str := ["_law_lists", "_law_titles", "_law_mixed", "_law_pick", "_law_draw", "_law_state", "cycle_of", "merge", "merged_far", "taken", "reduced"]
theorem sc_law_all_orders : FnScope N_law_all_orders P_law_all_orders (defScope s_law_all_orders) := ⟨rfl, rfl, rfl, by decide +kernel, rfl, by decide +kernel, by decide +kernel⟩
theorem m_law_all_orders : mSs ⟨N_law_all_orders, F11, kws, blts, glbs⟩ (defScope s_law_all_orders) (fun _ => true) d_law_all_orders.body (defBody s_law_all_orders) = true := by decide +kernel
abbrev s_law_has : Stmt := top 14
def N_law_has : List Str := ["_law_order", "_law_one", "_law_name"]
def P_law_has : List Str := ["_law_order", "_law_one"]
def F12 : List Str := ["_law_all_orders", "_law_lists", "_law_titles", "_law_mixed", "_law_pick", "_law_draw", "_law_state", "cycle_of", "merge", "merged_far", "taken", "reduced"]
theorem sc_law_has : FnScope N_law_has P_law_has (defScope s_law_has) := ⟨rfl, rfl, rfl, by decide +kernel, rfl, by decide +kernel, by decide +kernel⟩
theorem m_law_has : mSs ⟨N_law_has, F12, kws, blts, glbs⟩ (defScope s_law_has) (fun _ => true) d_law_has.body (defBody s_law_has) = true := by decide +kernel
abbrev s_law_first_lists : Stmt := top 15
def N_law_first_lists : List Str := ["_law_order", "_law_lines", "_law_name", "_law_k", "_law_one"]
def P_law_first_lists : List Str := ["_law_order", "_law_lines"]
def F13 : List Str := ["_law_has", "_law_all_orders", "_law_lists", "_law_titles", "_law_mixed", "_law_pick", "_law_draw", "_law_state", "cycle_of", "merge", "merged_far", "taken", "reduced"]
theorem sc_law_first_lists : FnScope N_law_first_lists P_law_first_lists (defScope s_law_first_lists) := ⟨rfl, rfl, rfl, by decide +kernel, rfl, by decide +kernel, by decide +kernel⟩
theorem m_law_first_lists : mSs ⟨N_law_first_lists, F13, kws, blts, glbs⟩ (defScope s_law_first_lists) (fun _ => true) d_law_first_lists.body (defBody s_law_first_lists) = true := by decide +kernel
abbrev s_law : Stmt := top 16
def N_law : List Str := ["_law_script", "_law_state_here", "_law_turn", "_law_lines", "_law_names", "_law_one", "_law_good", "_law_told", "_law_due", "_law_order", "_law_name"]
def P_law : List Str := ["_law_script"]
def F14 : List Str := ["_law_first_lists", "_law_has", "_law_all_orders", "_law_lists", "_law_titles", "_law_mixed", "_law_pick", "_law_draw", "_law_state", "cycle_of", "merge", "merged_far", "taken", "reduced"]
theorem sc_law : FnScope N_law P_law (defScope s_law) := ⟨rfl, rfl, rfl, by decide +kernel, rfl, by decide +kernel, by decide +kernel⟩
theorem m_law : mSs ⟨N_law, F14, kws, blts, glbs⟩ (defScope s_law) (fun _ => true) d_law.body (defBody s_law) = true := by decide +kernel
def F15 : List Str := ["law", "_law_first_lists", "_law_has", "_law_all_orders", "_law_lists", "_law_titles", "_law_mixed", "_law_pick", "_law_draw", "_law_state", "cycle_of", "merge", "merged_far", "taken", "reduced"]
section
variable {P : Program} {w : World} {K : PySem.W.Frag} {mg : Str → Option Value} {base : Heap} {C : Cfg}
theorem L0 (hb : ∀ b ∈ blts, mg b = none) (hg : ∀ g ∈ glbs, ∃ (p : PV) (v : V) (u : Value), G0.con g = some p ∧ mg g = some u ∧ RelV v u ∧ ∀ G H, Rep C G H p v) : Lib P w K mg base C G0 F0 kws blts glbs 0 := ⟨hb, hg, fun f hf => by cases hf⟩
theorem L1 {f : Addr} {fd : FuncData} (L : Lib P w K mg base C G0 F0 kws blts glbs 0) (hC : C.P = P ∧ C.w = w ∧ C.K = K) (F : L2.Fun K "reduced" "reduced" s_reduced f fd) (hm : mg "reduced" = some (.ref f)) : Lib P w K mg base C G1 F1 kws blts glbs 1 :=
  L.step hC F sc_reduced ⟨rfl, rfl⟩ m_reduced hm (F.binds (ps := P_reduced) fun _ _ _ _ _ _ us hl => match us, hl with | [_], _ => rfl) (fun np ks perm h => by cases h) (by decide +kernel)
theorem L2 {f : Addr} {fd : FuncData} (L : Lib P w K mg base C G1 F1 kws blts glbs 1) (hC : C.P = P ∧ C.w = w ∧ C.K = K) (F : L2.Fun K "taken" "taken" s_taken f fd) (hm : mg "taken" = some (.ref f)) : Lib P w K mg base C G2 F2 kws blts glbs 2 :=
  L.step hC F sc_taken ⟨rfl, rfl⟩ m_taken hm (F.binds (ps := P_taken) fun _ _ _ _ _ _ us hl => match us, hl with | [_, _], _ => rfl) (fun np ks perm h => by cases h) (by decide +kernel)
theorem L3 {f : Addr} {fd : FuncData} (L : Lib P w K mg base C G2 F2 kws blts glbs 2) (hC : C.P = P ∧ C.w = w ∧ C.K = K) (F : L2.Fun K "merged_far" "merged_far" s_merged_far f fd) (hm : mg "merged_far" = some (.ref f)) : Lib P w K mg base C G3 F3 kws blts glbs 3 :=
  L.step hC F sc_merged_far ⟨rfl, rfl⟩ m_merged_far hm (F.binds (ps := P_merged_far) fun _ _ _ _ _ _ us hl => match us, hl with | [_], _ => rfl) (fun np ks perm h => by cases h) (by decide +kernel)
theorem L4 {f : Addr} {fd : FuncData} (L : Lib P w K mg base C G3 F3 kws blts glbs 3) (hC : C.P = P ∧ C.w = w ∧ C.K = K) (F : L2.Fun K "merge" "merge" s_merge f fd) (hm : mg "merge" = some (.ref f)) : Lib P w K mg base C G4 F4 kws blts glbs 4 :=
  L.step hC F sc_merge ⟨rfl, rfl⟩ m_merge hm (F.binds (ps := P_merge) fun _ _ _ _ _ _ us hl => match us, hl with | [_], _ => rfl) (fun np ks perm h => by cases h) (by decide +kernel)
theorem L5 {f : Addr} {fd : FuncData} (L : Lib P w K mg base C G4 F4 kws blts glbs 4) (hC : C.P = P ∧ C.w = w ∧ C.K = K) (F : L2.Fun K "cycle_of" "cycle_of" s_cycle_of f fd) (hm : mg "cycle_of" = some (.ref f)) : Lib P w K mg base C G5 F5 kws blts glbs 5 :=
  L.step hC F sc_cycle_of ⟨rfl, rfl⟩ m_cycle_of hm (F.binds (ps := P_cycle_of) fun _ _ _ _ _ _ us hl => match us, hl with | [_], _ => rfl) (fun np ks perm h => by cases h) (by decide +kernel)
theorem L6 {f : Addr} {fd : FuncData} (L : Lib P w K mg base C G5 F5 kws blts glbs 5) (hC : C.P = P ∧ C.w = w ∧ C.K = K) (F : L2.Fun K "_law_state" "_law_state" s_law_state f fd) (hm : mg "_law_state" = some (.ref f)) : Lib P w K mg base C G6 F6 kws blts glbs 6 :=
  L.step hC F sc_law_state ⟨rfl, rfl⟩ m_law_state hm (F.binds (ps := P_law_state) fun _ _ _ _ _ _ us hl => match us, hl with | [_], _ => rfl) (fun np ks perm h => by cases h) (by decide +kernel)
theorem L7 {f : Addr} {fd : FuncData} (L : Lib P w K mg base C G6 F6 kws blts glbs 6) (hC : C.P = P ∧ C.w = w ∧ C.K = K) (F : L2.Fun K "_law_draw" "_law_draw" s_law_draw f fd) (hm : mg "_law_draw" = some (.ref f)) : Lib P w K mg base C G7 F7 kws blts glbs 7 :=
  L.step hC F sc_law_draw ⟨rfl, rfl⟩ m_law_draw hm (F.binds (ps := P_law_draw) fun _ _ _ _ _ _ us hl => match us, hl with | [_, _], _ => rfl) (fun np ks perm h => by cases h) (by decide +kernel)
theorem L8 {f : Addr} {fd : FuncData} (L : Lib P w K mg base C G7 F7 kws blts glbs 7) (hC : C.P = P ∧ C.w = w ∧ C.K = K) (F : L2.Fun K "_law_pick" "_law_pick" s_law_pick f fd) (hm : mg "_law_pick" = some (.ref f)) : Lib P w K mg base C G8 F8 kws blts glbs 8 :=
  L.step hC F sc_law_pick ⟨rfl, rfl⟩ m_law_pick hm (F.binds (ps := P_law_pick) fun _ _ _ _ _ _ us hl => match us, hl with | [_, _], _ => rfl) (fun np ks perm h => by cases h) (by decide +kernel)
theorem L9 {f : Addr} {fd : FuncData} (L : Lib P w K mg base C G8 F8 kws blts glbs 8) (hC : C.P = P ∧ C.w = w ∧ C.K = K) (F : L2.Fun K "_law_mixed" "_law_mixed" s_law_mixed f fd) (hm : mg "_law_mixed" = some (.ref f)) : Lib P w K mg base C G9 F9 kws blts glbs 9 :=
  L.step hC F sc_law_mixed ⟨rfl, rfl⟩ m_law_mixed hm (F.binds (ps := P_law_mixed) fun _ _ _ _ _ _ us hl => match us, hl with | [_, _], _ => rfl) (fun np ks perm h => by cases h) (by decide +kernel)
theorem L10 {f : Addr} {fd : FuncData} (L : Lib P w K mg base C G9 F9 kws blts glbs 9) (hC : C.P = P ∧ C.w = w ∧ C.K = K) (F : L2.Fun K "_law_titles" "_law_titles" s_law_titles f fd) (hm : mg "_law_titles" = some (.ref f)) : Lib P w K mg base C G10 F10 kws blts glbs 10 :=
  L.step hC F sc_law_titles ⟨rfl, rfl⟩ m_law_titles hm (F.binds (ps := P_law_titles) fun _ _ _ _ _ _ us hl => match us, hl with | [_, _], _ => rfl) (fun np ks perm h => by cases h) (by decide +kernel)
theorem L11 {f : Addr} {fd : FuncData} (L : Lib P w K mg base C G10 F10 kws blts glbs 10) (hC : C.P = P ∧ C.w = w ∧ C.K = K) (F : L2.Fun K "_law_lists" "_law_lists" s_law_lists f fd) (hm : mg "_law_lists" = some (.ref f)) : Lib P w K mg base C G11 F11 kws blts glbs 11 :=
  L.step hC F sc_law_lists ⟨rfl, rfl⟩ m_law_lists hm (F.binds (ps := P_law_lists) fun _ _ _ _ _ _ us hl => match us, hl with | [_, _], _ => rfl) (fun np ks perm h => by cases h) (by decide +kernel)
theorem L12 {f : Addr} {fd : FuncData} (L : Lib P w K mg base C G11 F11 kws blts glbs 11) (hC : C.P = P ∧ C.w = w ∧ C.K = K) (F : L2.Fun K "_law_all_orders" "_law_all_orders" s_law_all_orders f fd) (hm : mg "_law_all_orders" = some (.ref f)) : Lib P w K mg base C G12 F12 kws blts glbs 12 :=
  L.step hC F sc_law_all_orders ⟨rfl, rfl⟩ m_law_all_orders hm (F.binds (ps := P_law_all_orders) fun _ _ _ _ _ _ us hl => match us, hl with | [_], _ => rfl) (fun np ks perm h => by cases h) (by decide +kernel)
theorem L13 {f : Addr} {fd : FuncData} (L : Lib P w K mg base C G12 F12 kws blts glbs 12) (hC : C.P = P ∧ C.w = w ∧ C.K = K) (F : L2.Fun K "_law_has" "_law_has" s_law_has f fd) (hm : mg "_law_has" = some (.ref f)) : Lib P w K mg base C G13 F13 kws blts glbs 13 :=
  L.step hC F sc_law_has ⟨rfl, rfl⟩ m_law_has hm (F.binds (ps := P_law_has) fun _ _ _ _ _ _ us hl => match us, hl with | [_, _], _ => rfl) (fun np ks perm h => by cases h) (by decide +kernel)
theorem L14 {f : Addr} {fd : FuncData} (L : Lib P w K mg base C G13 F13 kws blts glbs 13) (hC : C.P = P ∧ C.w = w ∧ C.K = K) (F : L2.Fun K "_law_first_lists" "_law_first_lists" s_law_first_lists f fd) (hm : mg "_law_first_lists" = some (.ref f)) : Lib P w K mg base C G14 F14 kws blts glbs 14 :=
  L.step hC F sc_law_first_lists ⟨rfl, rfl⟩ m_law_first_lists hm (F.binds (ps := P_law_first_lists) fun _ _ _ _ _ _ us hl => match us, hl with | [_, _], _ => rfl) (fun np ks perm h => by cases h) (by decide +kernel)
end
theorem all_mk {P : Program} {w : World} {K : PySem.W.Frag} {h : Heap} {mg : Str → Option Value} {fa f0 f1 f2 f3 f4 f5 f6 f7 f8 f9 f10 f11 f12 f13 f14 : Addr} (X : K.In h) (G : h.Ns mainGlobals mg) (hfa : mg "law" = some (.ref fa))
    {od0 an0 od1 an1 od2 an2 od3 an3 od4 an4 od5 an5 od6 an6 od7 an7 od8 an8 od9 an9 od10 an10 od11 an11 od12 an12 od13 an13 od14 an14 : Option Addr} {sl0 sl1 sl2 sl3 sl4 sl5 sl6 sl7 sl8 sl9 sl10 sl11 sl12 sl13 sl14 : Array (Option Value)} {oc0 kV0 dc0 pm0 cd0 ct0 oc1 kV1 dc1 pm1 cd1 ct1 oc2 kV2 dc2 pm2 cd2 ct2 oc3 kV3 dc3 pm3 cd3 ct3 oc4 kV4 dc4 pm4 cd4 ct4 oc5 kV5 dc5 pm5 cd5 ct5 oc6 kV6 dc6 pm6 cd6 ct6 oc7 kV7 dc7 pm7 cd7 ct7 oc8 kV8 dc8 pm8 cd8 ct8 oc9 kV9 dc9 pm9 cd9 ct9 oc10 kV10 dc10 pm10 cd10 ct10 oc11 kV11 dc11 pm11 cd11 ct11 oc12 kV12 dc12 pm12 cd12 ct12 oc13 kV13 dc13 pm13 cd13 ct13 oc14 kV14 dc14 pm14 cd14 ct14 : Value}
    (a0 : PySem.W.nsIn K mainGlobals "reduced" = some (some (.ref f0))) (l0 : K.lookup f0 = some ⟨oc0, od0, .func (PySem.W.fnOf "reduced" "reduced" (defArgs s_reduced) (defBody s_reduced) (defScope s_reduced) .none kV0 dc0 pm0 an0 cd0 ct0), sl0⟩) (c0 : PySem.W.codeIn K cd0 "reduced" = true) (k0 : PySem.W.keepIn K (.ref f0) = true)
    (a1 : PySem.W.nsIn K mainGlobals "taken" = some (some (.ref f1))) (l1 : K.lookup f1 = some ⟨oc1, od1, .func (PySem.W.fnOf "taken" "taken" (defArgs s_taken) (defBody s_taken) (defScope s_taken) .none kV1 dc1 pm1 an1 cd1 ct1), sl1⟩) (c1 : PySem.W.codeIn K cd1 "taken" = true) (k1 : PySem.W.keepIn K (.ref f1) = true)
    (a2 : PySem.W.nsIn K mainGlobals "merged_far" = some (some (.ref f2))) (l2 : K.lookup f2 = some ⟨oc2, od2, .func (PySem.W.fnOf "merged_far" "merged_far" (defArgs s_merged_far) (defBody s_merged_far) (defScope s_merged_far) .none kV2 dc2 pm2 an2 cd2 ct2), sl2⟩) (c2 : PySem.W.codeIn K cd2 "merged_far" = true) (k2 : PySem.W.keepIn K (.ref f2) = true)
    (a3 : PySem.W.nsIn K mainGlobals "merge" = some (some (.ref f3))) (l3 : K.lookup f3 = some ⟨oc3, od3, .func (PySem.W.fnOf "merge" "merge" (defArgs s_merge) (defBody s_merge) (defScope s_merge) .none kV3 dc3 pm3 an3 cd3 ct3), sl3⟩) (c3 : PySem.W.codeIn K cd3 "merge" = true) (k3 : PySem.W.keepIn K (.ref f3) = true)
    (a4 : PySem.W.nsIn K mainGlobals "cycle_of" = some (some (.ref f4))) (l4 : K.lookup f4 = some ⟨oc4, od4, .func (PySem.W.fnOf "cycle_of" "cycle_of" (defArgs s_cycle_of) (defBody s_cycle_of) (defScope s_cycle_of) .none kV4 dc4 pm4 an4 cd4 ct4), sl4⟩) (c4 : PySem.W.codeIn K cd4 "cycle_of" = true) (k4 : PySem.W.keepIn K (.ref f4) = true)
    (a5 : PySem.W.nsIn K mainGlobals "_law_state" = some (some (.ref f5))) (l5 : K.lookup f5 = some ⟨oc5, od5, .func (PySem.W.fnOf "_law_state" "_law_state" (defArgs s_law_state) (defBody s_law_state) (defScope s_law_state) .none kV5 dc5 pm5 an5 cd5 ct5), sl5⟩) (c5 : PySem.W.codeIn K cd5 "_law_state" = true) (k5 : PySem.W.keepIn K (.ref f5) = true)
    (a6 : PySem.W.nsIn K mainGlobals "_law_draw" = some (some (.ref f6))) (l6 : K.lookup f6 = some ⟨oc6, od6, .func (PySem.W.fnOf "_law_draw" "_law_draw" (defArgs s_law_draw) (defBody s_law_draw) (defScope s_law_draw) .none kV6 dc6 pm6 an6 cd6 ct6), sl6⟩) (c6 : PySem.W.codeIn K cd6 "_law_draw" = true) (k6 : PySem.W.keepIn K (.ref f6) = true)
    (a7 : PySem.W.nsIn K mainGlobals "_law_pick" = some (some (.ref f7))) (l7 : K.lookup f7 = some ⟨oc7, od7, .func (PySem.W.fnOf "_law_pick" "_law_pick" (defArgs s_law_pick) (defBody s_law_pick) (defScope s_law_pick) .none kV7 dc7 pm7 an7 cd7 ct7), sl7⟩) (c7 : PySem.W.codeIn K cd7 "_law_pick" = true) (k7 : PySem.W.keepIn K (.ref f7) = true)
    (a8 : PySem.W.nsIn K mainGlobals "_law_mixed" = some (some (.ref f8))) (l8 : K.lookup f8 = some ⟨oc8, od8, .func (PySem.W.fnOf "_law_mixed" "_law_mixed" (defArgs s_law_mixed) (defBody s_law_mixed) (defScope s_law_mixed) .none kV8 dc8 pm8 an8 cd8 ct8), sl8⟩) (c8 : PySem.W.codeIn K cd8 "_law_mixed" = true) (k8 : PySem.W.keepIn K (.ref f8) = true)
    (a9 : PySem.W.nsIn K mainGlobals "_law_titles" = some (some (.ref f9))) (l9 : K.lookup f9 = some ⟨oc9, od9, .func (PySem.W.fnOf "_law_titles" "_law_titles" (defArgs s_law_titles) (defBody s_law_titles) (defScope s_law_titles) .none kV9 dc9 pm9 an9 cd9 ct9), sl9⟩) (c9 : PySem.W.codeIn K cd9 "_law_titles" = true) (k9 : PySem.W.keepIn K (.ref f9) = true)
    (a10 : PySem.W.nsIn K mainGlobals "_law_lists" = some (some (.ref f10))) (l10 : K.lookup f10 = some ⟨oc10, od10, .func (PySem.W.fnOf "_law_lists" "_law_lists" (defArgs s_law_lists) (defBody s_law_lists) (defScope s_law_lists) .none kV10 dc10 pm10 an10 cd10 ct10), sl10⟩) (c10 : PySem.W.codeIn K cd10 "_law_lists" = true) (k10 : PySem.W.keepIn K (.ref f10) = true)
    (a11 : PySem.W.nsIn K mainGlobals "_law_all_orders" = some (some (.ref f11))) (l11 : K.lookup f11 = some ⟨oc11, od11, .func (PySem.W.fnOf "_law_all_orders" "_law_all_orders" (defArgs s_law_all_orders) (defBody s_law_all_orders) (defScope s_law_all_orders) .none kV11 dc11 pm11 an11 cd11 ct11), sl11⟩) (c11 : PySem.W.codeIn K cd11 "_law_all_orders" = true) (k11 : PySem.W.keepIn K (.ref f11) = true)
    (a12 : PySem.W.nsIn K mainGlobals "_law_has" = some (some (.ref f12))) (l12 : K.lookup f12 = some ⟨oc12, od12, .func (PySem.W.fnOf "_law_has" "_law_has" (defArgs s_law_has) (defBody s_law_has) (defScope s_law_has) .none kV12 dc12 pm12 an12 cd12 ct12), sl12⟩) (c12 : PySem.W.codeIn K cd12 "_law_has" = true) (k12 : PySem.W.keepIn K (.ref f12) = true)
    (a13 : PySem.W.nsIn K mainGlobals "_law_first_lists" = some (some (.ref f13))) (l13 : K.lookup f13 = some ⟨oc13, od13, .func (PySem.W.fnOf "_law_first_lists" "_law_first_lists" (defArgs s_law_first_lists) (defBody s_law_first_lists) (defScope s_law_first_lists) .none kV13 dc13 pm13 an13 cd13 ct13), sl13⟩) (c13 : PySem.W.codeIn K cd13 "_law_first_lists" = true) (k13 : PySem.W.keepIn K (.ref f13) = true)
    (a14 : PySem.W.nsIn K mainGlobals "law" = some (some (.ref f14))) (l14 : K.lookup f14 = some ⟨oc14, od14, .func (PySem.W.fnOf "law" "law" (defArgs s_law) (defBody s_law) (defScope s_law) .none kV14 dc14 pm14 an14 cd14 ct14), sl14⟩) (c14 : PySem.W.codeIn K cd14 "law" = true) (k14 : PySem.W.keepIn K (.ref f14) = true)
    (z0 : PySem.W.nsIn K mainGlobals "tuple" = some none)
    (z1 : PySem.W.nsIn K mainGlobals "enumerate" = some none)
    (z2 : PySem.W.nsIn K mainGlobals "abs" = some none)
    (z3 : PySem.W.nsIn K mainGlobals "len" = some none)
    (z4 : PySem.W.nsIn K mainGlobals "list" = some none)
    (z5 : PySem.W.nsIn K mainGlobals "range" = some none)
    (z6 : PySem.W.nsIn K mainGlobals "min" = some none)
    (z7 : PySem.W.nsIn K mainGlobals "sorted" = some none) :
    ∃ fd : FuncData, (∀ (s : Shared) (v : Value), BindsTo s fd ⟨[v], []⟩ [("_law_script", v)]) ∧ ∀ base : Heap, K.In base → base.Ns mainGlobals mg → FnG P w K mg base CX0 15 fa fd ["_law_script"] (spOf ⟨P, w, K, fun _ => none⟩ (d_law.ev G14)) := by
  have e := hfa.symm.trans (PySem.W.mg_of X G a14)
  cases e
  refine ⟨PySem.W.fnOf "law" "law" (defArgs s_law) (defBody s_law) (defScope s_law) .none kV14 dc14 pm14 an14 cd14 ct14, fun s v => .of_eq rfl, fun base _ _ => ?_⟩
  have hb : ∀ b ∈ blts, mg b = none := fun b hb => by
    simp only [blts, List.mem_cons, List.not_mem_nil, or_false] at hb
    rcases hb with rfl | rfl | rfl | rfl | rfl | rfl | rfl | rfl
    · exact PySem.W.mg_none_of X G z0
    · exact PySem.W.mg_none_of X G z1
    · exact PySem.W.mg_none_of X G z2
    · exact PySem.W.mg_none_of X G z3
    · exact PySem.W.mg_none_of X G z4
    · exact PySem.W.mg_none_of X G z5
    · exact PySem.W.mg_none_of X G z6
    · exact PySem.W.mg_none_of X G z7
  have hC : (⟨P, w, K, fun _ => none⟩ : Cfg).P = P ∧ (⟨P, w, K, fun _ => none⟩ : Cfg).w = w ∧ (⟨P, w, K, fun _ => none⟩ : Cfg).K = K := ⟨rfl, rfl, rfl⟩
  have hgl : ∀ g ∈ glbs, ∃ (p : PV) (v : V) (u : Value), G0.con g = some p ∧ mg g = some u ∧ RelV v u ∧ ∀ G H, Rep (⟨P, w, K, fun _ => none⟩ : Cfg) G H p v := fun g hg => by
    simp only [glbs, List.mem_cons, List.not_mem_nil, or_false] at hg
  have T0 := L0 (P := P) (w := w) (K := K) (base := base) (C := ⟨P, w, K, fun _ => none⟩) hb hgl
  have T1 := L1 T0 hC (fun_mk (st := s_reduced) l0 c0 k0) (PySem.W.mg_of X G a0)
  have T2 := L2 T1 hC (fun_mk (st := s_taken) l1 c1 k1) (PySem.W.mg_of X G a1)
  have T3 := L3 T2 hC (fun_mk (st := s_merged_far) l2 c2 k2) (PySem.W.mg_of X G a2)
  have T4 := L4 T3 hC (fun_mk (st := s_merge) l3 c3 k3) (PySem.W.mg_of X G a3)
  have T5 := L5 T4 hC (fun_mk (st := s_cycle_of) l4 c4 k4) (PySem.W.mg_of X G a4)
  have T6 := L6 T5 hC (fun_mk (st := s_law_state) l5 c5 k5) (PySem.W.mg_of X G a5)
  have T7 := L7 T6 hC (fun_mk (st := s_law_draw) l6 c6 k6) (PySem.W.mg_of X G a6)
  have T8 := L8 T7 hC (fun_mk (st := s_law_pick) l7 c7 k7) (PySem.W.mg_of X G a7)
  have T9 := L9 T8 hC (fun_mk (st := s_law_mixed) l8 c8 k8) (PySem.W.mg_of X G a8)
  have T10 := L10 T9 hC (fun_mk (st := s_law_titles) l9 c9 k9) (PySem.W.mg_of X G a9)
  have T11 := L11 T10 hC (fun_mk (st := s_law_lists) l10 c10 k10) (PySem.W.mg_of X G a10)
  have T12 := L12 T11 hC (fun_mk (st := s_law_all_orders) l11 c11 k11) (PySem.W.mg_of X G a11)
  have T13 := L13 T12 hC (fun_mk (st := s_law_has) l12 c12 k12) (PySem.W.mg_of X G a12)
  have T14 := L14 T13 hC (fun_mk (st := s_law_first_lists) l13 c13 k13) (PySem.W.mg_of X G a13)
  exact fn_ok T14 hC (fun_mk (st := s_law) l14 c14 k14) sc_law ⟨rfl, rfl⟩ m_law
theorem walk {l : PySem.W.OpenLaw} {q : Program} {loose : List Str} {XP : (Str → Option Value) → Heap → Prop} {YP : World → Heap → Prop} {d : DefRec} {K : Params → PySem.W.Frag} (hn : l.most = some 63) (hdf : d.params.defaults = [])
    (hY : ∀ (w : World) (h : Heap), YP w h → (K w.params).In h)
    (F : ∀ (w : World) (mg : Str → Option Value) (fa : Addr) (h : Heap), (K w.params).In h → h.Ns mainGlobals mg → mg d.name = some (.ref fa) →
      ∃ fd : FuncData, (∀ (s : Shared) (u : Value), BindsTo s fd ⟨[u], []⟩ [("_law_script", u)]) ∧ ∀ base : Heap, (K w.params).In base → base.Ns mainGlobals mg → FnG l.prog w (K w.params) mg base CX0 15 fa fd ["_law_script"] (spOf ⟨l.prog, w, K w.params, fun _ => none⟩ (d_law.ev G14))) :
    PySem.W.WalkO q loose XP YP l.row.toRowW d [] (fun f vs => PySem.call f vs) :=
  walkG (n := 63) (k := 15) (x := "_law_script") (CX := fun _ => CX0) (sp := fun w => spOf ⟨l.prog, w, K w.params, fun _ => none⟩ (d_law.ev G14)) hn (by decide) hdf ⟨rfl, by decide, by decide⟩ hY F (fun w H a ns hl _ hS => sp_end (C := ⟨l.prog, w, K w.params, fun _ => none⟩) hS (law_ok ns hl)) fun _ _ _ _ _ z => z
end K08
open PySem PySem.W PyProof.Rows in
set_option maxRecDepth 100000 in
set_option maxHeartbeats 0 in
theorem PySem.Challenge.cw_seekline_k08_whole_merges_among_all_orde_holds : PySem.Challenge.rw_seekline_k08_whole_merges_among_all_orde.Holds := by
  w_on; o_law; k_head; (case hw => w_witness2)
  k_fill
  refine K08.walk (l := PySem.Challenge.rw_seekline_k08_whole_merges_among_all_orde) rfl rfl (fun w h Y => PySem.W.kIn_of Y) ?F
  case F =>
    intro w mg fa h KX G hmg
    refine' K08.all_mk KX G hmg ?a0 ?l0 ?c0 ?k0 ?a1 ?l1 ?c1 ?k1 ?a2 ?l2 ?c2 ?k2 ?a3 ?l3 ?c3 ?k3 ?a4 ?l4 ?c4 ?k4 ?a5 ?l5 ?c5 ?k5 ?a6 ?l6 ?c6 ?k6 ?a7 ?l7 ?c7 ?k7 ?a8 ?l8 ?c8 ?k8 ?a9 ?l9 ?c9 ?k9 ?a10 ?l10 ?c10 ?k10 ?a11 ?l11 ?c11 ?k11 ?a12 ?l12 ?c12 ?k12 ?a13 ?l13 ?c13 ?k13 ?a14 ?l14 ?c14 ?k14 ?z0 ?z1 ?z2 ?z3 ?z4 ?z5 ?z6 ?z7
    (case a0 => k_is)
    (case l0 => k_is)
    (case c0 => k_is)
    (case k0 => k_is)
    (case a1 => k_is)
    (case l1 => k_is)
    (case c1 => k_is)
    (case k1 => k_is)
    (case a2 => k_is)
    (case l2 => k_is)
    (case c2 => k_is)
    (case k2 => k_is)
    (case a3 => k_is)
    (case l3 => k_is)
    (case c3 => k_is)
    (case k3 => k_is)
    (case a4 => k_is)
    (case l4 => k_is)
    (case c4 => k_is)
    (case k4 => k_is)
    (case a5 => k_is)
    (case l5 => k_is)
    (case c5 => k_is)
    (case k5 => k_is)
    (case a6 => k_is)
    (case l6 => k_is)
    (case c6 => k_is)
    (case k6 => k_is)
    (case a7 => k_is)
    (case l7 => k_is)
    (case c7 => k_is)
    (case k7 => k_is)
    (case a8 => k_is)
    (case l8 => k_is)
    (case c8 => k_is)
    (case k8 => k_is)
    (case a9 => k_is)
    (case l9 => k_is)
    (case c9 => k_is)
    (case k9 => k_is)
    (case a10 => k_is)
    (case l10 => k_is)
    (case c10 => k_is)
    (case k10 => k_is)
    (case a11 => k_is)
    (case l11 => k_is)
    (case c11 => k_is)
    (case k11 => k_is)
    (case a12 => k_is)
    (case l12 => k_is)
    (case c12 => k_is)
    (case k12 => k_is)
    (case a13 => k_is)
    (case l13 => k_is)
    (case c13 => k_is)
    (case k13 => k_is)
    (case a14 => k_is)
    (case l14 => k_is)
    (case c14 => k_is)
    (case k14 => k_is)
    (case z0 => k_is)
    (case z1 => k_is)
    (case z2 => k_is)
    (case z3 => k_is)
    (case z4 => k_is)
    (case z5 => k_is)
    (case z6 => k_is)
    (case z7 => k_is)
