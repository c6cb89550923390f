import PyProof.Rows.All
import Wide.All
import OpenK.AllK
import Wide.FinOn
import HandS.ForMost
import HandS.Walk
import HandS.IsInst
import HandS.Wide
import HandS.Zip
import HandS.Codes
import HandS.Conv
import HandS.NoneIn
import HandS.More
import HandS.Deep
import HandS.Style
import HandS.Text
import HandS.ForExc
import HandS.ExcInit
import HandS.ExcIs
import KE.KExcIs
import HandS.RaiseMore
import KE.GoesMore
import KE.GoesZip
import PySem.Challenge.RW_outlivers_k51_deeds_written
set_option Elab.async false
set_option linter.all false
set_option maxRecDepth 100000
set_option maxHeartbeats 4000000
/-! Data-level readings: what an expression, a statement, a def does to plain data. -/
namespace Dd
open PySem L2

abbrev Ex (F H : Hp) : Prop := ∀ a o, F a = some o → H a = some o
theorem Ex.trans {A B C : Hp} (h : Ex A B) (k : Ex B C) : Ex A C := fun a o e => k a o (h a o e)
theorem Ex.rfl' (A : Hp) : Ex A A := fun _ _ e => e

/-! ### trees: a leaf is settled data, a node a list that nobody else holds, own p t the tree t whose root is known to stand at p -/
inductive T where
  | leaf (d : PyData)
  | node (ts : List T)
  | own (p : Addr) (t : T)
mutual
def T.dat : T → PyData
  | .leaf d => d
  | .node ts => .list (T.dats ts)
  | .own _ t => t.dat
def T.dats : List T → List PyData
  | [] => []
  | t :: ts => t.dat :: T.dats ts
end
theorem dats_eq : ∀ ts : List T, T.dats ts = ts.map T.dat
  | [] => rfl
  | t :: ts => by
    show t.dat :: T.dats ts = _
    rw [dats_eq ts] <;> rfl
theorem dats_leaf : ∀ ds : List PyData, T.dats (ds.map T.leaf) = ds
  | [] => rfl
  | d :: ds => by
    show d :: T.dats (ds.map T.leaf) = _
    rw [dats_leaf ds]
abbrev int (i : Int) : T := .leaf (.int i)
abbrev boo (b : Bool) : T := .leaf (.bool b)
abbrev non : T := .leaf .none
abbrev bx : PyData := .dict []
/-- an exception that a suite holds -/
abbrev excD (a d : Addr) (n : Str) (pl : PyData) : PyData := .dict [(.int (a : Nat), .str n), (.int (d : Nat), pl)]
/-- the fields of an exception -/
def exF (n : Str) : PyData → List (Str × V)
  | .int r => [("row", .int r), ("word", .str n)]
  | _ => [("word", .str n)]

mutual
inductive Rp (b : Option Addr) (G : Hp) : V → PyData → Prop
  | non : Rp b G .non .none
  | bl (k : Bool) : Rp b G (.bl k) (.bool k)
  | int (i : Int) : Rp b G (.int i) (.int i)
  | str (x : Str) : Rp b G (.str x) (.str x)
  | lst {a : Addr} {xs : List V} {ds : List PyData} : G a = some (.lst xs) → RpAll b G xs ds → Rp b G (.ref a) (.list ds)
  | tup {a : Addr} {xs : List V} {ds : List PyData} : G a = some (.tup xs) → RpAll b G xs ds → Rp b G (.ref a) (.tuple ds)
  | box {a : Addr} : b = some a → Rp b G (.ref a) (.dict [])
  | exc {a d : Addr} {n : Str} {pl : PyData} : G d = some (.xd (exF n pl)) → Rp b G (.ref a) (.dict [(.int (a : Nat), .str n), (.int (d : Nat), pl)])
inductive RpAll (b : Option Addr) (G : Hp) : List V → List PyData → Prop
  | nil : RpAll b G [] []
  | cons {v : V} {vs : List V} {d : PyData} {ds : List PyData} : Rp b G v d → RpAll b G vs ds → RpAll b G (v :: vs) (d :: ds)
end
mutual
theorem Rp.mono {b : Option Addr} {G G' : Hp} (e : Ex G G') : ∀ {v : V} {d : PyData}, Rp b G v d → Rp b G' v d
  | _, _, .non => .non
  | _, _, .bl k => .bl k
  | _, _, .int i => .int i
  | _, _, .str x => .str x
  | _, _, .lst h r => .lst (e _ _ h) (RpAll.mono e r)
  | _, _, .tup h r => .tup (e _ _ h) (RpAll.mono e r)
  | _, _, .box h => .box h
  | _, _, .exc h => .exc (e _ _ h)
theorem RpAll.mono {b : Option Addr} {G G' : Hp} (e : Ex G G') : ∀ {vs : List V} {ds : List PyData}, RpAll b G vs ds → RpAll b G' vs ds
  | _, _, .nil => .nil
  | _, _, .cons h r => .cons (Rp.mono e h) (RpAll.mono e r)
end
theorem RpAll.len {b : Option Addr} {G : Hp} : ∀ {vs : List V} {ds : List PyData}, RpAll b G vs ds → vs.length = ds.length
  | _, _, .nil => rfl
  | _, _, .cons _ r => by simp [RpAll.len r]
theorem RpAll.get {b : Option Addr} {G : Hp} : ∀ {vs : List V} {ds : List PyData} {i : Nat} {d : PyData}, RpAll b G vs ds → ds[i]? = some d → ∃ v, vs[i]? = some v ∧ Rp b G v d
  | _, _, _, _, .nil, e => by simp at e
  | _, _, 0, _, .cons h _, e => by
    simp at e
    subst e
    exact ⟨_, rfl, h⟩
  | _, _, i + 1, d, .cons _ r, e => by
    obtain ⟨v, h1, h2⟩ := RpAll.get (i := i) (d := d) r (by simpa using e)
    exact ⟨v, by simpa using h1, h2⟩
theorem RpAll.get' {b : Option Addr} {G : Hp} {vs : List V} {ds : List PyData} {i : Nat} {v : V} (h : RpAll b G vs ds) (e : vs[i]? = some v) : ∃ d, ds[i]? = some d ∧ Rp b G v d := by
  have hl := h.len
  have hi := (List.getElem?_eq_some_iff.mp e).1
  obtain ⟨v', e', r⟩ := h.get (i := i) (d := ds[i]'(by omega)) (List.getElem?_eq_getElem _)
  rw [e] at e'
  cases e'
  exact ⟨_, List.getElem?_eq_getElem _, r⟩
theorem RpAll.append {b : Option Addr} {G : Hp} : ∀ {vs ws : List V} {ds es : List PyData}, RpAll b G vs ds → RpAll b G ws es → RpAll b G (vs ++ ws) (ds ++ es)
  | _, _, _, _, .nil, h => h
  | _, _, _, _, .cons h r, k => .cons h (RpAll.append r k)
theorem RpAll.take {b : Option Addr} {G : Hp} : ∀ {vs : List V} {ds : List PyData} (n : Nat), RpAll b G vs ds → RpAll b G (vs.take n) (ds.take n)
  | _, _, 0, _ => .nil
  | _, _, _ + 1, .nil => .nil
  | _, _, n + 1, .cons h r => .cons h (RpAll.take n r)
theorem RpAll.drop {b : Option Addr} {G : Hp} : ∀ {vs : List V} {ds : List PyData} (n : Nat), RpAll b G vs ds → RpAll b G (vs.drop n) (ds.drop n)
  | _, _, 0, r => r
  | _, _, _ + 1, .nil => .nil
  | _, _, n + 1, .cons _ r => RpAll.drop n r

/-! ### the draw box, what is good, a step -/
def BoxOk (K : PySem.W.Frag) (G H : Hp) (a : Addr) : Prop :=
  ∃ (c : Addr) (cells : List Int) (pos : Nat) (rest seed : Int), H a = some (.lst [.ref c, .int pos, .int rest, .int seed]) ∧ G c = some (.lst (cells.map V.int)) ∧ cells.length ≤ 63 ∧ pos ≤ 63 ∧ 0 ≤ rest ∧ 0 ≤ seed ∧ seed < 2147483629
structure Good (K : PySem.W.Frag) (b : Option Addr) (G H : Hp) : Prop where
  ex : Ex G H
  box : ∀ a, b = some a → G a = none ∧ BoxOk K G H a
/-- the cells' list of the box -/
def boxc (H : Hp) (a : Addr) : Option V := match H a with
  | some (.lst xs) => xs[0]?
  | _ => none
structure Stp (K : PySem.W.Frag) (b : Option Addr) (G H G' H' : Hp) : Prop where
  ex : Ex G G'
  good : Good K b G' H'
  keep : ∀ a o, b ≠ some a → H a = some o → H' a = some o
  out : ∀ a o, G a = none → H a = some o → G' a = none
  cel : ∀ a, b = some a → boxc H' a = boxc H a
theorem boxc_eq {H H' : Hp} {a : Addr} (h : H' a = H a) : boxc H' a = boxc H a := by unfold boxc; rw [h]
section
variable {K : PySem.W.Frag} {b : Option Addr} {G H G' H' G2 H2 : Hp}
theorem Good.stp (h : Good K b G H) : Stp K b G H G H := ⟨Ex.rfl' _, h, fun _ _ _ e => e, fun _ _ e _ => e, fun _ _ => rfl⟩
theorem Stp.there (h : Stp K b G H G' H') (g : Good K b G H) {a : Addr} {o : HO} (e : H a = some o) : ∃ o', H' a = some o' := by
  by_cases c : b = some a
  · obtain ⟨_, _, _, _, _, _, q, _⟩ := h.good.box a c
    exact ⟨_, q⟩
  · exact ⟨o, h.keep a o c e⟩
theorem Stp.trans (g : Good K b G H) (h : Stp K b G H G' H') (k : Stp K b G' H' G2 H2) : Stp K b G H G2 H2 :=
  ⟨h.ex.trans k.ex, k.good, fun a o c e => k.keep a o c (h.keep a o c e), fun a o n e => by
    obtain ⟨o', e'⟩ := h.there g e
    exact k.out a o' (h.out a o n e) e', fun a c => (k.cel a c).trans (h.cel a c)⟩
/-- what was fresh behind is fresh ahead -/
theorem Stp.free (h : Stp K b G H G' H') (g : Good K b G H) {a : Addr} (e : H' a = none) : H a = none := by
  cases q : H a with
  | none => rfl
  | some o =>
    obtain ⟨o', e'⟩ := h.there g q
    rw [e] at e'
    cases e'
/-- a new object, settled -/
theorem Good.new (g : Good K b G H) {p : Addr} (o : HO) (hp : H p = none) : Stp K b G H (upd G p o) (upd H p o) ∧ G p = none := by
  have gp : G p = none := by
    cases q : G p with
    | none => rfl
    | some u =>
      rw [g.ex p u q] at hp
      cases hp
  have nbp : ∀ a, b = some a → a ≠ p := fun a c => by
    obtain ⟨_, _, _, _, _, _, h1, _⟩ := g.box a c
    exact ne_of_none h1 hp
  refine ⟨⟨fun a u e => ?_, ⟨fun a u e => ?_, fun a c => ?_⟩, fun a u _ e => ?_, fun a u n e => ?_, fun a c => boxc_eq (upd_ne (nbp a c))⟩, gp⟩
  · rw [upd_ne (ne_of_none e gp)]
    exact e
  · by_cases c : a = p
    · subst c
      rw [upd_same] at e ⊢
      exact e
    · rw [upd_ne c] at e ⊢
      exact g.ex a u e
  · obtain ⟨n, cc, cells, pos, rest, seed, h1, h2, h3⟩ := g.box a c
    have na : a ≠ p := ne_of_none h1 hp
    exact ⟨by rw [upd_ne na]; exact n, cc, cells, pos, rest, seed, by rw [upd_ne na]; exact h1, by rw [upd_ne (ne_of_none h2 gp)]; exact h2, h3⟩
  · rw [upd_ne (ne_of_none e hp)]
    exact e
  · rw [upd_ne (ne_of_none e hp)]
    exact n
/-- a new object that is not settled -/
theorem Good.own (g : Good K b G H) {p : Addr} (o : HO) (hp : H p = none) : Stp K b G H G (upd H p o) := by
  have nbp : ∀ a, b = some a → a ≠ p := fun a c => by
    obtain ⟨_, _, _, _, _, _, h1, _⟩ := g.box a c
    exact ne_of_none h1 hp
  refine ⟨fun a u e => e, ⟨fun a u e => ?_, fun a c => ?_⟩, fun a u _ e => ?_, fun a u n e => n, fun a c => boxc_eq (upd_ne (nbp a c))⟩
  · rw [upd_ne (ne_of_none (g.ex a u e) hp)]
    exact g.ex a u e
  · obtain ⟨n, cc, cells, pos, rest, seed, h1, h2, h3⟩ := g.box a c
    exact ⟨n, cc, cells, pos, rest, seed, by rw [upd_ne (ne_of_none h1 hp)]; exact h1, h2, h3⟩
  · rw [upd_ne (ne_of_none e hp)]
    exact e
end

/-! ### how a tree lies -/
mutual
inductive Tr (b : Option Addr) (G H : Hp) : List Addr → V → T → Prop
  | leaf {v : V} {d : PyData} : Rp b G v d → Tr b G H [] v (.leaf d)
  | node {p : Addr} {fp : List Addr} {vs : List V} {ts : List T} : H p = some (.lst vs) → G p = none → b ≠ some p → TrAll b G H fp vs ts → p ∉ fp → Tr b G H (p :: fp) (.ref p) (.node ts)
  | own {p : Addr} {fp : List Addr} {t : T} : Tr b G H fp (.ref p) t → Tr b G H fp (.ref p) (.own p t)
inductive TrAll (b : Option Addr) (G H : Hp) : List Addr → List V → List T → Prop
  | nil : TrAll b G H [] [] []
  | cons {fp fq : List Addr} {v : V} {vs : List V} {t : T} {ts : List T} : Tr b G H fp v t → TrAll b G H fq vs ts → (∀ a, a ∈ fp → a ∉ fq) → TrAll b G H (fp ++ fq) (v :: vs) (t :: ts)
end
mutual
theorem Tr.mem {b : Option Addr} {G H : Hp} : ∀ {fp : List Addr} {v : V} {t : T}, Tr b G H fp v t → ∀ a, a ∈ fp → G a = none ∧ b ≠ some a ∧ ∃ o, H a = some o
  | _, _, _, .leaf _, a, h => nomatch h
  | _, _, _, .node (fp := fp) hp gp bp r n, a, h => (List.mem_cons.mp h).elim (fun e => by subst e; exact ⟨gp, bp, _, hp⟩) fun h => TrAll.mem r a h
  | _, _, _, .own h, a, m => Tr.mem h a m
theorem TrAll.mem {b : Option Addr} {G H : Hp} : ∀ {fp : List Addr} {vs : List V} {ts : List T}, TrAll b G H fp vs ts → ∀ a, a ∈ fp → G a = none ∧ b ≠ some a ∧ ∃ o, H a = some o
  | _, _, _, .nil, a, h => nomatch h
  | _, _, _, .cons q r d, a, h => (List.mem_append.mp h).elim (fun h => Tr.mem q a h) fun h => TrAll.mem r a h
end
mutual
theorem Tr.move {b : Option Addr} {G H G' H' : Hp} (e : Ex G G') : ∀ {fp : List Addr} {v : V} {t : T}, Tr b G H fp v t → (∀ a, a ∈ fp → G' a = none ∧ H' a = H a) → Tr b G' H' fp v t
  | _, _, _, .leaf h, _ => .leaf (h.mono e)
  | _, _, _, .node hp gp bp r n, k => .node (by rw [(k _ (List.mem_cons_self ..)).2]; exact hp) (k _ (List.mem_cons_self ..)).1 bp (TrAll.move e r fun a h => k a (List.mem_cons_of_mem _ h)) n
  | _, _, _, .own h, k => .own (Tr.move e h k)
theorem TrAll.move {b : Option Addr} {G H G' H' : Hp} (e : Ex G G') : ∀ {fp : List Addr} {vs : List V} {ts : List T}, TrAll b G H fp vs ts → (∀ a, a ∈ fp → G' a = none ∧ H' a = H a) → TrAll b G' H' fp vs ts
  | _, _, _, .nil, _ => .nil
  | _, _, _, .cons q r d, k => .cons (Tr.move e q fun a h => k a (List.mem_append_left _ h)) (TrAll.move e r fun a h => k a (List.mem_append_right _ h)) d
end
mutual
theorem Tr.settle {b : Option Addr} {G H G' : Hp} (e : Ex G G') : ∀ {fp : List Addr} {v : V} {t : T}, Tr b G H fp v t → (∀ a, a ∈ fp → G' a = H a) → Rp b G' v t.dat
  | _, _, _, .leaf h, _ => h.mono e
  | _, _, _, .node hp gp bp r n, k => .lst (by rw [k _ (List.mem_cons_self ..)]; exact hp) (TrAll.settle e r fun a h => k a (List.mem_cons_of_mem _ h))
  | _, _, .own _ t, .own h, k => show Rp b G' _ (T.dat t) from Tr.settle e h k
theorem TrAll.settle {b : Option Addr} {G H G' : Hp} (e : Ex G G') : ∀ {fp : List Addr} {vs : List V} {ts : List T}, TrAll b G H fp vs ts → (∀ a, a ∈ fp → G' a = H a) → RpAll b G' vs (T.dats ts)
  | _, _, _, .nil, _ => .nil
  | _, _, _, .cons q r d, k => .cons (Tr.settle e q fun a h => k a (List.mem_append_left _ h)) (TrAll.settle e r fun a h => k a (List.mem_append_right _ h))
end
theorem TrAll.len {b : Option Addr} {G H : Hp} : ∀ {fp : List Addr} {vs : List V} {ts : List T}, TrAll b G H fp vs ts → vs.length = ts.length
  | _, _, _, .nil => rfl
  | _, _, _, .cons _ r _ => by simp [TrAll.len r]
theorem TrAll.leaves {b : Option Addr} {G H : Hp} : ∀ {vs : List V} {ds : List PyData}, RpAll b G vs ds → TrAll b G H [] vs (ds.map T.leaf)
  | _, _, .nil => .nil
  | _, _, .cons h r => TrAll.cons (fp := []) (fq := []) (.leaf h) (TrAll.leaves r) fun _ z => nomatch z
theorem TrAll.snoc {b : Option Addr} {G H : Hp} {fq : List Addr} {v : V} {t : T} : ∀ {fp : List Addr} {vs : List V} {ts : List T}, TrAll b G H fp vs ts → Tr b G H fq v t → (∀ a, a ∈ fp → a ∉ fq) → ∃ fr, TrAll b G H fr (vs ++ [v]) (ts ++ [t]) ∧ ∀ a, a ∈ fr → a ∈ fp ∨ a ∈ fq
  | _, _, _, .nil, h, _ => ⟨fq ++ [], .cons h .nil (fun _ _ z => nomatch z), fun a z => .inr (by simpa using z)⟩
  | _, _, _, .cons (fp := f1) (fq := f2) q r d, h, k => by
    obtain ⟨fr, h1, h2⟩ := TrAll.snoc r h fun a z => k a (List.mem_append_right _ z)
    refine ⟨f1 ++ fr, .cons q h1 fun a z y => ?_, fun a z => ?_⟩
    · rcases h2 a y with y | y
      · exact d a z y
      · exact k a (List.mem_append_left _ z) y
    · rcases List.mem_append.mp z with z | z
      · exact .inl (List.mem_append_left _ z)
      · rcases h2 a z with y | y
        · exact .inl (List.mem_append_right _ y)
        · exact .inr y
theorem TrAll.setLeaf {b : Option Addr} {G H : Hp} {v : V} {d : PyData} (h : Rp b G v d) : ∀ {fp : List Addr} {vs : List V} {ts : List T} (i : Nat), TrAll b G H fp vs ts → ∃ fr, TrAll b G H fr (vs.set i v) (ts.set i (.leaf d)) ∧ ∀ a, a ∈ fr → a ∈ fp
  | _, _, _, _, .nil => ⟨[], .nil, fun _ z => z⟩
  | _, _, _, 0, .cons (fp := f1) (fq := f2) q r k => ⟨[] ++ f2, .cons (.leaf h) r (fun _ z => nomatch z), fun a z => List.mem_append_right _ (by simpa using z)⟩
  | _, _, _, i + 1, .cons (fp := f1) (fq := f2) q r k => by
    obtain ⟨fr, h1, h2⟩ := TrAll.setLeaf h i r
    exact ⟨f1 ++ fr, .cons q h1 fun a z y => k a z (h2 a y), fun a z => (List.mem_append.mp z).elim (fun z => List.mem_append_left _ z) fun z => List.mem_append_right _ (h2 a z)⟩

/-- settled -/
def addF (G H : Hp) (fp : List Addr) : Hp := fun a => if a ∈ fp then H a else G a
section
variable {K : PySem.W.Frag} {b : Option Addr} {G H G' H' : Hp} {fp : List Addr}
theorem addF_in {a : Addr} (h : a ∈ fp) : addF G H fp a = H a := if_pos h
theorem addF_out {a : Addr} (h : a ∉ fp) : addF G H fp a = G a := if_neg h
theorem addF_ex (k : ∀ a, a ∈ fp → G a = none) : Ex G (addF G H fp) := fun a o e => by
  by_cases h : a ∈ fp
  · rw [k a h] at e
    cases e
  · rw [addF_out h]
    exact e
theorem addF_good (g : Good K b G H) (k : ∀ a, a ∈ fp → G a = none ∧ b ≠ some a) : Good K b (addF G H fp) H := by
  refine ⟨fun a o e => ?_, fun a c => ?_⟩
  · by_cases h : a ∈ fp
    · rw [addF_in h] at e
      exact e
    · rw [addF_out h] at e
      exact g.ex a o e
  · obtain ⟨n, cc, cells, pos, rest, seed, h1, h2, h3⟩ := g.box a c
    have na : a ∉ fp := fun h => (k a h).2 c
    exact ⟨by rw [addF_out na]; exact n, cc, cells, pos, rest, seed, h1, addF_ex (fun a h => (k a h).1) _ _ h2, h3⟩
end
end Dd
namespace Dd
open PySem L2
/-! ### slots -/
abbrev Rho := List (Option T)
structure Env (b : Option Addr) (B G H : Hp) (σ : L2.St) (ρ : Rho) : Prop where
  len : σ.length = ρ.length
  ex : ∃ fps : Nat → List Addr, (∀ (i : Nat) t, ρ[i]? = some (some t) → ∃ v, σ[i]? = some (some v) ∧ Tr b G H (fps i) v t) ∧
    (∀ i a, a ∈ fps i → B a = none ∧ G a = none ∧ b ≠ some a ∧ ∃ o, H a = some o) ∧ ∀ i j a, i ≠ j → a ∈ fps i → a ∉ fps j
section
variable {K : PySem.W.Frag} {b : Option Addr} {B G H G' H' : Hp} {σ : L2.St} {ρ : Rho}
theorem Env.stp (E : Env b B G H σ ρ) (h : Stp K b G H G' H') : Env b B G' H' σ ρ := by
  obtain ⟨hl, fps, h1, h2, h3⟩ := E
  have kk : ∀ i a, a ∈ fps i → G' a = none ∧ H' a = H a := fun i a m => by
    obtain ⟨_, g, c, o, e⟩ := h2 i a m
    exact ⟨h.out a o g e, by rw [e]; exact h.keep a o c e⟩
  refine ⟨hl, fps, fun i t e => ?_, fun i a m => ?_, h3⟩
  · obtain ⟨v, e1, tr⟩ := h1 i t e
    exact ⟨v, e1, tr.move h.ex fun a m => kk i a m⟩
  · obtain ⟨z, g, c, o, e⟩ := h2 i a m
    exact ⟨z, (kk i a m).1, c, o, by rw [(kk i a m).2]; exact e⟩

/-- a new tree at a slot: its addresses were free in Hb, where all trees of the slots stood -/
theorem Env.put {Hb : Hp} {fp : List Addr} {v : V} {t : T} (E : Env b B G Hb σ ρ) (k : ∀ a o, b ≠ some a → Hb a = some o → H a = some o) (i : Nat) (tr : Tr b G H fp v t) (fr : ∀ a, a ∈ fp → Hb a = none) (sub : ∀ a, Hb a = none → B a = none) : Env b B G H (σ.set i (some v)) (ρ.set i (some t)) := by
  obtain ⟨hl, fps, h1, h2, h3⟩ := E
  refine ⟨by rw [List.length_set, List.length_set]; exact hl, fun j => if j = i then fp else fps j, fun j u e => ?_, fun j a m => ?_, fun j j' a n m => ?_⟩
  · by_cases c : j = i
    · subst c
      have hi : j < ρ.length := by
        have := (List.getElem?_eq_some_iff.mp e).1
        rw [List.length_set] at this
        exact this
      rw [List.getElem?_set_self hi] at e
      cases e
      exact ⟨v, by rw [List.getElem?_set_self (by rw [hl]; exact hi)], by simp only [if_pos]; exact tr⟩
    · rw [List.getElem?_set_ne (Ne.symm c)] at e ⊢
      obtain ⟨w, e1, q⟩ := h1 j u e
      refine ⟨w, e1, ?_⟩
      simp only [if_neg c]
      exact q.move (Ex.rfl' _) fun a m => by
        obtain ⟨_, g, cc, o, e⟩ := h2 j a m
        exact ⟨g, by rw [e]; exact k a o cc e⟩
  · by_cases c : j = i
    · simp only [if_pos c] at m
      obtain ⟨g, cc, o⟩ := tr.mem a m
      exact ⟨sub a (fr a m), g, cc, o⟩
    · simp only [if_neg c] at m
      obtain ⟨z, g, cc, o, e⟩ := h2 j a m
      exact ⟨z, g, cc, o, k a o cc e⟩
  · by_cases c : j = i
    · simp only [if_pos c] at m
      have c' : j' ≠ i := fun q => n (c.trans q.symm)
      simp only [if_neg c']
      intro q
      obtain ⟨_, _, _, o, e⟩ := h2 j' a q
      rw [fr a m] at e
      cases e
    · simp only [if_neg c] at m
      by_cases c' : j' = i
      · simp only [if_pos c']
        intro q
        obtain ⟨_, _, _, o, e⟩ := h2 j a m
        rw [fr a q] at e
        cases e
      · simp only [if_neg c']
        exact h3 j j' a n m
theorem Env.leaf {v : V} {d : PyData} (E : Env b B G H σ ρ) (i : Nat) (r : Rp b G v d) : Env b B G H (σ.set i (some v)) (ρ.set i (some (.leaf d))) := by
  obtain ⟨hl, fps, h1, h2, h3⟩ := E
  refine ⟨by rw [List.length_set, List.length_set]; exact hl, fun j => if j = i then [] else fps j, fun j u e => ?_, fun j a m => ?_, fun j j' a n m => ?_⟩
  · by_cases c : j = i
    · subst c
      have hi : j < ρ.length := by
        have := (List.getElem?_eq_some_iff.mp e).1
        rw [List.length_set] at this
        exact this
      rw [List.getElem?_set_self hi] at e
      cases e
      exact ⟨v, by rw [List.getElem?_set_self (by rw [hl]; exact hi)], by simp only [if_pos]; exact .leaf r⟩
    · rw [List.getElem?_set_ne (Ne.symm c)] at e ⊢
      obtain ⟨w, e1, q⟩ := h1 j u e
      exact ⟨w, e1, by simp only [if_neg c]; exact q⟩
  · by_cases c : j = i
    · simp only [if_pos c] at m
      cases m
    · simp only [if_neg c] at m
      exact h2 j a m
  · by_cases c : j = i
    · simp only [if_pos c] at m
      cases m
    · simp only [if_neg c] at m
      by_cases c' : j' = i
      · simp only [if_pos c']
        exact fun q => nomatch q
      · simp only [if_neg c']
        exact h3 j j' a n m
/-- a slot's tree, taken out of its slot: settled -/
theorem Env.settle {i : Nat} {t : T} (E : Env b B G H σ ρ) (g : Good K b G H) (e : ρ[i]? = some (some t)) : ∃ fp v, σ[i]? = some (some v) ∧ Tr b G H fp v t ∧ (∀ a, a ∈ fp → B a = none) ∧ Rp b (addF G H fp) v t.dat ∧ Good K b (addF G H fp) H ∧ Ex G (addF G H fp) ∧ Env b B (addF G H fp) H σ (ρ.set i (some (.leaf t.dat))) := by
  obtain ⟨hl, fps, h1, h2, h3⟩ := E
  obtain ⟨v, e1, tr⟩ := h1 i t e
  have ex : Ex G (addF G H (fps i)) := addF_ex fun a m => (h2 i a m).2.1
  have rp : Rp b (addF G H (fps i)) v t.dat := tr.settle ex fun a m => addF_in m
  refine ⟨fps i, v, e1, tr, fun a m => (h2 i a m).1, rp, addF_good g (fun a m => ⟨(h2 i a m).2.1, (h2 i a m).2.2.1⟩), ex, ?_⟩
  refine ⟨by rw [List.length_set]; exact hl, fun j => if j = i then [] else fps j, fun j u q => ?_, fun j a m => ?_, fun j j' a n m => ?_⟩
  · by_cases c : j = i
    · subst c
      have hi : j < ρ.length := (List.getElem?_eq_some_iff.mp e).1
      rw [List.getElem?_set_self hi] at q
      cases q
      exact ⟨v, e1, by simp only [if_pos]; exact .leaf rp⟩
    · rw [List.getElem?_set_ne (Ne.symm c)] at q
      obtain ⟨w, e2, tr2⟩ := h1 j u q
      refine ⟨w, e2, ?_⟩
      simp only [if_neg c]
      exact tr2.move ex fun a m => ⟨by rw [addF_out (h3 j i a c m)]; exact (h2 j a m).2.1, rfl⟩
  · by_cases c : j = i
    · simp only [if_pos c] at m
      cases m
    · simp only [if_neg c] at m
      obtain ⟨z, g', cc, o⟩ := h2 j a m
      exact ⟨z, by rw [addF_out (h3 j i a c m)]; exact g', cc, o⟩
  · by_cases c : j = i
    · simp only [if_pos c] at m
      cases m
    · simp only [if_neg c] at m
      by_cases c' : j' = i
      · simp only [if_pos c']
        exact fun q => nomatch q
      · simp only [if_neg c']
        exact h3 j j' a n m
end

/-! ### readings of data -/
/-- what is told of an exception: its class's name, what it bears -/
abbrev XP := Str → PyData → Prop
abbrev WE := XP → Rho → (T → Prop) → Prop
abbrev WA := XP → Rho → (List PyData → Prop) → Prop
abbrev WT := XP → Rho → (Bool → Prop) → Prop
structure Ctl where
  nx : Rho → Prop
  rt : T → Prop
  bk : Rho → Prop := fun _ => False
  ct : Rho → Prop := fun _ => False
  xc : Rho → XP := fun _ _ _ => False
abbrev WS := Ctl → Rho → Prop
abbrev SX := L2.St → XK

/-- where an expression stands -/
structure Here (K : PySem.W.Frag) (b : Option Addr) (B G H : Hp) (σ : L2.St) (ρ : Rho) : Prop where
  good : Good K b G H
  env : Env b B G H σ ρ
  sub : ∀ a, H a = none → B a = none
/-- what an exception comes to -/
def XC (K : PySem.W.Frag) (mg : Str → Option Value) (E : XK) (b : Option Addr) (G H : Hp) (xp : XP) : Prop :=
  ∀ (n : Str) (pl : PyData) (C d : Addr) (G' H' : Hp), xp n pl → mg n = some (.ref C) → G' d = some (.xd (exF n pl)) → Stp K b G H G' H' → E (.ref C) (some d) H'
structure Site (K : PySem.W.Frag) (mg : Str → Option Value) (E : XK) (b : Option Addr) (B G H : Hp) (σ : L2.St) (ρ : Rho) (xp : XP) : Prop extends Here K b B G H σ ρ where
  xc : XC K mg E b G H xp
def Ktn (K : PySem.W.Frag) (b : Option Addr) (G H : Hp) (P : T → Prop) (Q : VK) : Prop := ∀ (G' H' : Hp) (v : V) (t : T) (fp : List Addr), P t → Stp K b G H G' H' → Tr b G' H' fp v t → (∀ a, a ∈ fp → H a = none) → Q v H'
def tOf (K : PySem.W.Frag) (mg : Str → Option Value) (E : SX) (w : WE) : TE := fun σ H Q => ∃ (b : Option Addr) (B G : Hp) (ρ : Rho) (xp : XP) (P : T → Prop), w xp ρ P ∧ Site K mg (E σ) b B G H σ ρ xp ∧ Ktn K b G H P Q
def aOf (K : PySem.W.Frag) (mg : Str → Option Value) (E : SX) (w : WA) : TA := fun σ H Q => ∃ (b : Option Addr) (B G : Hp) (ρ : Rho) (xp : XP) (P : List PyData → Prop), w xp ρ P ∧ Site K mg (E σ) b B G H σ ρ xp ∧ ∀ (G' H' : Hp) (vs : List V) (ds : List PyData), P ds → Stp K b G H G' H' → RpAll b G' vs ds → Q vs H'
def ttOf (K : PySem.W.Frag) (mg : Str → Option Value) (E : SX) (w : WT) : TT := fun σ H Q => ∃ (b : Option Addr) (B G : Hp) (ρ : Rho) (xp : XP) (P : Bool → Prop), w xp ρ P ∧ Site K mg (E σ) b B G H σ ρ xp ∧ ∀ (G' H' : Hp) (k : Bool), P k → Stp K b G H G' H' → Q k H'
/-- settled values -/
def tOfD (K : PySem.W.Frag) (mg : Str → Option Value) (E : SX) (w : WE) : TE := fun σ H Q => ∃ (b : Option Addr) (B G : Hp) (ρ : Rho) (xp : XP) (P : PyData → Prop), w xp ρ (fun t => P t.dat) ∧ Site K mg (E σ) b B G H σ ρ xp ∧
  ∀ (G' H' : Hp) (v : V) (d : PyData), P d → Stp K b G H G' H' → Site K mg (E σ) b B G' H' σ ρ xp → Rp b G' v d → Q v H'
section
variable {K : PySem.W.Frag} {mg : Str → Option Value} {E : SX} {b : Option Addr} {B G H G' H' : Hp} {σ : L2.St} {ρ : Rho} {xp : XP}
theorem Here.stp (h : Here K b B G H σ ρ) (s : Stp K b G H G' H') : Here K b B G' H' σ ρ := ⟨s.good, h.env.stp s, fun a e => h.sub a (s.free h.good e)⟩
theorem XC.stp {E : XK} (h : XC K mg E b G H xp) (g : Good K b G H) (s : Stp K b G H G' H') : XC K mg E b G' H' xp := fun n pl C d G2 H2 x m e s2 => h n pl C d G2 H2 x m e (s.trans g s2)
theorem Site.stp {E : XK} (h : Site K mg E b B G H σ ρ xp) (s : Stp K b G H G' H') : Site K mg E b B G' H' σ ρ xp := ⟨h.toHere.stp s, h.xc.stp h.good s⟩
/-- a result settles -/
theorem Stp.settle {fp : List Addr} {v : V} {t : T} (g : Good K b G H) (s : Stp K b G H G' H') (tr : Tr b G' H' fp v t) (fr : ∀ a, a ∈ fp → H a = none) : Stp K b G H (addF G' H' fp) H' ∧ Rp b (addF G' H' fp) v t.dat := by
  have m := tr.mem
  have ex : Ex G' (addF G' H' fp) := addF_ex fun a z => (m a z).1
  refine ⟨⟨s.ex.trans ex, addF_good s.good fun a z => ⟨(m a z).1, (m a z).2.1⟩, s.keep, fun a o n e => ?_, s.cel⟩, tr.settle ex fun a z => addF_in z⟩
  have na : a ∉ fp := fun z => by
    rw [fr a z] at e
    cases e
  rw [addF_out na]
  exact s.out a o n e
theorem tOfD_of {w : WE} {Q : VK} (h : tOfD K mg E w σ H Q) : tOf K mg E w σ H Q := by
  obtain ⟨b, B, G, ρ, xp, P, hw, hr, k⟩ := h
  refine ⟨b, B, G, ρ, xp, _, hw, hr, fun G' H' v t fp hP s tr fr => ?_⟩
  obtain ⟨s', rp⟩ := s.settle hr.good tr fr
  exact k _ _ _ _ hP s' (hr.stp s') rp
theorem Ktn.leaf {P : T → Prop} {Q : VK} (k : Ktn K b G H P Q) (g : Good K b G H) {v : V} {d : PyData} (p : P (.leaf d)) (r : Rp b G v d) : Q v H := k G H v _ [] p g.stp (.leaf r) fun _ z => nomatch z
theorem Ktn.stp {P : T → Prop} {Q : VK} (k : Ktn K b G H P Q) (g : Good K b G H) (s : Stp K b G H G' H') : Ktn K b G' H' P Q := fun G2 H2 v t fp hp s2 tr fr => k G2 H2 v t fp hp (s.trans g s2) tr fun a m => s.free g (fr a m)
end
/-! ### all slots settled for a while -/
def frzR (ρ : Rho) : Rho := ρ.map (Option.map fun t => T.leaf t.dat)
open Classical in
noncomputable def addA (G H : Hp) (fps : Nat → List Addr) : Hp := fun a => if ∃ i, a ∈ fps i then H a else G a
theorem addA_in {G H : Hp} {fps : Nat → List Addr} {a : Addr} (h : ∃ i, a ∈ fps i) : addA G H fps a = H a := if_pos h
theorem addA_out {G H : Hp} {fps : Nat → List Addr} {a : Addr} (h : ¬ ∃ i, a ∈ fps i) : addA G H fps a = G a := if_neg h
theorem Here.borrow {K : PySem.W.Frag} {b : Option Addr} {B G H : Hp} {σ : L2.St} {ρ : Rho} (h : Here K b B G H σ ρ) : ∃ G1, Ex G G1 ∧ Here K b B G1 H σ (frzR ρ) := by
  obtain ⟨hl, fps, h1, h2, h3⟩ := h.env
  have ex : Ex G (addA G H fps) := fun a o e => by
    by_cases c : ∃ i, a ∈ fps i
    · obtain ⟨i, m⟩ := c
      rw [(h2 i a m).2.1] at e
      cases e
    · rw [addA_out c]
      exact e
  refine ⟨addA G H fps, ex, ⟨fun a o e => ?_, fun a c => ?_⟩, ⟨by unfold frzR; rw [List.length_map]; exact hl, fun _ => [], fun i t e => ?_, (fun i a m => by cases m), fun i j a n m => by cases m⟩, h.sub⟩
  · by_cases c : ∃ i, a ∈ fps i
    · rw [addA_in c] at e
      exact e
    · rw [addA_out c] at e
      exact h.good.ex a o e
  · obtain ⟨n, cc, cells, pos, rest, seed, q1, q2, q3⟩ := h.good.box a c
    have na : ¬ ∃ i, a ∈ fps i := fun ⟨i, m⟩ => (h2 i a m).2.2.1 c
    exact ⟨by rw [addA_out na]; exact n, cc, cells, pos, rest, seed, q1, ex _ _ q2, q3⟩
  · unfold frzR at e
    rw [List.getElem?_map] at e
    cases q : ρ[i]? with
    | none =>
      rw [q] at e
      cases e
    | some u =>
      rw [q] at e
      cases u with
      | none => cases e
      | some u =>
        cases e
        obtain ⟨v, ev, tr⟩ := h1 i u q
        exact ⟨v, ev, .leaf (tr.settle ex fun a m => addA_in ⟨i, m⟩)⟩
/-- back out of it: nothing but the heap has grown -/
theorem Stp.back {K : PySem.W.Frag} {b : Option Addr} {G G1 G2 H H2 : Hp} (g : Good K b G H) (ex : Ex G G1) (s : Stp K b G1 H G2 H2) : Stp K b G H G H2 := by
  refine ⟨Ex.rfl' _, ⟨fun a o e => s.good.ex a o (s.ex a o (ex a o e)), fun a c => ?_⟩, s.keep, fun a o n _ => n, s.cel⟩
  obtain ⟨n, cc, cells, pos, rest, seed, q1, q2, q3⟩ := g.box a c
  obtain ⟨n', cc', cells', pos', rest', seed', q1', q2', _, q3'⟩ := s.good.box a c
  have e := s.cel a c
  unfold boxc at e
  rw [q1, q1'] at e
  have e' : cc' = cc := by simpa using e
  subst e'
  exact ⟨n, cc', cells, pos', rest', seed', q1', q2, q3.1, q3'⟩
end Dd
namespace Dd
open PySem L2
section
variable {X : Cx} {E : SX} {e e2 : Expr} {es : List Expr} {w wa wb : WE} {pos : Pos}
theorem PE.of {t : TE} (h : PE X e t) (k : ∀ σ H Q, tOf X.K X.mg E w σ H Q → t σ H Q) : PE X e (tOf X.K X.mg E w) := ⟨fun pins s σ H Q I q => h.run pins s σ H Q I (k σ H Q q)⟩
theorem PT.of {t : TT} {w : WT} (h : PT X e t) (k : ∀ σ H Q, ttOf X.K X.mg E w σ H Q → t σ H Q) : PT X e (ttOf X.K X.mg E w) := ⟨fun pins s σ H Q I q => h.run pins s σ H Q I (k σ H Q q)⟩
theorem PW.of {t : TT} {w : WT} (h : PW X e t) (k : ∀ σ H Q, ttOf X.K X.mg E w σ H Q → t σ H Q) : PW X e (ttOf X.K X.mg E w) := ⟨fun wh pins s σ H Q I q => h.run wh pins s σ H Q I (k σ H Q q)⟩
theorem PA.of {t : TA} {w : WA} (h : PA X es t) (k : ∀ σ H Q, aOf X.K X.mg E w σ H Q → t σ H Q) : PA X es (aOf X.K X.mg E w) := ⟨fun ps pins s σ H Q I q => h.run ps pins s σ H Q I (k σ H Q q)⟩

/-! ### names, constants, settling -/
def dVar (i : Nat) : WE := fun x ρ P => ∃ d, ρ[i]? = some (some (.leaf d)) ∧ P (.leaf d)
def dC (d : PyData) : WE := fun _ _ P => P (.leaf d)
def dFr (w : WE) : WE := fun x ρ P => w x ρ fun t => P (.leaf t.dat)
theorem d_var (i : Nat) {x : Str} (hN : X.N[i]? = some x := by rfl) (hv : Vis X.env.scope x := by first | exact Or.inl rfl | exact Or.inr (Or.inl rfl) | exact Or.inr (Or.inr rfl)) (hd : (x == ("__debug__" : Str)) = false := by decide) (hcd : (x == ("__classdict__" : Str)) = false := by decide) :
    PE X (.Name x pos) (tOf X.K X.mg E (dVar i)) := PE.of (pe_var hN hv hd hcd) fun σ H Q h => by
  obtain ⟨b, B, G, ρ, xp, P, ⟨d, e, p⟩, hr, k⟩ := h
  obtain ⟨fps, h1, h2, h3⟩ := hr.env.ex
  obtain ⟨v, ev, tr⟩ := h1 i _ e
  refine ⟨v, ev, ?_⟩
  generalize fps i = fp at tr
  cases tr with
  | leaf r => exact k.leaf hr.good p r
theorem d_int {i j} : PE X (.Constant (.int i) j pos) (tOf X.K X.mg E (dC (.int i))) := PE.of pe_int fun σ H Q ⟨b, B, G, ρ, xp, P, p, hr, k⟩ => k.leaf hr.good p (.int i)
theorem d_bl {i j} : PE X (.Constant (.bool i) j pos) (tOf X.K X.mg E (dC (.bool i))) := PE.of pe_bl fun σ H Q ⟨b, B, G, ρ, xp, P, p, hr, k⟩ => k.leaf hr.good p (.bl i)
theorem d_non {j} : PE X (.Constant .none j pos) (tOf X.K X.mg E (dC .none)) := PE.of pe_non fun σ H Q ⟨b, B, G, ρ, xp, P, p, hr, k⟩ => k.leaf hr.good p .non
theorem d_str {i j} : PE X (.Constant (.str i) j pos) (tOf X.K X.mg E (dC (.str i))) := PE.of pe_str fun σ H Q ⟨b, B, G, ρ, xp, P, p, hr, k⟩ => k.leaf hr.good p (.str i)
theorem d_fr (h : PE X e (tOf X.K X.mg E w)) : PE X e (tOf X.K X.mg E (dFr w)) := PE.of h fun σ H Q ⟨b, B, G, ρ, xp, P, p, hr, k⟩ => tOfD_of ⟨b, B, G, ρ, xp, fun d => P (.leaf d), p, hr, fun G' H' v d hp s _ r => k G' H' v _ [] hp s (.leaf r) fun _ z => nomatch z⟩

/-! ### operations on settled values -/
abbrev R2D := PyData → PyData → (T → Prop) → Prop
def RdOk (K : PySem.W.Frag) (r : R2) (rd : R2D) : Prop := ∀ (b : Option Addr) (G H : Hp) (x y : V) (d e : PyData) (P : T → Prop) (Q : VK), Good K b G H → Rp b G x d → Rp b G y e → rd d e P →
  Ktn K b G H P Q → r x y H Q
def dOp (rd : R2D) (wa wb : WE) : WE := fun x ρ P => wa x ρ fun t => wb x ρ fun u => rd t.dat u.dat P
theorem dop_core {K : PySem.W.Frag} {mg : Str → Option Value} {r : R2} {rd : R2D} (h : RdOk K r rd) {σ : L2.St} {H : Hp} {Q : VK} (q : tOf K mg E (dOp rd wa wb) σ H Q) : tOp r (tOf K mg E wa) (tOf K mg E wb) σ H Q := by
  obtain ⟨b, B, G, ρ, xp, P, p, hr, k⟩ := q
  refine tOfD_of ⟨b, B, G, ρ, xp, fun d => wb xp ρ fun u => rd d u.dat P, p, hr, fun G1 H1 x d p1 s1 hr1 rx => ?_⟩
  refine tOfD_of ⟨b, B, G1, ρ, xp, fun u => rd d u P, p1, hr1, fun G2 H2 y u p2 s2 hr2 ry => ?_⟩
  exact h b G2 H2 x y d u P Q s2.good (rx.mono s2.ex) ry p2 ((k.stp hr.good s1).stp hr1.good s2)
theorem d_bin {op : Operator} {r : R2} {rd : R2D} (ho : OpR X (binaryOp op) r) (h : RdOk X.K r rd) (ha : PE X e (tOf X.K X.mg E wa)) (hb : PE X e2 (tOf X.K X.mg E wb)) : PE X (.BinOp e op e2 pos) (tOf X.K X.mg E (dOp rd wa wb)) := PE.of (pe_op ho ha hb) fun _ _ _ q => dop_core h q
theorem d_cmp {op : CmpOp} {r : R2} {rd : R2D} (ho : OpR X (compareOp op) r) (h : RdOk X.K r rd) (ha : PE X e (tOf X.K X.mg E wa)) (hb : PE X e2 (tOf X.K X.mg E wb)) (hm : behindInMarks op e2 = false := by rfl) : PE X (.Compare e [op] [e2] pos) (tOf X.K X.mg E (dOp rd wa wb)) := PE.of (pe_cmpR ho ha hb hm) fun _ _ _ q => dop_core h q
theorem d_ix {r : R2} {rd : R2D} (ho : IxR X r) (h : RdOk X.K r rd) (ha : PE X e (tOf X.K X.mg E wa)) (hb : PE X e2 (tOf X.K X.mg E wb)) (hs : PlainIx e2 := by exact fun _ _ => rfl) : PE X (.Subscript e e2 pos) (tOf X.K X.mg E (dOp rd wa wb)) := PE.of (pe_ix ho ha hb hs) fun _ _ _ q => dop_core h q
theorem opr_or {f : Value → Value → Sem Value} {r1 r2 : R2} (h1 : OpR X f r1) (h2 : OpR X f r2) : OpR X f (fun x y H Q => r1 x y H Q ∨ r2 x y H Q) := fun pins s σ H x y v u Q I rx ry h => h.elim (h1 pins s σ H x y v u Q I rx ry) (h2 pins s σ H x y v u Q I rx ry)
theorem ixr_or {r1 r2 : R2} (h1 : IxR X r1) (h2 : IxR X r2) : IxR X (fun x y H Q => r1 x y H Q ∨ r2 x y H Q) := fun a c pins s σ H x y v u Q I rx ry h hs => h.elim (fun h => h1 a c pins s σ H x y v u Q I rx ry h hs) fun h => h2 a c pins s σ H x y v u Q I rx ry h hs

/-- two whole numbers -/
def rdI (C : Int → Int → Prop) (g : Int → Int → PyData) : R2D := fun d e P => match d, e with
  | .int i, .int j => C i j ∧ P (.leaf (g i j))
  | _, _ => False
def rdI0 (g : Int → Int → PyData) : R2D := fun d e P => match d, e with
  | .int i, .int j => P (.leaf (g i j))
  | _, _ => False
def pyV : PyData → V
  | .none => .non
  | .bool b => .bl b
  | .int i => .int i
  | .str x => .str x
  | _ => .non
def flatD : PyData → Bool
  | .none | .bool _ | .int _ | .str _ => true
  | _ => false
theorem rp_flat {b : Option Addr} {G : Hp} : ∀ {d : PyData}, flatD d = true → Rp b G (pyV d) d
  | .none, _ => .non
  | .bool k, _ => .bl k
  | .int i, _ => .int i
  | .str x, _ => .str x
theorem ok_I {K : PySem.W.Frag} {C : Int → Int → Prop} {g : Int → Int → PyData} (hg : ∀ i j, flatD (g i j) = true) : RdOk K (rI C fun i j => pyV (g i j)) (rdI C g) := fun b G H x y d e P Q g1 rx ry h k => by
  unfold rdI at h
  split at h
  · obtain ⟨c, p⟩ := h
    cases rx
    cases ry
    exact ⟨_, _, rfl, rfl, c, k G H _ _ [] p g1.stp (.leaf (rp_flat (hg _ _))) fun _ z => nomatch z⟩
  · exact h.elim
theorem ok_I0 {K : PySem.W.Frag} {g : Int → Int → PyData} (hg : ∀ i j, flatD (g i j) = true) : RdOk K (rI0 fun i j => pyV (g i j)) (rdI0 g) := fun b G H x y d e P Q g1 rx ry h k => by
  unfold rdI0 at h
  split at h
  · cases rx
    cases ry
    exact ⟨_, _, rfl, rfl, k G H _ _ [] h g1.stp (.leaf (rp_flat (hg _ _))) fun _ z => nomatch z⟩
  · exact h.elim
theorem RdOk.or {K : PySem.W.Frag} {r1 r2 : R2} {d1 d2 : R2D} (h1 : RdOk K r1 d1) (h2 : RdOk K r2 d2) : RdOk K (fun x y H Q => r1 x y H Q ∨ r2 x y H Q) (fun d e P => d1 d e P ∨ d2 d e P) := fun b G H x y d e P Q g rx ry h k => h.elim (fun h => .inl (h1 b G H x y d e P Q g rx ry h k)) fun h => .inr (h2 b G H x y d e P Q g rx ry h k)
/-- a new list of settled items -/
theorem new_lst {K : PySem.W.Frag} {b : Option Addr} {G H : Hp} {P : T → Prop} {Q : VK} {xs : List V} {ds : List PyData} (g : Good K b G H) (r : RpAll b G xs ds) (p : P (.node (ds.map .leaf)))
    (k : Ktn K b G H P Q) {a : Addr} (ha : H a = none) : Q (.ref a) (upd H a (.lst xs)) := by
  have ga := (g.new (.lst xs) ha).2
  have nb : b ≠ some a := fun c => by
    obtain ⟨_, _, _, _, _, _, q, _⟩ := g.box a c
    rw [ha] at q
    cases q
  refine k G _ _ _ [a] p (g.own _ ha) (.node upd_same ga nb (TrAll.leaves r) (fun z => nomatch z)) fun c m => ?_
  rw [show c = a by simpa using m]
  exact ha
theorem new_tup {K : PySem.W.Frag} {b : Option Addr} {G H : Hp} {P : T → Prop} {Q : VK} {xs : List V} {ds : List PyData} (g : Good K b G H) (r : RpAll b G xs ds) (p : P (.leaf (.tuple ds)))
    (k : Ktn K b G H P Q) {a : Addr} (ha : H a = none) : Q (.ref a) (upd H a (.tup xs)) := by
  have st := (g.new (.tup xs) ha).1
  exact k _ _ _ _ [] p st (.leaf (.tup upd_same (r.mono st.ex))) fun _ z => nomatch z
def lim : Nat := 100000
theorem lim_le {n : Nat} (h : n ≤ lim) : n ≤ sizeLine := Nat.le_trans h (by decide)
theorem lim_lt {n : Nat} (h : n < lim) : n < sizeLine := Nat.lt_of_lt_of_le h (by decide)
/-- list + list -/
def rdCat : R2D := fun d e P => ∃ xs ys, d = .list xs ∧ e = .list ys ∧ xs.length + ys.length ≤ lim ∧ P (.node ((xs ++ ys).map .leaf))
theorem ok_cat {K : PySem.W.Frag} : RdOk K rCat rdCat := fun b G H x y d e P Q g rx ry h k => by
  obtain ⟨xs, ys, rfl, rfl, hl, p⟩ := h
  cases rx with
  | lst h1 r1 =>
    cases ry with
    | lst h2 r2 =>
      refine ⟨_, _, _, _, rfl, rfl, g.ex _ _ h1, g.ex _ _ h2, ?_, fun a ha => new_lst g (r1.append r2) p k ha⟩
      rw [r1.len, r2.len]
      exact lim_le hl
/-- tuple + tuple, the left one not empty -/
def rdCatT : R2D := fun d e P => ∃ xs ys, d = .tuple xs ∧ e = .tuple ys ∧ xs ≠ [] ∧ xs.length + ys.length ≤ lim ∧ P (.leaf (.tuple (xs ++ ys)))
theorem ok_catT {K : PySem.W.Frag} : RdOk K (rCatT K) rdCatT := fun b G H x y d e P Q g rx ry h k => by
  obtain ⟨xs, ys, rfl, rfl, hne, hl, p⟩ := h
  cases rx with
  | @tup a vs _ h1 r1 =>
    cases ry with
    | @tup c us _ h2 r2 =>
      have n1 : vs ≠ [] := fun z => by
        subst z
        have := r1.len
        cases xs with
        | nil => exact hne rfl
        | cons _ _ => simp at this
      refine ⟨_, _, _, _, rfl, rfl, .inl (.inl (g.ex _ _ h1)), .inl (.inl (g.ex _ _ h2)), n1, ?_, ?_⟩
      · rw [r1.len, r2.len]
        exact lim_le hl
      · refine ⟨fun e => ?_, fun _ a ha => new_tup g (r1.append r2) p k ha⟩
        subst e
        cases r2
        rw [List.append_nil] at p
        exact k G H _ _ [] p g.stp (.leaf (.tup h1 r1)) fun _ z => nomatch z
theorem RpAll.rep {b : Option Addr} {G : Hp} {vs : List V} {ds : List PyData} (h : RpAll b G vs ds) : ∀ n : Nat, RpAll b G (List.replicate n vs).flatten (List.replicate n ds).flatten
  | 0 => .nil
  | n + 1 => by
    rw [List.replicate_succ, List.replicate_succ, List.flatten_cons, List.flatten_cons]
    exact h.append (RpAll.rep h n)
/-- list * number -/
def rdRep : R2D := fun d e P => ∃ xs i, d = .list xs ∧ e = .int i ∧ 0 ≤ i ∧ i ≤ 1000 ∧ xs.length ≤ 10 ∧ P (.node ((List.replicate i.toNat xs).flatten.map .leaf))
theorem ok_rep {K : PySem.W.Frag} : RdOk K rRep rdRep := fun b G H x y d e P Q g rx ry h k => by
  obtain ⟨xs, i, rfl, rfl, h0, h1, hl, p⟩ := h
  cases rx with
  | @lst _ vs _ h1' r1 =>
    cases ry
    have hz : vs.length * i.toNat ≤ sizeLine := by
      rw [r1.len]
      exact Nat.le_trans (Nat.mul_le_mul hl (show i.toNat ≤ 1000 by omega)) (by decide)
    exact ⟨_, _, _, rfl, rfl, g.ex _ _ h1', by omega, by omega, hz, fun a ha => new_lst g (r1.rep _) p k ha⟩
/-- text + text -/
def rdCatS : R2D := fun d e P => ∃ xs ys, d = .str xs ∧ e = .str ys ∧ xs.length + ys.length ≤ lim ∧ P (.leaf (.str (xs ++ ys)))
/-- == of data -/
def rdEq : R2D := fun d e P => match d, e with
  | .int i, .int j => P (boo (decide (i = j)))
  | .str i, .str j => P (boo (decide (i = j)))
  | .bool i, .bool j => P (boo (decide (i = j)))
  | d, e => SeqAt.shaped d = true ∧ SeqAt.shaped e = true ∧ P (boo (PyData.eqv d e))
def rdNe : R2D := fun d e P => match d, e with
  | .int i, .int j => P (boo (decide (i ≠ j)))
  | .str i, .str j => P (boo (decide (i ≠ j)))
  | .bool i, .bool j => P (boo (decide (i ≠ j)))
  | d, e => SeqAt.shaped d = true ∧ SeqAt.shaped e = true ∧ P (boo (!PyData.eqv d e))
mutual
theorem rp_dp {K : PySem.W.Frag} {b : Option Addr} {G H : Hp} (e : Ex G H) : ∀ {v : V} {d : PyData}, Rp b G v d → d.canLay0 = true → Dp K H v d
  | _, _, .non, _ => .non
  | _, _, .bl k, _ => .bl k
  | _, _, .int i, _ => .int i
  | _, _, .str i, _ => .str i
  | _, _, .lst h r, c => .lst (.inl (.inl (e _ _ h))) (rp_dpAll e r (by simpa [PyData.canLay0] using c))
  | _, _, .tup h r, c => .tup (.inl (.inl (e _ _ h))) (rp_dpAll e r (by simpa [PyData.canLay0] using c))
  | _, _, .box _, c => by simp [PyData.canLay0] at c
  | _, _, .exc _, c => by simp [PyData.canLay0] at c
theorem rp_dpAll {K : PySem.W.Frag} {b : Option Addr} {G H : Hp} (e : Ex G H) : ∀ {vs : List V} {ds : List PyData}, RpAll b G vs ds → PyData.canLayAll0 ds = true → DpAll K H vs ds
  | _, _, .nil, _ => .nil
  | _, _, .cons h r, c => by
    rw [PyData.canLayAll0, Bool.and_eq_true] at c
    exact .cons (rp_dp e h c.1) (rp_dpAll e r c.2)
end
theorem shaped_lay {d : PyData} (h : SeqAt.shaped d = true) : d.canLay0 = true := by
  unfold SeqAt.shaped at h
  rw [Bool.and_eq_true] at h
  exact h.1
theorem eqv_eq {d : PyData} (h : SeqAt.shaped d = true) : PyData.eqv d d = true := SeqAt.eqv_refl d (shaped_lay h)
theorem ok_eq {K : PySem.W.Frag} : RdOk K (fun x y H Q => rEq x y H Q ∨ rEqD K x y H Q) rdEq := fun b G H x y d e P Q g rx ry h k => by
  unfold rdEq at h
  split at h
  · cases rx
    cases ry
    refine .inl ⟨rfl, ?_⟩
    have q := k G H (.bl _) _ [] h g.stp (.leaf (.bl _)) fun _ z => nomatch z
    simpa using q
  · cases rx
    cases ry
    refine .inl ⟨rfl, ?_⟩
    have q := k G H (.bl _) _ [] h g.stp (.leaf (.bl _)) fun _ z => nomatch z
    simpa using q
  · cases rx
    cases ry
    refine .inl ⟨rfl, ?_⟩
    have q := k G H (.bl _) _ [] h g.stp (.leaf (.bl _)) fun _ z => nomatch z
    simpa using q
  · obtain ⟨s1, s2, p⟩ := h
    exact .inr ⟨_, _, rp_dp g.ex rx (shaped_lay s1), rp_dp g.ex ry (shaped_lay s2), s1, s2, k G H _ _ [] p g.stp (.leaf (.bl _)) fun _ z => nomatch z⟩
theorem ok_ne {K : PySem.W.Frag} : RdOk K (fun x y H Q => rNe x y H Q ∨ rNeD K x y H Q) rdNe := fun b G H x y d e P Q g rx ry h k => by
  unfold rdNe at h
  split at h
  · cases rx
    cases ry
    refine .inl ⟨rfl, ?_⟩
    have q := k G H (.bl _) _ [] h g.stp (.leaf (.bl _)) fun _ z => nomatch z
    simpa using q
  · cases rx
    cases ry
    refine .inl ⟨rfl, ?_⟩
    have q := k G H (.bl _) _ [] h g.stp (.leaf (.bl _)) fun _ z => nomatch z
    simpa using q
  · cases rx
    cases ry
    refine .inl ⟨rfl, ?_⟩
    have q := k G H (.bl _) _ [] h g.stp (.leaf (.bl _)) fun _ z => nomatch z
    simpa using q
  · obtain ⟨s1, s2, p⟩ := h
    exact .inr ⟨_, _, rp_dp g.ex rx (shaped_lay s1), rp_dp g.ex ry (shaped_lay s2), s1, s2, k G H _ _ [] p g.stp (.leaf (.bl _)) fun _ z => nomatch z⟩
/-- x in a list or a tuple of flat things -/
def inD (x : PyData) (xs : List PyData) : Bool := xs.any fun y => PyData.eqv y x
/-- items by place -/
def rdIx : R2D := fun d e P => match d, e with
  | .list xs, .int i => ∃ x, atI xs i = some x ∧ P (.leaf x)
  | .tuple xs, .int i => ∃ x, atI xs i = some x ∧ P (.leaf x)
  | _, _ => False
theorem RpAll.atI {b : Option Addr} {G : Hp} {vs : List V} {ds : List PyData} (h : RpAll b G vs ds) {i : Int} {d : PyData} (e : L2.atI ds i = some d) : ∃ v, L2.atI vs i = some v ∧ Rp b G v d := by
  unfold L2.atI at e ⊢
  rw [h.len]
  cases q : ixN ds.length i with
  | none =>
    rw [q] at e
    cases e
  | some j =>
    rw [q] at e
    exact h.get (i := j) e
theorem ok_ix {K : PySem.W.Frag} : RdOk K (fun x y H Q => rIxL K x y H Q ∨ rIxT K x y H Q) rdIx := fun b G H x y d e P Q g rx ry h k => by
  unfold rdIx at h
  split at h
  · obtain ⟨z, ez, p⟩ := h
    cases rx with
    | lst h1 r1 =>
      cases ry
      obtain ⟨v, ev, rv⟩ := r1.atI ez
      exact .inl ⟨_, _, _, v, rfl, rfl, .inl (.inl (g.ex _ _ h1)), ev, k G H _ _ [] p g.stp (.leaf rv) fun _ z => nomatch z⟩
  · obtain ⟨z, ez, p⟩ := h
    cases rx with
    | tup h1 r1 =>
      cases ry
      obtain ⟨v, ev, rv⟩ := r1.atI ez
      exact .inr ⟨_, _, _, v, rfl, rfl, .inl (.inl (g.ex _ _ h1)), ev, k G H _ _ [] p g.stp (.leaf rv) fun _ z => nomatch z⟩
  · exact h.elim
/-- is None, is not None -/
def rdIsN : R2D := fun d e P => e = .none ∧ P (boo (match d with | .none => true | _ => false))
def rdNotN : R2D := fun d e P => e = .none ∧ P (boo (match d with | .none => false | _ => true))
theorem ok_isN {K : PySem.W.Frag} : RdOk K (fun x y H Q => y = .non ∧ Q (.bl (decide (x = .non))) H) rdIsN := fun b G H x y d e P Q g rx ry h k => by
  obtain ⟨rfl, p⟩ := h
  cases ry
  refine ⟨rfl, ?_⟩
  cases rx <;> exact k G H _ _ [] p g.stp (.leaf (.bl _)) fun _ z => nomatch z
theorem ok_notN {K : PySem.W.Frag} : RdOk K (fun x y H Q => y = .non ∧ Q (.bl (!decide (x = .non))) H) rdNotN := fun b G H x y d e P Q g rx ry h k => by
  obtain ⟨rfl, p⟩ := h
  cases ry
  refine ⟨rfl, ?_⟩
  cases rx <;> exact k G H _ _ [] p g.stp (.leaf (.bl _)) fun _ z => nomatch z

/-! ### the operators -/
variable {op : Operator}
def rdAdd : R2D := fun d e P => match d, e with
  | .int i, .int j => P (int (i + j))
  | d, e => rdCat d e P ∨ rdCatT d e P
theorem ok_add {K : PySem.W.Frag} : RdOk K (fun x y H Q => (rI0 fun i j => .int (i + j)) x y H Q ∨ (rCat x y H Q ∨ rCatT K x y H Q)) rdAdd := fun b G H x y d e P Q g rx ry h k => by
  unfold rdAdd at h
  split at h
  · exact .inl (ok_I0 (K := K) (g := fun i j => .int (i + j)) (fun _ _ => rfl) b G H x y _ _ P Q g rx ry h k)
  · exact h.elim (fun h => .inr (.inl (ok_cat (K := K) b G H x y _ _ P Q g rx ry h k))) fun h => .inr (.inr (ok_catT b G H x y _ _ P Q g rx ry h k))
theorem d_add (ha : PE X e (tOf X.K X.mg E wa)) (hb : PE X e2 (tOf X.K X.mg E wb)) : PE X (.BinOp e .Add e2 pos) (tOf X.K X.mg E (dOp rdAdd wa wb)) := d_bin (opr_or op_add (opr_or op_cat op_catT)) ok_add ha hb
abbrev rdSub : R2D := rdI0 fun i j => .int (i - j)
theorem d_sub (ha : PE X e (tOf X.K X.mg E wa)) (hb : PE X e2 (tOf X.K X.mg E wb)) : PE X (.BinOp e .Sub e2 pos) (tOf X.K X.mg E (dOp rdSub wa wb)) := d_bin op_sub (ok_I0 fun _ _ => rfl) ha hb
def rdMul : R2D := fun d e P => match d, e with
  | .int i, .int j => CMulW i j ∧ P (int (i * j))
  | d, e => rdRep d e P
theorem d_mul (ha : PE X e (tOf X.K X.mg E wa)) (hb : PE X e2 (tOf X.K X.mg E wb)) : PE X (.BinOp e .Mult e2 pos) (tOf X.K X.mg E (dOp rdMul wa wb)) := d_bin (opr_or op_mulW op_rep) (fun b G H x y d e P Q g rx ry h k => by
  unfold rdMul at h
  split at h
  · exact .inl (ok_I (K := X.K) (g := fun i j => .int (i * j)) (fun _ _ => rfl) b G H x y _ _ P Q g rx ry h k)
  · exact .inr (ok_rep (K := X.K) b G H x y _ _ P Q g rx ry h k)) ha hb
abbrev rdDiv : R2D := rdI CDivW fun i j => .int (i / j)
theorem d_div (ha : PE X e (tOf X.K X.mg E wa)) (hb : PE X e2 (tOf X.K X.mg E wb)) : PE X (.BinOp e .FloorDiv e2 pos) (tOf X.K X.mg E (dOp rdDiv wa wb)) := d_bin op_fdivW (ok_I fun _ _ => rfl) ha hb
abbrev rdMod : R2D := rdI (fun _ j => 0 < j) fun i j => .int (i % j)
theorem d_mod (ha : PE X e (tOf X.K X.mg E wa)) (hb : PE X e2 (tOf X.K X.mg E wb)) : PE X (.BinOp e .Mod e2 pos) (tOf X.K X.mg E (dOp rdMod wa wb)) := d_bin op_mod (ok_I fun _ _ => rfl) ha hb
abbrev rdPow : R2D := rdI CPow fun i j => .int (i ^ j.toNat)
theorem d_pow (ha : PE X e (tOf X.K X.mg E wa)) (hb : PE X e2 (tOf X.K X.mg E wb)) : PE X (.BinOp e .Pow e2 pos) (tOf X.K X.mg E (dOp rdPow wa wb)) := d_bin op_pow (ok_I fun _ _ => rfl) ha hb
abbrev rdLt : R2D := rdI0 fun i j => .bool (decide (i < j))
abbrev rdLe : R2D := rdI0 fun i j => .bool (decide (i ≤ j))
abbrev rdGt : R2D := rdI0 fun i j => .bool (decide (j < i))
abbrev rdGe : R2D := rdI0 fun i j => .bool (decide (j ≤ i))
theorem d_lt (ha : PE X e (tOf X.K X.mg E wa)) (hb : PE X e2 (tOf X.K X.mg E wb)) : PE X (.Compare e [.Lt] [e2] pos) (tOf X.K X.mg E (dOp rdLt wa wb)) := d_cmp op_lt (ok_I0 fun _ _ => rfl) ha hb (nomark _)
theorem d_le (ha : PE X e (tOf X.K X.mg E wa)) (hb : PE X e2 (tOf X.K X.mg E wb)) : PE X (.Compare e [.LtE] [e2] pos) (tOf X.K X.mg E (dOp rdLe wa wb)) := d_cmp op_le (ok_I0 fun _ _ => rfl) ha hb (nomark _)
theorem d_gt (ha : PE X e (tOf X.K X.mg E wa)) (hb : PE X e2 (tOf X.K X.mg E wb)) : PE X (.Compare e [.Gt] [e2] pos) (tOf X.K X.mg E (dOp rdGt wa wb)) := d_cmp op_gt (ok_I0 fun _ _ => rfl) ha hb (nomark _)
theorem d_ge (ha : PE X e (tOf X.K X.mg E wa)) (hb : PE X e2 (tOf X.K X.mg E wb)) : PE X (.Compare e [.GtE] [e2] pos) (tOf X.K X.mg E (dOp rdGe wa wb)) := d_cmp op_ge (ok_I0 fun _ _ => rfl) ha hb (nomark _)
theorem d_eq (hu : X.A.units + 64 < cLine) (ha : PE X e (tOf X.K X.mg E wa)) (hb : PE X e2 (tOf X.K X.mg E wb)) : PE X (.Compare e [.Eq] [e2] pos) (tOf X.K X.mg E (dOp rdEq wa wb)) := d_cmp (opr_or op_eq (op_eqD hu)) ok_eq ha hb (nomark _)
theorem d_ne (hu : X.A.units + 64 < cLine) (ha : PE X e (tOf X.K X.mg E wa)) (hb : PE X e2 (tOf X.K X.mg E wb)) : PE X (.Compare e [.NotEq] [e2] pos) (tOf X.K X.mg E (dOp rdNe wa wb)) := d_cmp (opr_or op_ne (op_neD hu)) ok_ne ha hb (nomark _)
theorem d_isN (ha : PE X e (tOf X.K X.mg E wa)) (hb : PE X e2 (tOf X.K X.mg E wb)) : PE X (.Compare e [.Is] [e2] pos) (tOf X.K X.mg E (dOp rdIsN wa wb)) := d_cmp op_isN ok_isN ha hb (nomark _)
theorem d_notN (ha : PE X e (tOf X.K X.mg E wa)) (hb : PE X e2 (tOf X.K X.mg E wb)) : PE X (.Compare e [.IsNot] [e2] pos) (tOf X.K X.mg E (dOp rdNotN wa wb)) := d_cmp op_notN ok_notN ha hb (nomark _)
theorem d_at (ha : PE X e (tOf X.K X.mg E wa)) (hb : PE X e2 (tOf X.K X.mg E wb)) (hs : PlainIx e2 := by exact fun _ _ => rfl) : PE X (.Subscript e e2 pos) (tOf X.K X.mg E (dOp rdIx wa wb)) := d_ix (ixr_or ix_list ix_tup) ok_ix ha hb hs
end
end Dd
namespace Dd
open PySem L2
/-! ### arguments, calls -/
/-- a promise at data's level: arguments, what is wanted of the value, of an exception -/
abbrev Spec := List PyData → (T → Prop) → XP → Prop
def spOf (K : PySem.W.Frag) (mg : Str → Option Value) (S : Spec) : Sp := fun vs H Q E => ∃ (b : Option Addr) (G : Hp) (ds : List PyData) (P : T → Prop) (xp : XP), S ds P xp ∧ Good K b G H ∧ RpAll b G vs ds ∧ Ktn K b G H P Q ∧ XC K mg E b G H xp
section
variable {X : Cx} {E : SX} {e e2 : Expr} {es : List Expr} {w wa wb : WE} {ws : WA} {wt wu : WT} {pos p apos : Pos} {x : Str}
def aNil : WA := fun _ _ P => P []
def aCons (w : WE) (ws : WA) : WA := fun x ρ P => w x ρ fun t => ws x ρ fun ds => P (t.dat :: ds)
theorem a_nil : PA X [] (aOf X.K X.mg E aNil) := PA.of pa_nil fun σ H Q ⟨b, B, G, ρ, xp, P, p, hr, k⟩ => k G H [] [] p hr.good.stp .nil
theorem a_cons (ha : PE X e (tOf X.K X.mg E w)) (hb : PA X es (aOf X.K X.mg E ws)) (hs : starEach (e :: es) X.env = (false, eval e X.env) :: starEach es X.env := by rfl) : PA X (e :: es) (aOf X.K X.mg E (aCons w ws)) := PA.of (pa_cons ha hb hs) fun σ H Q ⟨b, B, G, ρ, xp, P, p, hr, k⟩ => by
  refine tOfD_of ⟨b, B, G, ρ, xp, fun d => ws xp ρ fun ds => P (d :: ds), p, hr, fun G1 H1 x d p1 s1 hr1 rx => ?_⟩
  exact ⟨b, B, G1, ρ, xp, fun ds => P (d :: ds), p1, hr1, fun G2 H2 vs ds p2 s2 r2 => k G2 H2 _ _ p2 (s1.trans hr.good s2) (.cons (rx.mono s2.ex) r2)⟩
def dCall (S : Spec) (ws : WA) : WE := fun x ρ P => ws x ρ fun ds => S ds P x
section
variable {CX : CXT} {k : Nat} {f : Addr} {fd : FuncData} {ps : List Str} {S : Spec}
theorem dcall_core {K : PySem.W.Frag} {mg : Str → Option Value} {σ : L2.St} {H : Hp} {Q : VK} (q : tOf K mg E (dCall S ws) σ H Q) : aOf K mg E ws σ H fun vs H1 => spOf K mg S (vs ++ []) H1 Q (E σ) := by
  obtain ⟨b, B, G, ρ, xp, P, p, hr, k⟩ := q
  refine ⟨b, B, G, ρ, xp, fun ds => S ds P xp, p, hr, fun G1 H1 vs ds p1 s1 r1 => ?_⟩
  show spOf K mg S (vs ++ []) H1 Q (E σ)
  rw [List.append_nil]
  exact ⟨b, G1, ds, P, xp, p1, s1.good, r1, k.stp hr.good s1, hr.xc.stp hr.good s1⟩
/-- a call where nothing is raised -/
theorem d_call {j : Nat} (F : FnOk X.prog X.w X.K X.mg X.base CX0 k f fd ps (spOf X.K X.mg S)) (hr : Room j X.A) (hg : Gl X x) (hm : X.mg x = some (.ref f)) (hk : PySem.W.keepIn X.K (.ref f) = true) (hb : Binds X.K fd ps [])
    (ha : PA X (e :: es) (aOf X.K X.mg E ws)) (hj : k ≤ j := by decide) (hdb : (x == ("__debug__" : Str)) = false := by decide) (he : starEach (e :: es) X.env = (false, eval e X.env) :: starEach es X.env := by rfl) (hpl : (backTo pos (starEach es X.env)).any (·.1) = false := by rfl) :
    PE X (.Call (.Name x p) (e :: es) [] pos) (tOf X.K X.mg E (dCall S ws)) := ⟨fun pins s σ H Q I q => (pe_call (E := E σ) F (hr.mono hj) hg hm hk hb .nil pass0 ha hdb he hpl).run pins s σ H Q I (dcall_core q)⟩
theorem d_call0 {j : Nat} (F : FnOk X.prog X.w X.K X.mg X.base CX0 k f fd ps (spOf X.K X.mg S)) (hr : Room j X.A) (hg : Gl X x) (hm : X.mg x = some (.ref f)) (hk : PySem.W.keepIn X.K (.ref f) = true) (hb : Binds X.K fd ps [])
    (hj : k ≤ j := by decide) (hdb : (x == ("__debug__" : Str)) = false := by decide) :
    PE X (.Call (.Name x p) [] [] pos) (tOf X.K X.mg E (dCall S aNil)) := ⟨fun pins s σ H Q I q => (pe_call0 (E := E σ) F (hr.mono hj) hg hm hk hb .nil pass0 hdb).run pins s σ H Q I (by
  obtain ⟨b, B, G, ρ, xp, P, p, hr, k⟩ := q
  exact ⟨b, G, [], P, xp, p, hr.good, .nil, k, hr.xc⟩)⟩
end

/-! ### displays -/
def dLst (ws : WA) : WE := fun x ρ P => ws x ρ fun ds => ds.length ≤ lim ∧ P (.node (ds.map .leaf))
def dTup (ws : WA) : WE := fun x ρ P => ws x ρ fun ds => ds.length ≤ lim ∧ P (.leaf (.tuple ds))
theorem d_lst (h : PA X es (aOf X.K X.mg E ws)) : PE X (.List es pos) (tOf X.K X.mg E (dLst ws)) := PE.of (pe_lst h) fun σ H Q ⟨b, B, G, ρ, xp, P, p, hr, k⟩ =>
  ⟨b, B, G, ρ, xp, fun ds => ds.length ≤ lim ∧ P (.node (ds.map .leaf)), p, hr, fun G1 H1 vs ds p1 s1 r1 => ⟨by rw [r1.len]; exact lim_le p1.1, fun a ha => new_lst s1.good r1 p1.2 (k.stp hr.good s1) ha⟩⟩
theorem d_tup {j : Nat} (h : PA X es (aOf X.K X.mg E ws)) : PE X (.Tuple es j pos) (tOf X.K X.mg E (dTup ws)) := PE.of (pe_tup h) fun σ H Q ⟨b, B, G, ρ, xp, P, p, hr, k⟩ =>
  ⟨b, B, G, ρ, xp, fun ds => ds.length ≤ lim ∧ P (.leaf (.tuple ds)), p, hr, fun G1 H1 vs ds p1 s1 r1 => ⟨by rw [r1.len]; exact lim_le p1.1, fun a ha => new_tup s1.good r1 p1.2 (k.stp hr.good s1) ha⟩⟩

/-! ### built-ins by their settled arguments -/
abbrev CD := List PyData → (T → Prop) → Prop
def CdOk (K : PySem.W.Frag) (r : List V → Hp → VK → Prop) (c : CD) : Prop := ∀ (b : Option Addr) (G H : Hp) (vs : List V) (ds : List PyData) (P : T → Prop) (Q : VK), Good K b G H → RpAll b G vs ds → c ds P → Ktn K b G H P Q → r vs H Q
def dBlt (c : CD) (ws : WA) : WE := fun x ρ P => ws x ρ fun ds => c ds P
theorem dblt_core {K : PySem.W.Frag} {mg : Str → Option Value} {r : List V → Hp → VK → Prop} {c : CD} (h : CdOk K r c) {σ : L2.St} {H : Hp} {Q : VK} (q : tOf K mg E (dBlt c ws) σ H Q) : tCB r (aOf K mg E ws) σ H Q := by
  obtain ⟨b, B, G, ρ, xp, P, p, hr, k⟩ := q
  exact ⟨b, B, G, ρ, xp, fun ds => c ds P, p, hr, fun G1 H1 vs ds p1 s1 r1 => h b G1 H1 vs ds P Q s1.good r1 p1 (k.stp hr.good s1)⟩
theorem d_blt {id : String} {r : List V → Hp → VK → Prop} {c : CD} (hc : CallR X (.builtin id) r) (h : CdOk X.K r c) (hg : Gl X x) (hm : X.mg x = none) (hv : bootBuiltins x = some (.builtin id)) (ha : PA X (e :: es) (aOf X.K X.mg E ws)) (hn : x ≠ "__name__" := by decide) (hdb : (x == ("__debug__" : Str)) = false := by decide)
    (he : starEach (e :: es) X.env = (false, eval e X.env) :: starEach es X.env := by rfl) (hpl : (backTo pos (starEach es X.env)).any (·.1) = false := by rfl) : PE X (.Call (.Name x p) (e :: es) [] pos) (tOf X.K X.mg E (dBlt c ws)) := PE.of (pe_callB hc hg hm hv ha hn hdb he hpl) fun σ H Q q => dblt_core h q
theorem d_ty {id : String} {r : List V → Hp → VK → Prop} {c : CD} (hc : CallR X (.type id) r) (h : CdOk X.K r c) (hg : Gl X x) (hm : X.mg x = none) (hv : bootBuiltins x = some (.type id)) (ha : PA X (e :: es) (aOf X.K X.mg E ws)) (hn : x ≠ "__name__" := by decide) (hdb : (x == ("__debug__" : Str)) = false := by decide)
    (he : starEach (e :: es) X.env = (false, eval e X.env) :: starEach es X.env := by rfl) (hpl : (backTo pos (starEach es X.env)).any (·.1) = false := by rfl) : PE X (.Call (.Name x p) (e :: es) [] pos) (tOf X.K X.mg E (dBlt c ws)) := PE.of (pe_callTy hc hg hm hv ha hn hdb he hpl) fun σ H Q q => dblt_core h q
/-- len -/
def cLen : CD := fun ds P => match ds with
  | [.list xs] => P (int xs.length)
  | [.tuple xs] => P (int xs.length)
  | [.str z] => z.length ≤ lim ∧ P (int z.length)
  | _ => False
theorem ok_len {K : PySem.W.Frag} : CdOk K (fun xs H Q => ∃ x n, xs = [x] ∧ LenV K x H n ∧ Q (.int n) H) cLen := fun b G H vs ds P Q g r h k => by
  unfold cLen at h
  split at h
  · cases r with
    | cons r1 r2 =>
      cases r2
      cases r1 with
      | lst h1 h2 => exact ⟨_, _, rfl, .inl ⟨_, .inl (.inl (g.ex _ _ h1)), rfl⟩, by rw [h2.len]; exact k.leaf g h (.int _)⟩
  · cases r with
    | cons r1 r2 =>
      cases r2
      cases r1 with
      | tup h1 h2 => exact ⟨_, _, rfl, .inr ⟨_, .inl (.inl (g.ex _ _ h1)), rfl⟩, by rw [h2.len]; exact k.leaf g h (.int _)⟩
  · cases r with
    | cons r1 r2 =>
      cases r2
      cases r1
      exact ⟨_, _, rfl, ⟨lim_le h.1, rfl⟩, k.leaf g h.2 (.int _)⟩
  · exact h.elim
theorem d_len (hm : X.mg "len" = none) (ha : PA X [e] (aOf X.K X.mg E ws)) (hg : Gl X "len" := by rfl) (he : starEach [e] X.env = (false, eval e X.env) :: starEach [] X.env := by rfl) (hpl : (backTo pos (starEach [] X.env)).any (·.1) = false := by rfl) : PE X (.Call (.Name "len" p) [e] [] pos) (tOf X.K X.mg E (dBlt cLen ws)) :=
  d_blt call_len ok_len hg hm PySem.boot_len ha (by decide) (by decide) he hpl
/-- ints as data -/
def intsD (ns : List Int) : List PyData := ns.map .int
theorem rp_ints {b : Option Addr} {G : Hp} : ∀ {ns : List Int} {vs : List V}, RpAll b G vs (intsD ns) → vs = ns.map V.int
  | [], _, .nil => rfl
  | n :: ns, _, .cons (.int _) r => by
    rw [rp_ints (ns := ns) r] <;> rfl
theorem rp_ints' {b : Option Addr} {G : Hp} : ∀ (ns : List Int), RpAll b G (ns.map V.int) (intsD ns)
  | [] => .nil
  | n :: ns => .cons (.int n) (rp_ints' ns)
theorem rp_bools {b : Option Addr} {G : Hp} : ∀ {ns : List Bool} {vs : List V}, RpAll b G vs (ns.map .bool) → vs = ns.map V.bl
  | [], _, .nil => rfl
  | n :: ns, _, .cons (.bl _) r => by
    rw [rp_bools (ns := ns) r] <;> rfl
/-- sum of a list of whole numbers -/
def cSum : CD := fun ds P => ∃ ns : List Int, ds = [.list (intsD ns)] ∧ P (int ns.sum)
theorem ok_sum {K : PySem.W.Frag} : CdOk K (rSum K) cSum := fun b G H vs ds P Q g r h k => by
  obtain ⟨ns, rfl, p⟩ := h
  cases r with
  | cons r1 r2 =>
    cases r2
    cases r1 with
    | lst h1 h2 =>
      have e := rp_ints h2
      subst e
      exact ⟨_, ns, rfl, .inl (.inl (g.ex _ _ h1)), k.leaf g p (.int _)⟩
def cAny : CD := fun ds P => ∃ ns : List Bool, ds = [.list (ns.map .bool)] ∧ P (boo (ns.any id))
theorem ok_any {K : PySem.W.Frag} : CdOk K (rAny K) cAny := fun b G H vs ds P Q g r h k => by
  obtain ⟨ns, rfl, p⟩ := h
  cases r with
  | cons r1 r2 =>
    cases r2
    cases r1 with
    | lst h1 h2 =>
      have e := rp_bools h2
      subst e
      exact ⟨_, ns, rfl, .inl (.inl (g.ex _ _ h1)), k.leaf g p (.bl _)⟩
def cAll : CD := fun ds P => ∃ ns : List Bool, ds = [.list (ns.map .bool)] ∧ P (boo (ns.all id))
theorem ok_all {K : PySem.W.Frag} : CdOk K (rAll K) cAll := fun b G H vs ds P Q g r h k => by
  obtain ⟨ns, rfl, p⟩ := h
  cases r with
  | cons r1 r2 =>
    cases r2
    cases r1 with
    | lst h1 h2 =>
      have e := rp_bools h2
      subst e
      exact ⟨_, ns, rfl, .inl (.inl (g.ex _ _ h1)), k.leaf g p (.bl _)⟩
def cMax2 : CD := fun ds P => match ds with
  | [.int i, .int j] => P (int (if j > i then j else i))
  | _ => False
def cMin2 : CD := fun ds P => match ds with
  | [.int i, .int j] => P (int (if j < i then j else i))
  | _ => False
theorem ok_max2 {K : PySem.W.Frag} : CdOk K (fun xs H Q => ∃ i j, xs = [.int i, .int j] ∧ Q (.int (if j > i then j else i)) H) cMax2 := fun b G H vs ds P Q g r h k => by
  unfold cMax2 at h
  split at h
  · cases r with
    | cons r1 r2 => cases r1; cases r2 with
      | cons r3 r4 => cases r3; cases r4; exact ⟨_, _, rfl, k.leaf g h (.int _)⟩
  · exact h.elim
theorem ok_min2 {K : PySem.W.Frag} : CdOk K (fun xs H Q => ∃ i j, xs = [.int i, .int j] ∧ Q (.int (if j < i then j else i)) H) cMin2 := fun b G H vs ds P Q g r h k => by
  unfold cMin2 at h
  split at h
  · cases r with
    | cons r1 r2 => cases r1; cases r2 with
      | cons r3 r4 => cases r3; cases r4; exact ⟨_, _, rfl, k.leaf g h (.int _)⟩
  · exact h.elim
/-- list(xs) -/
def cList : CD := fun ds P => match ds with
  | [.list xs] => P (.node (xs.map .leaf))
  | [.tuple xs] => P (.node (xs.map .leaf))
  | _ => False
theorem ok_list {K : PySem.W.Frag} : CdOk K (fun xs H Q => ∃ p ys, xs = [.ref p] ∧ (SqL K H p ys ∨ SqT K H p ys) ∧ ∀ l, H l = none → Q (.ref l) (upd H l (.lst ys))) cList := fun b G H vs ds P Q g r h k => by
  unfold cList at h
  split at h
  · cases r with
    | cons r1 r2 =>
      cases r2
      cases r1 with
      | lst h1 h2 => exact ⟨_, _, rfl, .inl (.inl (.inl (g.ex _ _ h1))), fun a ha => new_lst g h2 h k ha⟩
  · cases r with
    | cons r1 r2 =>
      cases r2
      cases r1 with
      | tup h1 h2 => exact ⟨_, _, rfl, .inr (.inl (.inl (g.ex _ _ h1))), fun a ha => new_lst g h2 h k ha⟩
  · exact h.elim
theorem d_list (hm : X.mg "list" = none) (ha : PA X [e] (aOf X.K X.mg E ws)) (hg : Gl X "list" := by rfl) (he : starEach [e] X.env = (false, eval e X.env) :: starEach [] X.env := by rfl) (hpl : (backTo pos (starEach [] X.env)).any (·.1) = false := by rfl) : PE X (.Call (.Name "list" p) [e] [] pos) (tOf X.K X.mg E (dBlt cList ws)) :=
  d_ty call_list_of ok_list hg hm (by decide +kernel) ha (by decide) (by decide) he hpl
theorem d_sum (hc : X.calm = true) (hm : X.mg "sum" = none) (ha : PA X [e] (aOf X.K X.mg E ws)) (hg : Gl X "sum" := by rfl) (he : starEach [e] X.env = (false, eval e X.env) :: starEach [] X.env := by rfl) (hpl : (backTo pos (starEach [] X.env)).any (·.1) = false := by rfl) : PE X (.Call (.Name "sum" p) [e] [] pos) (tOf X.K X.mg E (dBlt cSum ws)) :=
  d_blt (cr_sum hc) ok_sum hg hm (by decide +kernel) ha (by decide) (by decide) he hpl
theorem d_any (hc : X.calm = true) (hm : X.mg "any" = none) (ha : PA X [e] (aOf X.K X.mg E ws)) (hg : Gl X "any" := by rfl) (he : starEach [e] X.env = (false, eval e X.env) :: starEach [] X.env := by rfl) (hpl : (backTo pos (starEach [] X.env)).any (·.1) = false := by rfl) : PE X (.Call (.Name "any" p) [e] [] pos) (tOf X.K X.mg E (dBlt cAny ws)) :=
  d_blt (cr_any hc) ok_any hg hm (by decide +kernel) ha (by decide) (by decide) he hpl
theorem d_all (hc : X.calm = true) (hm : X.mg "all" = none) (ha : PA X [e] (aOf X.K X.mg E ws)) (hg : Gl X "all" := by rfl) (he : starEach [e] X.env = (false, eval e X.env) :: starEach [] X.env := by rfl) (hpl : (backTo pos (starEach [] X.env)).any (·.1) = false := by rfl) : PE X (.Call (.Name "all" p) [e] [] pos) (tOf X.K X.mg E (dBlt cAll ws)) :=
  d_blt (cr_all hc) ok_all hg hm (by decide +kernel) ha (by decide) (by decide) he hpl

/-! ### tests -/
def dTst (w : WE) : WT := fun x ρ P => w x ρ fun t => match t with
  | .leaf (.bool k) => P k
  | _ => False
theorem dtst_core {K : PySem.W.Frag} {mg : Str → Option Value} {σ : L2.St} {H : Hp} {Q : Bool → Hp → Prop} (q : ttOf K mg E (dTst w) σ H Q) : tOf K mg E w σ H fun x H1 => ∃ c, x = .bl c ∧ Q c H1 := by
  obtain ⟨b, B, G, ρ, xp, P, p, hr, k⟩ := q
  refine ⟨b, B, G, ρ, xp, _, p, hr, fun G' H' v t fp hp s tr fr => ?_⟩
  dsimp only at hp
  split at hp
  · cases tr with
    | leaf r =>
      cases r
      exact ⟨_, rfl, k G' H' _ hp s⟩
  · exact hp.elim
theorem t_cmp {op : CmpOp} {r : R2} {rd : R2D} (ho : OpR X (compareOp op) r) (h : RdOk X.K r rd) (ha : PE X e (tOf X.K X.mg E wa)) (hb : PE X e2 (tOf X.K X.mg E wb)) (hm : behindInMarks op e2 = false := by rfl) : PT X (.Compare e [op] [e2] pos) (ttOf X.K X.mg E (dTst (dOp rd wa wb))) := PT.of (pt_cmpR ho ha hb hm) fun σ H Q q => dop_core h (dtst_core q)
theorem t_val (h : PE X e (tOf X.K X.mg E w)) (he : ∀ whole, isTrue e X.env whole = (do let v ← whole; standAt e.pos; holding [v] (truthy v)) := by intro _; rfl) : PT X e (ttOf X.K X.mg E (dTst w)) := PT.of (pt_val h he) fun σ H Q q => dtst_core q
def dNot (w : WT) : WT := fun x ρ P => w x ρ fun k => P (!k)
def dAnd (w u : WT) : WT := fun x ρ P => w x ρ fun k => (k = true → u x ρ P) ∧ (k = false → P false)
def dOr (w u : WT) : WT := fun x ρ P => w x ρ fun k => (k = true → P true) ∧ (k = false → u x ρ P)
theorem t_not (ha : PT X e (ttOf X.K X.mg E wt)) : PT X (.UnaryOp .Not e pos) (ttOf X.K X.mg E (dNot wt)) := PT.of (pt_not ha) fun σ H Q ⟨b, B, G, ρ, xp, P, p, hr, k⟩ => ⟨b, B, G, ρ, xp, fun c => P (!c), p, hr, fun G' H' c hp s => k G' H' _ hp s⟩
theorem w_and1 (ha : PT X e (ttOf X.K X.mg E wt)) : PW X (.BoolOp .And [e] pos) (ttOf X.K X.mg E wt) := pw_and1 ha
theorem w_or1 (ha : PT X e (ttOf X.K X.mg E wt)) : PW X (.BoolOp .Or [e] pos) (ttOf X.K X.mg E wt) := pw_or1 ha
theorem w_and (ha : PT X e (ttOf X.K X.mg E wt)) (hb : PW X (.BoolOp .And (e2 :: es) pos) (ttOf X.K X.mg E wu)) : PW X (.BoolOp .And (e :: e2 :: es) pos) (ttOf X.K X.mg E (dAnd wt wu)) := PW.of (pw_and ha hb) fun σ H Q ⟨b, B, G, ρ, xp, P, p, hr, k⟩ =>
  ⟨b, B, G, ρ, xp, _, p, hr, fun G' H' c hp s => by
    cases c with
    | true =>
      show ttOf X.K X.mg E wu σ H' Q
      exact ⟨b, B, G', ρ, xp, P, hp.1 rfl, hr.stp s, fun G2 H2 c2 p2 s2 => k G2 H2 c2 p2 (s.trans hr.good s2)⟩
    | false => exact k G' H' false (hp.2 rfl) s⟩
theorem w_or (ha : PT X e (ttOf X.K X.mg E wt)) (hb : PW X (.BoolOp .Or (e2 :: es) pos) (ttOf X.K X.mg E wu)) : PW X (.BoolOp .Or (e :: e2 :: es) pos) (ttOf X.K X.mg E (dOr wt wu)) := PW.of (pw_or ha hb) fun σ H Q ⟨b, B, G, ρ, xp, P, p, hr, k⟩ =>
  ⟨b, B, G, ρ, xp, _, p, hr, fun G' H' c hp s => by
    cases c with
    | false =>
      show ttOf X.K X.mg E wu σ H' Q
      exact ⟨b, B, G', ρ, xp, P, hp.2 rfl, hr.stp s, fun G2 H2 c2 p2 s2 => k G2 H2 c2 p2 (s.trans hr.good s2)⟩
    | true => exact k G' H' true (hp.1 rfl) s⟩
def dIfE (wt : WT) (wa wb : WE) : WE := fun x ρ P => wt x ρ fun k => (k = true → wa x ρ P) ∧ (k = false → wb x ρ P)
theorem d_ife {c : Expr} (hc : PT X c (ttOf X.K X.mg E wt)) (ha : PE X e (tOf X.K X.mg E wa)) (hb : PE X e2 (tOf X.K X.mg E wb)) : PE X (.IfExp c e e2 pos) (tOf X.K X.mg E (dIfE wt wa wb)) := PE.of (pe_ifExp hc ha hb) fun σ H Q ⟨b, B, G, ρ, xp, P, p, hr, k⟩ =>
  ⟨b, B, G, ρ, xp, _, p, hr, fun G' H' c hp s => by
    cases c with
    | true =>
      show tOf X.K X.mg E wa σ H' Q
      exact ⟨b, B, G', ρ, xp, P, hp.1 rfl, hr.stp s, k.stp hr.good s⟩
    | false =>
      show tOf X.K X.mg E wb σ H' Q
      exact ⟨b, B, G', ρ, xp, P, hp.2 rfl, hr.stp s, k.stp hr.good s⟩⟩
/-- and, or, not as values -/
def dAndV (wa wb : WE) : WE := fun x ρ P => wa x ρ fun t => match t with
  | .leaf (.bool k) => (k = true → wb x ρ P) ∧ (k = false → P (boo false))
  | _ => False
def dOrV (wa wb : WE) : WE := fun x ρ P => wa x ρ fun t => match t with
  | .leaf (.bool k) => (k = true → P (boo true)) ∧ (k = false → wb x ρ P)
  | _ => False
def dNotV (wa : WE) : WE := fun x ρ P => wa x ρ fun t => match t with
  | .leaf (.bool k) => P (boo (!k))
  | _ => False
theorem d_one {op : BoolOp} (h : PE X e (tOf X.K X.mg E w)) : PE X (.BoolOp op [e] pos) (tOf X.K X.mg E w) := pe_one h
theorem d_and (ha : PE X e (tOf X.K X.mg E wa)) (hb : PE X (.BoolOp .And (e2 :: es) pos) (tOf X.K X.mg E wb)) : PE X (.BoolOp .And (e :: e2 :: es) pos) (tOf X.K X.mg E (dAndV wa wb)) := PE.of (pe_and ha hb) fun σ H Q ⟨b, B, G, ρ, xp, P, p, hr, k⟩ =>
  ⟨b, B, G, ρ, xp, _, p, hr, fun G' H' v t fp hp s tr fr => by
    dsimp only at hp
    split at hp
    · cases tr with
      | leaf r =>
        cases r
        rename_i c
        refine ⟨_, rfl, ?_⟩
        cases c with
        | true =>
          show tOf X.K X.mg E wb σ H' Q
          exact ⟨b, B, G', ρ, xp, P, hp.1 rfl, hr.stp s, k.stp hr.good s⟩
        | false => exact (k.stp hr.good s).leaf s.good (hp.2 rfl) (.bl _)
    · exact hp.elim⟩
theorem d_or (ha : PE X e (tOf X.K X.mg E wa)) (hb : PE X (.BoolOp .Or (e2 :: es) pos) (tOf X.K X.mg E wb)) : PE X (.BoolOp .Or (e :: e2 :: es) pos) (tOf X.K X.mg E (dOrV wa wb)) := PE.of (pe_or ha hb) fun σ H Q ⟨b, B, G, ρ, xp, P, p, hr, k⟩ =>
  ⟨b, B, G, ρ, xp, _, p, hr, fun G' H' v t fp hp s tr fr => by
    dsimp only at hp
    split at hp
    · cases tr with
      | leaf r =>
        cases r
        rename_i c
        refine ⟨_, rfl, ?_⟩
        cases c with
        | false =>
          show tOf X.K X.mg E wb σ H' Q
          exact ⟨b, B, G', ρ, xp, P, hp.2 rfl, hr.stp s, k.stp hr.good s⟩
        | true => exact (k.stp hr.good s).leaf s.good (hp.1 rfl) (.bl _)
    · exact hp.elim⟩
theorem d_not (ha : PE X e (tOf X.K X.mg E wa)) : PE X (.UnaryOp .Not e pos) (tOf X.K X.mg E (dNotV wa)) := PE.of (pe_not ha) fun σ H Q ⟨b, B, G, ρ, xp, P, p, hr, k⟩ =>
  ⟨b, B, G, ρ, xp, _, p, hr, fun G' H' v t fp hp s tr fr => by
    dsimp only at hp
    split at hp
    · cases tr with
      | leaf r =>
        cases r
        exact ⟨_, rfl, (k.stp hr.good s).leaf s.good hp (.bl _)⟩
    · exact hp.elim⟩
def dNeg (wa : WE) : WE := fun x ρ P => wa x ρ fun t => match t with
  | .leaf (.int i) => P (int (-i))
  | _ => False
theorem d_neg (ha : PE X e (tOf X.K X.mg E wa)) : PE X (.UnaryOp .USub e pos) (tOf X.K X.mg E (dNeg wa)) := PE.of (pe_un un_neg ha) fun σ H Q ⟨b, B, G, ρ, xp, P, p, hr, k⟩ =>
  ⟨b, B, G, ρ, xp, _, p, hr, fun G' H' v t fp hp s tr fr => by
    dsimp only at hp
    split at hp
    · cases tr with
      | leaf r =>
        cases r
        exact ⟨_, rfl, (k.stp hr.good s).leaf s.good hp (.int _)⟩
    · exact hp.elim⟩
end
end Dd
namespace Dd
open PySem L2
/-! ### what is walked -/
abbrev WI := XP → Rho → (List PyData → Prop) → Prop
structure WalkD (K : PySem.W.Frag) (b : Option Addr) (F : Hp) (J : It) (ds : List PyData) : Prop where
  goes : ∀ i G H, i < ds.length → Ex F G → Good K b G H → J.go i H
  stops : ∀ G H, Ex F G → Good K b G H → J.stop ds.length H
  yields : ∀ i G H x H', i < ds.length → Ex F G → Good K b G H → J.yld i H x H' → ∃ G' d, ds[i]? = some d ∧ Stp K b G H G' H' ∧ Rp b G' x d
def iOf (K : PySem.W.Frag) (mg : Str → Option Value) (E : SX) (w : WI) : TI := fun σ H R => ∃ (b : Option Addr) (B G : Hp) (ρ : Rho) (xp : XP) (P : List PyData → Prop), w xp ρ P ∧ Site K mg (E σ) b B G H σ ρ xp ∧
  ∀ (G' H' : Hp) (ds : List PyData) (J : It), P ds → Stp K b G H G' H' → WalkD K b G' J ds → R J H'
section
variable {K : PySem.W.Frag} {b : Option Addr} {F : Hp}
theorem walkD_list {a : Addr} {xs : List V} {ds : List PyData} (h : F a = some (.lst xs)) (r : RpAll b F xs ds) : WalkD K b F (Itl K a) ds := by
  have hl := r.len
  refine ⟨fun i G H hi e g => ⟨xs, xs[i]'(by omega), .inl (.inl (g.ex _ _ (e _ _ h))), List.getElem?_eq_getElem _⟩, fun G H e g => ⟨xs, .inl (.inl (g.ex _ _ (e _ _ h))), by omega⟩, fun i G H x H' hi e g y => ?_⟩
  obtain ⟨e1, y2⟩ := y
  subst e1
  obtain ⟨d, e2, rd⟩ := r.get' (y2 xs (.inl (.inl (g.ex _ _ (e _ _ h)))))
  exact ⟨G, d, e2, g.stp, rd.mono e⟩
theorem walkD_tup {a : Addr} {xs : List V} {ds : List PyData} (h : F a = some (.tup xs)) (r : RpAll b F xs ds) : WalkD K b F (Itt K a) ds := by
  have hl := r.len
  refine ⟨fun i G H hi e g => ⟨xs, xs[i]'(by omega), .inl (.inl (g.ex _ _ (e _ _ h))), List.getElem?_eq_getElem _⟩, fun G H e g => ⟨xs, .inl (.inl (g.ex _ _ (e _ _ h))), by omega⟩, fun i G H x H' hi e g y => ?_⟩
  obtain ⟨e1, y2⟩ := y
  subst e1
  obtain ⟨d, e2, rd⟩ := r.get' (y2 xs (.inl (.inl (g.ex _ _ (e _ _ h)))))
  exact ⟨G, d, e2, g.stp, rd.mono e⟩
def rngD (lo : Int) (n : Nat) : List PyData := (List.range n).map fun i => .int (lo + (i : Nat))
theorem rngD_len {lo : Int} {n : Nat} : (rngD lo n).length = n := by simp [rngD]
theorem rngD_get {lo : Int} {n i : Nat} (h : i < n) : (rngD lo n)[i]? = some (.int (lo + (i : Nat))) := by simp [rngD, h]
theorem walkD_rng {lo : Int} {n : Nat} : WalkD K b F (Itr lo n) (rngD lo n) := by
  refine ⟨fun i G H hi e g => ?_, fun G H e g => ?_, fun i G H x H' hi e g y => ?_⟩
  · rw [rngD_len] at hi
    exact hi
  · show n ≤ (rngD lo n).length
    rw [rngD_len]
    all_goals exact Nat.le_refl _
  · rw [rngD_len] at hi
    obtain ⟨e1, e2⟩ := y
    subst e1 e2
    exact ⟨G, _, rngD_get hi, g.stp, .int _⟩
/-- pairs made on the way -/
theorem pair_new {G H : Hp} (g : Good K b G H) {T : Addr} {x y : V} {d e : PyData} (hT : H T = none) (rx : Rp b G x d) (ry : Rp b G y e) : ∃ G', Stp K b G H G' (upd H T (.tup [x, y])) ∧ Rp b G' (.ref T) (.tuple [d, e]) := by
  have st := (g.new (.tup [x, y]) hT).1
  exact ⟨_, st, .tup upd_same (.cons (rx.mono st.ex) (.cons (ry.mono st.ex) .nil))⟩
def zipD : List PyData → List PyData → List PyData
  | x :: xs, y :: ys => .tuple [x, y] :: zipD xs ys
  | _, _ => []
theorem zipD_len : ∀ xs ys, (zipD xs ys).length = min xs.length ys.length
  | [], _ => by simp [zipD]
  | _ :: _, [] => by simp [zipD]
  | x :: xs, y :: ys => by
    have := zipD_len xs ys
    simp [zipD, this]
    all_goals omega
theorem zipD_get : ∀ (xs ys : List PyData) (i : Nat) (x y : PyData), xs[i]? = some x → ys[i]? = some y → (zipD xs ys)[i]? = some (.tuple [x, y])
  | [], _, _, _, _, h, _ => by simp at h
  | _ :: _, [], _, _, _, _, h => by simp at h
  | x :: xs, y :: ys, 0, _, _, h, k => by
    simp at h k
    subst h k
    rfl
  | x :: xs, y :: ys, i + 1, u, v, h, k => by
    show (zipD xs ys)[i]? = _
    exact zipD_get xs ys i u v (by simpa using h) (by simpa using k)
theorem walkD_zip {a c : Addr} {xs ys : List V} {ds es : List PyData} (h : F a = some (.lst xs)) (r : RpAll b F xs ds) (h' : F c = some (.lst ys)) (r' : RpAll b F ys es) : WalkD K b F (Itz K a c) (zipD ds es) := by
  have l1 := r.len
  have l2 := r'.len
  have W := walk_zip (K := K) (a := a) (b := c) (xs := xs) (ys := ys) (n := (zipD ds es).length) (by rw [zipD_len, l1, l2])
  have at1 : ∀ {G H : Hp}, Ex F G → Good K b G H → SqL K H a xs ∧ SqL K H c ys := fun e g => ⟨.inl (.inl (g.ex _ _ (e _ _ h))), .inl (.inl (g.ex _ _ (e _ _ h')))⟩
  refine ⟨fun i G H hi e g => W.goes i H hi (at1 e g), fun G H e g => W.stops H (at1 e g), fun i G H x H' hi e g y => ?_⟩
  obtain ⟨T, u, v, rfl, hT, rfl, e1, e2⟩ := W.yields i H x H' hi (at1 e g) y
  obtain ⟨d, q1, r1⟩ := r.get' e1
  obtain ⟨d', q2, r2⟩ := r'.get' e2
  obtain ⟨G', s, rr⟩ := pair_new g hT (r1.mono e) (r2.mono e)
  exact ⟨G', _, zipD_get _ _ i _ _ q1 q2, s, rr⟩
theorem walkD_zipT {a c : Addr} {xs ys : List V} {ds es : List PyData} (h : F a = some (.tup xs)) (r : RpAll b F xs ds) (h' : F c = some (.tup ys)) (r' : RpAll b F ys es) : WalkD K b F (RZ.ItzT K a c) (zipD ds es) := by
  have l1 := r.len
  have l2 := r'.len
  have le := zipD_len ds es
  have at1 : ∀ {G H : Hp}, Ex F G → Good K b G H → SqT K H a xs ∧ SqT K H c ys := fun e g => ⟨.inl (.inl (g.ex _ _ (e _ _ h))), .inl (.inl (g.ex _ _ (e _ _ h')))⟩
  refine ⟨fun i G H hi e g => ?_, fun G H e g => ?_, fun i G H x H' hi e g y => ?_⟩
  · have k1 : i < xs.length := by omega
    have k2 : i < ys.length := by omega
    exact ⟨xs, ys, xs[i], ys[i], (at1 e g).1, (at1 e g).2, List.getElem?_eq_getElem k1, List.getElem?_eq_getElem k2⟩
  · exact ⟨xs, ys, (at1 e g).1, (at1 e g).2, by omega⟩
  · obtain ⟨T, u, v, rfl, hT, rfl, f1, f2⟩ := y
    obtain ⟨d, q1, r1⟩ := r.get' (f1 _ (at1 e g).1)
    obtain ⟨d', q2, r2⟩ := r'.get' (f2 _ (at1 e g).2)
    obtain ⟨G', s, rr⟩ := pair_new g hT (r1.mono e) (r2.mono e)
    exact ⟨G', _, zipD_get _ _ i _ _ q1 q2, s, rr⟩
def enumD : Nat → List PyData → List PyData
  | _, [] => []
  | n, x :: xs => .tuple [.int (n : Nat), x] :: enumD (n + 1) xs
theorem enumD_len : ∀ n xs, (enumD n xs).length = xs.length
  | _, [] => rfl
  | n, x :: xs => by simp [enumD, enumD_len (n + 1) xs]
theorem enumD_get : ∀ (n : Nat) (xs : List PyData) (i : Nat) (x : PyData), xs[i]? = some x → (enumD n xs)[i]? = some (.tuple [.int ((n + i : Nat) : Int), x])
  | _, [], _, _, h => by simp at h
  | n, x :: xs, 0, _, h => by
    simp at h
    subst h
    rfl
  | n, x :: xs, i + 1, u, h => by
    show (enumD (n + 1) xs)[i]? = _
    rw [enumD_get (n + 1) xs i u (by simpa using h)]
    rw [show n + 1 + i = n + (i + 1) by omega]
theorem walkD_enum {a : Addr} {xs : List V} {ds : List PyData} (h : F a = some (.lst xs)) (r : RpAll b F xs ds) : WalkD K b F (Ite K a) (enumD 0 ds) := by
  have l1 := r.len
  have W := walk_enum (K := K) (a := a) (xs := xs)
  have le : (enumD 0 ds).length = xs.length := by rw [enumD_len, l1]
  have at1 : ∀ {G H : Hp}, Ex F G → Good K b G H → SqL K H a xs := fun e g => .inl (.inl (g.ex _ _ (e _ _ h)))
  refine ⟨fun i G H hi e g => W.goes i H (by omega) (at1 e g), fun G H e g => by rw [le]; exact W.stops H (at1 e g), fun i G H x H' hi e g y => ?_⟩
  obtain ⟨T, u, v, rfl, hT, rfl, e1, e2⟩ := W.yields i H x H' (by omega) (at1 e g) y
  obtain ⟨d, q1, r1⟩ := r.get' e2
  cases e1
  obtain ⟨G', s, rr⟩ := pair_new g hT (.int (i : Nat)) (r1.mono e)
  refine ⟨G', _, ?_, s, rr⟩
  rw [enumD_get 0 ds i _ q1]
  rw [Nat.zero_add]
theorem strD_walk {z : Str} : WalkD K b F (Its z) (z.cps.toList.map fun c => .str ⟨#[c]⟩) := by
  have W := walk_str (z := z)
  have le : (z.cps.toList.map fun c => PyData.str ⟨#[c]⟩).length = z.cps.size := by simp
  refine ⟨fun i G H hi e g => W.goes i H (by omega) trivial, fun G H e g => by rw [le]; exact W.stops H trivial, fun i G H x H' hi e g y => ?_⟩
  obtain ⟨rfl, c, e1, rfl⟩ := W.yields i H x H' (by omega) trivial y
  refine ⟨G, _, ?_, g.stp, .str _⟩
  rw [List.getElem?_map, Array.getElem?_toList, e1] <;> rfl
end
section
variable {X : Cx} {E : SX} {e e2 tg : Expr} {es : List Expr} {w wa wb : WE} {ws : WA} {wt wu : WT} {pos p apos tpos : Pos} {x : Str}
theorem PI.of {t : TI} {w : WI} (h : PI X tg e t) (k : ∀ σ H Q, iOf X.K X.mg E w σ H Q → t σ H Q) : PI X tg e (iOf X.K X.mg E w) := ⟨fun pins s σ H Q I q => h.run pins s σ H Q I (k σ H Q q)⟩
/-- over a list (settled) -/
def iL (w : WE) : WI := fun x ρ P => w x ρ fun t => match t.dat with
  | .list ds => P ds
  | _ => False
def iT (w : WE) : WI := fun x ρ P => w x ρ fun t => match t.dat with
  | .tuple ds => P ds
  | _ => False
theorem i_list (h : PE X e (tOf X.K X.mg E w)) : PI X tg e (iOf X.K X.mg E (iL w)) := PI.of (pi_list h) fun σ H Q ⟨b, B, G, ρ, xp, P, p, hr, k⟩ => tOfD_of ⟨b, B, G, ρ, xp, fun d => match d with
  | .list ds => P ds
  | _ => False, p, hr, fun G1 H1 v d hp s hr1 r => by
    try dsimp only at hp
    split at hp
    · cases r with
      | lst h1 r1 => exact ⟨_, rfl, ⟨_, .inl (.inl (hr1.good.ex _ _ h1))⟩, k G1 H1 _ _ hp s (walkD_list h1 r1)⟩
    · exact hp.elim⟩
theorem i_tup (h : PE X e (tOf X.K X.mg E w)) : PI X tg e (iOf X.K X.mg E (iT w)) := PI.of (pi_tup h) fun σ H Q ⟨b, B, G, ρ, xp, P, p, hr, k⟩ => tOfD_of ⟨b, B, G, ρ, xp, fun d => match d with
  | .tuple ds => P ds
  | _ => False, p, hr, fun G1 H1 v d hp s hr1 r => by
    try dsimp only at hp
    split at hp
    · cases r with
      | tup h1 r1 => exact ⟨_, rfl, ⟨_, .inl (.inl (hr1.good.ex _ _ h1))⟩, k G1 H1 _ _ hp s (walkD_tup h1 r1)⟩
    · exact hp.elim⟩
def iStrD (w : WE) : WI := fun x ρ P => w x ρ fun t => match t.dat with
  | .str z => P (z.cps.toList.map fun c => .str ⟨#[c]⟩)
  | _ => False
/-- range(n), range(a, b) -/
def iR1 (ws : WA) : WI := fun x ρ P => ws x ρ fun ds => match ds with
  | [.int j] => (-(2 ^ 62) ≤ j ∧ j < 2 ^ 62) ∧ P (rngD 0 j.toNat)
  | _ => False
def iR2 (ws : WA) : WI := fun x ρ P => ws x ρ fun ds => match ds with
  | [.int i, .int j] => (-(2 ^ 62) ≤ i ∧ i < 2 ^ 62 ∧ -(2 ^ 62) ≤ j ∧ j < 2 ^ 62) ∧ P (rngD i (j - i).toNat)
  | _ => False
theorem i_rng1 (hm : X.mg "range" = none) (ha : PA X [e] (aOf X.K X.mg E ws)) (hg : Gl X "range" := by rfl) (hs : starEach [e] X.env = [(false, eval e X.env)] := by rfl) : PI X tg (.Call (.Name "range" p) [e] [] pos) (iOf X.K X.mg E (iR1 ws)) := PI.of (pi_range1 hg hm ha hs) fun σ H Q ⟨b, B, G, ρ, xp, P, p, hr, k⟩ =>
  ⟨b, B, G, ρ, xp, _, p, hr, fun G1 H1 vs ds hp s r => by
    try dsimp only at hp
    split at hp
    · cases r with
      | cons r1 r2 =>
        cases r1
        cases r2
        exact ⟨_, rfl, hp.1.1, hp.1.2, k G1 H1 _ _ hp.2 s walkD_rng⟩
    · exact hp.elim⟩
theorem i_rng2 (hm : X.mg "range" = none) (ha : PA X [e, e2] (aOf X.K X.mg E ws)) (hg : Gl X "range" := by rfl) (hs : starEach [e, e2] X.env = [(false, eval e X.env), (false, eval e2 X.env)] := by rfl) (hs2 : starEach [e2] X.env = [(false, eval e2 X.env)] := by rfl) : PI X tg (.Call (.Name "range" p) [e, e2] [] pos) (iOf X.K X.mg E (iR2 ws)) := PI.of (pi_range2 hg hm ha hs hs2) fun σ H Q ⟨b, B, G, ρ, xp, P, p, hr, k⟩ =>
  ⟨b, B, G, ρ, xp, _, p, hr, fun G1 H1 vs ds hp s r => by
    try dsimp only at hp
    split at hp
    · cases r with
      | cons r1 r2 =>
        cases r1
        cases r2 with
        | cons r3 r4 =>
          cases r3
          cases r4
          exact ⟨_, _, rfl, hp.1, k G1 H1 _ _ hp.2 s walkD_rng⟩
    · exact hp.elim⟩
def iEn (ws : WA) : WI := fun x ρ P => ws x ρ fun ds => match ds with
  | [.list xs] => P (enumD 0 xs)
  | _ => False
def iZi (ws : WA) : WI := fun x ρ P => ws x ρ fun ds => match ds with
  | [.list xs, .list ys] => P (zipD xs ys)
  | [.tuple xs, .tuple ys] => P (zipD xs ys)
  | _ => False
theorem i_enum {elts : List Expr} {kk : Nat} (hm : X.mg "enumerate" = none) (ha : PA X [e] (aOf X.K X.mg E ws)) (hg : Gl X "enumerate" := by rfl) (hs : starEach [e] X.env = [(false, eval e X.env)] := by rfl) : PI X (.Tuple elts kk tpos) (.Call (.Name "enumerate" p) [e] [] pos) (iOf X.K X.mg E (iEn ws)) := PI.of (pi_enum hg hm ha hs) fun σ H Q ⟨b, B, G, ρ, xp, P, p, hr, k⟩ =>
  ⟨b, B, G, ρ, xp, _, p, hr, fun G1 H1 vs ds hp s r => by
    try dsimp only at hp
    split at hp
    · cases r with
      | cons r1 r2 =>
        cases r2
        cases r1 with
        | lst h1 q1 => exact ⟨_, _, rfl, .inl (.inl (s.good.ex _ _ h1)), k G1 H1 _ _ hp s (walkD_enum h1 q1)⟩
    · exact hp.elim⟩
theorem i_zip {elts : List Expr} {kk : Nat} (hm : X.mg "zip" = none) (ha : PA X [e, e2] (aOf X.K X.mg E ws)) (hg : Gl X "zip" := by rfl) (hs : starEach [e, e2] X.env = (false, eval e X.env) :: starEach [e2] X.env := by rfl) (hpl : (backTo pos (starEach [e2] X.env)).any (·.1) = false := by rfl) : PI X (.Tuple elts kk tpos) (.Call (.Name "zip" p) [e, e2] [] pos) (iOf X.K X.mg E (iZi ws)) := PI.of (RZ.pi_zipA hg hm ha hs hpl) fun σ H Q ⟨b, B, G, ρ, xp, P, p, hr, k⟩ =>
  ⟨b, B, G, ρ, xp, _, p, hr, fun G1 H1 vs ds hp s r => by
    try dsimp only at hp
    split at hp
    · cases r with
      | cons r1 r2 =>
        cases r2 with
        | cons r3 r4 =>
          cases r4
          cases r1 with
          | lst h1 q1 =>
            cases r3 with
            | lst h2 q2 => exact ⟨_, _, _, _, rfl, .inl ⟨.inl (.inl (s.good.ex _ _ h1)), .inl (.inl (s.good.ex _ _ h2)), k G1 H1 _ _ hp s (walkD_zip h1 q1 h2 q2)⟩⟩
    · cases r with
      | cons r1 r2 =>
        cases r2 with
        | cons r3 r4 =>
          cases r4
          cases r1 with
          | tup h1 q1 =>
            cases r3 with
            | tup h2 q2 => exact ⟨_, _, _, _, rfl, .inr ⟨.inl (.inl (s.good.ex _ _ h1)), .inl (.inl (s.good.ex _ _ h2)), k G1 H1 _ _ hp s (walkD_zipT h1 q1 h2 q2)⟩⟩
    · exact hp.elim⟩
end

/-! ### targets: ts the slots that may change -/
abbrev WG := PyData → Rho → (Rho → Prop) → Prop
abbrev WGs := List PyData → Rho → (Rho → Prop) → Prop
structure But (ts : List Nat) (σ σ' : L2.St) : Prop where
  len : σ'.length = σ.length
  get : ∀ j : Nat, j ∉ ts → σ'[j]? = σ[j]?
theorem But.rfl' (ts : List Nat) (σ : L2.St) : But ts σ σ := ⟨rfl, fun _ _ => rfl⟩
theorem But.set {ts : List Nat} {σ : L2.St} {i : Nat} {v : Option V} (h : i ∈ ts) : But ts σ (σ.set i v) := ⟨List.length_set, fun j hj => by
  rw [List.getElem?_set_ne]
  intro e
  subst e
  exact hj h⟩
theorem But.trans {ts : List Nat} {σ σ' σ2 : L2.St} (h : But ts σ σ') (k : But ts σ' σ2) : But ts σ σ2 := ⟨k.len.trans h.len, fun j hj => (k.get j hj).trans (h.get j hj)⟩
theorem wipe_in {σ : L2.St} {i : Nat} (hi : i < σ.length) : ∀ {vs : List Nat}, i ∈ vs → (wipe σ vs)[i]? = some none
  | v :: vs, h => by
    unfold wipe
    by_cases c : i = v
    · subst c
      rw [List.getElem?_set_self]
      rw [wipe_length]
      exact hi
    · rw [List.getElem?_set_ne (Ne.symm c)]
      exact wipe_in hi ((List.mem_cons.mp h).resolve_left c)
theorem wipe_out {σ : L2.St} {i : Nat} : ∀ {vs : List Nat}, i ∉ vs → (wipe σ vs)[i]? = σ[i]?
  | [], _ => rfl
  | v :: vs, h => by
    unfold wipe
    rw [List.getElem?_set_ne (fun e => h (by rw [e]; exact List.mem_cons_self ..))]
    exact wipe_out fun m => h (List.mem_cons_of_mem _ m)
theorem But.wipe {vs : List Nat} {σ σ' : L2.St} (h : But vs (wipe σ vs) σ') : wipe σ' vs = wipe σ vs := by
  have hl := h.len
  rw [wipe_length] at hl
  refine List.ext_getElem? fun i => ?_
  by_cases c : i ∈ vs
  · by_cases hi : i < σ.length
    · rw [wipe_in (by omega) c, wipe_in hi c]
    · rw [List.getElem?_eq_none (by rw [wipe_length]; omega), List.getElem?_eq_none (by rw [wipe_length]; omega)]
  · rw [wipe_out c, h.get i c]
def gOf (K : PySem.W.Frag) (ts : List Nat) (w : WG) : TG := fun v σ H Q => ∃ (b : Option Addr) (B G : Hp) (ρ : Rho) (d : PyData) (R : Rho → Prop), w d ρ R ∧ Here K b B G H σ ρ ∧ Rp b G v d ∧ ∀ σ' ρ', R ρ' → Here K b B G H σ' ρ' → But ts σ σ' → Q σ' H
def gsOf (K : PySem.W.Frag) (ts : List Nat) (w : WGs) : TGs := fun vs σ H Q => ∃ (b : Option Addr) (B G : Hp) (ρ : Rho) (ds : List PyData) (R : Rho → Prop), w ds ρ R ∧ Here K b B G H σ ρ ∧ RpAll b G vs ds ∧ ∀ σ' ρ', R ρ' → Here K b B G H σ' ρ' → But ts σ σ' → Q σ' H
def gN (i : Nat) : WG := fun d ρ R => R (ρ.set i (some (.leaf d)))
def gs0 : WGs := fun ds ρ R => match ds with
  | [] => R ρ
  | _ => False
def gsC (w : WG) (u : WGs) : WGs := fun ds ρ R => match ds with
  | d :: ds => w d ρ fun ρ' => u ds ρ' R
  | _ => False
def gT (n : Nat) (w : WGs) : WG := fun d ρ R => match d with
  | .tuple ds => ds.length = n ∧ w ds ρ R
  | _ => False
section
variable {X : Cx} {pos : Pos} {ts : List Nat}
theorem PG.of {tg : Expr} {t : TG} {w : WG} (h : PG X tg t) (k : ∀ v σ H Q, gOf X.K ts w v σ H Q → t v σ H Q) : PG X tg (gOf X.K ts w) := ⟨fun pins s σ H v u Q I r q => h.run pins s σ H v u Q I r (k v σ H Q q)⟩
theorem PGs.of {tg : List Expr} {t : TGs} {w : WGs} (h : PGs X tg t) (k : ∀ v σ H Q, gsOf X.K ts w v σ H Q → t v σ H Q) : PGs X tg (gsOf X.K ts w) := ⟨fun pins s σ H v u Q I r q => h.run pins s σ H v u Q I r (k v σ H Q q)⟩
theorem Here.leaf {K : PySem.W.Frag} {b : Option Addr} {B G H : Hp} {σ : L2.St} {ρ : Rho} {v : V} {d : PyData} (h : Here K b B G H σ ρ) (i : Nat) (r : Rp b G v d) : Here K b B G H (σ.set i (some v)) (ρ.set i (some (.leaf d))) := ⟨h.good, h.env.leaf i r, h.sub⟩
theorem g_name (i : Nat) {x : Str} (hN : X.N.Nodup) (hts : i ∈ ts := by decide) (hi : X.N[i]? = some x := by rfl) (hx : Loc X.env.scope x := by first | exact Or.inl rfl | exact Or.inr rfl) (hf : X.fn x = true ∨ X.env.scope.names.lookup x = some .local := by first | exact .inl rfl | exact .inr rfl | assumption) : PG X (.Name x pos) (gOf X.K ts (gN i)) :=
  PG.of (pg_name hN hi hx hf) fun v σ H Q ⟨b, B, G, ρ, d, R, q, hr, r, k⟩ => k _ _ q (hr.leaf i r) (But.set hts)
theorem gs_nil : PGs X [] (gsOf X.K ts gs0) := PGs.of pgs_nil fun v σ H Q ⟨b, B, G, ρ, ds, R, q, hr, r, k⟩ => by
  unfold gs0 at q
  split at q
  · cases r
    exact ⟨rfl, k _ _ q hr (But.rfl' _ _)⟩
  · exact q.elim
theorem gs_cons {e : Expr} {es : List Expr} {w : WG} {u : WGs} (h1 : PG X e (gOf X.K ts w)) (h2 : PGs X es (gsOf X.K ts u)) (hs : (assignEach (e :: es) X.env).map (·.2) = assign e X.env :: (assignEach es X.env).map (·.2) := by rfl) : PGs X (e :: es) (gsOf X.K ts (gsC w u)) := PGs.of (pgs_cons h1 h2 hs) fun v σ H Q ⟨b, B, G, ρ, ds, R, q, hr, r, k⟩ => by
  unfold gsC at q
  split at q
  · cases r with
    | cons r1 r2 => exact ⟨_, _, rfl, b, B, G, ρ, _, _, q, hr, r1, fun σ' ρ' hR hr' bu => ⟨b, B, G, ρ', _, R, hR, hr', r2, fun σ2 ρ2 p2 h2 b2 => k σ2 ρ2 p2 h2 (bu.trans b2)⟩⟩
  · exact q.elim
theorem g_tup {es : List Expr} {kk : Nat} {w : WGs} {n : Nat} (hc : X.calm = true) (h : PGs X es (gsOf X.K ts w)) (hn : (assignEach es X.env).length = n := by rfl) (hst : (assignEach es X.env).findIdx? (·.1) = none := by rfl) : PG X (.Tuple es kk pos) (gOf X.K ts (gT n w)) := PG.of (pg_tup hc h hn hst) fun v σ H Q ⟨b, B, G, ρ, d, R, q, hr, r, k⟩ => by
  unfold gT at q
  split at q
  · cases r with
    | tup h1 r1 => exact ⟨_, _, rfl, .inl (.inl (hr.good.ex _ _ h1)), by rw [r1.len]; exact q.1, b, B, G, ρ, _, R, q.2, hr, r1, k⟩
  · exact q.elim
end

/-! ### comprehensions -/
def wipeR (ρ : Rho) : List Nat → Rho
  | [] => ρ
  | v :: vs => (wipeR ρ vs).set v none
theorem env_wipe {b : Option Addr} {B G H : Hp} {σ : L2.St} {ρ : Rho} (E : Env b B G H σ ρ) : ∀ vs : List Nat, Env b B G H (wipe σ vs) (wipeR ρ vs)
  | [] => E
  | v :: vs => by
    obtain ⟨hl, fps, h1, h2, h3⟩ := env_wipe E vs
    refine ⟨by unfold wipe wipeR; rw [List.length_set, List.length_set]; exact hl, fps, fun i t e => ?_, h2, h3⟩
    unfold wipeR at e
    by_cases c : i = v
    · subst c
      by_cases hi : i < (wipeR ρ vs).length
      · rw [List.getElem?_set_self hi] at e
        cases e
      · rw [List.getElem?_eq_none (by rw [List.length_set]; omega)] at e
        cases e
    · rw [List.getElem?_set_ne (Ne.symm c)] at e
      obtain ⟨w, e1, tr⟩ := h1 i t e
      exact ⟨w, by unfold wipe; rw [List.getElem?_set_ne (Ne.symm c)]; exact e1, tr⟩
abbrev noX : XP := fun _ _ => False
abbrev noE : SX := fun _ _ _ _ => False
/-- [e for g in i if t]: Inv tells what is made behind each turn -/
def dLc (wi : WI) (g : WG) (wt : WT) (we : WE) (vs : List Nat) : WE := fun x ρ P => wi x ρ fun ds => ds.length < lim ∧ ∃ Inv : Nat → List T → Prop, Inv 0 [] ∧
  (∀ i d acc, ds[i]? = some d → Inv i acc → g d (wipeR ρ vs) fun ρ2 => wt noX ρ2 fun k => (k = true → we noX ρ2 fun t => Inv (i + 1) (acc ++ [t])) ∧ (k = false → Inv (i + 1) acc)) ∧ ∀ acc, Inv ds.length acc → P (.node acc)
def dYes : WT := fun _ _ P => P true
theorem noXC {K : PySem.W.Frag} {mg : Str → Option Value} {E : XK} {b : Option Addr} {G H : Hp} : XC K mg E b G H noX := fun _ _ _ _ _ _ h => h.elim
theorem dlc_core {K : PySem.W.Frag} {mg : Str → Option Value} {E : SX} {wi : WI} {g : WG} {wt : WT} {we : WE} {vs : List Nat} {σ : L2.St} {H : Hp} {Q : VK} (q : tOf K mg E (dLc wi g wt we vs) σ H Q) : tLc (iOf K mg E wi) (gOf K vs g) (ttOf K mg noE wt) (tOf K mg noE we) vs σ H Q := by
  obtain ⟨b, B, G, ρ, xp, P, p, hr, k⟩ := q
  refine ⟨b, B, G, ρ, xp, _, p, hr, fun G1 H1 ds J hp s1 wk => ?_⟩
  obtain ⟨hlim, Inv, i0, it, ie⟩ := hp
  have hr1 : Here K b B G1 H1 σ ρ := hr.toHere.stp s1
  intro D hD
  have gD := s1.good
  have nb : b ≠ some D := fun c => by
    obtain ⟨_, _, _, _, _, _, q, _⟩ := gD.box D c
    rw [hD] at q
    cases q
  have gDn : G1 D = none := by
    cases q : G1 D with
    | none => rfl
    | some u =>
      rw [gD.ex D u q] at hD
      cases hD
  -- the word: behind i turns
  refine ⟨fun i m H2 => m = ds.length - i ∧ i ≤ ds.length ∧ ∃ G2 acc vsl fp, Stp K b G1 H1 G2 H2 ∧ G2 D = none ∧ H2 D = some (.lst vsl) ∧ TrAll b G2 H2 fp vsl acc ∧ (∀ a, a ∈ fp → H1 a = none) ∧ D ∉ fp ∧ acc.length ≤ i ∧ Inv i acc,
    ⟨ds.length, by simp, Nat.zero_le _, G1, [], [], [], gD.own _ hD, gDn, upd_same, .nil, fun _ z => (nomatch z), fun z => (nomatch z), Nat.le_refl _, i0⟩, ?_⟩
  rintro i m H2 ⟨rfl, hi, G2, acc, vsl, fp, s2, g2D, h2D, tr, fr, nD, hla, inv⟩
  by_cases hlt : i < ds.length
  · refine .inr ⟨wk.goes i G2 H2 hlt s2.ex s2.good, fun H' => i + 1 ≤ ds.length ∧ ∃ G2 acc vsl fp, Stp K b G1 H1 G2 H' ∧ G2 D = none ∧ H' D = some (.lst vsl) ∧ TrAll b G2 H' fp vsl acc ∧ (∀ a, a ∈ fp → H1 a = none) ∧ D ∉ fp ∧ acc.length ≤ i + 1 ∧ Inv (i + 1) acc,
      fun H' h => ⟨ds.length - (i + 1), by omega, rfl, h⟩, fun v H3 y => ?_⟩
    obtain ⟨G3, d, ed, s3, rd⟩ := wk.yields i G2 H2 v H3 hlt s2.ex s2.good y
    have s13 := s2.trans gD s3
    have h3 : Here K b B G3 H3 (wipe σ vs) (wipeR ρ vs) := ⟨s3.good, env_wipe ((hr1.stp s13).env) vs, fun a e => hr1.sub a (s13.free gD e)⟩
    refine ⟨b, B, G3, wipeR ρ vs, d, _, it i d acc ed inv, h3, rd, fun σ' ρ' hR hr' bu => ⟨bu.wipe, ?_⟩⟩
    refine ⟨b, B, G3, ρ', noX, _, hR, ⟨hr', noXC⟩, fun G4 H4 c hc s4 => ?_⟩
    -- what is made so far, as it lies behind a step
    have carry : ∀ {G5 H5 : Hp}, Stp K b G3 H3 G5 H5 → G5 D = none ∧ H5 D = some (.lst vsl) ∧ TrAll b G5 H5 fp vsl acc ∧ Stp K b G1 H1 G5 H5 := fun {G5 H5} s5 => by
      have s25 := s3.trans s2.good s5
      refine ⟨s25.out D _ g2D h2D, s25.keep D _ nb h2D, tr.move s25.ex fun a z => ?_, s2.trans gD s25⟩
      obtain ⟨q1, q2, o, q3⟩ := tr.mem a z
      exact ⟨s25.out a o q1 q3, by rw [q3]; exact s25.keep a o q2 q3⟩
    cases c with
    | false =>
      obtain ⟨c1, c2, c3, c4⟩ := carry s4
      show i + 1 ≤ ds.length ∧ _
      exact ⟨hlt, G4, acc, vsl, fp, c4, c1, c2, c3, fr, nD, Nat.le_succ_of_le hla, hc.2 rfl⟩
    | true =>
      show tOf K mg noE we σ' H4 _
      refine ⟨b, B, G4, ρ', noX, _, hc.1 rfl, ⟨hr'.stp s4, noXC⟩, fun G5 H5 y t fq ht s5 tr5 fr5 => ?_⟩
      have s35 := s4.trans s3.good s5
      obtain ⟨c1, c2, c3, c4⟩ := carry s35
      have lv : vsl.length = acc.length := tr.len
      refine ⟨vsl, c2, by rw [lv]; exact lim_lt (by omega), hlt, ?_⟩
      have fqH1 : ∀ a, a ∈ fq → H1 a = none := fun a z => (s13.trans gD s4).free gD (fr5 a z)
      have nDq : D ∉ fq := fun z => by
        have e4 := (carry s4).2.1
        rw [fr5 D z] at e4
        cases e4
      have dj : ∀ a, a ∈ fp → a ∉ fq := fun a z y => by
        obtain ⟨_, _, o, q⟩ := ((carry s4).2.2.1).mem a z
        rw [fr5 a y] at q
        cases q
      obtain ⟨fr', tr', sub'⟩ := TrAll.snoc c3 tr5 dj
      have nDr : D ∉ fr' := fun z => (sub' D z).elim nD nDq
      refine ⟨G5, acc ++ [t], vsl ++ [y], fr', ⟨c4.ex, ⟨fun a u e => ?_, fun a c => ?_⟩, fun a u n e => ?_, c4.out, fun a c => (boxc_eq (upd_ne fun q => nb (by rw [← q]; exact c))).trans (c4.cel a c)⟩, c1, upd_same, tr'.move (Ex.rfl' _) fun a z => ⟨(tr'.mem a z).1, upd_ne fun q => nDr (by rw [← q]; exact z)⟩, fun a z => (sub' a z).elim (fr a) (fqH1 a), nDr, by simp; omega, ht⟩
      · have na : a ≠ D := fun q => by
          rw [q, c1] at e
          cases e
        rw [upd_ne na]
        exact s5.good.ex a u e
      · obtain ⟨n, cc, cells, pos, rest, seed, q1, q2, q3⟩ := s5.good.box a c
        have na : a ≠ D := fun q => nb (by rw [← q]; exact c)
        exact ⟨n, cc, cells, pos, rest, seed, by rw [upd_ne na]; exact q1, q2, q3⟩
      · have na : a ≠ D := fun q => by
          rw [q, hD] at e
          cases e
        rw [upd_ne na]
        exact c4.keep a u n e
  · have e : i = ds.length := by omega
    subst e
    refine .inl ⟨wk.stops G2 H2 s2.ex s2.good, ?_⟩
    refine k G2 H2 (.ref D) (.node acc) (D :: fp) (ie acc inv) (s1.trans hr.good s2) (.node h2D g2D nb tr nD) fun a z => ?_
    rcases List.mem_cons.mp z with z | z
    · rw [z]
      exact s1.free hr.good hD
    · exact s1.free hr.good (fr a z)
section
variable {X : Cx} {E : SX}
theorem ts_nil : PTs X [] (ttOf X.K X.mg noE dYes) := ⟨fun pins s σ H Q I q => pts_nil.run pins s σ H Q I (by
  obtain ⟨b, B, G, ρ, xp, P, p, hr, k⟩ := q
  exact k G H true p hr.good.stp)⟩
theorem ts_one {c : Expr} {w : WT} (h : PT X c (ttOf X.K X.mg noE w)) : PTs X [c] (ttOf X.K X.mg noE w) := pts_one h
theorem d_lc {elt tg iter : Expr} {ifs : List Expr} {scope : Scope} {own : List (Str × Nat)} {pos : Pos} {wi : WI} {g : WG} {wt : WT} {we : WE} (hc : X.calm = true) (hN : X.N.Nodup) (hi : PI X tg iter (iOf X.K X.mg E wi)) (ok : BlkOk X.N X.env.scope scope own)
    (hg : ∀ (s : Shared) (H : Hp) (C : Addr) (cl : List (Str × Addr)) (fp : List Addr), PG (X.blk s H scope (compEnvC scope cl C X.env) fp) tg (gOf X.K (own.map (·.2)) g)) (ht : ∀ (s : Shared) (H : Hp) (C : Addr) (cl : List (Str × Addr)) (fp : List Addr), PTs (X.blk s H scope (compEnvC scope cl C X.env) fp) ifs (ttOf X.K X.mg noE wt))
    (he : ∀ (s : Shared) (H : Hp) (C : Addr) (cl : List (Str × Addr)) (fp : List Addr), PE (X.blk s H scope (compEnvC scope cl C X.env) fp) elt (tOf X.K X.mg noE we)) (hs : ∀ x, foldedSetIterable iter X.env x = pure x := by intro _; rfl) :
    PE X (.ListComp elt [⟨tg, iter, ifs, 0⟩] scope pos) (tOf X.K X.mg E (dLc wi g wt we (own.map (·.2)))) := PE.of (pe_lc hc hN hi ok hg ht he hs) fun σ H Q q => dlc_core q
end
end Dd
namespace Dd
open PySem L2
/-! ### a slot's tree taken out and put back -/
structure EnvX (b : Option Addr) (B Hb G H : Hp) (σ : L2.St) (ρ : Rho) (i : Nat) (fp : List Addr) : Prop where
  len : σ.length = ρ.length
  ex : ∃ fps : Nat → List Addr, (∀ (j : Nat) t, j ≠ i → ρ[j]? = some (some t) → ∃ v, σ[j]? = some (some v) ∧ Tr b G H (fps j) v t) ∧
    (∀ j a, j ≠ i → a ∈ fps j → B a = none ∧ G a = none ∧ b ≠ some a ∧ (∃ o, Hb a = some o ∧ H a = some o) ∧ a ∉ fp) ∧ ∀ j j' a, j ≠ i → j' ≠ i → j ≠ j' → a ∈ fps j → a ∉ fps j'
section
variable {K : PySem.W.Frag} {b : Option Addr} {B Hb G H G' H' : Hp} {σ : L2.St} {ρ : Rho} {i : Nat} {fp : List Addr}
theorem Env.take {t : T} (E : Env b B G H σ ρ) (e : ρ[i]? = some (some t)) : ∃ fp v, σ[i]? = some (some v) ∧ Tr b G H fp v t ∧ (∀ a, a ∈ fp → B a = none) ∧ EnvX b B H G H σ ρ i fp := by
  obtain ⟨hl, fps, h1, h2, h3⟩ := E
  obtain ⟨v, e1, tr⟩ := h1 i t e
  refine ⟨fps i, v, e1, tr, fun a m => (h2 i a m).1, hl, fps, fun j u _ q => h1 j u q, fun j a n m => ?_, fun j j' a _ _ n m => h3 j j' a n m⟩
  obtain ⟨q1, q2, q3, o, q4⟩ := h2 j a m
  exact ⟨q1, q2, q3, ⟨o, q4, q4⟩, h3 j i a n m⟩
/-- a slot that will be written -/
theorem Env.drop (E : Env b B G H σ ρ) (i : Nat) : EnvX b B H G H σ ρ i [] := by
  obtain ⟨hl, fps, h1, h2, h3⟩ := E
  refine ⟨hl, fps, fun j u _ q => h1 j u q, fun j a n m => ?_, fun j j' a _ _ n m => h3 j j' a n m⟩
  obtain ⟨q1, q2, q3, o, q4⟩ := h2 j a m
  exact ⟨q1, q2, q3, ⟨o, q4, q4⟩, fun z => nomatch z⟩
theorem EnvX.stp (E : EnvX b B Hb G H σ ρ i fp) (s : Stp K b G H G' H') : EnvX b B Hb G' H' σ ρ i fp := by
  obtain ⟨hl, fps, h1, h2, h3⟩ := E
  have kk : ∀ j a, j ≠ i → a ∈ fps j → G' a = none ∧ H' a = H a := fun j a n m => by
    obtain ⟨_, g, c, ⟨o, _, e⟩, _⟩ := h2 j a n m
    exact ⟨s.out a o g e, by rw [e]; exact s.keep a o c e⟩
  refine ⟨hl, fps, fun j u n q => ?_, fun j a n m => ?_, h3⟩
  · obtain ⟨v, e1, tr⟩ := h1 j u n q
    exact ⟨v, e1, tr.move s.ex fun a m => kk j a n m⟩
  · obtain ⟨q1, g, c, ⟨o, e⟩, q5⟩ := h2 j a n m
    exact ⟨q1, (kk j a n m).1, c, ⟨o, by rw [(kk j a n m).2]; exact e⟩, q5⟩
theorem EnvX.back {H2 : Hp} {fp' : List Addr} {v : V} {t : T} (E : EnvX b B Hb G H σ ρ i fp) (k : ∀ a o, a ∉ fp → b ≠ some a → H a = some o → H2 a = some o) (tr : Tr b G H2 fp' v t) (sub : ∀ a, a ∈ fp' → B a = none ∧ (a ∈ fp ∨ Hb a = none)) :
    Env b B G H2 (σ.set i (some v)) (ρ.set i (some t)) := by
  obtain ⟨hl, fps, h1, h2, h3⟩ := E
  have off : ∀ j a, j ≠ i → a ∈ fps j → a ∉ fp' := fun j a n m z => by
    obtain ⟨_, _, _, ⟨o, e, _⟩, q5⟩ := h2 j a n m
    rcases (sub a z).2 with y | y
    · exact q5 y
    · rw [y] at e
      cases e
  refine ⟨by rw [List.length_set, List.length_set]; exact hl, fun j => if j = i then fp' else fps j, fun j u e => ?_, fun j a m => ?_, fun j j' a n m => ?_⟩
  · by_cases c : j = i
    · subst c
      have hi : j < ρ.length := by
        have := (List.getElem?_eq_some_iff.mp e).1
        rw [List.length_set] at this
        exact this
      rw [List.getElem?_set_self hi] at e
      cases e
      exact ⟨v, by rw [List.getElem?_set_self (by rw [hl]; exact hi)], by simp only [if_pos]; exact tr⟩
    · rw [List.getElem?_set_ne (Ne.symm c)] at e ⊢
      obtain ⟨w, e1, q⟩ := h1 j u c e
      refine ⟨w, e1, ?_⟩
      simp only [if_neg c]
      exact q.move (Ex.rfl' _) fun a m => by
        obtain ⟨_, g, cc, ⟨o, _, e⟩, q5⟩ := h2 j a c m
        exact ⟨g, by rw [e]; exact k a o q5 cc e⟩
  · by_cases c : j = i
    · simp only [if_pos c] at m
      obtain ⟨g, cc, o⟩ := tr.mem a m
      exact ⟨(sub a m).1, g, cc, o⟩
    · simp only [if_neg c] at m
      obtain ⟨z, g, cc, ⟨o, _, e⟩, q5⟩ := h2 j a c m
      exact ⟨z, g, cc, o, k a o q5 cc e⟩
  · by_cases c : j = i
    · simp only [if_pos c] at m
      have c' : j' ≠ i := fun q => n (c.trans q.symm)
      simp only [if_neg c']
      exact fun q => off j' a c' q m
    · simp only [if_neg c] at m
      by_cases c' : j' = i
      · simp only [if_pos c']
        exact off j a c m
      · simp only [if_neg c']
        exact h3 j j' a c c' n m
end
theorem set_same {σ : L2.St} {i : Nat} {v : V} (e : σ[i]? = some (some v)) : σ.set i (some v) = σ := by
  refine List.ext_getElem? fun j => ?_
  by_cases c : j = i
  · subst c
    have hi := (List.getElem?_eq_some_iff.mp e).1
    rw [List.getElem?_set_self hi, e]
  · rw [List.getElem?_set_ne (Ne.symm c)]

/-! ### statements -/
structure At (K : PySem.W.Frag) (b : Option Addr) (F G0 H0 : Hp) (ρ : Rho) (σ : L2.St) (H : Hp) : Prop where
  ex : ∃ G, Ex F G ∧ Stp K b G0 H0 G H ∧ Env b H0 G H σ ρ
structure EndsOk (K : PySem.W.Frag) (mg : Str → Option Value) (E : SX) (b : Option Addr) (F G0 H0 : Hp) (C : Ctl) (D : Ends) : Prop where
  nx : ∀ ρ σ H, C.nx ρ → At K b F G0 H0 ρ σ H → D.nx σ H
  bk : ∀ ρ σ H, C.bk ρ → At K b F G0 H0 ρ σ H → D.bk σ H
  ct : ∀ ρ σ H, C.ct ρ → At K b F G0 H0 ρ σ H → D.ct σ H
  rt : ∀ (t : T) (v : V) (fp : List Addr) (G H : Hp), C.rt t → Stp K b G0 H0 G H → Tr b G H fp v t → (∀ a, a ∈ fp → H0 a = none) → D.rt v H
  xc : ∀ (ρ : Rho) (σ : L2.St) (n : Str) (pl : PyData) (c d : Addr) (G H : Hp), C.xc ρ n pl → Ex F G → Stp K b G0 H0 G H → Env b H0 G H σ ρ → mg n = some (.ref c) → G d = some (.xd (exF n pl)) → E σ (.ref c) (some d) H
def sOf (K : PySem.W.Frag) (mg : Str → Option Value) (E : SX) (w : WS) : TS := fun D σ H => ∃ (b : Option Addr) (F G0 H0 : Hp) (ρ : Rho) (C : Ctl), w C ρ ∧ Good K b G0 H0 ∧ At K b F G0 H0 ρ σ H ∧ EndsOk K mg E b F G0 H0 C D
section
variable {K : PySem.W.Frag} {mg : Str → Option Value} {E : SX} {b : Option Addr} {F G0 H0 G H G' H' : Hp} {σ : L2.St} {ρ : Rho} {C : Ctl} {D : Ends}
theorem At.site (g0 : Good K b G0 H0) (h : At K b F G0 H0 ρ σ H) (eo : EndsOk K mg E b F G0 H0 C D) : ∃ G, Ex F G ∧ Stp K b G0 H0 G H ∧ Site K mg (E σ) b H0 G H σ ρ (C.xc ρ) := by
  obtain ⟨G, e1, s, E1⟩ := h
  refine ⟨G, e1, s, ⟨⟨s.good, E1, fun a e => s.free g0 e⟩, fun n pl c d G' H' x m e s2 => ?_⟩⟩
  exact eo.xc ρ σ n pl c d G' H' x (e1.trans s2.ex) (s.trans g0 s2) (E1.stp s2) m e
/-- what was fresh at a step is fresh at the start -/
theorem Stp.fresh0 (g0 : Good K b G0 H0) (s : Stp K b G0 H0 G H) {a : Addr} (e : H a = none) : H0 a = none := s.free g0 e
/-- the slot i takes a new tree -/
theorem At.put {fp : List Addr} {v : V} {t : T} (i : Nat) (g0 : Good K b G0 H0) (e1 : Ex F G) (s : Stp K b G0 H0 G H) (E1 : Env b H0 G H σ ρ) (s2 : Stp K b G H G' H') (tr : Tr b G' H' fp v t) (fr : ∀ a, a ∈ fp → H a = none) : At K b F G0 H0 (ρ.set i (some t)) (σ.set i (some v)) H' := by
  have EX := (E1.drop i)
  obtain ⟨hl, fps, h1, h2, h3⟩ := EX
  have EX' : EnvX b H0 H G' H σ ρ i [] := by
    refine ⟨hl, fps, fun j u n q => ?_, fun j a n m => ?_, h3⟩
    · obtain ⟨v, e1, tr⟩ := h1 j u n q
      exact ⟨v, e1, tr.move s2.ex fun a m => by
        obtain ⟨_, g, c, ⟨o, _, e⟩, _⟩ := h2 j a n m
        exact ⟨s2.out a o g e, rfl⟩⟩
    · obtain ⟨q1, g, c, ⟨o, eb, e⟩, q5⟩ := h2 j a n m
      exact ⟨q1, s2.out a o g e, c, ⟨o, eb, e⟩, q5⟩
  exact ⟨G', e1.trans s2.ex, s.trans g0 s2, EX'.back (fun a o _ c e => s2.keep a o c e) tr fun a m => ⟨s.free g0 (fr a m), .inr (fr a m)⟩⟩
/-- an own list is written in place -/
theorem At.mut {Hb : Hp} {fp fp' : List Addr} {p : Addr} {xs : List V} {t : T} {i : Nat} (g0 : Good K b G0 H0) (e1 : Ex F G) (s : Stp K b G0 H0 G H) (EX : EnvX b H0 Hb G H σ ρ i fp) (ei : σ[i]? = some (some (.ref p))) (hp : p ∈ fp) (hB : ∀ a, a ∈ fp → H0 a = none) (gp : G p = none) (bp : b ≠ some p)
    (tr : Tr b G (upd H p (.lst xs)) fp' (.ref p) t) (sub : ∀ a, a ∈ fp' → H0 a = none ∧ (a ∈ fp ∨ Hb a = none)) : At K b F G0 H0 (ρ.set i (some t)) σ (upd H p (.lst xs)) := by
  have st : Stp K b G0 H0 G (upd H p (.lst xs)) := by
    refine ⟨s.ex, ⟨fun a u e => ?_, fun a c => ?_⟩, fun a u n e => ?_, s.out, fun a c => (boxc_eq (upd_ne fun q => bp (by rw [← q]; exact c))).trans (s.cel a c)⟩
    · have na : a ≠ p := fun q => by
        rw [q, gp] at e
        cases e
      rw [upd_ne na]
      exact s.good.ex a u e
    · obtain ⟨n, cc, cells, pos, rest, seed, q1, q2, q3⟩ := s.good.box a c
      have na : a ≠ p := fun q => bp (by rw [← q]; exact c)
      exact ⟨n, cc, cells, pos, rest, seed, by rw [upd_ne na]; exact q1, q2, q3⟩
    · have na : a ≠ p := fun q => by
        rw [q, hB p hp] at e
        cases e
      rw [upd_ne na]
      exact s.keep a u n e
  have E2 := EX.back (H2 := upd H p (.lst xs)) (fun a o n _ e => by
    rw [upd_ne fun q => n (by rw [q]; exact hp)]
    exact e) tr sub
  rw [set_same ei] at E2
  exact ⟨G, e1, st, E2⟩
end
section
variable {X : Cx} {E : SX} {st : Stmt} {rest : List Stmt} {e e2 : Expr} {we wa wb : WE} {wt : WT} {w u : WS} {pos p : Pos}
theorem PS.of {t : TS} (h : PS X st t) (k : ∀ D σ H, sOf X.K X.mg E w D σ H → t D σ H) : PS X st (sOf X.K X.mg E w) := ⟨fun pins s σ H D I q => h.run pins s σ H D I (k D σ H q)⟩
theorem PSs.of {t : TS} (h : PSs X rest t) (k : ∀ D σ H, sOf X.K X.mg E w D σ H → t D σ H) : PSs X rest (sOf X.K X.mg E w) := ⟨fun pins s σ H D I q => h.run pins s σ H D I (k D σ H q)⟩
def dNext : WS := fun C ρ => C.nx ρ
def dSeq (w u : WS) : WS := fun C ρ => w { C with nx := u C } ρ
def dBreak : WS := fun C ρ => C.bk ρ
def dCont : WS := fun C ρ => C.ct ρ
theorem s_nil : PSs X [] (sOf X.K X.mg E dNext) := PSs.of pss_nil fun D σ H ⟨b, F, G0, H0, ρ, C, q, g0, a, eo⟩ => eo.nx ρ σ H q a
theorem s_one (h : PS X st (sOf X.K X.mg E w)) : PSs X [st] (sOf X.K X.mg E w) := pss_one h
theorem s_cons (h1 : PS X st (sOf X.K X.mg E w)) (h2 : PSs X rest (sOf X.K X.mg E u)) : PSs X (st :: rest) (sOf X.K X.mg E (dSeq w u)) := PSs.of (pss_cons h1 h2) fun D σ H ⟨b, F, G0, H0, ρ, C, q, g0, a, eo⟩ =>
  ⟨b, F, G0, H0, ρ, _, q, g0, a, ⟨fun ρ σ H q a => ⟨b, F, G0, H0, ρ, C, q, g0, a, eo⟩, eo.bk, eo.ct, eo.rt, eo.xc⟩⟩
/-- a row, then the rest, with a word between them -/
def dCut (w u : WS) : WS := fun C ρ => ∃ Mid : Rho → Prop, w { C with nx := Mid } ρ ∧ ∀ ρ', Mid ρ' → u C ρ'
theorem s_cut (h1 : PS X st (sOf X.K X.mg E w)) (h2 : PSs X rest (sOf X.K X.mg E u)) : PSs X (st :: rest) (sOf X.K X.mg E (dCut w u)) := PSs.of (pss_cons h1 h2) fun D σ H ⟨b, F, G0, H0, ρ, C, ⟨Mid, q, m⟩, g0, a, eo⟩ =>
  ⟨b, F, G0, H0, ρ, _, q, g0, a, ⟨fun ρ σ H q a => ⟨b, F, G0, H0, ρ, C, m ρ q, g0, a, eo⟩, eo.bk, eo.ct, eo.rt, eo.xc⟩⟩
theorem s_pass : PS X (.Pass pos) (sOf X.K X.mg E dNext) := PS.of ps_pass fun D σ H ⟨b, F, G0, H0, ρ, C, q, g0, a, eo⟩ => eo.nx ρ σ H q a
theorem s_break : PS X (.Break pos) (sOf X.K X.mg E dBreak) := PS.of ps_break fun D σ H ⟨b, F, G0, H0, ρ, C, q, g0, a, eo⟩ => eo.bk ρ σ H q a
theorem s_cont : PS X (.Continue pos) (sOf X.K X.mg E dCont) := PS.of ps_continue fun D σ H ⟨b, F, G0, H0, ρ, C, q, g0, a, eo⟩ => eo.ct ρ σ H q a
/-- name = e -/
def dAsg (i : Nat) (we : WE) : WS := fun C ρ => we (C.xc ρ) ρ fun t => C.nx (ρ.set i (some t))
theorem s_asg (i : Nat) {x : Str} {pos' : Pos} (hN : X.N.Nodup) (he : PE X e (tOf X.K X.mg E we)) (hi : X.N[i]? = some x := by rfl) (hx : Loc X.env.scope x := by first | exact Or.inl rfl | exact Or.inr rfl) (hs : swapsWith e (some (.Name x pos')) pos.line X.env = pure false := by rfl) (hf : X.fn x = true ∨ X.env.scope.names.lookup x = some .local := by first | exact .inl rfl | exact .inr rfl | assumption) :
    PS X (.Assign [.Name x pos'] e pos) (sOf X.K X.mg E (dAsg i we)) := PS.of (ps_set hN hi hx he hs hf) fun D σ H ⟨b, F, G0, H0, ρ, C, q, g0, a, eo⟩ => by
  obtain ⟨G, e1, s, hr⟩ := a.site g0 eo
  exact ⟨b, H0, G, ρ, C.xc ρ, _, q, hr, fun G' H' v t fp hp s2 tr fr => eo.nx _ _ _ hp (At.put i g0 e1 s hr.env s2 tr fr)⟩
/-- .. a comprehension to a local name -/
theorem s_setLc {i : Nat} {y : Str} {py : Pos} {elt tg iter : Expr} {ifs : List Expr} {scope : Scope} {own : List (Str × Nat)} {pos spos : Pos} {wi : WI} {g : WG} {wt : WT} {we : WE} (hc : X.calm = true) (hN : X.N.Nodup) (hy : X.N[i]? = some y) (hyl : X.env.scope.names.lookup y = some .local)
    (hsw : swapsWith (.ListComp elt [⟨tg, iter, ifs, 0⟩] scope pos) (some (.Name y py)) spos.line X.env = pure true) (hi : PI X tg iter (iOf X.K X.mg E wi)) (ok : BlkOk X.N X.env.scope scope own)
    (hg : ∀ (s : Shared) (H : Hp) (C : Addr) (cl : List (Str × Addr)) (fp : List Addr), PG (X.blk s H scope (compEnvC scope cl C X.env) fp) tg (gOf X.K (own.map (·.2)) g)) (ht : ∀ (s : Shared) (H : Hp) (C : Addr) (cl : List (Str × Addr)) (fp : List Addr), PTs (X.blk s H scope (compEnvC scope cl C X.env) fp) ifs (ttOf X.K X.mg noE wt))
    (he : ∀ (s : Shared) (H : Hp) (C : Addr) (cl : List (Str × Addr)) (fp : List Addr), PE (X.blk s H scope (compEnvC scope cl C X.env) fp) elt (tOf X.K X.mg noE we)) (hs : ∀ x, foldedSetIterable iter X.env x = pure x := by intro _; rfl) :
    PS X (.Assign [.Name y py] (.ListComp elt [⟨tg, iter, ifs, 0⟩] scope pos) spos) (sOf X.K X.mg E (dAsg i (dLc wi g wt we (own.map (·.2))))) := PS.of (ps_setLc hc hN hy hyl hsw hi ok hg ht he hs) fun D σ H ⟨b, F, G0, H0, ρ, C, q, g0, a, eo⟩ => by
  obtain ⟨G, e1, s, hr⟩ := a.site g0 eo
  exact dlc_core ⟨b, H0, G, ρ, C.xc ρ, _, q, hr, fun G' H' v t fp hp s2 tr fr => eo.nx _ _ _ hp (At.put i g0 e1 s hr.env s2 tr fr)⟩
/-- target = e, settled -/
def dAsgG (wg : WG) (we : WE) : WS := fun C ρ => we (C.xc ρ) ρ fun t => wg t.dat ρ C.nx
theorem s_asgG {tg : Expr} {ts : List Nat} {wg : WG} (he : PE X e (tOf X.K X.mg E we)) (hg : PG X tg (gOf X.K ts wg)) (hs : swapsWithSole [tg] e pos.line X.env = pure false := by rfl) (hw : swappedStores [tg] e X.env = pure none := by rfl) (h1 : (assignEach [tg] X.env).map (·.2) = [assign tg X.env] := by rfl) :
    PS X (.Assign [tg] e pos) (sOf X.K X.mg E (dAsgG wg we)) := PS.of (ps_asg he hg hs hw h1) fun D σ H ⟨b, F, G0, H0, ρ, C, q, g0, a, eo⟩ => by
  obtain ⟨G, e1, s, hr⟩ := a.site g0 eo
  exact tOfD_of ⟨b, H0, G, ρ, C.xc ρ, fun d => wg d ρ C.nx, q, hr, fun G' H' v d hp s2 hr2 r => ⟨b, H0, G', ρ, d, _, hp, hr2.toHere, r, fun σ' ρ' h1 h2 _ => eo.nx _ _ _ h1 ⟨G', e1.trans s2.ex, s.trans g0 s2, h2.env⟩⟩⟩
/-- a, b = e1, e2 -/
def dPar (i j : Nat) (ws : WA) : WS := fun C ρ => ws (C.xc ρ) ρ fun ds => match ds with
  | [d, e] => C.nx ((ρ.set i (some (.leaf d))).set j (some (.leaf e)))
  | _ => False
theorem s_par {i j : Nat} {x y : Str} {a b : Expr} {ws : WA} {px py pt : Pos} {kt k2 pt2} (hc : X.calm = true) (hN : X.N.Nodup) (ha : PA X [a, b] (aOf X.K X.mg E ws)) (hi : X.N[i]? = some x := by rfl) (hj : X.N[j]? = some y := by rfl) (hij : i ≠ j := by decide)
    (hx : X.env.scope.names.lookup x = some .local := by rfl) (hy : X.env.scope.names.lookup y = some .local := by rfl)
    (hw : swappedStores [.Tuple [.Name x px, .Name y py] kt pt] (.Tuple [a, b] k2 pt2) X.env = pure (some [x, y]) := by rfl)
    (hs : swapsWithSole [.Tuple [.Name x px, .Name y py] kt pt] (.Tuple [a, b] k2 pt2) pos.line X.env = pure false := by rfl) :
    PS X (.Assign [.Tuple [.Name x px, .Name y py] kt pt] (.Tuple [a, b] k2 pt2) pos) (sOf X.K X.mg E (dPar i j ws)) := PS.of (ps_par hc hN hi hj hij hx hy ha hw hs) fun D σ H ⟨b, F, G0, H0, ρ, C, q, g0, a, eo⟩ => by
  obtain ⟨G, e1, s, hr⟩ := a.site g0 eo
  refine ⟨b, H0, G, ρ, C.xc ρ, _, q, hr, fun G' H' vs ds hp s2 r => ?_⟩
  try dsimp only at hp
  split at hp
  · cases r with
    | cons r1 r2 =>
      cases r2 with
      | cons r3 r4 =>
        cases r4
        have hr2 := ((hr.toHere.stp s2).leaf i r1).leaf j r3
        exact ⟨_, _, rfl, eo.nx _ _ _ hp ⟨G', e1.trans s2.ex, s.trans g0 s2, hr2.env⟩⟩
  · exact hp.elim
/-- name += e -/
def dAug (f : Int → Int → Int) (i : Nat) (we : WE) : WS := fun C ρ => ∃ a, ρ[i]? = some (some (int a)) ∧ we (C.xc ρ) ρ fun t => match t with
  | .leaf (.int c) => C.nx (ρ.set i (some (int (f a c))))
  | _ => False
theorem s_aug {op : Operator} {f : Int → Int → Int} (ho : PIp X op (ipI f)) (i : Nat) {x : Str} {pos' : Pos} (hN : X.N.Nodup) (he : PE X e (tOf X.K X.mg E we)) (hi : X.N[i]? = some x := by rfl) (hx : Loc X.env.scope x := by first | exact Or.inl rfl | exact Or.inr rfl) (hf : X.fn x = true ∨ X.env.scope.names.lookup x = some .local := by first | exact .inl rfl | exact .inr rfl | assumption) :
    PS X (.AugAssign (.Name x pos') op e pos) (sOf X.K X.mg E (dAug f i we)) := PS.of (ps_aug hN hi hx he ho hf) fun D σ H ⟨b, F, G0, H0, ρ, C, ⟨a0, ea, q⟩, g0, a, eo⟩ => by
  obtain ⟨G, e1, s, hr⟩ := a.site g0 eo
  obtain ⟨fps, h1, h2, h3⟩ := hr.env.ex
  obtain ⟨v, ev, tr⟩ := h1 i _ ea
  generalize fps i = fp at tr
  cases tr with
  | leaf r =>
    cases r
    refine ⟨_, ev, b, H0, G, ρ, C.xc ρ, _, q, hr, fun G' H' v t fp hp s2 tr fr => ?_⟩
    try dsimp only at hp
    split at hp
    · cases tr with
      | leaf r =>
        cases r
        exact ⟨_, _, rfl, rfl, eo.nx _ _ _ hp (At.put i g0 e1 s hr.env s2 (.leaf (.int _)) (fun _ z => nomatch z))⟩
    · exact hp.elim
/-- return e -/
def dRet (we : WE) : WS := fun C ρ => we (C.xc ρ) ρ C.rt
theorem s_ret (he : PE X e (tOf X.K X.mg E we)) : PS X (.Return (some e) pos) (sOf X.K X.mg E (dRet we)) := PS.of (ps_ret he) fun D σ H ⟨b, F, G0, H0, ρ, C, q, g0, a, eo⟩ => by
  obtain ⟨G, e1, s, hr⟩ := a.site g0 eo
  exact ⟨b, H0, G, ρ, C.xc ρ, _, q, hr, fun G' H' v t fp hp s2 tr fr => eo.rt t v fp G' H' hp (s.trans g0 s2) tr fun a m => s.free g0 (fr a m)⟩
def dRetV (i : Nat) : WS := fun C ρ => ∃ t, ρ[i]? = some (some t) ∧ C.rt t
theorem s_retV (i : Nat) {x : Str} {p : Pos} (hN : X.N[i]? = some x := by rfl) (hv : Vis X.env.scope x := by first | exact Or.inl rfl | exact Or.inr (Or.inl rfl) | exact Or.inr (Or.inr rfl)) (hd : (x == ("__debug__" : Str)) = false := by decide) (hcd : (x == ("__classdict__" : Str)) = false := by decide) :
    PS X (.Return (some (.Name x p)) pos) (sOf X.K X.mg E (dRetV i)) := PS.of (ps_ret (pe_var hN hv hd hcd)) fun D σ H ⟨b, F, G0, H0, ρ, C, ⟨t, et, q⟩, g0, a, eo⟩ => by
  obtain ⟨G, e1, s, hr⟩ := a.site g0 eo
  obtain ⟨fp, v, ev, tr, hB, _⟩ := hr.env.take et
  exact ⟨v, ev, eo.rt t v fp G H q s tr hB⟩
/-- an expression for its own sake -/
def dDrop (we : WE) : WS := fun C ρ => we (C.xc ρ) ρ fun _ => C.nx ρ
theorem s_drop (he : PE X e (tOf X.K X.mg E we)) (hs : swapsWith e none pos.line X.env = pure false := by rfl) : PS X (.Expr e pos) (sOf X.K X.mg E (dDrop we)) := PS.of (ps_expr he hs) fun D σ H ⟨b, F, G0, H0, ρ, C, q, g0, a, eo⟩ => by
  obtain ⟨G, e1, s, hr⟩ := a.site g0 eo
  exact ⟨b, H0, G, ρ, C.xc ρ, _, q, hr, fun G' H' v t fp hp s2 tr fr => eo.nx _ _ _ hp ⟨G', e1.trans s2.ex, s.trans g0 s2, hr.env.stp s2⟩⟩
/-- if -/
def dIf (wt : WT) (w u : WS) : WS := fun C ρ => wt (C.xc ρ) ρ fun k => (k = true → w C ρ) ∧ (k = false → u C ρ)
theorem s_if {c : Expr} {a b : List Stmt} (hc : PT X c (ttOf X.K X.mg E wt)) (ha : PSs X a (sOf X.K X.mg E w)) (hb : PSs X b (sOf X.K X.mg E u)) : PS X (.If c a b pos) (sOf X.K X.mg E (dIf wt w u)) := PS.of (ps_if hc ha hb) fun D σ H ⟨b, F, G0, H0, ρ, C, q, g0, a, eo⟩ => by
  obtain ⟨G, e1, s, hr⟩ := a.site g0 eo
  refine ⟨b, H0, G, ρ, C.xc ρ, _, q, hr, fun G' H' k hp s2 => ?_⟩
  have at2 : At X.K b F G0 H0 ρ σ H' := ⟨G', e1.trans s2.ex, s.trans g0 s2, hr.env.stp s2⟩
  cases k with
  | true =>
    show sOf X.K X.mg E w D σ H'
    exact ⟨b, F, G0, H0, ρ, C, hp.1 rfl, g0, at2, eo⟩
  | false =>
    show sOf X.K X.mg E u D σ H'
    exact ⟨b, F, G0, H0, ρ, C, hp.2 rfl, g0, at2, eo⟩
/-- settle a slot -/
def dFrz (i : Nat) (w : WS) : WS := fun C ρ => ∃ t, ρ[i]? = some (some t) ∧ w C (ρ.set i (some (.leaf t.dat)))
theorem s_frz (i : Nat) (h : PSs X rest (sOf X.K X.mg E w)) : PSs X rest (sOf X.K X.mg E (dFrz i w)) := PSs.of h fun D σ H ⟨b, F, G0, H0, ρ, C, ⟨t, et, q⟩, g0, a, eo⟩ => by
  obtain ⟨G, e1, s, hr⟩ := a.site g0 eo
  obtain ⟨fp, v, ev, tr, hB, rp, g2, ex, E2⟩ := hr.env.settle hr.good et
  refine ⟨b, F, G0, H0, _, C, q, g0, ⟨addF G H fp, e1.trans ex, ⟨s.ex.trans ex, g2, s.keep, fun a o n e => ?_, s.cel⟩, E2⟩, eo⟩
  have na : a ∉ fp := fun z => by
    rw [hB a z] at e
    cases e
  rw [addF_out na]
  exact s.out a o n e
/-- xs.append(e) -/
def dApp (i : Nat) (we : WE) : WS := fun C ρ => ∃ ts, ρ[i]? = some (some (.node ts)) ∧ ts.length < lim ∧ we (C.xc ρ) ρ fun t => C.nx (ρ.set i (some (.node (ts ++ [t]))))
theorem s_app (i : Nat) {x : Str} {p apos cpos : Pos} (he : PE X e (tOf X.K X.mg E we)) (hN : X.N[i]? = some x := by rfl) (hv : Vis X.env.scope x := by first | exact Or.inl rfl | exact Or.inr (Or.inl rfl) | exact Or.inr (Or.inr rfl)) (hd : (x == ("__debug__" : Str)) = false := by decide) (hcd : (x == ("__classdict__" : Str)) = false := by decide)
    (hsw : swapsWith (.Call (.Attribute (.Name x p) "append" apos) [e] [] cpos) none pos.line X.env = pure false := by rfl)
    (hbase : attributeBase (.Name x p) "append" X.env (eval (.Name x p) X.env) = eval (.Name x p) X.env := by rfl)
    (hfew : ((backTo cpos (starEach [e] X.env)).all (fun x => !x.1) && (backToKw cpos (keywordEach [] X.env)).all (fun x => x.1.isSome)
      && decide (([e] : List Expr).length + ([] : List Keyword).length + (if ([] : List Keyword).isEmpty then 0 else 1) < 30)) = true := by rfl)
    (hline : (apos.endLine == cpos.line) = true := by rfl) (hs : starEach [e] X.env = (false, eval e X.env) :: starEach [] X.env := by rfl) (hplain : (backTo cpos (starEach [] X.env)).any (·.1) = false := by rfl) :
    PS X (.Expr (.Call (.Attribute (.Name x p) "append" apos) [e] [] cpos) pos) (sOf X.K X.mg E (dApp i we)) :=
  PS.of (ps_expr (pe_bm PySem.F.plainAttrs_list PySem.F.slot_list_append PySem.F.type_list_append mt_append (pe_var hN hv hd hcd) (pa_cons he pa_nil hs) hbase hfew hline hs hplain) hsw) fun D σ H ⟨b, F, G0, H0, ρ, C, ⟨ts, et, hl, q⟩, g0, a, eo⟩ => by
  obtain ⟨G, e1, s, hr⟩ := a.site g0 eo
  obtain ⟨fp, v, ev, tr, hB, EX⟩ := hr.env.take et
  cases tr with
  | node hp gp bp rr np =>
    rename_i pp fq vs
    refine ⟨_, ev, .inl ⟨rfl, _, .inl (.inl hp)⟩, b, H0, G, ρ, C.xc ρ, _, q, hr, fun G' H' v t fv ht s2 tr2 fr => ?_⟩
    have hp' : H' pp = some (.lst vs) := s2.keep _ _ bp hp
    have gp' : G' pp = none := s2.out _ _ gp hp
    have rr' := rr.move (G' := G') (H' := H') s2.ex fun a m => by
      obtain ⟨q1, q2, o, q3⟩ := rr.mem a m
      exact ⟨s2.out a o q1 q3, by rw [q3]; exact s2.keep a o q2 q3⟩
    have dj : ∀ a, a ∈ fq → a ∉ fv := fun a m z => by
      obtain ⟨q1, q2, o, q3⟩ := rr.mem a m
      rw [fr a z] at q3
      cases q3
    have npv : pp ∉ fv := fun z => by
      rw [fr _ z] at hp
      cases hp
    obtain ⟨fn, tr3, sub⟩ := TrAll.snoc rr' tr2 dj
    have npn : pp ∉ fn := fun z => (sub _ z).elim np npv
    refine ⟨pp, vs, v, rfl, rfl, hp', by rw [rr.len]; exact lim_lt hl, eo.nx _ _ _ ht ?_⟩
    refine At.mut (fp' := pp :: fn) g0 (e1.trans s2.ex) (s.trans g0 s2) (EX.stp s2) ev (List.mem_cons_self ..) hB gp' bp (.node upd_same gp' bp (tr3.move (Ex.rfl' _) fun a m => ⟨(tr3.mem a m).1, upd_ne fun z => npn (by rw [← z]; exact m)⟩) npn) fun a m => ?_
    rcases List.mem_cons.mp m with m | m
    · rw [m]
      exact ⟨hB _ (List.mem_cons_self ..), .inl (List.mem_cons_self ..)⟩
    · rcases sub a m with z | z
      · exact ⟨hB _ (List.mem_cons_of_mem _ z), .inl (List.mem_cons_of_mem _ z)⟩
      · exact ⟨s.free g0 (fr a z), .inr (fr a z)⟩
end
end Dd
namespace Dd
open PySem L2
theorem ixN_at {n : Nat} {k : Int} {j : Nat} (h : ixN n k = some j) : j < n := (ixN_seq h).2.1
theorem ixN_of {n : Nat} {k : Int} (h0 : 0 ≤ k) (h1 : k < n) : ixN n k = some k.toNat := by
  unfold ixN
  rw [if_pos h0, if_pos h1]
theorem TrAll.at {b : Option Addr} {G H : Hp} : ∀ {fp : List Addr} {vs : List V} {ts : List T} {j : Nat} {d : PyData}, TrAll b G H fp vs ts → ts[j]? = some (.leaf d) → ∃ v, vs[j]? = some v ∧ Rp b G v d
  | _, _, _, _, _, .nil, e => by simp at e
  | _, _, _, 0, d, .cons q r k, e => by
    simp at e
    subst e
    cases q with
    | leaf h => exact ⟨_, rfl, h⟩
  | _, _, _, j + 1, d, .cons q r k, e => by
    obtain ⟨v, h1, h2⟩ := TrAll.at (j := j) (d := d) r (by simpa using e)
    exact ⟨v, by simpa using h1, h2⟩
section
variable {X : Cx} {E : SX} {st : Stmt} {rest : List Stmt} {e e2 : Expr} {we wa wj wb : WE} {wt : WT} {w u : WS} {pos p tpos : Pos}
/-- x[j] = e, x a list of one's own -/
def dSetI (i : Nat) (wj we : WE) : WS := fun C ρ => we (C.xc ρ) ρ fun t => ∃ ts, ρ[i]? = some (some (.node ts)) ∧ wj (C.xc ρ) ρ fun v => match v with
  | .leaf (.int k) => ∃ n, ixN ts.length k = some n ∧ C.nx (ρ.set i (some (.node (ts.set n (.leaf t.dat)))))
  | _ => False
/-- an own flat place written -/
theorem own_set {K : PySem.W.Frag} {b : Option Addr} {F G0 H0 G H : Hp} {σ : L2.St} {ρ : Rho} {i : Nat} {ts : List T} {n : Nat} {v : V} {d : PyData} (g0 : Good K b G0 H0) (e1 : Ex F G) (s : Stp K b G0 H0 G H) (E1 : Env b H0 G H σ ρ) (et : ρ[i]? = some (some (.node ts))) (r : Rp b G v d) :
    ∃ q vs, σ[i]? = some (some (.ref q)) ∧ H q = some (.lst vs) ∧ vs.length = ts.length ∧ (∀ (j : Nat) d', ts[j]? = some (.leaf d') → ∃ u, vs[j]? = some u ∧ Rp b G u d') ∧ At K b F G0 H0 (ρ.set i (some (.node (ts.set n (.leaf d))))) σ (upd H q (.lst (vs.set n v))) := by
  obtain ⟨fp, v, ev, tr, hB, EX⟩ := E1.take et
  cases tr with
  | node hp gp bp rr np =>
    rename_i pp fq vs
    refine ⟨pp, vs, ev, hp, rr.len, fun j d' h => rr.at h, ?_⟩
    obtain ⟨fn, tr3, sub⟩ := TrAll.setLeaf r n rr
    have npn : pp ∉ fn := fun z => np (sub _ z)
    refine At.mut (fp' := pp :: fn) g0 e1 s EX ev (List.mem_cons_self ..) hB gp bp (.node upd_same gp bp (tr3.move (Ex.rfl' _) fun a m => ⟨(tr3.mem a m).1, upd_ne fun z => npn (by rw [← z]; exact m)⟩) npn) fun a m => ?_
    rcases List.mem_cons.mp m with m | m
    · rw [m]
      exact ⟨hB _ (List.mem_cons_self ..), .inl (List.mem_cons_self ..)⟩
    · exact ⟨hB _ (List.mem_cons_of_mem _ (sub a m)), .inl (List.mem_cons_of_mem _ (sub a m))⟩
theorem env_node {K : PySem.W.Frag} {b : Option Addr} {B G H : Hp} {σ : L2.St} {ρ : Rho} {i : Nat} {ts : List T} (E1 : Env b B G H σ ρ) (et : ρ[i]? = some (some (.node ts))) :
    ∃ q vs, σ[i]? = some (some (.ref q)) ∧ H q = some (.lst vs) ∧ vs.length = ts.length ∧ b ≠ some q ∧ ∀ (j : Nat) d', ts[j]? = some (.leaf d') → ∃ u, vs[j]? = some u ∧ Rp b G u d' := by
  obtain ⟨fp, v, ev, tr, hB, EX⟩ := E1.take et
  cases tr with
  | node hp gp bp rr np => exact ⟨_, _, ev, hp, rr.len, bp, fun j d' h => rr.at h⟩
theorem s_setI (i : Nat) {x : Str} {kp : Pos} (hN : X.N[i]? = some x := by rfl) (hv : Vis X.env.scope x := by first | exact Or.inl rfl | exact Or.inr (Or.inl rfl) | exact Or.inr (Or.inr rfl)) (hd : (x == ("__debug__" : Str)) = false := by decide) (hcd : (x == ("__classdict__" : Str)) = false := by decide)
    (hj : PE X e2 (tOf X.K X.mg E wj)) (he : PE X e (tOf X.K X.mg E we))
    (ha : ∀ v, assign (.Subscript (.Name x kp) e2 tpos) X.env v = (do
      let ov ← holding [v] (eval (.Name x kp) X.env)
      let iv ← holding [v, ov] (eval e2 X.env)
      standAt tpos
      holding [v, ov, iv] (setItem ov iv v)
      release [v, ov, iv] []) := by intro _; rfl)
    (hs : swapsWithSole [.Subscript (.Name x kp) e2 tpos] e pos.line X.env = pure false := by rfl) (hw : swappedStores [.Subscript (.Name x kp) e2 tpos] e X.env = pure none := by rfl) (h1 : (assignEach [.Subscript (.Name x kp) e2 tpos] X.env).map (·.2) = [assign (.Subscript (.Name x kp) e2 tpos) X.env] := by rfl) :
    PS X (.Assign [.Subscript (.Name x kp) e2 tpos] e pos) (sOf X.K X.mg E (dSetI i wj we)) := PS.of (ps_asg he (pg_sub (pe_var hN hv hd hcd) hj set_list ha) hs hw h1) fun D σ H ⟨b, F, G0, H0, ρ, C, q, g0, a, eo⟩ => by
  obtain ⟨G, e1, s, hr⟩ := a.site g0 eo
  refine tOfD_of ⟨b, H0, G, ρ, C.xc ρ, fun d => ∃ ts, ρ[i]? = some (some (.node ts)) ∧ wj (C.xc ρ) ρ fun v => match v with
    | .leaf (.int k) => ∃ n, ixN ts.length k = some n ∧ C.nx (ρ.set i (some (.node (ts.set n (.leaf d)))))
    | _ => False, q, hr, fun G1 H1 v d hp s1 hr1 rd => ?_⟩
  obtain ⟨ts, et, hp⟩ := hp
  obtain ⟨q0, vs0, ev, hq0, _, bq, _⟩ := env_node (K := X.K) hr1.env et
  refine ⟨_, ev, b, H0, G1, ρ, C.xc ρ, _, hp, hr1, fun G2 H2 u t fp ht s2 tr fr => ?_⟩
  try dsimp only at ht
  split at ht
  · obtain ⟨n, hn, q⟩ := ht
    cases tr with
    | leaf r =>
      cases r
      have s12 := s1.trans hr.good s2
      obtain ⟨q1, vs, ev1, hq1, hl, _, at2⟩ := own_set (n := n) g0 (e1.trans s12.ex) (s.trans g0 s12) (hr1.env.stp s2) et (rd.mono s2.ex)
      rw [ev] at ev1
      cases ev1
      exact ⟨_, vs, _, n, rfl, rfl, hq1, by rw [hl]; exact hn, eo.nx _ _ _ q at2⟩
  · exact ht.elim
/-- x[j] += e -/
def rGetI : V → V → Hp → VK → Prop := fun o i H Q => ∃ p xs k v, o = .ref p ∧ i = .int k ∧ H p = some (.lst xs) ∧ 0 ≤ k ∧ xs[k.toNat]? = some v ∧ Q v H
theorem get_list : PGet X rGetI := by
  intro pins s σ H o i ov iv Q I ro ri h
  obtain ⟨p, xs, k, v, rfl, rfl, hp, h0, hv, q⟩ := h
  cases ro
  obtain ⟨t, rfl⟩ := ri
  obtain ⟨its, r, pl, hz⟩ := I.list (.inl (.inl hp))
  obtain ⟨w, ew, rw'⟩ := r.get hv
  have hl := r.length
  have hi := (List.getElem?_eq_some_iff.mp hv).1
  have hn := line63
  exact PySem.wpAny_getItem_list pl.isList h0 (by omega) (by simpa using ew) ⟨v, H, I, rw', q⟩
def dAugI (f : Int → Int → Int) (i : Nat) (wj we : WE) : WS := fun C ρ => ∃ ts, ρ[i]? = some (some (.node ts)) ∧ wj (C.xc ρ) ρ fun v => match v with
  | .leaf (.int k) => ∃ a, 0 ≤ k ∧ ts[k.toNat]? = some (int a) ∧ we (C.xc ρ) ρ fun t => match t with
    | .leaf (.int c) => C.nx (ρ.set i (some (.node (ts.set k.toNat (int (f a c))))))
    | _ => False
  | _ => False
theorem s_augI {op : Operator} {f : Int → Int → Int} (ho : PIp X op (ipI f)) (i : Nat) {x : Str} {kp : Pos} (hj : PE X e2 (tOf X.K X.mg E wj)) (he : PE X e (tOf X.K X.mg E we)) (hN : X.N[i]? = some x := by rfl) (hv : Vis X.env.scope x := by first | exact Or.inl rfl | exact Or.inr (Or.inl rfl) | exact Or.inr (Or.inr rfl)) (hd : (x == ("__debug__" : Str)) = false := by decide) (hcd : (x == ("__classdict__" : Str)) = false := by decide)
    (ha : ∀ ov iv new, augStore e2 ov iv new = (do holding [new, ov, iv] (setItem ov iv new); release [new, ov, iv] []; pure .next) := by intros; rfl) :
    PS X (.AugAssign (.Subscript (.Name x kp) e2 tpos) op e pos) (sOf X.K X.mg E (dAugI f i wj we)) := PS.of (ps_augS (pe_var hN hv hd hcd) hj get_list he ho set_list ha) fun D σ H ⟨b, F, G0, H0, ρ, C, ⟨ts, et, q⟩, g0, a, eo⟩ => by
  obtain ⟨G, e1, s, hr⟩ := a.site g0 eo
  obtain ⟨q0, vs0, ev, hq0, _, bq, _⟩ := env_node (K := X.K) hr.env et
  refine ⟨_, ev, b, H0, G, ρ, C.xc ρ, _, q, hr, fun G1 H1 u t fp ht s1 tr fr => ?_⟩
  try dsimp only at ht
  split at ht
  · obtain ⟨a0, h0, ea, ht⟩ := ht
    cases tr with
    | leaf r =>
      cases r
      have hr1 := hr.stp s1
      obtain ⟨q1, vs1, ev1, hq1, hl1, _, at1⟩ := env_node (K := X.K) hr1.env et
      rw [ev] at ev1
      cases ev1
      obtain ⟨u1, hu1, ru1⟩ := at1 _ _ ea
      cases ru1
      refine ⟨_, _, _, _, rfl, rfl, hq1, h0, hu1, b, H0, G1, ρ, C.xc ρ, _, ht, hr1, fun G2 H2 u t fp ht s2 tr fr => ?_⟩
      try dsimp only at ht
      split at ht
      · cases tr with
        | leaf r =>
          cases r
          have s12 := s1.trans hr.good s2
          obtain ⟨q2, vs, ev2, hq2, hl, _, at2⟩ := own_set (n := _) g0 (e1.trans s12.ex) (s.trans g0 s12) (hr1.env.stp s2) et (.int _)
          rw [ev] at ev2
          cases ev2
          have hlt := (List.getElem?_eq_some_iff.mp ea).1
          exact ⟨_, _, rfl, rfl, _, vs, _, _, rfl, rfl, hq2, ixN_of h0 (by omega), eo.nx _ _ _ ht at2⟩
      · exact ht.elim
  · exact ht.elim

/-! ### loops -/
def dFor (wi : WI) (wg : WG) (wb : WS) : WS := fun C ρ => wi (C.xc ρ) ρ fun ds => ∃ Inv : Nat → Rho → Prop, Inv 0 ρ ∧
  (∀ i d ρ', ds[i]? = some d → Inv i ρ' → wg d ρ' fun ρ2 => wb { C with nx := Inv (i + 1), ct := Inv (i + 1), bk := C.nx } ρ2) ∧ ∀ ρ', Inv ds.length ρ' → C.nx ρ'
theorem s_for {iter tg : Expr} {body : List Stmt} {ts : List Nat} {wi : WI} {wg : WG} {wb : WS} (hp : PassesOwn (model X.prog X.w) X.A X.env X.xe) (hc : X.calm = true) (hi : PI X tg iter (iOf X.K X.mg E wi)) (hg : PG X tg (gOf X.K ts wg)) (hb : PSs X body (sOf X.K X.mg E wb))
    (hs : ∀ x, foldedSetIterable iter X.env x = pure x := by intro _; rfl) : PS X (.For tg iter body [] pos) (sOf X.K X.mg E (dFor wi wg wb)) := PS.of (ps_for hp hc hi hg hb hs) fun D σ H ⟨b, F, G0, H0, ρ, C, q, g0, a, eo⟩ => by
  obtain ⟨G, e1, s, hr⟩ := a.site g0 eo
  refine ⟨b, H0, G, ρ, C.xc ρ, _, q, hr, fun G1 H1 ds J hp s1 wk => ?_⟩
  obtain ⟨Inv, i0, it, ie⟩ := hp
  refine ⟨fun i m σ' H' => m = ds.length - i ∧ i ≤ ds.length ∧ ∃ ρ', Inv i ρ' ∧ At X.K b G1 G0 H0 ρ' σ' H', ⟨ds.length, by simp, Nat.zero_le _, ρ, i0, G1, Ex.rfl' _, s.trans g0 s1, hr.env.stp s1⟩, ?_⟩
  rintro i m σ' H' ⟨rfl, hi, ρ', inv, at1⟩
  obtain ⟨G2, e2, s2, E2⟩ := id at1
  by_cases hlt : i < ds.length
  · refine .inr ⟨wk.goes i G2 H' hlt e2 s2.good, fun σ2 H2 => i + 1 ≤ ds.length ∧ ∃ ρ2, Inv (i + 1) ρ2 ∧ At X.K b G1 G0 H0 ρ2 σ2 H2, fun σ2 H2 h => ⟨ds.length - (i + 1), by omega, rfl, h⟩, fun x H3 y => ?_⟩
    obtain ⟨G3, d, ed, s3, rd⟩ := wk.yields i G2 H' x H3 hlt e2 s2.good y
    have s23 := s2.trans g0 s3
    refine ⟨b, H0, G3, ρ', d, _, it i d ρ' ed inv, ⟨s3.good, E2.stp s3, fun a e => s23.free g0 e⟩, rd, fun σ4 ρ4 h4 hr4 _ => ?_⟩
    refine ⟨b, G1, G0, H0, ρ4, _, h4, g0, ⟨G3, e2.trans s3.ex, s23, hr4.env⟩, ⟨fun ρ5 σ5 H5 q5 a5 => ⟨hlt, ρ5, q5, a5⟩, fun ρ5 σ5 H5 q5 a5 => ?_, fun ρ5 σ5 H5 q5 a5 => ⟨hlt, ρ5, q5, a5⟩, eo.rt, fun ρ5 σ5 n pl c d G5 H5 q5 f5 s5 E5 => eo.xc _ _ _ _ _ _ _ _ q5 (e1.trans (s1.ex.trans f5)) s5 E5⟩⟩
    · obtain ⟨G5, f5, s5, E5⟩ := a5
      exact eo.nx _ _ _ q5 ⟨G5, e1.trans (s1.ex.trans f5), s5, E5⟩
  · have e : i = ds.length := by omega
    subst e
    exact .inl ⟨wk.stops G2 H' e2 s2.good, eo.nx _ _ _ (ie ρ' inv) ⟨G2, e1.trans (s1.ex.trans e2), s2, E2⟩⟩
def dWhile (wt : WT) (wb : WS) : WS := fun C ρ => ∃ Inv : Nat → Rho → Prop, (∃ m, Inv m ρ) ∧ ∀ m ρ', Inv m ρ' → wt (C.xc ρ') ρ' fun k => (k = true → wb { C with nx := fun ρ2 => ∃ m', m' < m ∧ Inv m' ρ2, ct := fun ρ2 => ∃ m', m' < m ∧ Inv m' ρ2, bk := C.nx } ρ') ∧ (k = false → C.nx ρ')
theorem s_while {c : Expr} {body : List Stmt} {wb : WS} (hp : PassesOwn (model X.prog X.w) X.A X.env X.xe) (hc : PT X c (ttOf X.K X.mg E wt)) (hb : PSs X body (sOf X.K X.mg E wb)) : PS X (.While c body [] pos) (sOf X.K X.mg E (dWhile wt wb)) := PS.of (ps_while hp hc hb) fun D σ H ⟨b, F, G0, H0, ρ, C, q, g0, a, eo⟩ => by
  obtain ⟨Inv, ⟨m0, i0⟩, it⟩ := q
  refine ⟨fun m σ' H' => ∃ ρ', Inv m ρ' ∧ At X.K b F G0 H0 ρ' σ' H', ⟨m0, ρ, i0, a⟩, ?_⟩
  rintro m σ' H' ⟨ρ', inv, at1⟩
  obtain ⟨G, e1, s, hr⟩ := at1.site g0 eo
  refine ⟨b, H0, G, ρ', C.xc ρ', _, it m ρ' inv, hr, fun G1 H1 k hk s1 => ?_⟩
  have at2 : At X.K b F G0 H0 ρ' σ' H1 := ⟨G1, e1.trans s1.ex, s.trans g0 s1, hr.env.stp s1⟩
  cases k with
  | true =>
    refine iteT ⟨fun σ2 H2 => ∃ m', m' < m ∧ ∃ ρ2, Inv m' ρ2 ∧ At X.K b F G0 H0 ρ2 σ2 H2, fun σ2 H2 h => h, ?_⟩
    refine ⟨b, F, G0, H0, ρ', _, hk.1 rfl, g0, at2, ⟨fun ρ5 σ5 H5 q5 a5 => ?_, eo.nx, fun ρ5 σ5 H5 q5 a5 => ?_, eo.rt, eo.xc⟩⟩
    · obtain ⟨m', h1, h2⟩ := q5
      exact ⟨m', h1, ρ5, h2, a5⟩
    · obtain ⟨m', h1, h2⟩ := q5
      exact ⟨m', h1, ρ5, h2, a5⟩
  | false =>
    exact iteF (eo.nx _ _ _ (hk.2 rfl) at2)
end

/-! ### a def -/
def startR (N : List Str) (ds : List PyData) : Rho := ds.map (fun d => some (.leaf d)) ++ List.replicate (N.length - ds.length) none
theorem env_start {b : Option Addr} {B G H : Hp} {N : List Str} {vs : List V} {ds : List PyData} (r : RpAll b G vs ds) : Env b B G H (L2.start N vs) (startR N ds) := by
  have hl := r.len
  refine ⟨by unfold L2.start startR; simp [hl], fun _ => [], fun i t e => ?_, (fun i a m => by cases m), fun i j a n m => by cases m⟩
  unfold startR at e
  by_cases c : i < ds.length
  · rw [List.getElem?_append_left (by simpa using c), List.getElem?_map, List.getElem?_eq_getElem c] at e
    cases e
    obtain ⟨v, ev, rv⟩ := r.get (List.getElem?_eq_getElem c)
    refine ⟨v, ?_, .leaf rv⟩
    unfold L2.start
    rw [List.getElem?_append_left (by simp; omega), List.getElem?_map, ev] <;> rfl
  · rw [List.getElem?_append_right (by simp; omega)] at e
    rw [List.getElem?_replicate] at e
    split at e <;> cases e
section
variable {P : Program} {w : World} {K : PySem.W.Frag} {mg : Str → Option Value} {base : Heap}
theorem sp_len {S : Spec} {n : Nat} (h : ∀ ds P xp, S ds P xp → ds.length = n) : ∀ vs H Q E, spOf K mg S vs H Q E → vs.length = n := fun vs H Q E ⟨b, G, ds, P, xp, q, g, r, _⟩ => by rw [r.len, h _ _ _ q]
/-- a body's reading gives the promise -/
theorem body_core {ws : WS} {N : List Str} {E : SX} {b : Option Addr} {G : Hp} {ds : List PyData} {P : T → Prop} {xp : XP} (q : ws { nx := fun _ => P non, rt := P, xc := fun _ => xp } (startR N ds)) {vs : List V} {H : Hp} {Q : VK} {E0 : XK} (hE : ∀ σ, E σ = E0)
    (g : Good K b G H) (r : RpAll b G vs ds) (k : Ktn K b G H P Q) (x : XC K mg E0 b G H xp) : sOf K mg E ws { nx := fun _ H' => Q .non H', rt := Q } (L2.start N vs) H := by
  refine ⟨b, G, G, H, _, _, q, g, ⟨G, Ex.rfl' _, g.stp, env_start r⟩, ⟨fun ρ σ H' hp a => ?_, fun _ _ _ z => z.elim, fun _ _ _ z => z.elim, fun t v fp G' H' hp s tr fr => k G' H' v t fp hp s tr fr, fun ρ σ n pl c d G' H' hx _ s _ m e => by rw [hE]; exact x n pl c d G' H' hx m e s⟩⟩
  · obtain ⟨G', _, s, _⟩ := a
    exact k G' H' .non non [] hp s (.leaf .non) fun _ z => nomatch z
/-- a def that raises nothing -/
theorem fn_ok {x qual : Str} {st : Stmt} {f : Addr} {fd : FuncData} {N ps : List Str} {k : Nat} {S : Spec} {ws : WS} (F : Fun K x qual st f fd) (sc : FnScope N ps (defScope st)) (len : ∀ ds P xp, S ds P xp → ds.length = ps.length)
    (body : ∀ (cdv : Value) (A : Around) (outer : List PySem.Env) (s : Shared) (H : Hp) (E : XK), Room k (A.deeper (PyProof.Rows.envOfC qual (defScope st) s.heap.objs.size f cdv)) → PSs (cxOf CX0 P w K mg base N qual (defScope st) f cdv A outer s H E).nox (defBody st) (sOf K mg noE ws))
    (spec : ∀ ds P, S ds P noX → ws { nx := fun _ => P non, rt := P } (startR N ds)) (nx : ∀ ds P xp, S ds P xp → S ds P noX) : FnOk P w K mg base CX0 (k + 1) f fd ps (spOf K mg S) := by
  refine F.ok sc (sp_len len) fun cdv A outer s H vs Q E hr h => ⟨_, body cdv A outer s H E hr, ?_⟩
  obtain ⟨b, G, ds, P, xp, q, g, r, k, x⟩ := h
  exact body_core (spec ds P (nx _ _ _ q)) (E0 := fun _ _ _ => False) (fun _ => rfl) g r k noXC
end
end Dd
namespace Dd
open PySem L2
/-- a def that may be called by its name -/
structure Cal (P : Program) (w : World) (K : PySem.W.Frag) (mg : Str → Option Value) (base : Heap) (x : Str) (ps : List Str) (k : Nat) (S : Spec) : Prop where
  ex : ∃ f fd, FnOk P w K mg base CX0 k f fd ps (spOf K mg S) ∧ mg x = some (.ref f) ∧ PySem.W.keepIn K (.ref f) = true ∧ Binds K fd ps []
theorem Cal.mk' {P : Program} {w : World} {K : PySem.W.Frag} {mg : Str → Option Value} {base : Heap} {x qual : Str} {ps : List Str} {k : Nat} {S : Spec} {st : Stmt} {f : Addr} {fd : FuncData} (F : Fun K x qual st f fd) (h : FnOk P w K mg base CX0 k f fd ps (spOf K mg S)) (m : mg x = some (.ref f)) (b : Binds K fd ps []) : Cal P w K mg base x ps k S := ⟨f, fd, h, m, F.kp, b⟩
section
variable {X : Cx} {E : SX} {e e2 : Expr} {es : List Expr} {w wa wb : WE} {ws : WA} {pos p p2 apos : Pos} {x : Str}
theorem d_callC {j k : Nat} {ps : List Str} {S : Spec} (C : Cal X.prog X.w X.K X.mg X.base x ps k S) (hr : Room j X.A) (ha : PA X (e :: es) (aOf X.K X.mg E ws)) (hg : Gl X x := by rfl) (hj : k ≤ j := by decide) (hdb : (x == ("__debug__" : Str)) = false := by decide) (he : starEach (e :: es) X.env = (false, eval e X.env) :: starEach es X.env := by rfl) (hpl : (backTo pos (starEach es X.env)).any (·.1) = false := by rfl) :
    PE X (.Call (.Name x p) (e :: es) [] pos) (tOf X.K X.mg E (dCall S ws)) := by
  obtain ⟨f, fd, h, m, kp, b⟩ := C.ex
  exact d_call h hr hg m kp b ha hj hdb he hpl
theorem d_callC0 {j k : Nat} {ps : List Str} {S : Spec} (C : Cal X.prog X.w X.K X.mg X.base x ps k S) (hr : Room j X.A) (hg : Gl X x := by rfl) (hj : k ≤ j := by decide) (hdb : (x == ("__debug__" : Str)) = false := by decide) :
    PE X (.Call (.Name x p) [] [] pos) (tOf X.K X.mg E (dCall S aNil)) := by
  obtain ⟨f, fd, h, m, kp, b⟩ := C.ex
  exact d_call0 h hr hg m kp b hj hdb
/-! ### tests of comparisons -/
theorem t_lt (ha : PE X e (tOf X.K X.mg E wa)) (hb : PE X e2 (tOf X.K X.mg E wb)) : PT X (.Compare e [.Lt] [e2] pos) (ttOf X.K X.mg E (dTst (dOp rdLt wa wb))) := t_cmp op_lt (ok_I0 fun _ _ => rfl) ha hb (nomark _)
theorem t_le (ha : PE X e (tOf X.K X.mg E wa)) (hb : PE X e2 (tOf X.K X.mg E wb)) : PT X (.Compare e [.LtE] [e2] pos) (ttOf X.K X.mg E (dTst (dOp rdLe wa wb))) := t_cmp op_le (ok_I0 fun _ _ => rfl) ha hb (nomark _)
theorem t_gt (ha : PE X e (tOf X.K X.mg E wa)) (hb : PE X e2 (tOf X.K X.mg E wb)) : PT X (.Compare e [.Gt] [e2] pos) (ttOf X.K X.mg E (dTst (dOp rdGt wa wb))) := t_cmp op_gt (ok_I0 fun _ _ => rfl) ha hb (nomark _)
theorem t_ge (ha : PE X e (tOf X.K X.mg E wa)) (hb : PE X e2 (tOf X.K X.mg E wb)) : PT X (.Compare e [.GtE] [e2] pos) (ttOf X.K X.mg E (dTst (dOp rdGe wa wb))) := t_cmp op_ge (ok_I0 fun _ _ => rfl) ha hb (nomark _)
theorem t_eq (hu : X.A.units + 64 < cLine) (ha : PE X e (tOf X.K X.mg E wa)) (hb : PE X e2 (tOf X.K X.mg E wb)) : PT X (.Compare e [.Eq] [e2] pos) (ttOf X.K X.mg E (dTst (dOp rdEq wa wb))) := t_cmp (opr_or op_eq (op_eqD hu)) ok_eq ha hb (nomark _)
theorem t_ne (hu : X.A.units + 64 < cLine) (ha : PE X e (tOf X.K X.mg E wa)) (hb : PE X e2 (tOf X.K X.mg E wb)) : PT X (.Compare e [.NotEq] [e2] pos) (ttOf X.K X.mg E (dTst (dOp rdNe wa wb))) := t_cmp (opr_or op_ne (op_neD hu)) ok_ne ha hb (nomark _)
theorem t_isN (ha : PE X e (tOf X.K X.mg E wa)) (hb : PE X e2 (tOf X.K X.mg E wb)) : PT X (.Compare e [.Is] [e2] pos) (ttOf X.K X.mg E (dTst (dOp rdIsN wa wb))) := t_cmp op_isN ok_isN ha hb (nomark _)
theorem t_notN (ha : PE X e (tOf X.K X.mg E wa)) (hb : PE X e2 (tOf X.K X.mg E wb)) : PT X (.Compare e [.IsNot] [e2] pos) (ttOf X.K X.mg E (dTst (dOp rdNotN wa wb))) := t_cmp op_notN ok_notN ha hb (nomark _)
/-- a < b < c -/
def dChain (rd rd' : R2D) (wa wb wc : WE) : WE := fun x ρ P => wa x ρ fun t => wb x ρ fun u => rd t.dat u.dat fun z => match z with
  | .leaf (.bool k) => (k = true → wc x ρ fun v => rd' u.dat v.dat P) ∧ (k = false → P (boo false))
  | _ => False
theorem dchain_core {K : PySem.W.Frag} {mg : Str → Option Value} {r r' : R2} {rd rd' : R2D} {wc : WE} (h : RdOk K r rd) (h' : RdOk K r' rd') {σ : L2.St} {H : Hp} {Q : VK} (q : tOf K mg E (dChain rd rd' wa wb wc) σ H Q) :
    tChain r r' (tOf K mg E wa) (tOf K mg E wb) (tOf K mg E wc) σ H Q := by
  obtain ⟨b, B, G, ρ, xp, P, p, hr, k⟩ := q
  refine tOfD_of ⟨b, B, G, ρ, xp, fun d => wb xp ρ fun u => rd d u.dat fun z => match z with
    | .leaf (.bool k) => (k = true → wc xp ρ fun v => rd' u.dat v.dat P) ∧ (k = false → P (boo false))
    | _ => False, p, hr, fun G1 H1 x d p1 s1 hr1 rx => ?_⟩
  refine tOfD_of ⟨b, B, G1, ρ, xp, fun u => rd d u fun z => match z with
    | .leaf (.bool k) => (k = true → wc xp ρ fun v => rd' u v.dat P) ∧ (k = false → P (boo false))
    | _ => False, p1, hr1, fun G2 H2 y u p2 s2 hr2 ry => ?_⟩
  refine h b G2 H2 x y d u _ _ s2.good (rx.mono s2.ex) ry p2 fun G3 H3 z t fp hz s3 tr fr => ?_
  have hr3 := hr2.stp s3
  have kk := ((k.stp hr.good s1).stp hr1.good s2).stp hr2.good s3
  try dsimp only at hz
  split at hz
  · cases tr with
    | leaf rz =>
      cases rz
      rename_i c
      refine ⟨_, rfl, ?_⟩
      cases c with
      | true =>
        refine iteT ?_
        refine tOfD_of ⟨b, B, G3, ρ, xp, fun v => rd' u v P, hz.1 rfl, hr3, fun G4 H4 y4 v p4 s4 hr4 r4 => ?_⟩
        exact h' b G4 H4 y y4 u v P Q s4.good (ry.mono (s3.ex.trans s4.ex)) r4 p4 (kk.stp hr3.good s4)
      | false =>
        refine iteF ?_
        exact kk.leaf s3.good (hz.2 rfl) (.bl _)
  · exact hz.elim
theorem d_chain {e3 : Expr} {op op' : CmpOp} {r r' : R2} {rd rd' : R2D} {wc : WE} (ho : OpR X (compareOp op) r) (ho' : OpR X (compareOp op') r') (h : RdOk X.K r rd) (h' : RdOk X.K r' rd') (ha : PE X e (tOf X.K X.mg E wa)) (hb : PE X e2 (tOf X.K X.mg E wb)) (hc : PE X e3 (tOf X.K X.mg E wc))
    (hm : lastMarks [op, op'] [e2, e3] = false := by with_unfolding_all rfl) : PE X (.Compare e [op, op'] [e2, e3] pos) (tOf X.K X.mg E (dChain rd rd' wa wb wc)) := PE.of (pe_chain ho ho' ha hb hc hm) fun σ H Q q => dchain_core h h' q
theorem t_chain {e3 : Expr} {op op' : CmpOp} {r r' : R2} {rd rd' : R2D} {wc : WE} (ho : OpR X (compareOp op) r) (ho' : OpR X (compareOp op') r') (h : RdOk X.K r rd) (h' : RdOk X.K r' rd') (ha : PE X e (tOf X.K X.mg E wa)) (hb : PE X e2 (tOf X.K X.mg E wb)) (hc : PE X e3 (tOf X.K X.mg E wc))
    (hm : lastMarks [op, op'] [e2, e3] = false := by with_unfolding_all rfl) : PT X (.Compare e [op, op'] [e2, e3] pos) (ttOf X.K X.mg E (dTst (dChain rd rd' wa wb wc))) := PT.of (pt_chain ho ho' ha hb hc hm) fun σ H Q q => dchain_core h h' (dtst_core q)
/-! ### isinstance of data -/
def tyN : PyData → String
  | .none => "NoneType" | .bool _ => "bool" | .int _ => "int" | .str _ => "str" | .list _ => "list" | .tuple _ => "tuple" | .dict [] => "list" | .dict _ => ""
theorem rp_ty {K : PySem.W.Frag} {b : Option Addr} {G H : Hp} {v : V} {d : PyData} (g : Good K b G H) (r : Rp b G v d) (ne : tyN d ≠ "") : TyX K H v (.type (tyN d)) := by
  cases r with
  | non => exact .base .non
  | bl k => exact .base (.bl k)
  | int i => exact .base (.int i)
  | str x => exact .base (.str x)
  | lst h _ => exact .base (.lst (g.ex _ _ h))
  | tup h _ => exact .base (.tup (g.ex _ _ h))
  | box h =>
    obtain ⟨_, _, _, _, _, _, q, _⟩ := g.box _ h
    exact .base (.lst q)
  | exc _ => exact absurd rfl ne
def dIsi (T : String) (w : WE) : WE := fun x ρ P => w x ρ fun t => ∃ r, kitB (tyN t.dat) T = some r ∧ P (boo r)
theorem d_isi {T : Str} {n : String} (hm : X.mg "isinstance" = none) (hmT : X.mg T = none) (hv : bootBuiltins T = some (.type n)) (ha : PE X e (tOf X.K X.mg E w)) (hg : Gl X "isinstance" := by rfl) (hgT : Gl X T := by rfl) (hn : T ≠ "__name__" := by decide) (hdb : (T == ("__debug__" : Str)) = false := by decide) (hz : kitB "" n = none := by decide)
    (he : starEach [e, .Name T p2] X.env = (false, eval e X.env) :: starEach [.Name T p2] X.env := by rfl) (hpl : (backTo pos (starEach [.Name T p2] X.env)).any (·.1) = false := by rfl) (he2 : starEach [.Name T p2] X.env = (false, eval (.Name T p2) X.env) :: starEach [] X.env := by rfl) :
    PE X (.Call (.Name "isinstance" p) [e, .Name T p2] [] pos) (tOf X.K X.mg E (dIsi n w)) :=
  PE.of (pe_callB call_isi hg hm (by decide +kernel) (pa_cons ha (pa_cons (pe_bltn (v := .ty n) hgT hmT hv rfl hn hdb) pa_nil he2) he) (by decide) (by decide) he hpl) fun σ H Q ⟨b, B, G, ρ, xp, P, p, hr, k⟩ =>
    tOfD_of ⟨b, B, G, ρ, xp, fun d => ∃ r, kitB (tyN d) n = some r ∧ P (boo r), p, hr, fun G1 H1 v d hp s1 hr1 r => by
      obtain ⟨c, hc, hp⟩ := hp
      exact ⟨v, .ty n, _, _, c, rfl, .ty n, rp_ty s1.good r (fun z => by
        rw [z, hz] at hc
        cases hc), kit_ty hc, (k.stp hr.good s1).leaf s1.good hp (.bl _)⟩⟩
/-! ### slices of lists, tuples -/
abbrev WO := XP → Rho → (Option Int → Prop) → Prop
def oOf (K : PySem.W.Frag) (mg : Str → Option Value) (E : SX) (w : WO) : TO := fun σ H Q => ∃ (b : Option Addr) (B G : Hp) (ρ : Rho) (xp : XP) (P : Option Int → Prop), w xp ρ P ∧ Site K mg (E σ) b B G H σ ρ xp ∧ ∀ (G' H' : Hp) (o : Option Int), P o → Stp K b G H G' H' → Q o H'
theorem PO.of {o : Option Expr} {t : TO} {w : WO} (h : PO X o t) (k : ∀ σ H Q, oOf X.K X.mg E w σ H Q → t σ H Q) : PO X o (oOf X.K X.mg E w) := ⟨fun pins s σ H Q I q => h.run pins s σ H Q I (k σ H Q q)⟩
def oN : WO := fun _ _ P => P none
def oS (w : WE) : WO := fun x ρ P => w x ρ fun t => match t with
  | .leaf (.int i) => P (some i)
  | _ => False
theorem o_none : PO X none (oOf X.K X.mg E oN) := PO.of po_none fun σ H Q ⟨b, B, G, ρ, xp, P, p, hr, k⟩ => k G H none p hr.good.stp
theorem o_some (h : PE X e (tOf X.K X.mg E w)) : PO X (some e) (oOf X.K X.mg E (oS w)) := PO.of (po_some h) fun σ H Q ⟨b, B, G, ρ, xp, P, p, hr, k⟩ => ⟨b, B, G, ρ, xp, _, p, hr, fun G' H' v t fp hp s tr fr => by
  try dsimp only at hp
  split at hp
  · cases tr with
    | leaf r =>
      cases r
      exact ⟨_, rfl, k G' H' _ hp s⟩
  · exact hp.elim⟩
def cutD (xs : List PyData) (lo hi : Option Int) : List PyData := (xs.drop (HT.sIx xs.length 0 lo)).take (HT.sIx xs.length xs.length hi - HT.sIx xs.length 0 lo)
def dSl (w : WE) (wl wh : WO) : WE := fun x ρ P => w x ρ fun t => wl x ρ fun l => wh x ρ fun u => match t.dat with
  | .list xs => P (.node ((cutD xs l u).map .leaf))
  | _ => False
theorem d_sl {lo hi : Option Expr} {wl wh : WO} (he : PE X e (tOf X.K X.mg E w)) (hl : PO X lo (oOf X.K X.mg E wl)) (hu : PO X hi (oOf X.K X.mg E wh)) : PE X (.Subscript e (.Slice lo hi none p2) pos) (tOf X.K X.mg E (dSl w wl wh)) := PE.of (pe_slice sl_list he hl hu) fun σ H Q ⟨b, B, G, ρ, xp, P, p, hr, k⟩ => by
  refine tOfD_of ⟨b, B, G, ρ, xp, fun d => wl xp ρ fun l => wh xp ρ fun u => match d with
    | .list xs => P (.node ((cutD xs l u).map .leaf))
    | _ => False, p, hr, fun G1 H1 x d p1 s1 hr1 rx => ?_⟩
  refine ⟨b, B, G1, ρ, xp, _, p1, hr1, fun G2 H2 l p2 s2 => ⟨b, B, G2, ρ, xp, _, p2, hr1.stp s2, fun G3 H3 u p3 s3 => ?_⟩⟩
  try dsimp only at p3
  split at p3
  · cases rx with
    | lst h1 r1 =>
      refine ⟨_, _, rfl, .inl (.inl (s3.good.ex _ _ (s3.ex _ _ (s2.ex _ _ h1)))), fun q hq => ?_⟩
      have r3 := (r1.mono (s2.ex.trans s3.ex))
      refine new_lst s3.good ?_ p3 (((k.stp hr.good s1).stp hr1.good s2).stp s2.good s3) hq
      unfold cutV cutD
      rw [r1.len]
      exact (r3.drop _).take _
  · exact p3.elim
end
end Dd
namespace Dd
open PySem L2
/-- a module's whole number -/
structure ConI (K : PySem.W.Frag) (mg : Str → Option Value) (x : Str) (i : Int) : Prop where
  ex : ∃ t, mg x = some (.int i t)
section
variable {X : Cx} {E : SX} {e e2 : Expr} {es : List Expr} {w wa wb : WE} {ws : WA} {pos p p2 apos : Pos} {x : Str}
theorem d_con {i : Int} (C : ConI X.K X.mg x i) (hg : Gl X x := by rfl) (hd : (x == ("__debug__" : Str)) = false := by decide) : PE X (.Name x pos) (tOf X.K X.mg E (dC (.int i))) := by
  obtain ⟨t, h⟩ := C.ex
  exact PE.of (pe_glob (v := .int i) hg h ⟨t, rfl⟩ hd) fun σ H Q ⟨b, B, G, ρ, xp, P, p, hr, k⟩ => k.leaf hr.good p (.int i)
theorem d_max2 (hc : X.calm = true) (hm : X.mg "max" = none) (ha : PA X [e, e2] (aOf X.K X.mg E ws)) (hg : Gl X "max" := by rfl) (he : starEach [e, e2] X.env = (false, eval e X.env) :: starEach [e2] X.env := by rfl) (hpl : (backTo pos (starEach [e2] X.env)).any (·.1) = false := by rfl) : PE X (.Call (.Name "max" p) [e, e2] [] pos) (tOf X.K X.mg E (dBlt cMax2 ws)) :=
  d_blt (call_max2 hc) ok_max2 hg hm (by decide +kernel) ha (by decide) (by decide) he hpl
theorem d_min2 (hc : X.calm = true) (hm : X.mg "min" = none) (ha : PA X [e, e2] (aOf X.K X.mg E ws)) (hg : Gl X "min" := by rfl) (he : starEach [e, e2] X.env = (false, eval e X.env) :: starEach [e2] X.env := by rfl) (hpl : (backTo pos (starEach [e2] X.env)).any (·.1) = false := by rfl) : PE X (.Call (.Name "min" p) [e, e2] [] pos) (tOf X.K X.mg E (dBlt cMin2 ws)) :=
  d_blt (call_min2 hc) ok_min2 hg hm (by decide +kernel) ha (by decide) (by decide) he hpl
end
/-! ### the law's first row: the box -/
def spBox (K : PySem.W.Frag) : Sp := fun vs H Q _ => ∃ (a : Addr) (ns : List Int), vs = [.ref a] ∧ SqL K H a (ns.map V.int) ∧
  ∀ (p c : Addr) (H' : Hp) (cells : List Int), H' p = some (.lst [.ref c, .int 0, .int 0, .int 17]) → H' c = some (.lst (cells.map V.int)) → p ≠ c → cells.length ≤ 63 → Q (.ref p) H'
def spOf0 (K : PySem.W.Frag) : Sp := fun vs H Q _ => ∃ (a : Addr) (ns : List Int), vs = [.ref a] ∧ SqL K H a (ns.map V.int) ∧ ns.length ≤ 63 ∧ ∀ H', Q (.bl true) H'
section
variable {P : Program} {w : World} {K : PySem.W.Frag} {mg : Str → Option Value} {base : Heap}
/-- the box is made, the rest is read as data -/
theorem law_ok {st : Stmt} {rest : List Stmt} {f fb : Addr} {fd fdb : FuncData} {N : List Str} {k : Nat} {ws : WS} {q1 q2 q3 q4 q5 : Pos} {kb : Nat} (F : Fun K "law" "law" st f fd) (sc : FnScope ("_law_script" :: "_law_box_here" :: N) ["_law_script"] (defScope st))
    (hb : defBody st = .Assign [.Name "_law_box_here" q1] (.Call (.Name "_law_box" q2) [.Name "_law_script" q3] [] q4) q5 :: rest)
    (B : FnOk P w K mg base CX0 kb fb fdb ["_law_script"] (spBox K)) (mB : mg "_law_box" = some (.ref fb)) (kB : PySem.W.keepIn K (.ref fb) = true) (bB : Binds K fdb ["_law_script"] []) (hk : kb ≤ k)
    (hs1 : ∀ (cdv : Value) (A : Around) (outer : List PySem.Env) (s : Shared) (H : Hp) (E : XK), Room k (A.deeper (PyProof.Rows.envOfC "law" (defScope st) s.heap.objs.size f cdv)) →
      PS (cxOf CX0 P w K mg base ("_law_script" :: "_law_box_here" :: N) "law" (defScope st) f cdv A outer s H E).nox (.Assign [.Name "_law_box_here" q1] (.Call (.Name "_law_box" q2) [.Name "_law_script" q3] [] q4) q5) (tAsg (tCall (spBox K) [] (fun _ _ _ => False) (tCons (tVar 0) tNil)) (gName 1)))
    (body : ∀ (cdv : Value) (A : Around) (outer : List PySem.Env) (s : Shared) (H : Hp) (E : XK), Room k (A.deeper (PyProof.Rows.envOfC "law" (defScope st) s.heap.objs.size f cdv)) →
      PSs (cxOf CX0 P w K mg base ("_law_script" :: "_law_box_here" :: N) "law" (defScope st) f cdv A outer s H E).nox rest (sOf K mg noE ws))
    (spec : ws { nx := fun _ => False, rt := fun t => t = boo true } (none :: some (.leaf bx) :: List.replicate N.length none)) : FnOk P w K mg base CX0 (k + 1) f fd ["_law_script"] (spOf0 K) := by
  refine F.ok sc (fun vs H Q E h => ?_) (fun cdv A outer s H vs Q E hr h => ?_)
  · obtain ⟨a, ns, rfl, _⟩ := h
    rfl
  · obtain ⟨a, ns, rfl, hS, hl, q⟩ := h
    rw [hb]
    refine ⟨_, pss_cons (hs1 cdv A outer s H E hr) (body cdv A outer s H E hr), ?_⟩
    refine ⟨.ref a, rfl, a, ns, rfl, hS, fun p c H' cells hp hc pc hcl => ?_⟩
    let G0 : Hp := fun x => if x = c then some (.lst (cells.map V.int)) else none
    have g0p : G0 p = none := if_neg pc
    have g0c : G0 c = some (.lst (cells.map V.int)) := if_pos rfl
    have good : Good K (some p) G0 H' := by
      refine ⟨fun x u e => ?_, fun x e => ?_⟩
      · by_cases z : x = c
        · rw [z, g0c] at e
          cases e
          rw [z]
          exact hc
        · rw [show G0 x = none from if_neg z] at e
          cases e
      · cases e
        exact ⟨g0p, c, cells, 0, 0, 17, hp, g0c, hcl, by omega, by omega, by omega, by omega⟩
    refine ⟨some p, G0, G0, H', _, _, spec, good, ⟨G0, Ex.rfl' _, good.stp, ?_⟩, ⟨fun _ _ _ z => z.elim, fun _ _ _ z => z.elim, fun _ _ _ z => z.elim, fun t v fp G' H2 ht s tr fr => ?_, fun _ _ _ _ _ _ _ _ z => z.elim⟩⟩
    · refine ⟨by simp [L2.start], fun _ => [], fun i t e => ?_, (fun i a m => by cases m), fun i j a n m => by cases m⟩
      match i, e with
      | 0, e => simp at e
      | 1, e =>
        have e' : T.leaf bx = t := by simpa using e
        subst e'
        exact ⟨.ref p, rfl, .leaf (.box rfl)⟩
      | i + 2, e =>
        exfalso
        have e' : (List.replicate N.length (none : Option T))[i]? = some (some t) := by simpa using e
        rw [List.getElem?_replicate] at e'
        split at e' <;> cases e'
    · subst ht
      cases tr with
      | leaf r =>
        cases r
        exact q _
end
/-! ### small facts for readings -/
theorem ex_leaf {d : PyData} {Q : PyData → Prop} : (∃ d', (some (some (T.leaf d)) : Option (Option T)) = some (some (.leaf d')) ∧ Q d') ↔ Q d := ⟨fun ⟨d', e, q⟩ => by cases e; exact q, fun q => ⟨d, rfl, q⟩⟩
theorem sum_nn {ns : List Int} (h : ∀ x ∈ ns, 0 ≤ x) : 0 ≤ ns.sum := by
  induction ns with
  | nil => exact Int.le_refl 0
  | cons x r ih =>
    rw [List.sum_cons]
    have h1 := h x (List.mem_cons_self ..)
    have h2 := ih fun y hy => h y (List.mem_cons_of_mem _ hy)
    omega
end Dd
namespace Dd
open PySem L2
theorem dat_leaf (d : PyData) : (T.leaf d).dat = d := rfl
theorem dat_n0 : (T.node []).dat = .list [] := rfl
theorem dat_n1 {a : PyData} : (T.node [.leaf a]).dat = .list [a] := rfl
theorem dat_n2 {a b : PyData} : (T.node [.leaf a, .leaf b]).dat = .list [a, b] := rfl
theorem dat_n3 {a b c : PyData} : (T.node [.leaf a, .leaf b, .leaf c]).dat = .list [a, b, c] := rfl
theorem dat_n4 {a b c d : PyData} : (T.node [.leaf a, .leaf b, .leaf c, .leaf d]).dat = .list [a, b, c, d] := rfl
theorem dat_n5 {a b c d e : PyData} : (T.node [.leaf a, .leaf b, .leaf c, .leaf d, .leaf e]).dat = .list [a, b, c, d, e] := rfl
theorem dat_n6 {a b c d e f : PyData} : (T.node [.leaf a, .leaf b, .leaf c, .leaf d, .leaf e, .leaf f]).dat = .list [a, b, c, d, e, f] := rfl
theorem dat_n7 {a b c d e f g : PyData} : (T.node [.leaf a, .leaf b, .leaf c, .leaf d, .leaf e, .leaf f, .leaf g]).dat = .list [a, b, c, d, e, f, g] := rfl
theorem dat_n8 {a b c d e f g h : PyData} : (T.node [.leaf a, .leaf b, .leaf c, .leaf d, .leaf e, .leaf f, .leaf g, .leaf h]).dat = .list [a, b, c, d, e, f, g, h] := rfl
theorem dat_leaves0 (ds : List PyData) : (T.node (ds.map .leaf)).dat = .list ds := by
  show PyData.list (T.dats _) = _
  rw [dats_leaf]
/-! ### one step at a time: equations for simp -/
def asB (P : Bool → Prop) (t : T) : Prop := match t with
  | .leaf (.bool k) => P k
  | _ => False
def asI (P : Int → Prop) (t : T) : Prop := match t with
  | .leaf (.int k) => P k
  | _ => False
def asL (P : List PyData → Prop) (t : T) : Prop := match t.dat with
  | .list ds => P ds
  | _ => False
def asU (P : List PyData → Prop) (t : T) : Prop := match t.dat with
  | .tuple ds => P ds
  | _ => False
section
variable {P : T → Prop} {PB : Bool → Prop} {PI : Int → Prop} {PL : List PyData → Prop} {x : XP} {ρ : Rho} {w wa wb wc we wj : WE} {wt wu : WT} {wo wl wh : WO} {ws : WA} {C : Ctl} {i j : Int} {n m : Nat} {k l : Bool} {xs ys : List PyData} {a b : Str} {C' : Int → Int → Prop} {g : Int → Int → PyData} {f : Int → Int → Int} {rd rd' : R2D} {ts : List T}
theorem asB_b : asB PB (.leaf (.bool k)) = PB k := rfl
theorem asI_i : asI PI (.leaf (.int i)) = PI i := rfl
theorem asL_l : asL PL (.leaf (.list xs)) = PL xs := rfl
theorem asL_n : asL PL (.node (xs.map .leaf)) = PL xs := by
  unfold asL
  rw [dat_leaves0]
theorem asU_u : asU PL (.leaf (.tuple xs)) = PL xs := rfl
theorem asL_c {d : PyData} : asL PL (.node (.leaf d :: xs.map .leaf)) = PL (d :: xs) := asL_n (xs := d :: xs)
theorem e_tst : dTst w x ρ PB = w x ρ (asB PB) := rfl
theorem e_andV : dAndV wa wb x ρ P = wa x ρ (asB fun k => (k = true → wb x ρ P) ∧ (k = false → P (boo false))) := rfl
theorem e_orV : dOrV wa wb x ρ P = wa x ρ (asB fun k => (k = true → P (boo true)) ∧ (k = false → wb x ρ P)) := rfl
theorem e_notV : dNotV wa x ρ P = wa x ρ (asB fun k => P (boo (!k))) := rfl
theorem e_neg : dNeg wa x ρ P = wa x ρ (asI fun i => P (int (-i))) := rfl
theorem e_chain : dChain rd rd' wa wb wc x ρ P = wa x ρ fun t => wb x ρ fun u => rd t.dat u.dat (asB fun k => (k = true → wc x ρ fun v => rd' u.dat v.dat P) ∧ (k = false → P (boo false))) := rfl
theorem e_aug : dAug f n we C ρ = ∃ a, ρ[n]? = some (some (int a)) ∧ we (C.xc ρ) ρ (asI fun c => C.nx (ρ.set n (some (int (f a c))))) := rfl
theorem e_setI : dSetI n wj we C ρ = we (C.xc ρ) ρ fun t => ∃ ts, ρ[n]? = some (some (.node ts)) ∧ wj (C.xc ρ) ρ (asI fun k => ∃ m, ixN ts.length k = some m ∧ C.nx (ρ.set n (some (.node (ts.set m (.leaf t.dat)))))) := rfl
theorem e_augI : dAugI f n wj we C ρ = ∃ ts, ρ[n]? = some (some (.node ts)) ∧ wj (C.xc ρ) ρ (asI fun k => ∃ a, 0 ≤ k ∧ ts[k.toNat]? = some (int a) ∧ we (C.xc ρ) ρ (asI fun c => C.nx (ρ.set n (some (.node (ts.set k.toNat (int (f a c)))))))) := rfl
theorem e_oS {PO : Option Int → Prop} : oS w x ρ PO = w x ρ (asI fun i => PO (some i)) := rfl
theorem e_iL : iL w x ρ PL = w x ρ (asL PL) := rfl
theorem e_iT : iT w x ρ PL = w x ρ (asU PL) := rfl
theorem e_I : rdI C' g (.int i) (.int j) P = (C' i j ∧ P (.leaf (g i j))) := rfl
theorem e_I0 : rdI0 g (.int i) (.int j) P = P (.leaf (g i j)) := rfl
theorem e_add : rdAdd (.int i) (.int j) P = P (int (i + j)) := rfl
theorem e_mul : rdMul (.int i) (.int j) P = (CMulW i j ∧ P (int (i * j))) := rfl
theorem e_ixl : rdIx (.list xs) (.int i) P = ∃ x, atI xs i = some x ∧ P (.leaf x) := rfl
theorem e_ixt : rdIx (.tuple xs) (.int i) P = ∃ x, atI xs i = some x ∧ P (.leaf x) := rfl
theorem e_eqi : rdEq (.int i) (.int j) P = P (boo (decide (i = j))) := rfl
theorem e_eqs : rdEq (.str a) (.str b) P = P (boo (decide (a = b))) := rfl
theorem e_eqb : rdEq (.bool k) (.bool l) P = P (boo (decide (k = l))) := rfl
theorem e_eql : rdEq (.list xs) (.list ys) P = (SeqAt.shaped (.list xs) = true ∧ SeqAt.shaped (.list ys) = true ∧ P (boo (PyData.eqv (.list xs) (.list ys)))) := rfl
theorem e_eqt : rdEq (.tuple xs) (.tuple ys) P = (SeqAt.shaped (.tuple xs) = true ∧ SeqAt.shaped (.tuple ys) = true ∧ P (boo (PyData.eqv (.tuple xs) (.tuple ys)))) := rfl
theorem e_nei : rdNe (.int i) (.int j) P = P (boo (decide (i ≠ j))) := rfl
theorem e_nes : rdNe (.str a) (.str b) P = P (boo (decide (a ≠ b))) := rfl
theorem e_neb : rdNe (.bool k) (.bool l) P = P (boo (decide (k ≠ l))) := rfl
theorem e_nel : rdNe (.list xs) (.list ys) P = (SeqAt.shaped (.list xs) = true ∧ SeqAt.shaped (.list ys) = true ∧ P (boo (!PyData.eqv (.list xs) (.list ys)))) := rfl
theorem e_net : rdNe (.tuple xs) (.tuple ys) P = (SeqAt.shaped (.tuple xs) = true ∧ SeqAt.shaped (.tuple ys) = true ∧ P (boo (!PyData.eqv (.tuple xs) (.tuple ys)))) := rfl
theorem e_isNn : rdIsN .none .none P = P (boo true) := by simp [rdIsN]
theorem e_isNi : rdIsN (.int i) .none P = P (boo false) := by simp [rdIsN]
theorem e_isNl : rdIsN (.list xs) .none P = P (boo false) := by simp [rdIsN]
theorem e_isNt : rdIsN (.tuple xs) .none P = P (boo false) := by simp [rdIsN]
theorem e_isNb : rdIsN (.bool k) .none P = P (boo false) := by simp [rdIsN]
theorem e_isNs : rdIsN (.str a) .none P = P (boo false) := by simp [rdIsN]
theorem e_notNn : rdNotN .none .none P = P (boo false) := by simp [rdNotN]
theorem e_notNi : rdNotN (.int i) .none P = P (boo true) := by simp [rdNotN]
theorem e_notNl : rdNotN (.list xs) .none P = P (boo true) := by simp [rdNotN]
theorem e_notNt : rdNotN (.tuple xs) .none P = P (boo true) := by simp [rdNotN]
theorem e_lenl : cLen [.list xs] P = P (int xs.length) := rfl
theorem e_lent : cLen [.tuple xs] P = P (int xs.length) := rfl
theorem e_lens : cLen [.str a] P = (a.length ≤ lim ∧ P (int a.length)) := rfl
theorem e_max2 : cMax2 [.int i, .int j] P = P (int (if j > i then j else i)) := rfl
theorem e_min2 : cMin2 [.int i, .int j] P = P (int (if j < i then j else i)) := rfl
theorem e_listl : cList [.list xs] P = P (.node (xs.map .leaf)) := rfl
theorem e_listt : cList [.tuple xs] P = P (.node (xs.map .leaf)) := rfl
theorem e_iR1 : iR1 ws x ρ PL = ws x ρ fun ds => match ds with
  | [.int j] => (-(2 ^ 62) ≤ j ∧ j < 2 ^ 62) ∧ PL (rngD 0 j.toNat)
  | _ => False := rfl
end
/-! ### the draw's promise -/
def S_l_take : Spec := fun ds P _ => ∃ n : Int, ds = [.dict [], .int n] ∧ 0 < n ∧ n < 1000000000000000000000000000000 ∧ ∀ r, 0 ≤ r → r < n → P (int r)
theorem e_take {n : Int} {P : T → Prop} {x : XP} : S_l_take [.dict [], .int n] P x = (0 < n ∧ n < 1000000000000000000000000000000 ∧ ∀ r : Int, 0 ≤ r → r < n → P (int r)) := propext ⟨fun ⟨m, e, h⟩ => by
  cases e
  exact h, fun h => ⟨n, rfl, h⟩⟩
section
variable {wi : WI} {wg : WG} {wb : WS} {wt : WT} {we : WE} {C : Ctl} {ρ : Rho} {vs : List Nat} {x : XP}
/-- a for over what is known -/
theorem for_of (ds : List PyData) (Inv : Nat → Rho → Prop) (hi : ∀ P : List PyData → Prop, P ds → wi (C.xc ρ) ρ P) (h0 : Inv 0 ρ)
    (hs : ∀ (i : Nat) d ρ', ds[i]? = some d → Inv i ρ' → wg d ρ' fun ρ2 => wb { C with nx := Inv (i + 1), ct := Inv (i + 1), bk := C.nx } ρ2) (hd : ∀ ρ', Inv ds.length ρ' → C.nx ρ') : dFor wi wg wb C ρ := hi _ ⟨Inv, h0, hs, hd⟩
theorem for_rng (lo : Int) (n : Nat) (Inv : Nat → Rho → Prop) (hi : ∀ P : List PyData → Prop, P (rngD lo n) → wi (C.xc ρ) ρ P) (h0 : Inv 0 ρ)
    (hs : ∀ (i : Nat) ρ', i < n → Inv i ρ' → wg (.int (lo + (i : Nat))) ρ' fun ρ2 => wb { C with nx := Inv (i + 1), ct := Inv (i + 1), bk := C.nx } ρ2) (hd : ∀ ρ', Inv n ρ' → C.nx ρ') : dFor wi wg wb C ρ :=
  for_of (rngD lo n) Inv hi h0 (fun i d ρ' e inv => by
    have hlt : i < n := by
      have := (List.getElem?_eq_some_iff.mp e).1
      rw [rngD_len] at this
      exact this
    rw [rngD_get hlt] at e
    cases e
    exact hs i ρ' hlt inv) fun ρ' h => hd ρ' (by rw [rngD_len] at h; exact h)
/-- [f d for d in ds if p d] -/
theorem lc_filter {P : T → Prop} (ds : List PyData) (p : PyData → Bool) (f : PyData → T) (hi : ∀ P : List PyData → Prop, P ds → wi x ρ P) (hl : ds.length < lim)
    (he : ∀ (i : Nat) d (Q : T → Prop) (R : Prop), ds[i]? = some d → (p d = true → Q (f d)) → (p d = false → R) → wg d (wipeR ρ vs) fun ρ2 => wt noX ρ2 fun k => (k = true → we noX ρ2 Q) ∧ (k = false → R)) (h : P (.node ((ds.filter p).map f))) : dLc wi wg wt we vs x ρ P :=
  hi _ ⟨hl, fun i acc => acc = ((ds.take i).filter p).map f, rfl, fun i d acc e inv => he i d (fun t => acc ++ [t] = ((ds.take (i + 1)).filter p).map f) (acc = ((ds.take (i + 1)).filter p).map f) e (fun q => by
      rw [inv, List.take_add_one, e, List.filter_append, List.map_append]
      simp [q]) (fun q => by
      rw [inv, List.take_add_one, e, List.filter_append, List.map_append]
      simp [q]), fun acc inv => by
    rw [inv, List.take_length]
    exact h⟩
/-- [f d for d in ds] -/
theorem lc_map {P : T → Prop} (ds : List PyData) (f : PyData → T) (hi : ∀ P : List PyData → Prop, P ds → wi x ρ P) (hl : ds.length < lim)
    (he : ∀ (i : Nat) d (Q : T → Prop) (R : Prop), ds[i]? = some d → Q (f d) → wg d (wipeR ρ vs) fun ρ2 => (true = true → we noX ρ2 Q) ∧ (true = false → R)) (h : P (.node (ds.map f))) : dLc wi wg dYes we vs x ρ P :=
  lc_filter ds (fun _ => true) f hi hl (fun i d Q R e q _ => he i d Q R e (q rfl)) (by
    rw [List.filter_eq_self.mpr fun _ _ => rfl]
    exact h)
/-- one by one, with draws -/
theorem lc_inv {P : T → Prop} (ds : List PyData) (Inv : Nat → List T → Prop) (hi : ∀ P : List PyData → Prop, P ds → wi x ρ P) (hl : ds.length < lim) (h0 : Inv 0 [])
    (he : ∀ (i : Nat) d acc, ds[i]? = some d → Inv i acc → wg d (wipeR ρ vs) fun ρ2 => wt noX ρ2 fun k => (k = true → we noX ρ2 fun t => Inv (i + 1) (acc ++ [t])) ∧ (k = false → Inv (i + 1) acc)) (h : ∀ acc, Inv ds.length acc → P (.node acc)) : dLc wi wg wt we vs x ρ P :=
  hi _ ⟨hl, Inv, h0, he, h⟩
end
theorem len_intsD (ns : List Int) : (intsD ns).length = ns.length := List.length_map _
theorem get_intsD {ns : List Int} {i : Nat} {d : PyData} (h : (intsD ns)[i]? = some d) : ∃ hi : i < ns.length, d = .int ns[i] := by
  unfold intsD at h
  rw [List.getElem?_map] at h
  have hi : i < ns.length := by
    cases q : ns[i]? with
    | none =>
      rw [q] at h
      cases h
    | some z => exact (List.getElem?_eq_some_iff.mp q).1
  rw [List.getElem?_eq_getElem hi] at h
  exact ⟨hi, (Option.some.inj h).symm⟩
theorem atI_ints {ns : List Int} {k : Int} (h0 : 0 ≤ k) (h : k < ns.length) : atI (intsD ns) k = some (.int (ns.getD k.toNat 0)) := by
  have hk : k.toNat < ns.length := by omega
  have e : atI (intsD ns) ((k.toNat : Nat) : Int) = some (.int (ns.getD k.toNat 0)) := atI_nat (by
    unfold intsD
    rw [List.getElem?_map, List.getElem?_eq_getElem hk, List.getD_eq_getElem?_getD, List.getElem?_eq_getElem hk] <;> rfl)
  rw [show ((k.toNat : Nat) : Int) = k by omega] at e
  exact e
theorem atI_ints_last {ns : List Int} (h : ns ≠ []) : atI (intsD ns) (-1) = some (.int (ns.getD (ns.length - 1) 0)) := by
  have hl : 0 < ns.length := List.length_pos_iff.mpr h
  unfold atI ixN
  have e : (intsD ns).length = ns.length := List.length_map _
  rw [e, if_neg (by decide), if_pos (by omega)]
  show (intsD ns)[(-1 + (ns.length : Int)).toNat]? = _
  rw [show (-1 + (ns.length : Int)).toNat = ns.length - 1 by omega]
  unfold intsD
  rw [List.getElem?_map, List.getD_eq_getElem?_getD, List.getElem?_eq_getElem (by omega)] <;> rfl
/-- an own list of whole numbers -/
def nodeI (ns : List Int) : T := .node (ns.map fun i => .leaf (.int i))
theorem nodeI_eq (ns : List Int) : nodeI ns = .node ((intsD ns).map .leaf) := by
  unfold nodeI intsD
  rw [List.map_map] <;> rfl
theorem nodeI_dat (ns : List Int) : (nodeI ns).dat = .list (intsD ns) := by
  rw [nodeI_eq]
  show PyData.list (T.dats _) = _
  rw [dats_leaf]
theorem dat_leaves (ds : List PyData) : (T.node (ds.map .leaf)).dat = .list ds := by
  show PyData.list (T.dats _) = _
  rw [dats_leaf]
theorem nodeI_snoc (ns : List Int) (x : Int) : T.node ((ns.map fun i => T.leaf (.int i)) ++ [.leaf (.int x)]) = nodeI (ns ++ [x]) := by
  unfold nodeI
  rw [List.map_append] <;> rfl
/-- data that == tells alike -/
theorem shaped_ints (ns : List Int) : SeqAt.shaped (.list (intsD ns)) = true := by
  have h1 : ∀ ns : List Int, PyData.canLayAll0 (intsD ns) = true := fun ns => by
    induction ns with
    | nil => rfl
    | cons n r ih =>
      show (PyData.canLay0 (.int n) && PyData.canLayAll0 (intsD r)) = true
      rw [ih]
      rfl
  have h2 : ∀ ns : List Int, PyData.depthAll (intsD ns) = 0 := fun ns => by
    induction ns with
    | nil => rfl
    | cons n r ih =>
      show max (PyData.depth (.int n)) (PyData.depthAll (intsD r)) = 0
      rw [ih]
      rfl
  unfold SeqAt.shaped
  have e1 : PyData.canLay0 (.list (intsD ns)) = PyData.canLayAll0 (intsD ns) := by simp only [PyData.canLay0]
  have e2 : PyData.depth (.list (intsD ns)) = PyData.depthAll (intsD ns) + 1 := by simp only [PyData.depth]
  rw [e1, e2, h1, h2]
  rfl
theorem eqv_ints (ns : List Int) : PyData.eqv (.list (intsD ns)) (.list (intsD ns)) = true := eqv_eq (shaped_ints ns)
theorem dat_eq (ts : List T) : (T.node ts).dat = .list (ts.map T.dat) := by
  show PyData.list (T.dats _) = _
  rw [dats_eq]
/-- data of a depth, of short lists -/
def Sm : Nat → PyData → Prop
  | n, .none => True
  | n, .bool _ => True
  | n, .int _ => True
  | n, .str x => PySem.PyData.strOk x = true
  | n + 1, .list xs => xs.length < 1000 ∧ ∀ x ∈ xs, Sm n x
  | n + 1, .tuple xs => xs.length < 1000 ∧ ∀ x ∈ xs, Sm n x
  | _, _ => False
theorem sm_int {n : Nat} {i : Int} : Sm n (.int i) := by cases n <;> trivial
theorem sm_bool {n : Nat} {i : Bool} : Sm n (.bool i) := by cases n <;> trivial
theorem sm_none {n : Nat} : Sm n .none := by cases n <;> trivial
theorem layAll_of : ∀ {xs : List PyData}, (∀ x ∈ xs, x.canLay0 = true) → PyData.canLayAll0 xs = true
  | [], _ => rfl
  | x :: xs, h => by
    rw [PyData.canLayAll0, h x (List.mem_cons_self ..), layAll_of fun y hy => h y (List.mem_cons_of_mem _ hy)]
    rfl
theorem depthAll_of {n : Nat} : ∀ {xs : List PyData}, (∀ x ∈ xs, x.depth ≤ n) → PyData.depthAll xs ≤ n
  | [], _ => Nat.zero_le _
  | x :: xs, h => by
    show max x.depth (PyData.depthAll xs) ≤ n
    exact Nat.max_le.mpr ⟨h x (List.mem_cons_self ..), depthAll_of fun y hy => h y (List.mem_cons_of_mem _ hy)⟩
theorem Sm.lay : ∀ (n : Nat) (d : PyData), Sm n d → d.canLay0 = true ∧ d.depth ≤ n
  | n, .none, _ => ⟨rfl, Nat.zero_le _⟩
  | n, .bool _, _ => ⟨rfl, Nat.zero_le _⟩
  | n, .int _, _ => ⟨rfl, Nat.zero_le _⟩
  | n, .str x, h => ⟨by simpa [PyData.canLay0, Sm] using h, Nat.zero_le _⟩
  | n + 1, .list xs, h => by
    obtain ⟨_, h⟩ := h
    refine ⟨by simp only [PyData.canLay0]; exact layAll_of fun x hx => (Sm.lay n x (h x hx)).1, ?_⟩
    simp only [PyData.depth]
    have := depthAll_of (n := n) fun x hx => (Sm.lay n x (h x hx)).2
    omega
  | n + 1, .tuple xs, h => by
    obtain ⟨_, h⟩ := h
    refine ⟨by simp only [PyData.canLay0]; exact layAll_of fun x hx => (Sm.lay n x (h x hx)).1, ?_⟩
    simp only [PyData.depth]
    have := depthAll_of (n := n) fun x hx => (Sm.lay n x (h x hx)).2
    omega
  | 0, .list _, h => h.elim
  | 0, .tuple _, h => h.elim
  | 0, .dict _, h => h.elim
  | n + 1, .dict _, h => h.elim
theorem Sm.shaped {n : Nat} {d : PyData} (h : Sm n d) (hn : n ≤ 64) : SeqAt.shaped d = true := by
  obtain ⟨h1, h2⟩ := Sm.lay n d h
  unfold SeqAt.shaped
  rw [h1, decide_eq_true (show d.depth ≤ 64 by omega)]
  rfl
theorem Sm.eqv {n : Nat} {d : PyData} (h : Sm n d) (hn : n ≤ 64) : PyData.eqv d d = true := eqv_eq (h.shaped hn)
theorem sm_ints {n : Nat} {ns : List Int} (h : ns.length < 1000) : Sm (n + 1) (.list (intsD ns)) := ⟨by rw [len_intsD]; exact h, fun x hx => by
  obtain ⟨i, _, rfl⟩ := List.mem_map.mp hx
  exact sm_int⟩
theorem lt_lim {n : Nat} (h : n < 1000) : n < lim := Nat.lt_of_lt_of_le h (by decide)
end Dd
namespace Dd
open PySem L2
theorem pyV_rp {b : Option Addr} {G : Hp} {v : V} {d : PyData} (h : Rp b G v d) (f : flatD d = true) : ∀ G', Rp b G' v d := fun G' => by
  cases h with
  | non => exact .non
  | bl k => exact .bl k
  | int i => exact .int i
  | str x => exact .str x
  | lst _ _ => cases f
  | tup _ _ => cases f
  | box _ => cases f
  | exc _ => cases f
/-- a flat value read while all slots are settled -/
def flatT (P : T → Prop) (t : T) : Prop := match t with
  | .leaf d => flatD d = true ∧ P (.leaf d)
  | _ => False
def dBor (w : WE) : WE := fun _ ρ P => w noX (frzR ρ) (flatT P)
def dBorT (w : WT) : WT := fun _ ρ P => w noX (frzR ρ) P
section
variable {X : Cx} {E : SX} {e e2 e3 : Expr} {w we w1 w2 : WE} {wt : WT} {pos tpos p : Pos}
theorem d_bor (h : PE X e (tOf X.K X.mg E w)) : PE X e (tOf X.K X.mg E (dBor w)) := PE.of h fun σ H Q ⟨b, B, G, ρ, xp, P, p, hr, k⟩ => by
  obtain ⟨G1, ex, h1⟩ := hr.toHere.borrow
  refine ⟨b, B, G1, frzR ρ, noX, _, p, ⟨h1, noXC⟩, fun G' H' v t fp hp s tr fr => ?_⟩
  have st := Stp.back hr.good ex s
  cases tr with
  | leaf r => exact k G H' v _ [] hp.2 st (.leaf (pyV_rp r hp.1 G)) fun _ z => nomatch z
  | node _ _ _ _ _ => exact hp.elim
  | own _ => exact hp.elim
theorem t_bor (h : PT X e (ttOf X.K X.mg E wt)) : PT X e (ttOf X.K X.mg E (dBorT wt)) := PT.of h fun σ H Q ⟨b, B, G, ρ, xp, P, p, hr, k⟩ => by
  obtain ⟨G1, ex, h1⟩ := hr.toHere.borrow
  exact ⟨b, B, G1, frzR ρ, noX, _, p, ⟨h1, noXC⟩, fun G' H' c hp s => k G H' c hp (Stp.back hr.good ex s)⟩
end
/-! ### list(range(n)) -/
theorem rp_rng {b : Option Addr} {G : Hp} (lo : Int) : ∀ n : Nat, RpAll b G ((List.range n).map fun i => V.int (lo + (i : Nat))) (rngD lo n)
  | 0 => .nil
  | n + 1 => by
    unfold rngD
    rw [List.range_succ, List.map_append, List.map_append]
    exact (rp_rng lo n).append (.cons (.int _) .nil)
def dLR1 (w : WE) : WE := fun x ρ P => w x ρ (asI fun n => 0 ≤ n ∧ n ≤ 1000 ∧ P (.node ((rngD 0 n.toNat).map .leaf)))
theorem d_listRg1 {X : Cx} {E : SX} {e : Expr} {w : WE} {p p2 pos pos2 : Pos} (hc : X.calm = true) (hm : X.mg "list" = none) (hm2 : X.mg "range" = none) (ha : PE X e (tOf X.K X.mg E w)) (hg : Gl X "list" := by rfl) (hg2 : Gl X "range" := by rfl) (na : starEach [e] X.env = (false, eval e X.env) :: starEach [] X.env := by rfl)
    (na2 : starEach [.Call (.Name "range" p2) [e] [] pos2] X.env = (false, eval (.Call (.Name "range" p2) [e] [] pos2) X.env) :: starEach [] X.env := by rfl) : PE X (.Call (.Name "list" p) [.Call (.Name "range" p2) [e] [] pos2] [] pos) (tOf X.K X.mg E (dLR1 w)) :=
  PE.of (pe_listRg hc hg hm (prg_1 hg2 hm2 ha na) na2) fun σ H Q ⟨b, B, G, ρ, xp, P, p, hr, k⟩ => ⟨b, B, G, ρ, xp, _, p, hr, fun G1 H1 v t fp hp s tr fr => by
    unfold asI at hp
    try dsimp only at hp
    split at hp
    · obtain ⟨h0, h1, hp⟩ := hp
      cases tr with
      | leaf r =>
        cases r
        refine ⟨_, rfl, RgOk.of_le (by omega) (by omega) (by omega) (by omega), fun q hq => ?_⟩
        refine new_lst s.good ?_ hp (k.stp hr.good s) hq
        unfold rgV
        rw [Int.sub_zero]
        exact rp_rng 0 _
    · exact hp.elim⟩
/-! ### a place of an own list of own lists -/
theorem TrAll.inner {b : Option Addr} {G H : Hp} : ∀ {fp : List Addr} {vs : List V} {ts us : List T} {n : Nat}, TrAll b G H fp vs ts → ts[n]? = some (.node us) →
    ∃ q fq ws, vs[n]? = some (.ref q) ∧ H q = some (.lst ws) ∧ G q = none ∧ b ≠ some q ∧ TrAll b G H fq ws us ∧ q ∉ fq ∧ q ∈ fp ∧
      ∀ (H' : Hp) (us' : List T) (fq' : List Addr) (ws' : List V), (∀ a, a ≠ q → H' a = H a) → H' q = some (.lst ws') → TrAll b G H' fq' ws' us' → (∀ a, a ∈ fq' → a ∈ fq) → ∃ fp', TrAll b G H' fp' vs (ts.set n (.node us')) ∧ ∀ a, a ∈ fp' → a ∈ fp
  | _, _, _, _, _, .nil, e => by simp at e
  | _, _, _, us, 0, .cons (fp := f1) (fq := f2) tr r dj, e => by
    simp at e
    subst e
    cases tr with
    | node hp gp bp rr np =>
      rename_i q fq ws
      refine ⟨q, fq, ws, rfl, hp, gp, bp, rr, np, List.mem_append_left _ (List.mem_cons_self ..), fun H' us' fq' ws' ho hq rr' sub => ?_⟩
      have nq : q ∉ fq' := fun z => np (sub q z)
      have r2 := r.move (G' := G) (H' := H') (Ex.rfl' _) fun a m => ⟨(r.mem a m).1, ho a fun z => dj q (List.mem_cons_self ..) (by rw [← z]; exact m)⟩
      refine ⟨(q :: fq') ++ f2, .cons (.node hq gp bp rr' nq) r2 fun a z y => ?_, fun a z => ?_⟩
      · rcases List.mem_cons.mp z with z | z
        · subst z
          exact dj _ (List.mem_cons_self ..) y
        · exact dj a (List.mem_cons_of_mem _ (sub a z)) y
      · rcases List.mem_append.mp z with z | z
        · rcases List.mem_cons.mp z with z | z
          · subst z
            exact List.mem_append_left _ (List.mem_cons_self ..)
          · exact List.mem_append_left _ (List.mem_cons_of_mem _ (sub a z))
        · exact List.mem_append_right _ z
  | _, _, _, us, n + 1, .cons (fp := f1) (fq := f2) tr r dj, e => by
    obtain ⟨q, fq, ws, h1, h2, h3, h4, h5, h6, h7, h8⟩ := TrAll.inner (n := n) r (by simpa using e)
    refine ⟨q, fq, ws, by simpa using h1, h2, h3, h4, h5, h6, List.mem_append_right _ h7, fun H' us' fq' ws' ho hq rr' sub => ?_⟩
    obtain ⟨fp', g1, g2⟩ := h8 H' us' fq' ws' ho hq rr' sub
    have t2 := tr.move (G' := G) (H' := H') (Ex.rfl' _) fun a m => ⟨(tr.mem a m).1, ho a fun z => dj q (by rw [← z]; exact m) h7⟩
    exact ⟨f1 ++ fp', .cons t2 g1 fun a z y => dj a z (g2 a y), fun a z => (List.mem_append.mp z).elim (fun z => List.mem_append_left _ z) fun z => List.mem_append_right _ (g2 a z)⟩
theorem own_set2 {K : PySem.W.Frag} {b : Option Addr} {F G0 H0 G H : Hp} {σ : L2.St} {ρ : Rho} {i : Nat} {ts us : List T} {n m : Nat} {v : V} {d : PyData} (g0 : Good K b G0 H0) (e1 : Ex F G) (s : Stp K b G0 H0 G H) (E1 : Env b H0 G H σ ρ) (et : ρ[i]? = some (some (.node ts))) (en : ts[n]? = some (.node us)) (r : Rp b G v d) :
    ∃ q vs p ws, σ[i]? = some (some (.ref q)) ∧ H q = some (.lst vs) ∧ vs.length = ts.length ∧ vs[n]? = some (.ref p) ∧ H p = some (.lst ws) ∧ ws.length = us.length ∧ (∀ (j : Nat) d', us[j]? = some (.leaf d') → ∃ u, ws[j]? = some u ∧ Rp b G u d') ∧
      At K b F G0 H0 (ρ.set i (some (.node (ts.set n (.node (us.set m (.leaf d))))))) σ (upd H p (.lst (ws.set m v))) := by
  obtain ⟨fp, v0, ev, tr, hB, EX⟩ := E1.take et
  cases tr with
  | node hp gp bp rr np =>
    rename_i q fq vs
    obtain ⟨p, fw, ws, h1, h2, h3, h4, h5, h6, h7, h8⟩ := rr.inner en
    refine ⟨q, vs, p, ws, ev, hp, rr.len, h1, h2, h5.len, fun j d' h => h5.at h, ?_⟩
    obtain ⟨fn, tr3, sub⟩ := TrAll.setLeaf r m h5
    have npn : p ∉ fn := fun z => h6 (sub _ z)
    have pq : q ≠ p := fun z => np (by rw [z]; exact h7)
    obtain ⟨fp', g1, g2⟩ := h8 (upd H p (.lst (ws.set m v))) (us.set m (.leaf d)) fn (ws.set m v) (fun a na => upd_ne na) upd_same (tr3.move (Ex.rfl' _) fun a z => ⟨(tr3.mem a z).1, upd_ne fun y => npn (by rw [← y]; exact z)⟩) sub
    have npq : q ∉ fp' := fun z => np (g2 q z)
    -- the heap changes at p, which is ours
    have st : Stp K b G0 H0 G (upd H p (.lst (ws.set m v))) := by
      refine ⟨s.ex, ⟨fun a u e => ?_, fun a c => ?_⟩, fun a u n e => ?_, s.out, fun a c => (boxc_eq (upd_ne fun q => h4 (by rw [← q]; exact c))).trans (s.cel a c)⟩
      · have na : a ≠ p := fun q => by
          rw [q, h3] at e
          cases e
        rw [upd_ne na]
        exact s.good.ex a u e
      · obtain ⟨n, cc, cells, pos, rest, seed, q1, q2, q3⟩ := s.good.box a c
        have na : a ≠ p := fun q => h4 (by rw [← q]; exact c)
        exact ⟨n, cc, cells, pos, rest, seed, by rw [upd_ne na]; exact q1, q2, q3⟩
      · have na : a ≠ p := fun z => by
          rw [z, hB p (List.mem_cons_of_mem _ h7)] at e
          cases e
        rw [upd_ne na]
        exact s.keep a u n e
    have E2 := EX.back (H2 := upd H p (.lst (ws.set m v))) (fun a o n _ e => by
      rw [upd_ne fun z => n (by rw [z]; exact List.mem_cons_of_mem _ h7)]
      exact e) (.node (by rw [upd_ne pq]; exact hp) gp bp g1 npq) (fun a z => by
      rcases List.mem_cons.mp z with z | z
      · subst z
        exact ⟨hB _ (List.mem_cons_self ..), .inl (List.mem_cons_self ..)⟩
      · exact ⟨hB _ (List.mem_cons_of_mem _ (g2 a z)), .inl (List.mem_cons_of_mem _ (g2 a z))⟩)
    rw [set_same ev] at E2
    exact ⟨G, e1, st, E2⟩
theorem env_node2 {K : PySem.W.Frag} {b : Option Addr} {B G H : Hp} {σ : L2.St} {ρ : Rho} {i : Nat} {ts us : List T} {n : Nat} (E1 : Env b B G H σ ρ) (et : ρ[i]? = some (some (.node ts))) (en : ts[n]? = some (.node us)) :
    ∃ q vs p ws, σ[i]? = some (some (.ref q)) ∧ H q = some (.lst vs) ∧ vs.length = ts.length ∧ vs[n]? = some (.ref p) ∧ H p = some (.lst ws) ∧ b ≠ some q ∧ b ≠ some p := by
  obtain ⟨fp, v0, ev, tr, hB, EX⟩ := E1.take et
  cases tr with
  | node hp gp bp rr np =>
    rename_i q fq vs
    obtain ⟨p, fw, ws, h1, h2, h3, h4, h5, h6, h7, h8⟩ := rr.inner en
    exact ⟨q, vs, p, ws, ev, hp, rr.len, h1, h2, bp, h4⟩
/-- x[a][b] = e -/
def dSet2 (i : Nat) (w1 w2 we : WE) : WS := fun C ρ => we (C.xc ρ) ρ fun t => ∃ ts, ρ[i]? = some (some (.node ts)) ∧ w1 (C.xc ρ) ρ (asI fun k => ∃ n us, ixN ts.length k = some n ∧ ts[n]? = some (.node us) ∧ w2 (C.xc ρ) ρ (asI fun l => ∃ m, ixN us.length l = some m ∧
  C.nx (ρ.set i (some (.node (ts.set n (.node (us.set m (.leaf t.dat)))))))))
section
variable {X : Cx} {E : SX} {e e2 e3 : Expr} {w we w1 w2 : WE} {wt : WT} {pos tpos ipos p : Pos}
theorem set2_core {i : Nat} {D : Ends} {σ : L2.St} {H : Hp} : sOf X.K X.mg E (dSet2 i w1 w2 we) D σ H → tAsg (tOf X.K X.mg E we) (gSub (tOp (rIxL X.K) (tVar i) (tOf X.K X.mg E w1)) (tOf X.K X.mg E w2) rSetL) D σ H := fun ⟨b, F, G0, H0, ρ, C, q, g0, a, eo⟩ => by
  obtain ⟨G, e1, s, hr⟩ := a.site g0 eo
  refine tOfD_of ⟨b, H0, G, ρ, C.xc ρ, fun d => ∃ ts, ρ[i]? = some (some (.node ts)) ∧ w1 (C.xc ρ) ρ (asI fun k => ∃ n us, ixN ts.length k = some n ∧ ts[n]? = some (.node us) ∧ w2 (C.xc ρ) ρ (asI fun l => ∃ m, ixN us.length l = some m ∧
    C.nx (ρ.set i (some (.node (ts.set n (.node (us.set m (.leaf d))))))))), q, hr, fun G1 H1 v d hp s1 hr1 rd => ?_⟩
  obtain ⟨ts, et, hp⟩ := hp
  obtain ⟨q0, vs0, ev, hq0, _, bq, _⟩ := env_node (K := X.K) hr1.env et
  refine ⟨_, ev, b, H0, G1, ρ, C.xc ρ, _, hp, hr1, fun G2 H2 u t fp ht s2 tr fr => ?_⟩
  unfold asI at ht
  try dsimp only at ht
  split at ht
  · obtain ⟨n, us, hn, en, ht⟩ := ht
    cases tr with
    | leaf r =>
      cases r
      have hr2 := hr1.stp s2
      obtain ⟨q1, vs1, p1, ws1, ev1, hq1, hl1, hn1, hp1, _, bp1⟩ := env_node2 (K := X.K) hr2.env et en
      rw [ev] at ev1
      cases ev1
      refine ⟨_, vs1, _, .ref p1, rfl, rfl, .inl (.inl hq1), ?_, b, H0, G2, ρ, C.xc ρ, _, ht, hr2, fun G3 H3 u t fp ht s3 tr fr => ?_⟩
      · unfold L2.atI
        rw [hl1, hn]
        exact hn1
      try unfold asI at ht
      try dsimp only at ht
      split at ht
      · obtain ⟨m, hm, q⟩ := ht
        cases tr with
        | leaf r =>
          cases r
          have s123 := (s1.trans hr.good s2).trans hr.good s3
          obtain ⟨q2, vs2, p2, ws2, ev2, hq2, hl2, hn2, hp2, hlw, _, at2⟩ := own_set2 (m := m) g0 (e1.trans s123.ex) (s.trans g0 s123) (hr2.env.stp s3) et en (rd.mono (s2.ex.trans s3.ex))
          rw [ev] at ev2
          cases ev2
          have hv : vs2 = vs1 := by
            have := s3.keep _ _ (by
              intro z
              exact bq z) hq1
            rw [this] at hq2
            cases hq2
            rfl
          subst hv
          rw [hn1] at hn2
          cases hn2
          exact ⟨_, ws2, _, m, rfl, rfl, hp2, by rw [hlw]; exact hm, eo.nx _ _ _ q at2⟩
      · exact ht.elim
  · exact ht.elim
theorem s_set2 (i : Nat) {x : Str} {kp : Pos} (h1 : PE X e2 (tOf X.K X.mg E w1)) (h2 : PE X e3 (tOf X.K X.mg E w2)) (he : PE X e (tOf X.K X.mg E we)) (hN : X.N[i]? = some x := by rfl) (hv : Vis X.env.scope x := by first | exact Or.inl rfl | exact Or.inr (Or.inl rfl) | exact Or.inr (Or.inr rfl)) (hd : (x == ("__debug__" : Str)) = false := by decide) (hcd : (x == ("__classdict__" : Str)) = false := by decide)
    (hpl : PlainIx e2 := by exact fun _ _ => rfl)
    (ha : ∀ v, assign (.Subscript (.Subscript (.Name x kp) e2 ipos) e3 tpos) X.env v = (do
      let ov ← holding [v] (eval (.Subscript (.Name x kp) e2 ipos) X.env)
      let iv ← holding [v, ov] (eval e3 X.env)
      standAt tpos
      holding [v, ov, iv] (setItem ov iv v)
      release [v, ov, iv] []) := by intro _; rfl)
    (hs : swapsWithSole [.Subscript (.Subscript (.Name x kp) e2 ipos) e3 tpos] e pos.line X.env = pure false := by rfl) (hw : swappedStores [.Subscript (.Subscript (.Name x kp) e2 ipos) e3 tpos] e X.env = pure none := by rfl) (h1' : (assignEach [.Subscript (.Subscript (.Name x kp) e2 ipos) e3 tpos] X.env).map (·.2) = [assign (.Subscript (.Subscript (.Name x kp) e2 ipos) e3 tpos) X.env] := by rfl) :
    PS X (.Assign [.Subscript (.Subscript (.Name x kp) e2 ipos) e3 tpos] e pos) (sOf X.K X.mg E (dSet2 i w1 w2 we)) := PS.of (ps_asg he (pg_sub (pe_ix ix_list (pe_var hN hv hd hcd) h1 hpl) h2 set_list ha) hs hw h1') fun D σ H h => set2_core h
end
theorem rep1 {α : Type} (x : α) : ∀ n : Nat, (List.replicate n [x]).flatten = List.replicate n x
  | 0 => rfl
  | n + 1 => by
    rw [List.replicate_succ, List.flatten_cons, rep1 x n, List.replicate_succ] <;> rfl
theorem e_mulL {x : PyData} {i : Int} {P : T → Prop} : rdMul (.list [x]) (.int i) P = (0 ≤ i ∧ i ≤ 1000 ∧ P (.node (List.replicate i.toNat (.leaf x)))) := propext ⟨fun ⟨xs, j, e1, e2, h0, h1, _, p⟩ => by
  cases e1
  cases e2
  rw [rep1, List.map_replicate] at p
  exact ⟨h0, h1, p⟩, fun ⟨h0, h1, p⟩ => ⟨[x], i, rfl, rfl, h0, h1, by show 1 ≤ 10; decide, by
  rw [rep1, List.map_replicate]
  exact p⟩⟩
theorem e_addL {xs ys : List PyData} {P : T → Prop} : rdAdd (.list xs) (.list ys) P = (xs.length + ys.length ≤ lim ∧ P (.node ((xs ++ ys).map .leaf))) := propext ⟨fun h => h.elim (fun ⟨a, b, e1, e2, hl, p⟩ => by
  cases e1
  cases e2
  exact ⟨hl, p⟩) fun ⟨a, b, e1, _⟩ => (by cases e1), fun ⟨hl, p⟩ => .inl ⟨xs, ys, rfl, rfl, hl, p⟩⟩
theorem e_addT {xs ys : List PyData} {P : T → Prop} : rdAdd (.tuple xs) (.tuple ys) P = (xs ≠ [] ∧ xs.length + ys.length ≤ lim ∧ P (.leaf (.tuple (xs ++ ys)))) := propext ⟨fun h => h.elim (fun ⟨a, b, e1, _⟩ => (by cases e1)) fun ⟨a, b, e1, e2, h0, hl, p⟩ => by
  cases e1
  cases e2
  exact ⟨h0, hl, p⟩, fun ⟨h0, hl, p⟩ => .inr ⟨xs, ys, rfl, rfl, h0, hl, p⟩⟩
theorem intsD_inj : ∀ {a b : List Int}, intsD a = intsD b → a = b := fun {a} => by
  induction a with
  | nil =>
    intro b hb
    cases b with
    | nil => rfl
    | cons y b => cases hb
  | cons x a ih =>
    intro b hb
    cases b with
    | nil => cases hb
    | cons y b =>
      have h1 : PyData.int x = .int y ∧ intsD a = intsD b := by simpa [intsD] using hb
      cases h1.1
      rw [ih h1.2]
theorem e_sumI {ns : List Int} {P : T → Prop} : cSum [.list (intsD ns)] P = P (int ns.sum) := propext ⟨fun ⟨ms, e, p⟩ => by
  have h : intsD ns = intsD ms := by
    injection e with e1 _
    injection e1
  rw [intsD_inj h]
  exact p, fun p => ⟨ns, rfl, p⟩⟩
theorem zerosI (n : Nat) (x : Int) : T.node (List.replicate n (.leaf (.int x))) = nodeI (List.replicate n x) := by
  unfold nodeI
  rw [List.map_replicate]
theorem e_flat {P : T → Prop} {d : PyData} : flatT P (.leaf d) = (flatD d = true ∧ P (.leaf d)) := rfl
theorem frz_nil : frzR [] = [] := rfl
theorem frz_none {ρ : Rho} : frzR (none :: ρ) = none :: frzR ρ := rfl
theorem frz_some {ρ : Rho} {t : T} : frzR (some t :: ρ) = some (.leaf t.dat) :: frzR ρ := rfl
theorem frz_cons {ρ : Rho} {o : Option T} : frzR (o :: ρ) = Option.map (fun t => T.leaf t.dat) o :: frzR ρ := rfl
theorem flat_i {i : Int} : flatD (.int i) = true := rfl
theorem flat_b {i : Bool} : flatD (.bool i) = true := rfl
theorem flat_n : flatD .none = true := rfl
theorem flat_s {i : Str} : flatD (.str i) = true := rfl
/-- own tables -/
def nodeT (rows : List (List Int)) : T := .node (rows.map nodeI)
def tabD (rows : List (List Int)) : List PyData := rows.map fun r => .list (intsD r)
theorem nodeT_dat (rows : List (List Int)) : (nodeT rows).dat = .list (tabD rows) := by
  unfold nodeT tabD
  rw [dat_eq, List.map_map]
  congr 2
  funext r
  exact nodeI_dat r
theorem sm_tab {n : Nat} {rows : List (List Int)} (h : rows.length < 1000) (hr : ∀ r ∈ rows, r.length < 1000) : Sm (n + 2) (.list (tabD rows)) := ⟨by unfold tabD; rw [List.length_map]; exact h, fun x hx => by
  obtain ⟨r, hm, rfl⟩ := List.mem_map.mp hx
  exact sm_ints (hr r hm)⟩
end Dd
namespace Dd
open PySem L2
section
variable {X : Cx} {E : SX} {e e2 e3 : Expr} {w we w1 w2 : WE} {ws : WA} {pos tpos ipos p : Pos}
/-- xs.clear() -/
def dClr (i : Nat) : WS := fun C ρ => ∃ ts, ρ[i]? = some (some (.node ts)) ∧ C.nx (ρ.set i (some (.node [])))
theorem s_clr (i : Nat) {x : Str} {p apos cpos : Pos} (hN : X.N[i]? = some x := by rfl) (hv : Vis X.env.scope x := by first | exact Or.inl rfl | exact Or.inr (Or.inl rfl) | exact Or.inr (Or.inr rfl)) (hd : (x == ("__debug__" : Str)) = false := by decide) (hcd : (x == ("__classdict__" : Str)) = false := by decide)
    (hsw : swapsWith (.Call (.Attribute (.Name x p) "clear" apos) [] [] cpos) none pos.line X.env = pure false := by rfl)
    (hbase : attributeBase (.Name x p) "clear" X.env (eval (.Name x p) X.env) = eval (.Name x p) X.env := by rfl)
    (hline : (apos.endLine == cpos.line) = true := by rfl) :
    PS X (.Expr (.Call (.Attribute (.Name x p) "clear" apos) [] [] cpos) pos) (sOf X.K X.mg E (dClr i)) :=
  PS.of (ps_expr (pe_bm0 PySem.F.plainAttrs_list PySem.F.slot_list_clear PySem.F.type_list_clear mt_clear (pe_var hN hv hd hcd) hbase hline) hsw) fun D σ H ⟨b, F, G0, H0, ρ, C, ⟨ts, et, q⟩, g0, a, eo⟩ => by
  obtain ⟨G, e1, s, hr⟩ := a.site g0 eo
  obtain ⟨fp, v, ev, tr, hB, EX⟩ := hr.env.take et
  cases tr with
  | node hp gp bp rr np =>
    rename_i pp fq vs
    refine ⟨_, ev, .inl ⟨rfl, _, .inl (.inl hp)⟩, pp, vs, rfl, rfl, hp, eo.nx _ _ _ q ?_⟩
    refine At.mut (fp' := [pp]) g0 e1 s EX ev (List.mem_cons_self ..) hB gp bp (.node upd_same gp bp .nil (fun z => nomatch z)) fun a m => ?_
    rw [List.mem_singleton.mp m]
    exact ⟨hB _ (List.mem_cons_self ..), .inl (List.mem_cons_self ..)⟩
/-- an own tree moved into an own list -/
theorem Env.move2 {b : Option Addr} {B G H : Hp} {σ : L2.St} {ρ : Rho} {i j : Nat} {t u : T} (E : Env b B G H σ ρ) (hij : i ≠ j) (ei : ρ[i]? = some (some t)) (ej : ρ[j]? = some (some u)) :
    ∃ fp fq v y, σ[i]? = some (some v) ∧ σ[j]? = some (some y) ∧ Tr b G H fp v t ∧ Tr b G H fq y u ∧ (∀ a, a ∈ fp → B a = none) ∧ (∀ a, a ∈ fq → B a = none) ∧ (∀ a, a ∈ fp → a ∉ fq) ∧ EnvX b B H G H σ (ρ.set j none) i (fp ++ fq) := by
  obtain ⟨hl, fps, h1, h2, h3⟩ := E
  obtain ⟨v, e1, tr⟩ := h1 i t ei
  obtain ⟨y, e2, tr2⟩ := h1 j u ej
  refine ⟨fps i, fps j, v, y, e1, e2, tr, tr2, fun a m => (h2 i a m).1, fun a m => (h2 j a m).1, fun a m => h3 i j a hij m, by rw [List.length_set]; exact hl, fun k => if k = j then [] else fps k, fun k w n q => ?_, fun k a n m => ?_, fun k k' a _ _ n m => ?_⟩
  · have nk : k ≠ j := fun z => by
      subst z
      rw [List.getElem?_set_self (List.getElem?_eq_some_iff.mp ej).1] at q
      cases q
    rw [List.getElem?_set_ne (Ne.symm nk)] at q
    obtain ⟨z, e, tr⟩ := h1 k w q
    exact ⟨z, e, by simp only [if_neg nk]; exact tr⟩
  · by_cases c : k = j
    · simp only [if_pos c] at m
      cases m
    · simp only [if_neg c] at m
      obtain ⟨q1, q2, q3, o, q4⟩ := h2 k a m
      exact ⟨q1, q2, q3, ⟨o, q4, q4⟩, fun z => (List.mem_append.mp z).elim (h3 k i a n m) (h3 k j a c m)⟩
  · by_cases c : k = j
    · simp only [if_pos c] at m
      cases m
    · simp only [if_neg c] at m
      by_cases c' : k' = j
      · simp only [if_pos c']
        exact fun z => nomatch z
      · simp only [if_neg c']
        exact h3 k k' a n m
/-- xs.append(y): y's own tree moves in -/
def dAppV (i j : Nat) : WS := fun C ρ => ∃ ts u, ρ[i]? = some (some (.node ts)) ∧ ρ[j]? = some (some u) ∧ ts.length < lim ∧ C.nx ((ρ.set j none).set i (some (.node (ts ++ [u]))))
theorem s_appV (i j : Nat) {x y : Str} {p p2 apos cpos : Pos} (hij : i ≠ j := by decide) (hN : X.N[i]? = some x := by rfl) (hM : X.N[j]? = some y := by rfl) (hv : Vis X.env.scope x := by first | exact Or.inl rfl | exact Or.inr (Or.inl rfl) | exact Or.inr (Or.inr rfl)) (hv2 : Vis X.env.scope y := by first | exact Or.inl rfl | exact Or.inr (Or.inl rfl) | exact Or.inr (Or.inr rfl)) (hd : (x == ("__debug__" : Str)) = false := by decide) (hcd : (x == ("__classdict__" : Str)) = false := by decide) (hd2 : (y == ("__debug__" : Str)) = false := by decide) (hcd2 : (y == ("__classdict__" : Str)) = false := by decide)
    (hsw : swapsWith (.Call (.Attribute (.Name x p) "append" apos) [.Name y p2] [] cpos) none pos.line X.env = pure false := by rfl)
    (hbase : attributeBase (.Name x p) "append" X.env (eval (.Name x p) X.env) = eval (.Name x p) X.env := by rfl)
    (hfew : ((backTo cpos (starEach [.Name y p2] X.env)).all (fun x => !x.1) && (backToKw cpos (keywordEach [] X.env)).all (fun x => x.1.isSome)
      && decide (([.Name y p2] : List Expr).length + ([] : List Keyword).length + (if ([] : List Keyword).isEmpty then 0 else 1) < 30)) = true := by rfl)
    (hline : (apos.endLine == cpos.line) = true := by rfl) (hs : starEach [.Name y p2] X.env = (false, eval (.Name y p2) X.env) :: starEach [] X.env := by rfl) (hplain : (backTo cpos (starEach [] X.env)).any (·.1) = false := by rfl) :
    PS X (.Expr (.Call (.Attribute (.Name x p) "append" apos) [.Name y p2] [] cpos) pos) (sOf X.K X.mg E (dAppV i j)) :=
  PS.of (ps_expr (pe_bm PySem.F.plainAttrs_list PySem.F.slot_list_append PySem.F.type_list_append mt_append (pe_var hN hv hd hcd) (pa_cons (pe_var hM hv2 hd2 hcd2) pa_nil hs) hbase hfew hline hs hplain) hsw) fun D σ H ⟨b, F, G0, H0, ρ, C, ⟨ts, u, et, eu, hl, q⟩, g0, a, eo⟩ => by
  obtain ⟨G, e1, s, hr⟩ := a.site g0 eo
  obtain ⟨fp, fv, v, y, ev, ey, tr, tr2, hB, hB2, dj, EX⟩ := hr.env.move2 hij et eu
  cases tr with
  | node hp gp bp rr np =>
    rename_i pp fq vs
    refine ⟨_, ev, .inl ⟨rfl, _, .inl (.inl hp)⟩, _, ey, pp, vs, y, rfl, rfl, hp, by rw [rr.len]; exact lim_lt hl, eo.nx _ _ _ q ?_⟩
    obtain ⟨fn, tr3, sub⟩ := TrAll.snoc rr tr2 fun a m => dj a (List.mem_cons_of_mem _ m)
    have npn : pp ∉ fn := fun z => (sub _ z).elim np (dj _ (List.mem_cons_self ..))
    refine At.mut (fp' := pp :: fn) g0 e1 s EX ev (List.mem_append_left _ (List.mem_cons_self ..)) (fun a m => (List.mem_append.mp m).elim (hB a) (hB2 a)) gp bp (.node upd_same gp bp (tr3.move (Ex.rfl' _) fun a m => ⟨(tr3.mem a m).1, upd_ne fun z => npn (by rw [← z]; exact m)⟩) npn) fun a m => ?_
    rcases List.mem_cons.mp m with m | m
    · rw [m]
      exact ⟨hB _ (List.mem_cons_self ..), .inl (List.mem_append_left _ (List.mem_cons_self ..))⟩
    · rcases sub a m with z | z
      · exact ⟨hB _ (List.mem_cons_of_mem _ z), .inl (List.mem_append_left _ (List.mem_cons_of_mem _ z))⟩
      · exact ⟨hB2 _ z, .inl (List.mem_append_right _ z)⟩
/-- x[a][b] += e -/
def dAug2 (f : Int → Int → Int) (i : Nat) (w1 w2 we : WE) : WS := fun C ρ => ∃ ts, ρ[i]? = some (some (.node ts)) ∧ w1 (C.xc ρ) ρ (asI fun k => ∃ n us, ixN ts.length k = some n ∧ ts[n]? = some (.node us) ∧ w2 (C.xc ρ) ρ (asI fun l => ∃ a, 0 ≤ l ∧ us[l.toNat]? = some (int a) ∧
  we (C.xc ρ) ρ (asI fun c => C.nx (ρ.set i (some (.node (ts.set n (.node (us.set l.toNat (int (f a c)))))))))))
theorem env_node2' {K : PySem.W.Frag} {b : Option Addr} {B G H : Hp} {σ : L2.St} {ρ : Rho} {i : Nat} {ts us : List T} {n : Nat} (E1 : Env b B G H σ ρ) (et : ρ[i]? = some (some (.node ts))) (en : ts[n]? = some (.node us)) :
    ∃ q vs p ws, σ[i]? = some (some (.ref q)) ∧ H q = some (.lst vs) ∧ vs.length = ts.length ∧ vs[n]? = some (.ref p) ∧ H p = some (.lst ws) ∧ b ≠ some q ∧ b ≠ some p ∧ ws.length = us.length ∧ ∀ (j : Nat) d', us[j]? = some (.leaf d') → ∃ u, ws[j]? = some u ∧ Rp b G u d' := by
  obtain ⟨fp, v0, ev, tr, hB, EX⟩ := E1.take et
  cases tr with
  | node hp gp bp rr np =>
    rename_i q fq vs
    obtain ⟨p, fw, ws, h1, h2, h3, h4, h5, h6, h7, h8⟩ := rr.inner en
    exact ⟨q, vs, p, ws, ev, hp, rr.len, h1, h2, bp, h4, h5.len, fun j d' h => h5.at h⟩
theorem s_aug2 {op : Operator} {f : Int → Int → Int} (ho : PIp X op (ipI f)) (i : Nat) {x : Str} {kp : Pos} (h1 : PE X e2 (tOf X.K X.mg E w1)) (h2 : PE X e3 (tOf X.K X.mg E w2)) (he : PE X e (tOf X.K X.mg E we)) (hN : X.N[i]? = some x := by rfl) (hv : Vis X.env.scope x := by first | exact Or.inl rfl | exact Or.inr (Or.inl rfl) | exact Or.inr (Or.inr rfl)) (hd : (x == ("__debug__" : Str)) = false := by decide) (hcd : (x == ("__classdict__" : Str)) = false := by decide)
    (hpl : PlainIx e2 := by exact fun _ _ => rfl)
    (ha : ∀ ov iv new, augStore e3 ov iv new = (do holding [new, ov, iv] (setItem ov iv new); release [new, ov, iv] []; pure .next) := by intros; rfl) :
    PS X (.AugAssign (.Subscript (.Subscript (.Name x kp) e2 ipos) e3 tpos) op e pos) (sOf X.K X.mg E (dAug2 f i w1 w2 we)) := PS.of (ps_augS (pe_ix ix_list (pe_var hN hv hd hcd) h1 hpl) h2 get_list he ho set_list ha) fun D σ H ⟨b, F, G0, H0, ρ, C, ⟨ts, et, q⟩, g0, a, eo⟩ => by
  obtain ⟨G, e1, s, hr⟩ := a.site g0 eo
  obtain ⟨q0, vs0, ev, hq0, _, bq, _⟩ := env_node (K := X.K) hr.env et
  refine ⟨_, ev, b, H0, G, ρ, C.xc ρ, _, q, hr, fun G1 H1 u t fp ht s1 tr fr => ?_⟩
  try unfold asI at ht
  try dsimp only at ht
  split at ht
  · obtain ⟨n, us, hn, en, ht⟩ := ht
    cases tr with
    | leaf r =>
      cases r
      have hr1 := hr.stp s1
      obtain ⟨q1, vs1, p1, ws1, ev1, hq1, hl1, hn1, hp1, _, bp1, _, _⟩ := env_node2' (K := X.K) hr1.env et en
      rw [ev] at ev1
      cases ev1
      refine ⟨_, vs1, _, .ref p1, rfl, rfl, .inl (.inl hq1), ?_, b, H0, G1, ρ, C.xc ρ, _, ht, hr1, fun G2 H2 u t fp ht s2 tr fr => ?_⟩
      · unfold L2.atI
        rw [hl1, hn]
        exact hn1
      try unfold asI at ht
      try dsimp only at ht
      split at ht
      · obtain ⟨a0, h0, ea, ht⟩ := ht
        cases tr with
        | leaf r =>
          cases r
          have hr2 := hr1.stp s2
          obtain ⟨q2, vs2, p2, ws2, ev2, hq2, hl2, hn2, hp2, _, bp2, hlw, at2⟩ := env_node2' (K := X.K) hr2.env et en
          rw [ev] at ev2
          cases ev2
          have hv : vs2 = vs1 := by
            have := s2.keep _ _ (by
              intro z
              exact bq z) hq1
            rw [this] at hq2
            cases hq2
            rfl
          subst hv
          rw [hn1] at hn2
          cases hn2
          obtain ⟨u1, hu1, ru1⟩ := at2 _ _ ea
          cases ru1
          refine ⟨_, _, _, _, rfl, rfl, hp2, h0, hu1, b, H0, G2, ρ, C.xc ρ, _, ht, hr2, fun G3 H3 u t fp ht s3 tr fr => ?_⟩
          try unfold asI at ht
          try dsimp only at ht
          split at ht
          · cases tr with
            | leaf r =>
              cases r
              have s123 := (s1.trans hr.good s2).trans hr.good s3
              obtain ⟨q3, vs3, p3, ws3, ev3, hq3, hl3, hn3, hp3, hlw3, _, at3⟩ := own_set2 (m := _) g0 (e1.trans s123.ex) (s.trans g0 s123) (hr2.env.stp s3) et en (.int _)
              rw [ev] at ev3
              cases ev3
              have hv : vs3 = vs2 := by
                have := s3.keep _ _ (by
                  intro z
                  exact bq z) hq2
                rw [this] at hq3
                cases hq3
                rfl
              subst hv
              rw [hn1] at hn3
              cases hn3
              have hlt := (List.getElem?_eq_some_iff.mp ea).1
              exact ⟨_, _, rfl, rfl, _, ws3, _, _, rfl, rfl, hp3, ixN_of h0 (by omega), eo.nx _ _ _ ht at3⟩
          · exact ht.elim
      · exact ht.elim
  · exact ht.elim
/-- min, max of a list of whole numbers -/
def cMin1 : CD := fun ds P => ∃ ns : List Int, ds = [.list (intsD ns)] ∧ 0 < ns.length ∧ ∀ m, m ∈ ns → (∀ y, y ∈ ns → m ≤ y) → P (int m)
def cMax1 : CD := fun ds P => ∃ ns : List Int, ds = [.list (intsD ns)] ∧ 0 < ns.length ∧ ∀ m, m ∈ ns → (∀ y, y ∈ ns → y ≤ m) → P (int m)
theorem ok_min1 {K : PySem.W.Frag} : CdOk K (rMin K) cMin1 := fun b G H vs ds P Q g r h k => by
  obtain ⟨ns, rfl, h0, p⟩ := h
  cases r with
  | cons r1 r2 =>
    cases r2
    cases r1 with
    | lst h1 h2 =>
      have e := rp_ints h2
      subst e
      exact ⟨_, ns, rfl, .inl (.inl (g.ex _ _ h1)), h0, fun m m0 m1 => k.leaf g (p m m0 m1) (.int _)⟩
theorem ok_max1 {K : PySem.W.Frag} : CdOk K (rMax K) cMax1 := fun b G H vs ds P Q g r h k => by
  obtain ⟨ns, rfl, h0, p⟩ := h
  cases r with
  | cons r1 r2 =>
    cases r2
    cases r1 with
    | lst h1 h2 =>
      have e := rp_ints h2
      subst e
      exact ⟨_, ns, rfl, .inl (.inl (g.ex _ _ h1)), h0, fun m m0 m1 => k.leaf g (p m m0 m1) (.int _)⟩
theorem d_min1 (hc : X.calm = true) (hm : X.mg "min" = none) (ha : PA X [e] (aOf X.K X.mg E ws)) (hg : Gl X "min" := by rfl) (he : starEach [e] X.env = (false, eval e X.env) :: starEach [] X.env := by rfl) (hpl : (backTo pos (starEach [] X.env)).any (·.1) = false := by rfl) : PE X (.Call (.Name "min" p) [e] [] pos) (tOf X.K X.mg E (dBlt cMin1 ws)) :=
  d_blt (cr_min hc) ok_min1 hg hm (by decide +kernel) ha (by decide) (by decide) he hpl
theorem d_max1 (hc : X.calm = true) (hm : X.mg "max" = none) (ha : PA X [e] (aOf X.K X.mg E ws)) (hg : Gl X "max" := by rfl) (he : starEach [e] X.env = (false, eval e X.env) :: starEach [] X.env := by rfl) (hpl : (backTo pos (starEach [] X.env)).any (·.1) = false := by rfl) : PE X (.Call (.Name "max" p) [e] [] pos) (tOf X.K X.mg E (dBlt cMax1 ws)) :=
  d_blt (cr_max hc) ok_max1 hg hm (by decide +kernel) ha (by decide) (by decide) he hpl
end
theorem e_min1 {ns : List Int} {P : T → Prop} : cMin1 [.list (intsD ns)] P = (0 < ns.length ∧ ∀ m, m ∈ ns → (∀ y, y ∈ ns → m ≤ y) → P (int m)) := propext ⟨fun ⟨ms, e, p⟩ => by
  have h : intsD ns = intsD ms := by
    injection e with e1 _
    injection e1
  rw [intsD_inj h]
  exact p, fun p => ⟨ns, rfl, p⟩⟩
theorem e_max1 {ns : List Int} {P : T → Prop} : cMax1 [.list (intsD ns)] P = (0 < ns.length ∧ ∀ m, m ∈ ns → (∀ y, y ∈ ns → y ≤ m) → P (int m)) := propext ⟨fun ⟨ms, e, p⟩ => by
  have h : intsD ns = intsD ms := by
    injection e with e1 _
    injection e1
  rw [intsD_inj h]
  exact p, fun p => ⟨ns, rfl, p⟩⟩
end Dd
/-! Promises and mathematics that several laws use. -/
namespace Dd
open PySem L2
def tkOk (x : Int) : Prop := 1 ≤ x ∧ x ≤ 1000
def S_l_great : Spec := fun ds P _ => ds = [.dict []] ∧ ∀ r : Int, 0 ≤ r → r < 1000000000000000000 → P (int r)
theorem e_great {P : T → Prop} {x : XP} : S_l_great [.dict []] P x = ∀ r : Int, 0 ≤ r → r < 1000000000000000000 → P (int r) := propext ⟨fun h => h.2, fun h => ⟨rfl, h⟩⟩
/-! ### the greatest number that divides both -/
theorem gcd_step (a b : Int) : Int.gcd b (a % b) = Int.gcd a b := by
  have h : a % b = a + b * (-(a / b)) := by
    have := Int.emod_add_mul_ediv a b
    rw [Int.mul_neg]
    omega
  rw [h, Int.gcd_comm a b]
  exact Int.gcd_add_mul_left_right ..
theorem gcd_ok {a b : Int} (ha : tkOk a) (hb : tkOk b) : 0 < (Int.gcd a b : Int) ∧ (Int.gcd a b : Int) ≤ 1000 := by
  have h1 : 0 < Int.gcd a b := Int.gcd_pos_of_ne_zero_left _ (by have := ha.1; omega)
  have h2 : (Int.gcd a b : Int) ≤ a := Int.le_of_dvd (by have := ha.1; omega) (Int.gcd_dvd_left ..)
  have := ha.2
  omega
def unitD (a b : Int) : PyData := .tuple [.int (b / (Int.gcd a b : Int)), .int (a / (Int.gcd a b : Int))]
def uw (a b : Int) : Int := a * (b / (Int.gcd a b : Int))
theorem div_ok {i j : Int} (h0 : 0 < j) (h1 : j ≤ 1000) : CDivW i j := wide_div (b := 10) h0 (by omega) (by decide) (by decide)
theorem small_mul {i j : Int} (hi : i.natAbs < 2 ^ 200) (hj : j.natAbs < 2 ^ 200) : CMulW i j := wide_mul hi hj (by decide) (by decide) (by decide)
theorem small_lt {i : Int} (h0 : 0 ≤ i) (h : i < 1000000000000000000000000000000) : i.natAbs < 2 ^ 200 := Nat.lt_of_lt_of_le (show i.natAbs < 1000000000000000000000000000000 by omega) (by decide)
theorem div_le {a b : Int} (ha : tkOk a) (hb : tkOk b) : 0 ≤ b / (Int.gcd a b : Int) ∧ b / (Int.gcd a b : Int) ≤ 1000 := by
  obtain ⟨g0, g1⟩ := gcd_ok ha hb
  have h1 := hb.1
  have h2 := hb.2
  exact ⟨Int.ediv_nonneg (by omega) (by omega), Int.le_trans (Int.ediv_le_self _ (by omega)) h2⟩
end Dd
/-! Tables of whole numbers. -/
namespace Dd
open PySem L2
theorem Sm.mono : ∀ {n m : Nat} {d : PyData}, Sm n d → n ≤ m → Sm m d
  | _, _, .none, _, _ => sm_none
  | _, _, .bool _, _, _ => sm_bool
  | _, _, .int _, _, _ => sm_int
  | n, m, .str x, h, _ => by
    cases n <;> cases m <;> exact h
  | n + 1, m + 1, .list xs, h, k => ⟨h.1, fun x hx => Sm.mono (h.2 x hx) (by omega)⟩
  | n + 1, m + 1, .tuple xs, h, k => ⟨h.1, fun x hx => Sm.mono (h.2 x hx) (by omega)⟩
  | 0, _, .list _, h, _ => h.elim
  | 0, _, .tuple _, h, _ => h.elim
  | 0, _, .dict _, h, _ => h.elim
  | n + 1, _, .dict _, h, _ => h.elim
  | n + 1, 0, .list _, h, k => by omega
  | n + 1, 0, .tuple _, h, k => by omega
def at2 (rows : List (List Int)) (i j : Nat) : Int := (rows.getD i []).getD j 0
def set2 (rows : List (List Int)) (i j : Nat) (v : Int) : List (List Int) := rows.set i ((rows.getD i []).set j v)
structure TabOk (n : Nat) (M : Int) (rows : List (List Int)) : Prop where
  len : rows.length = n
  row : ∀ r ∈ rows, r.length = n
  val : ∀ i j, 0 ≤ at2 rows i j ∧ at2 rows i j < M
  dia : ∀ i, at2 rows i i = 0
def Sym (rows : List (List Int)) : Prop := ∀ i j, at2 rows i j = at2 rows j i
theorem getD_len {n : Nat} {rows : List (List Int)} (h : ∀ r ∈ rows, r.length = n) {i : Nat} (hi : i < rows.length) : (rows.getD i []).length = n := by
  rw [List.getD_eq_getElem?_getD, List.getElem?_eq_getElem hi]
  exact h _ (List.getElem_mem _)
theorem at2_set2 {n : Nat} {rows : List (List Int)} (hl : rows.length = n) (hr : ∀ r ∈ rows, r.length = n) {i j : Nat} (hi : i < n) (hj : j < n) (v : Int) (a b : Nat) : at2 (set2 rows i j v) a b = if a = i ∧ b = j then v else at2 rows a b := by
  unfold at2 set2
  have hli := getD_len hr (show i < rows.length by omega)
  by_cases ha : a = i
  · subst ha
    rw [show (rows.set a ((rows.getD a []).set j v)).getD a [] = (rows.getD a []).set j v by
      rw [List.getD_eq_getElem?_getD, List.getElem?_set_self (by omega)] <;> rfl]
    by_cases hb : b = j
    · subst hb
      rw [if_pos ⟨rfl, rfl⟩, List.getD_eq_getElem?_getD, List.getElem?_set_self (by omega)] <;> rfl
    · rw [if_neg (fun z => hb z.2), List.getD_eq_getElem?_getD, List.getElem?_set_ne (Ne.symm hb), ← List.getD_eq_getElem?_getD]
  · rw [if_neg (fun z => ha z.1)]
    rw [show (rows.set i ((rows.getD i []).set j v)).getD a [] = rows.getD a [] by
      rw [List.getD_eq_getElem?_getD, List.getElem?_set_ne (Ne.symm ha), ← List.getD_eq_getElem?_getD]]
theorem set2_len (rows : List (List Int)) (i j : Nat) (v : Int) : (set2 rows i j v).length = rows.length := by unfold set2; rw [List.length_set]
theorem set2_row {n : Nat} {rows : List (List Int)} (hl : rows.length = n) (hr : ∀ r ∈ rows, r.length = n) {i j : Nat} (hi : i < n) (v : Int) : ∀ r ∈ set2 rows i j v, r.length = n := fun r h => by
  unfold set2 at h
  rcases List.mem_or_eq_of_mem_set h with h | h
  · exact hr r h
  · rw [h, List.length_set]
    exact getD_len hr (by omega)
theorem TabOk.set {n : Nat} {M : Int} {rows : List (List Int)} (h : TabOk n M rows) {i j : Nat} {v : Int} (hi : i < n) (hj : j < n) (hij : i ≠ j) (h0 : 0 ≤ v) (h1 : v < M) : TabOk n M (set2 rows i j v) := by
  refine ⟨by rw [set2_len]; exact h.len, set2_row h.len h.row hi v, fun a b => ?_, fun a => ?_⟩
  · rw [at2_set2 h.len h.row hi hj]
    split
    · exact ⟨h0, h1⟩
    · exact h.val a b
  · rw [at2_set2 h.len h.row hi hj, if_neg (fun z => hij (z.1.symm.trans z.2))]
    exact h.dia a
/-- a place and its mirror are written with the same number -/
theorem Sym.set {n : Nat} {rows : List (List Int)} (s : Sym rows) (hl : rows.length = n) (hr : ∀ r ∈ rows, r.length = n) {i j : Nat} {v : Int} (hi : i < n) (hj : j < n) (hij : i ≠ j) : Sym (set2 (set2 rows i j v) j i v) := fun a b => by
  have e1 := at2_set2 (show (set2 rows i j v).length = n by rw [set2_len]; exact hl) (set2_row hl hr hi v) hj hi v
  have e2 := at2_set2 hl hr hi hj v
  rw [e1, e1, e2, e2]
  by_cases c1 : a = j ∧ b = i
  · rw [if_pos c1]
    by_cases c2 : b = j ∧ a = i
    · rw [if_pos c2]
    · rw [if_neg c2, if_pos ⟨c1.2, c1.1⟩]
  · rw [if_neg c1]
    by_cases c2 : a = i ∧ b = j
    · rw [if_pos c2, if_pos ⟨c2.2, c2.1⟩]
    · rw [if_neg c2, if_neg (fun z => c2 ⟨z.2, z.1⟩), if_neg (fun z => c1 ⟨z.2, z.1⟩)]
      exact s a b
/-- writing twice at one place -/
theorem set2_set2 {n : Nat} {rows : List (List Int)} (hl : rows.length = n) {i j : Nat} (hi : i < n) (u v : Int) : set2 (set2 rows i j u) i j v = set2 rows i j v := by
  unfold set2
  rw [show (rows.set i ((rows.getD i []).set j u)).getD i [] = (rows.getD i []).set j u by
    rw [List.getD_eq_getElem?_getD, List.getElem?_set_self (by omega)] <;> rfl]
  rw [List.set_set, List.set_set]
theorem nodeT_set {n : Nat} {rows : List (List Int)} (hl : rows.length = n) {i j : Nat} (hi : i < n) (v : Int) : T.node ((rows.map nodeI).set i (.node ((((rows.getD i []).map fun x => T.leaf (.int x))).set j (.leaf (.int v))))) = nodeT (set2 rows i j v) := by
  unfold nodeT set2
  rw [List.map_set]
  unfold nodeI
  rw [List.map_set]
theorem mapI_set {rows : List (List Int)} {i j : Nat} (v : Int) : (rows.map nodeI).set i (.node ((((rows.getD i []).map fun x => T.leaf (.int x))).set j (.leaf (.int v)))) = (set2 rows i j v).map nodeI := by
  unfold set2
  rw [List.map_set]
  unfold nodeI
  rw [List.map_set]
theorem nodeT_get {rows : List (List Int)} {i : Nat} (hi : i < rows.length) : (rows.map nodeI)[i]? = some (.node ((rows.getD i []).map fun x => T.leaf (.int x))) := by
  rw [List.getElem?_map, List.getElem?_eq_getElem hi, List.getD_eq_getElem?_getD, List.getElem?_eq_getElem hi] <;> rfl
theorem atI_tab {rows : List (List Int)} {k : Int} (h0 : 0 ≤ k) (h : k < rows.length) : atI (tabD rows) k = some (.list (intsD (rows.getD k.toNat []))) := by
  have hk : k.toNat < rows.length := by omega
  have e : atI (tabD rows) ((k.toNat : Nat) : Int) = some (.list (intsD (rows.getD k.toNat []))) := atI_nat (by
    unfold tabD
    rw [List.getElem?_map, List.getElem?_eq_getElem hk, List.getD_eq_getElem?_getD, List.getElem?_eq_getElem hk] <;> rfl)
  rw [show ((k.toNat : Nat) : Int) = k by omega] at e
  exact e
theorem len_tabD (rows : List (List Int)) : (tabD rows).length = rows.length := List.length_map _
theorem get_tabD {rows : List (List Int)} {i : Nat} {d : PyData} (h : (tabD rows)[i]? = some d) : i < rows.length ∧ d = .list (intsD (rows.getD i [])) := by
  have hi : i < rows.length := by
    have := (List.getElem?_eq_some_iff.mp h).1
    rw [len_tabD] at this
    exact this
  unfold tabD at h
  rw [List.getElem?_map, List.getElem?_eq_getElem hi] at h
  refine ⟨hi, ?_⟩
  rw [List.getD_eq_getElem?_getD, List.getElem?_eq_getElem hi]
  exact (Option.some.inj h).symm
theorem enum_get {ds : List PyData} {i : Nat} {d : PyData} (h : (enumD 0 ds)[i]? = some d) : ∃ x, ds[i]? = some x ∧ d = .tuple [.int (i : Nat), x] := by
  have hi : i < ds.length := by
    have := (List.getElem?_eq_some_iff.mp h).1
    rw [enumD_len] at this
    exact this
  refine ⟨ds[i], List.getElem?_eq_getElem hi, ?_⟩
  have e := enumD_get 0 ds i _ (List.getElem?_eq_getElem hi)
  rw [e] at h
  rw [Nat.zero_add] at h
  exact (Option.some.inj h).symm
theorem zip_get {xs ys : List PyData} {i : Nat} {d : PyData} (h : (zipD xs ys)[i]? = some d) : ∃ x y, xs[i]? = some x ∧ ys[i]? = some y ∧ d = .tuple [x, y] := by
  have hi : i < min xs.length ys.length := by
    have := (List.getElem?_eq_some_iff.mp h).1
    rw [zipD_len] at this
    exact this
  have h1 : i < xs.length := by omega
  have h2 : i < ys.length := by omega
  refine ⟨xs[i], ys[i], List.getElem?_eq_getElem h1, List.getElem?_eq_getElem h2, ?_⟩
  rw [zipD_get xs ys i _ _ (List.getElem?_eq_getElem h1) (List.getElem?_eq_getElem h2)] at h
  exact (Option.some.inj h).symm
theorem int_get {ns : List Int} {i : Nat} {d : PyData} (h : (intsD ns)[i]? = some d) : i < ns.length ∧ d = .int (ns.getD i 0) := by
  obtain ⟨hi, e⟩ := get_intsD h
  refine ⟨hi, ?_⟩
  rw [e, List.getD_eq_getElem?_getD, List.getElem?_eq_getElem hi] <;> rfl
/-! ### == of lists and tables -/
theorem eqvAll_ints : ∀ a b : List Int, PyData.eqvAll (intsD a) (intsD b) = decide (a = b)
  | [], [] => rfl
  | [], _ :: _ => by simp [intsD, PyData.eqvAll]
  | _ :: _, [] => by simp [intsD, PyData.eqvAll]
  | x :: a, y :: b => by
    have ih := eqvAll_ints a b
    show (PyData.eqv (.int x) (.int y) && PyData.eqvAll (intsD a) (intsD b)) = _
    rw [ih]
    simp only [PyData.eqv]
    by_cases h : x = y <;> by_cases h2 : a = b <;> simp [h, h2]
theorem eqv_intsD (a b : List Int) : PyData.eqv (.list (intsD a)) (.list (intsD b)) = decide (a = b) := by
  rw [PyData.eqv]
  exact eqvAll_ints a b
theorem eqvAll_tab : ∀ a b : List (List Int), PyData.eqvAll (tabD a) (tabD b) = decide (a = b)
  | [], [] => rfl
  | [], _ :: _ => by simp [tabD, PyData.eqvAll]
  | _ :: _, [] => by simp [tabD, PyData.eqvAll]
  | x :: a, y :: b => by
    have ih := eqvAll_tab a b
    show (PyData.eqv (.list (intsD x)) (.list (intsD y)) && PyData.eqvAll (tabD a) (tabD b)) = _
    rw [ih, eqv_intsD]
    by_cases h : x = y <;> by_cases h2 : a = b <;> simp [h, h2]
theorem eqv_tabD (a b : List (List Int)) : PyData.eqv (.list (tabD a)) (.list (tabD b)) = decide (a = b) := by
  rw [PyData.eqv]
  exact eqvAll_tab a b
/-- [f i for i in range(n)] -/
theorem lc_rng {wi : WI} {wg : WG} {we : WE} {x : XP} {ρ : Rho} {vs : List Nat} {P : T → Prop} (n : Nat) (f : Nat → T) (hi : ∀ P : List PyData → Prop, P (rngD 0 n) → wi x ρ P) (hl : n < lim)
    (he : ∀ (i : Nat) (Q : T → Prop) (R : Prop), i < n → Q (f i) → wg (.int (i : Nat)) (wipeR ρ vs) fun ρ2 => (true = true → we noX ρ2 Q) ∧ (true = false → R)) (h : P (.node ((List.range n).map f))) : dLc wi wg dYes we vs x ρ P := by
  refine lc_map (rngD 0 n) (fun d => match d with | .int i => f i.toNat | _ => non) hi (by rw [rngD_len]; exact hl) (fun i d Q R e hQ => ?_) ?_
  · have hlt : i < n := by
      have := (List.getElem?_eq_some_iff.mp e).1
      rw [rngD_len] at this
      exact this
    rw [rngD_get hlt] at e
    cases e
    rw [Int.zero_add] at hQ ⊢
    exact he i Q R hlt hQ
  · have e : (rngD 0 n).map (fun d => match d with | .int i => f i.toNat | _ => non) = (List.range n).map f := by
      unfold rngD
      rw [List.map_map]
      refine List.map_congr_left fun i _ => ?_
      show f ((0 : Int) + (i : Nat)).toNat = f i
      rw [Int.zero_add, Int.toNat_natCast]
    rw [e]
    exact h
theorem nodeI_range (n : Nat) (f : Nat → Int) : T.node ((List.range n).map fun i => T.leaf (.int (f i))) = nodeI ((List.range n).map f) := by
  unfold nodeI
  rw [List.map_map] <;> rfl
theorem nodeT_range (n : Nat) (f : Nat → List Int) : T.node ((List.range n).map fun i => nodeI (f i)) = nodeT ((List.range n).map f) := by
  unfold nodeT
  rw [List.map_map] <;> rfl
theorem at2_eq {rows : List (List Int)} {i j : Nat} : (rows.getD i []).getD j 0 = at2 rows i j := rfl
theorem list_ext_getD {α : Type} {d : α} {a b : List α} (hl : a.length = b.length) (h : ∀ i, i < a.length → a.getD i d = b.getD i d) : a = b := by
  refine List.ext_getElem hl fun i h1 h2 => ?_
  have := h i h1
  rw [List.getD_eq_getElem?_getD, List.getD_eq_getElem?_getD, List.getElem?_eq_getElem h1, List.getElem?_eq_getElem h2] at this
  exact this
theorem range_getD {α : Type} {n i : Nat} (f : Nat → α) (d : α) (h : i < n) : ((List.range n).map f).getD i d = f i := by
  rw [List.getD_eq_getElem?_getD, List.getElem?_map, List.getElem?_range h] <;> rfl
end Dd
/-! Strokes: what a death moves. -/
namespace Dd
open PySem L2
/-- c 0 + .. + c (n - 1) -/
def sumN (c : Nat → Int) : Nat → Int
  | 0 => 0
  | n + 1 => sumN c n + c n
theorem sumN_congr {c d : Nat → Int} : ∀ {n : Nat}, (∀ i, i < n → c i = d i) → sumN c n = sumN d n
  | 0, _ => rfl
  | n + 1, h => by
    show sumN c n + c n = sumN d n + d n
    rw [sumN_congr fun i hi => h i (by omega), h n (by omega)]
theorem sumN_add (c d : Nat → Int) : ∀ n, sumN (fun i => c i + d i) n = sumN c n + sumN d n
  | 0 => rfl
  | n + 1 => by
    show sumN _ n + (c n + d n) = sumN c n + c n + (sumN d n + d n)
    rw [sumN_add c d n]
    omega
theorem sumN_neg (c : Nat → Int) : ∀ n, sumN (fun i => -c i) n = -sumN c n
  | 0 => rfl
  | n + 1 => by
    show sumN _ n + -c n = -(sumN c n + c n)
    rw [sumN_neg c n]
    omega
theorem sumN_mul (a : Int) (c : Nat → Int) : ∀ n, sumN (fun i => a * c i) n = a * sumN c n
  | 0 => (Int.mul_zero a).symm
  | n + 1 => by
    show sumN _ n + a * c n = a * (sumN c n + c n)
    rw [sumN_mul a c n, Int.mul_add]
theorem sumN_zero {c : Nat → Int} : ∀ {n : Nat}, (∀ i, i < n → c i = 0) → sumN c n = 0
  | 0, _ => rfl
  | n + 1, h => by
    show sumN c n + c n = 0
    rw [sumN_zero fun i hi => h i (by omega), h n (by omega)]
    rfl
theorem sumN_one {c : Nat → Int} {d : Nat} : ∀ {n : Nat}, d < n → (∀ i, i < n → i ≠ d → c i = 0) → sumN c n = c d
  | n + 1, hd, h => by
    show sumN c n + c n = c d
    by_cases e : d = n
    · subst e
      rw [sumN_zero fun i hi => h i (by omega) (by omega)]
      omega
    · rw [sumN_one (by omega) fun i hi => h i (by omega), h n (by omega) (by omega)]
      omega
theorem sumN_nn {c : Nat → Int} : ∀ {n : Nat}, (∀ i, i < n → 0 ≤ c i) → 0 ≤ sumN c n
  | 0, _ => Int.le_refl 0
  | n + 1, h => by
    have := sumN_nn (n := n) fun i hi => h i (by omega)
    have := h n (by omega)
    show 0 ≤ sumN c n + c n
    omega
theorem sumN_le {c d : Nat → Int} : ∀ {n : Nat}, (∀ i, i < n → c i ≤ d i) → sumN c n ≤ sumN d n
  | 0, _ => Int.le_refl 0
  | n + 1, h => by
    have := sumN_le (n := n) fun i hi => h i (by omega)
    have := h n (by omega)
    show sumN c n + c n ≤ sumN d n + d n
    omega
theorem sumN_swap (c : Nat → Nat → Int) (m : Nat) : ∀ n, sumN (fun i => sumN (c i) m) n = sumN (fun j => sumN (fun i => c i j) n) m
  | 0 => (sumN_zero fun _ _ => rfl).symm
  | n + 1 => by
    show sumN _ n + sumN (c n) m = _
    rw [sumN_swap c m n, ← sumN_add]
    rfl
theorem sum_range (f : Nat → Int) : ∀ n, ((List.range n).map f).sum = sumN f n
  | 0 => rfl
  | n + 1 => by
    rw [List.range_succ, List.map_append, List.sum_append, sum_range f n]
    show sumN f n + (f n + 0) = sumN f n + f n
    omega
theorem sum_getD (xs : List Int) : xs.sum = sumN (fun i => xs.getD i 0) xs.length := by
  rw [← sum_range]
  congr 1
  refine list_ext_getD (d := 0) (by simp) fun i hi => ?_
  rw [range_getD _ _ hi]
/-- changes by what each other one gets -/
def mvD (n : Nat) (c : Nat → Int) (d : Nat) : List Int := (List.range n).map fun j => c j - if j = d then sumN c n else 0
def cst (rows : List (List Int)) (tk : List Int) (d k : Nat) : Int := at2 rows d k * (tk.getD k 0 / (Int.gcd (tk.getD d 0) (tk.getD k 0) : Int))
structure Bts (n : Nat) (rows : List (List Int)) (tk : List Int) : Prop where
  rl : rows.length = n
  rr : ∀ r ∈ rows, r.length = n
  tl : tk.length = n
  tk : ∀ x ∈ tk, tkOk x
  bd : ∀ i j, (at2 rows i j).natAbs < 2 ^ 100
  sz : n ≤ 60
theorem getD_mem {α : Type} {xs : List α} {i : Nat} {d : α} (h : i < xs.length) : xs.getD i d ∈ xs := by
  rw [List.getD_eq_getElem?_getD, List.getElem?_eq_getElem h]
  exact List.getElem_mem _
theorem Bts.t {n : Nat} {rows : List (List Int)} {tk : List Int} (h : Bts n rows tk) {i : Nat} (hi : i < n) : tkOk (tk.getD i 0) := h.tk _ (getD_mem (by rw [h.tl]; exact hi))
theorem Bts.row {n : Nat} {rows : List (List Int)} {tk : List Int} (h : Bts n rows tk) {i : Nat} (hi : i < n) : (rows.getD i []).length = n := getD_len h.rr (by rw [h.rl]; exact hi)
def deadD : Option Nat → PyData
  | none => .none
  | some d => .int (d : Nat)
def mvo (n : Nat) (rows : List (List Int)) (tk : List Int) : Option Nat → List Int
  | none => List.replicate n 0
  | some d => mvD n (cst rows tk d) d
theorem mvo_len (n : Nat) (rows : List (List Int)) (tk : List Int) (d : Option Nat) : (mvo n rows tk d).length = n := by
  cases d <;> simp [mvo, mvD]
theorem mvo_sum (n : Nat) (rows : List (List Int)) (tk : List Int) (d : Option Nat) (hd : ∀ i, d = some i → i < n) : (mvo n rows tk d).sum = 0 := by
  cases d with
  | none =>
    show (List.replicate n (0 : Int)).sum = 0
    induction n with
    | zero => rfl
    | succ m ih =>
      rw [List.replicate_succ, List.sum_cons]
      have : (List.replicate m (0 : Int)).sum = 0 := by
        clear ih hd
        induction m with
        | zero => rfl
        | succ k ih => rw [List.replicate_succ, List.sum_cons, ih]; rfl
      omega
  | some d =>
    show ((List.range n).map _).sum = 0
    rw [sum_range]
    have e : ∀ c : Nat → Int, sumN (fun j => c j - if j = d then sumN c n else 0) n = sumN c n + -sumN (fun j => if j = d then sumN c n else 0) n := fun c => by
      rw [← sumN_neg, ← sumN_add]
      exact sumN_congr fun i _ => by omega
    rw [e, sumN_one (hd d rfl) (fun i _ hi => if_neg hi), if_pos rfl]
    omega
/-- how an own list of whole numbers is turned at a place -/
theorem getD_set {xs : List Int} {i j : Nat} {v : Int} (h : i < xs.length) : (xs.set i v).getD j 0 = if j = i then v else xs.getD j 0 := by
  rw [List.getD_eq_getElem?_getD]
  by_cases c : j = i
  · subst c
    rw [List.getElem?_set_self h, if_pos rfl] <;> rfl
  · rw [List.getElem?_set_ne (Ne.symm c), if_neg c, ← List.getD_eq_getElem?_getD]
theorem mapI1_set (xs : List Int) (i : Nat) (v : Int) : (xs.map fun x => T.leaf (.int x)).set i (.leaf (.int v)) = (xs.set i v).map fun x => T.leaf (.int x) := by rw [List.map_set]
theorem mapI1_get {xs : List Int} {i : Nat} (h : i < xs.length) : (xs.map fun x => T.leaf (.int x))[i]? = some (int (xs.getD i 0)) := by
  rw [List.getElem?_map, List.getElem?_eq_getElem h, List.getD_eq_getElem?_getD, List.getElem?_eq_getElem h] <;> rfl
theorem nabs_mul {a b : Int} {m n : Nat} (ha : a.natAbs < 2 ^ m) (hb : b.natAbs < 2 ^ n) : (a * b).natAbs < 2 ^ (m + n) := wide_lt ha hb
theorem nabs_mono {a : Int} {m n : Nat} (h : a.natAbs < 2 ^ m) (hmn : m ≤ n) : a.natAbs < 2 ^ n := Nat.lt_of_lt_of_le h (Nat.pow_le_pow_right (by decide) hmn)
theorem nabs_le {a : Int} {n : Nat} (h0 : 0 ≤ a) (h : a ≤ 1000) (hn : 10 ≤ n) : a.natAbs < 2 ^ n := nabs_mono (m := 10) (show a.natAbs < 2 ^ 10 by omega) hn
theorem sumN_but {c : Nat → Int} {d : Nat} : ∀ {n : Nat}, d < n → sumN c n = sumN (fun k => if k = d then 0 else c k) n + c d
  | n + 1, hd => by
    show sumN c n + c n = sumN _ n + (if n = d then 0 else c n) + c d
    by_cases e : d = n
    · subst e
      have e2 : sumN c d = sumN (fun k => if k = d then 0 else c k) d := sumN_congr fun (i : Nat) hi => by
        show c i = if i = d then 0 else c i
        rw [if_neg (by omega)]
      rw [if_pos rfl, e2]
      omega
    · rw [if_neg (Ne.symm e), sumN_but (c := c) (d := d) (n := n) (by omega)]
      omega
theorem Bts.of {n : Nat} {rows : List (List Int)} {tk : List Int} (h : TabOk n 1000000000000000000 rows) (hl : tk.length = n) (ht : ∀ x ∈ tk, tkOk x) (hn : n ≤ 60) : Bts n rows tk :=
  ⟨h.len, h.row, hl, ht, fun i j => Nat.lt_of_lt_of_le (show (at2 rows i j).natAbs < 1000000000000000000 by have := h.val i j; omega) (by decide), hn⟩
theorem dead_get {n i : Nat} {d : PyData} (h : (PyData.none :: rngD 0 n)[i]? = some d) : ∃ dd, d = deadD dd ∧ ∀ k, dd = some k → k < n := by
  cases i with
  | zero =>
    cases h
    exact ⟨none, rfl, fun _ z => nomatch z⟩
  | succ i =>
    have h' : (rngD 0 n)[i]? = some d := by simpa using h
    have hlt : i < n := by
      have := (List.getElem?_eq_some_iff.mp h').1
      rw [rngD_len] at this
      exact this
    rw [rngD_get hlt] at h'
    cases h'
    refine ⟨some i, ?_, fun k e => ?_⟩
    · show PyData.int (0 + (i : Nat)) = .int (i : Nat)
      rw [Int.zero_add]
    · cases e
      exact hlt
end Dd
/-! Strokes: laid coins, gains. -/
namespace Dd
open PySem L2
theorem sumN_abs {c : Nat → Int} {B : Nat} : ∀ {n : Nat}, (∀ i, i < n → (c i).natAbs ≤ B) → (sumN c n).natAbs ≤ n * B
  | 0, _ => Nat.zero_le _
  | n + 1, h => by
    have h1 := sumN_abs (n := n) fun i hi => h i (by omega)
    have h2 := h n (by omega)
    show (sumN c n + c n).natAbs ≤ (n + 1) * B
    rw [Nat.succ_mul]
    omega
theorem Bts.cst {n : Nat} {rows : List (List Int)} {tk : List Int} (h : Bts n rows tk) {d k : Nat} (hd : d < n) (hk : k < n) : (cst rows tk d k).natAbs < 2 ^ 110 := by
  obtain ⟨u0, u1⟩ := div_le (h.t hd) (h.t hk)
  exact nabs_mul (m := 100) (n := 10) (h.bd d k) (nabs_le u0 u1 (by decide))
theorem Bts.sum {n : Nat} {rows : List (List Int)} {tk : List Int} (h : Bts n rows tk) {d : Nat} (hd : d < n) : (sumN (Dd.cst rows tk d) n).natAbs < 2 ^ 117 := by
  have h1 := sumN_abs (c := Dd.cst rows tk d) (B := 2 ^ 110) (n := n) fun i hi => Nat.le_of_lt (h.cst hd hi)
  have h2 : n * 2 ^ 110 ≤ 60 * 2 ^ 110 := Nat.mul_le_mul_right _ h.sz
  exact Nat.lt_of_le_of_lt (Nat.le_trans h1 h2) (by decide)
theorem mvo_get {n : Nat} {rows : List (List Int)} {tk : List Int} {d j : Nat} (hj : j < n) : (mvo n rows tk (some d)).getD j 0 = cst rows tk d j - if j = d then sumN (cst rows tk d) n else 0 := range_getD _ _ hj
theorem Bts.mv {n : Nat} {rows : List (List Int)} {tk : List Int} (h : Bts n rows tk) {d j : Nat} (hd : d < n) (hj : j < n) : ((mvo n rows tk (some d)).getD j 0).natAbs < 2 ^ 120 := by
  rw [mvo_get hj]
  have h1 := h.cst hd hj
  have h2 := h.sum hd
  have h3 : (2 : Nat) ^ 110 + 2 ^ 117 ≤ 2 ^ 120 := by decide
  generalize (2 : Nat) ^ 110 = a at h1 h3
  generalize (2 : Nat) ^ 117 = b at h2 h3
  generalize (2 : Nat) ^ 120 = c at h3 ⊢
  by_cases e : j = d
  · rw [if_pos e]
    omega
  · rw [if_neg e]
    omega
/-- over two lists at once -/
theorem lc_rz {wi : WI} {wg : WG} {we : WE} {x : XP} {ρ : Rho} {vs : List Nat} {P : T → Prop} (n : Nat) (f : Nat → T) (xs ys : List PyData) (hx : xs.length = n) (hy : ys.length = n) (hi : ∀ P : List PyData → Prop, P (zipD xs ys) → wi x ρ P) (hl : n < lim)
    (he : ∀ (i : Nat) (a c : PyData) (Q : T → Prop) (R : Prop), i < n → xs[i]? = some a → ys[i]? = some c → Q (f i) → wg (.tuple [a, c]) (wipeR ρ vs) fun ρ2 => (true = true → we noX ρ2 Q) ∧ (true = false → R)) (h : P (.node ((List.range n).map f))) : dLc wi wg dYes we vs x ρ P := by
  have hz : (zipD xs ys).length = n := by rw [zipD_len, hx, hy, Nat.min_self]
  refine hi _ ⟨by rw [hz]; exact hl, fun i acc => acc = (List.range i).map f, rfl, fun i d acc e inv => ?_, fun acc inv => ?_⟩
  · obtain ⟨a, c, ha, hc, rfl⟩ := zip_get e
    have hlt : i < n := by
      have := (List.getElem?_eq_some_iff.mp ha).1
      omega
    exact he i a c (fun t => acc ++ [t] = (List.range (i + 1)).map f) (acc = (List.range (i + 1)).map f) hlt ha hc (by
      rw [inv, List.range_succ, List.map_append]
      rfl)
  · rw [hz] at inv
    rw [inv]
    exact h
theorem snocI (xs : List Int) (v : Int) : xs.map (fun i => T.leaf (.int i)) ++ [T.leaf (.int v)] = (xs ++ [v]).map fun i => T.leaf (.int i) := by rw [List.map_append]; rfl
theorem getD_snoc {α : Type} {xs : List α} {v d : α} {j : Nat} : (xs ++ [v]).getD j d = if j < xs.length then xs.getD j d else if j = xs.length then v else d := by
  rw [List.getD_eq_getElem?_getD, List.getElem?_append]
  by_cases h : j < xs.length
  · rw [if_pos h, if_pos h, List.getD_eq_getElem?_getD]
  · rw [if_neg h, if_neg h]
    by_cases e : j = xs.length
    · rw [if_pos e, e, Nat.sub_self]
      rfl
    · rw [if_neg e]
      obtain ⟨k, hk⟩ : ∃ k, j - xs.length = k + 1 := ⟨j - xs.length - 1, by omega⟩
      rw [hk]
      rfl
theorem sum_bd {M : Int} : ∀ {xs : List Int}, (∀ x ∈ xs, 0 ≤ x ∧ x ≤ M) → 0 ≤ xs.sum ∧ xs.sum ≤ xs.length * M
  | [], _ => by simp
  | x :: xs, h => by
    have h1 := sum_bd (xs := xs) fun y hy => h y (List.mem_cons_of_mem _ hy)
    have h2 := h x (List.mem_cons_self ..)
    rw [List.sum_cons, List.length_cons, Int.natCast_succ, Int.add_mul, Int.one_mul]
    omega
theorem mem_set {α : Type} {xs : List α} {i : Nat} {v x : α} (h : x ∈ xs.set i v) : x ∈ xs ∨ x = v := by
  rcases List.mem_or_eq_of_mem_set h with z | z
  · exact .inl z
  · exact .inr z
theorem get_mem {α : Type} {xs : List α} {i : Nat} {d : α} (h : i < xs.length) : xs.getD i d ∈ xs := getD_mem h
/-- all but one -/
theorem sum_but {xs : List Int} {n d : Nat} (hl : xs.length = n) (hd : d < n) : ((((List.range n).filter fun k => decide (k ≠ d)).map fun k => xs.getD k 0)).sum = xs.sum - xs.getD d 0 := by
  have h : ∀ m, ((((List.range m).filter fun k => decide (k ≠ d)).map fun k => xs.getD k 0)).sum = sumN (fun k => if k = d then 0 else xs.getD k 0) m := fun m => by
    induction m with
    | zero => rfl
    | succ m ih =>
      rw [List.range_succ, List.filter_append, List.map_append, List.sum_append, ih]
      show _ = _ + (if m = d then 0 else xs.getD m 0)
      by_cases e : m = d
      · simp [e]
      · simp [e]
  rw [h, sum_getD xs, hl]
  have := sumN_but (c := fun i => xs.getD i 0) hd
  omega
/-- a for over things that are drawn -/
theorem for_raw {wi : WI} {wg : WG} {wb : WS} {C : Ctl} {ρ : Rho} (h : wi (C.xc ρ) ρ fun ds => ∃ Inv : Nat → Rho → Prop, Inv 0 ρ ∧
  (∀ i d ρ', ds[i]? = some d → Inv i ρ' → wg d ρ' fun ρ2 => wb { C with nx := Inv (i + 1), ct := Inv (i + 1), bk := C.nx } ρ2) ∧ ∀ ρ', Inv ds.length ρ' → C.nx ρ') : dFor wi wg wb C ρ := h
/-- over places, with a test -/
theorem lc_rngF {wi : WI} {wg : WG} {wt : WT} {we : WE} {x : XP} {ρ : Rho} {vs : List Nat} {P : T → Prop} (n : Nat) (p : Nat → Bool) (f : Nat → T) (hi : ∀ P : List PyData → Prop, P (rngD 0 n) → wi x ρ P) (hl : n < lim)
    (he : ∀ (i : Nat) (Q : T → Prop) (R : Prop), i < n → (p i = true → Q (f i)) → (p i = false → R) → wg (.int (i : Nat)) (wipeR ρ vs) fun ρ2 => wt noX ρ2 fun k => (k = true → we noX ρ2 Q) ∧ (k = false → R)) (h : P (.node (((List.range n).filter p).map f))) : dLc wi wg wt we vs x ρ P := by
  refine hi _ ⟨by rw [rngD_len]; exact hl, fun i acc => acc = ((List.range i).filter p).map f, rfl, fun i d acc e inv => ?_, fun acc inv => ?_⟩
  · have hlt : i < n := by
      have := (List.getElem?_eq_some_iff.mp e).1
      rw [rngD_len] at this
      exact this
    rw [rngD_get hlt] at e
    cases e
    rw [Int.zero_add]
    refine he i _ _ hlt (fun q => ?_) (fun q => ?_)
    · show acc ++ [f i] = ((List.range (i + 1)).filter p).map f
      rw [inv, List.range_succ, List.filter_append, List.map_append]
      simp [q]
    · show acc = ((List.range (i + 1)).filter p).map f
      rw [inv, List.range_succ, List.filter_append, List.map_append]
      simp [q]
  · rw [rngD_len] at inv
    rw [inv]
    exact h
theorem two_le {xs : List Int} (h0 : ∀ x ∈ xs, 0 ≤ x) {i j : Nat} (hi : i < xs.length) (hj : j < xs.length) (hij : i ≠ j) : xs.getD i 0 + xs.getD j 0 ≤ xs.sum := by
  have e1 := sumN_but (c := fun k => xs.getD k 0) hi
  have e2 := sumN_but (c := fun k => if k = i then 0 else xs.getD k 0) hj
  have e3 : 0 ≤ sumN (fun k => if k = j then 0 else if k = i then 0 else xs.getD k 0) xs.length := sumN_nn fun k hk => by
    by_cases a : k = j
    · rw [if_pos a]
      exact Int.le_refl 0
    · rw [if_neg a]
      by_cases c : k = i
      · rw [if_pos c]
        exact Int.le_refl 0
      · rw [if_neg c]
        exact h0 _ (getD_mem hk)
  rw [← sum_getD xs] at e1
  rw [if_neg (Ne.symm hij)] at e2
  omega
theorem nodeI_map {α : Type} (l : List α) (f : α → Int) : T.node (l.map fun k => int (f k)) = nodeI (l.map f) := by
  unfold nodeI
  rw [List.map_map]
  rfl
def wtOk (x : Int) : Prop := 0 ≤ x ∧ x < 10000000000000000000000
theorem zero_at (n m i j : Nat) : at2 (List.replicate n (List.replicate m 0)) i j = 0 := by
  unfold at2
  rw [show (List.replicate n (List.replicate m (0 : Int))).getD i [] = if i < n then List.replicate m 0 else [] by
    rw [List.getD_eq_getElem?_getD, List.getElem?_replicate]
    split <;> rfl]
  split
  · show (List.replicate m (0 : Int)).getD j 0 = 0
    rw [List.getD_eq_getElem?_getD, List.getElem?_replicate]
    split <;> rfl
  · rfl
theorem getD_app {α : Type} {xs ys : List α} {d : α} {s : Nat} : (xs ++ ys).getD s d = if s < xs.length then xs.getD s d else ys.getD (s - xs.length) d := by
  rw [List.getD_eq_getElem?_getD, List.getElem?_append]
  split
  · rw [List.getD_eq_getElem?_getD]
  · rw [List.getD_eq_getElem?_getD]
theorem getD_rep {α : Type} {n s : Nat} {v d : α} (h : s < n) : (List.replicate n v).getD s d = v := by
  rw [List.getD_eq_getElem?_getD, List.getElem?_replicate, if_pos h]
  rfl
theorem intsD_app (a b : List Int) : intsD a ++ intsD b = intsD (a ++ b) := List.map_append.symm
/-- coins laid -/
def layN (n : Nat) (rows : List (List Int)) (tk : List Int) (a : Nat) : Int := sumN (fun k => if at2 rows a k > 0 then cst rows tk a k else 0) n
theorem layN_eq {n : Nat} {M : Int} {rows : List (List Int)} {tk : List Int} (ht : TabOk n M rows) {a : Nat} (ha : a < n) : layN n rows tk a = -(mvo n rows tk (some a)).getD a 0 := by
  rw [mvo_get ha, if_pos rfl]
  have e : layN n rows tk a = sumN (cst rows tk a) n := sumN_congr fun i _ => by
    have := (ht.val a i).1
    by_cases c : at2 rows a i > 0
    · rw [if_pos c]
    · rw [if_neg c]
      unfold cst
      rw [show at2 rows a i = 0 by omega, Int.zero_mul]
  have z : cst rows tk a a = 0 := by
    unfold cst
    rw [ht.dia a, Int.zero_mul]
  omega
theorem laid_map {n : Nat} {M : Int} {rows : List (List Int)} {tk : List Int} (ht : TabOk n M rows) : (List.range n).map (layN n rows tk) = (List.range n).map fun a => -(mvo n rows tk (some a)).getD a 0 :=
  List.map_congr_left fun a h => layN_eq ht (List.mem_range.mp h)
theorem layN_nn {n : Nat} {M : Int} {rows : List (List Int)} {tk : List Int} (ht : TabOk n M rows) (hb : Bts n rows tk) {a : Nat} (ha : a < n) : 0 ≤ layN n rows tk a := sumN_nn fun i hi => by
  obtain ⟨u0, _⟩ := div_le (hb.t ha) (hb.t hi)
  by_cases c : at2 rows a i > 0
  · rw [if_pos c]
    exact Int.mul_nonneg (ht.val a i).1 u0
  · rw [if_neg c]
    exact Int.le_refl 0
theorem cst_nn {n : Nat} {M : Int} {rows : List (List Int)} {tk : List Int} (ht : TabOk n M rows) (hb : Bts n rows tk) {a k : Nat} (ha : a < n) (hk : k < n) : 0 ≤ cst rows tk a k := Int.mul_nonneg (ht.val a k).1 (div_le (hb.t ha) (hb.t hk)).1
/-- who holds what his bets come to loses no coin he has not -/
theorem held_nn {n : Nat} {M : Int} {rows : List (List Int)} {tk cs : List Int} (ht : TabOk n M rows) (hb : Bts n rows tk) (hc : ∀ j, j < n → layN n rows tk j ≤ cs.getD j 0) {dd : Option Nat} (hd : ∀ d, dd = some d → d < n) {j : Nat} (hj : j < n) : 0 ≤ cs.getD j 0 + (mvo n rows tk dd).getD j 0 := by
  have h1 := hc j hj
  have h2 := layN_nn ht hb hj
  cases dd with
  | none =>
    show 0 ≤ _ + (List.replicate n (0 : Int)).getD j 0
    rw [List.getD_eq_getElem?_getD (l := List.replicate n (0 : Int)), List.getElem?_replicate, if_pos hj]
    show 0 ≤ _ + (0 : Int)
    omega
  | some d =>
    by_cases e : j = d
    · subst e
      have := layN_eq (tk := tk) ht hj
      omega
    · rw [mvo_get hj, if_neg e]
      have := cst_nn ht hb (hd d rfl) hj
      omega
theorem held_sum {n : Nat} {rows : List (List Int)} {tk cs : List Int} (hl : cs.length = n) {dd : Option Nat} (hd : ∀ d, dd = some d → d < n) : ((List.range n).map fun i => cs.getD i 0 + (mvo n rows tk dd).getD i 0).sum = cs.sum := by
  rw [sum_range, sumN_add, sum_getD cs, hl]
  have h := mvo_sum n rows tk dd hd
  rw [sum_getD, mvo_len] at h
  omega
/-- gains -/
def gnT (n : Nat) (rows : List (List Int)) (tk : List Int) (j d : Nat) : Int := tk.getD d 0 * (mvo n rows tk (some d)).getD j 0
def gnL (n : Nat) (rows : List (List Int)) (tk : List Int) : List Int := (List.range n).map fun j => sumN (gnT n rows tk j) n
theorem gnL_len (n : Nat) (rows : List (List Int)) (tk : List Int) : (gnL n rows tk).length = n := by simp [gnL]
theorem Bts.gn {n : Nat} {rows : List (List Int)} {tk : List Int} (h : Bts n rows tk) {d j : Nat} (hd : d < n) (hj : j < n) : CMulW (tk.getD d 0) ((mvo n rows tk (some d)).getD j 0) := by
  have t := h.t hd
  have t0 := t.1
  have t1 := t.2
  exact small_mul (nabs_le (by omega) t1 (by decide)) (nabs_mono (h.mv hd hj) (by decide))
/-- an own list of whole numbers, one place raised -/
theorem up_get {xs : List Int} {f g : Nat → Int} {n k : Nat} (hl : xs.length = n) (hk : k < n) (hx : ∀ j, j < n → xs.getD j 0 = f j + if j < k then g j else 0) : (xs.set k (xs.getD k 0 + g k)).length = n ∧ ∀ j, j < n → (xs.set k (xs.getD k 0 + g k)).getD j 0 = f j + if j < k + 1 then g j else 0 := by
  refine ⟨by rw [List.length_set]; exact hl, fun j hj => ?_⟩
  rw [getD_set (by omega), hx j hj, hx k hk]
  by_cases e : j = k
  · subst e
    rw [if_pos rfl, if_neg (Nat.lt_irrefl _), if_pos (Nat.lt_succ_self _)]
    omega
  · rw [if_neg e]
    by_cases e2 : j < k
    · rw [if_pos e2, if_pos (by omega)]
    · rw [if_neg e2, if_neg (by omega)]
end Dd
/-! The ring of loads. -/
namespace Dd
open PySem L2
/-- the arcs of loads laid one behind the other -/
def preS (xs : List Int) (i : Nat) : Int := sumN (fun k => 2 * xs.getD k 0) i
def arcD (xs : List Int) (i : Nat) : PyData := .tuple [.int (preS xs i), .int (preS xs i + 2 * xs.getD i 0)]
def arcsD (xs : List Int) (n : Nat) : List PyData := (List.range n).map (arcD xs)
theorem arcs_len (xs : List Int) (n : Nat) : (arcsD xs n).length = n := by simp [arcsD]
theorem arcs_snoc (xs : List Int) (i : Nat) : (arcsD xs i).map T.leaf ++ [T.leaf (.tuple [.int (preS xs i), .int (preS xs i + 2 * xs.getD i 0)])] = (arcsD xs (i + 1)).map T.leaf := by
  unfold arcsD
  rw [List.range_succ, List.map_append, List.map_append]
  rfl
theorem sm_arcs {xs : List Int} {n : Nat} (h : n < 1000) : Sm 3 (.list (arcsD xs n)) := ⟨by unfold arcsD; rw [List.length_map, List.length_range]; exact h, fun d hd => by
  obtain ⟨i, _, rfl⟩ := List.mem_map.mp hd
  exact ⟨by show 2 < 1000; decide, fun x hx => by
    rcases List.mem_cons.mp hx with z | z
    · subst z; exact sm_int
    · rw [List.mem_singleton.mp z]; exact sm_int⟩⟩
/-- a comprehension over things that are drawn -/
theorem lc_raw {wi : WI} {wg : WG} {wt : WT} {we : WE} {x : XP} {ρ : Rho} {vs : List Nat} {P : T → Prop} (h : wi x ρ fun ds => ds.length < lim ∧ ∃ Inv : Nat → List T → Prop, Inv 0 [] ∧
    (∀ (i : Nat) d acc, ds[i]? = some d → Inv i acc → wg d (wipeR ρ vs) fun ρ2 => wt noX ρ2 fun k => (k = true → we noX ρ2 fun t => Inv (i + 1) (acc ++ [t])) ∧ (k = false → Inv (i + 1) acc)) ∧ (∀ acc, Inv ds.length acc → P (.node acc))) : dLc wi wg wt we vs x ρ P := h
def wtB (x : Int) : Prop := 0 ≤ x ∧ x < 100000000000000000000000000000000000000000000000000
theorem wtOk.big {x : Int} (h : wtOk x) : wtB x := ⟨h.1, Int.lt_of_lt_of_le h.2 (by decide)⟩
theorem wtB.small {x : Int} (h : wtB x) : x.natAbs < 2 ^ 200 := Nat.lt_of_lt_of_le (show x.natAbs < 100000000000000000000000000000000000000000000000000 by have h1 := h.1; have h2 := h.2; omega) (by decide)
theorem node_ints (xs : List Int) : T.node ((intsD xs).map .leaf) = nodeI xs := by
  unfold nodeI intsD
  rw [List.map_map]
  rfl
/-- over the whole numbers of a list -/
theorem lc_ints {wi : WI} {wg : WG} {we : WE} {x : XP} {ρ : Rho} {vs : List Nat} {P : T → Prop} (xs : List Int) (f : Int → T) (hi : ∀ P : List PyData → Prop, P (intsD xs) → wi x ρ P) (hl : xs.length < lim)
    (he : ∀ (a : Int) (Q : T → Prop) (R : Prop), a ∈ xs → Q (f a) → wg (.int a) (wipeR ρ vs) fun ρ2 => (true = true → we noX ρ2 Q) ∧ (true = false → R)) (h : P (.node (xs.map f))) : dLc wi wg dYes we vs x ρ P := by
  refine hi _ ⟨by rw [len_intsD]; exact hl, fun i acc => acc = (xs.take i).map f, rfl, fun i d acc e inv => ?_, fun acc inv => ?_⟩
  · obtain ⟨hi, rfl⟩ := get_intsD e
    refine he _ (fun t => acc ++ [t] = (xs.take (i + 1)).map f) (acc = (xs.take (i + 1)).map f) (List.getElem_mem hi) ?_
    rw [inv, List.take_add_one, List.getElem?_eq_getElem hi, List.map_append]
    rfl
  · rw [len_intsD, List.take_length] at inv
    rw [inv]
    exact h
/-- over the rows of a table -/
theorem lc_rows {wi : WI} {wg : WG} {we : WE} {x : XP} {ρ : Rho} {vs : List Nat} {P : T → Prop} (rows : List (List Int)) (f : List Int → T) (hi : ∀ P : List PyData → Prop, P (tabD rows) → wi x ρ P) (hl : rows.length < lim)
    (he : ∀ (r : List Int) (Q : T → Prop) (R : Prop), r ∈ rows → Q (f r) → wg (.list (intsD r)) (wipeR ρ vs) fun ρ2 => (true = true → we noX ρ2 Q) ∧ (true = false → R)) (h : P (.node (rows.map f))) : dLc wi wg dYes we vs x ρ P := by
  refine hi _ ⟨by rw [len_tabD]; exact hl, fun i acc => acc = (rows.take i).map f, rfl, fun i d acc e inv => ?_, fun acc inv => ?_⟩
  · obtain ⟨hi, rfl⟩ := get_tabD e
    refine he _ (fun t => acc ++ [t] = (rows.take (i + 1)).map f) (acc = (rows.take (i + 1)).map f) (getD_mem hi) ?_
    rw [inv, List.take_add_one, List.getElem?_eq_getElem hi, List.map_append, List.getD_eq_getElem?_getD, List.getElem?_eq_getElem hi]
    rfl
  · rw [len_tabD, List.take_length] at inv
    rw [inv]
    exact h
theorem nodeT_map {α : Type} (l : List α) (f : α → List Int) : T.node (l.map fun r => nodeI (f r)) = nodeT (l.map f) := by
  unfold nodeT
  rw [List.map_map]
  rfl
def lapZ (a b c d : Int) : Int := max 0 (min b d - max a c)
theorem lap_ifs (a b c d : Int) : (if (if d < b then d else b) - (if c > a then c else a) > 0 then (if d < b then d else b) - (if c > a then c else a) else 0) = lapZ a b c d := by
  unfold lapZ
  by_cases h1 : d < b
  · by_cases h2 : c > a
    · simp only [if_pos h1, if_pos h2]
      split <;> omega
    · simp only [if_pos h1, if_neg h2]
      split <;> omega
  · by_cases h2 : c > a
    · simp only [if_neg h1, if_pos h2]
      split <;> omega
    · simp only [if_neg h1, if_neg h2]
      split <;> omega
def rg (xs : List Int) (i j : Nat) : Int :=
  lapZ (preS xs i) (preS xs i + 2 * xs.getD i 0) (preS xs j + xs.sum) (preS xs j + 2 * xs.getD j 0 + xs.sum) + lapZ (preS xs i) (preS xs i + 2 * xs.getD i 0) (preS xs j - xs.sum) (preS xs j + 2 * xs.getD j 0 - xs.sum)
def rgT (xs : List Int) : List (List Int) := (List.range xs.length).map fun i => (List.range xs.length).map (rg xs i)
theorem rgT_len (xs : List Int) : (rgT xs).length = xs.length := by simp [rgT]
theorem rgT_row (xs : List Int) : ∀ r ∈ rgT xs, r.length = xs.length := fun r h => by
  obtain ⟨i, _, rfl⟩ := List.mem_map.mp h
  simp
theorem rgT_at {xs : List Int} {i j : Nat} (hi : i < xs.length) (hj : j < xs.length) : at2 (rgT xs) i j = rg xs i j := by
  show ((rgT xs).getD i []).getD j 0 = _
  unfold rgT
  rw [range_getD _ _ hi, range_getD _ _ hj]
theorem preS_succ (xs : List Int) (i : Nat) : preS xs (i + 1) = preS xs i + 2 * xs.getD i 0 := rfl
theorem preS_all (xs : List Int) : preS xs xs.length = 2 * xs.sum := by
  unfold preS
  rw [sumN_mul, ← sum_getD]
theorem nn_getD {xs : List Int} (h : ∀ x ∈ xs, 0 ≤ x) (i : Nat) : 0 ≤ xs.getD i 0 := by
  by_cases c : i < xs.length
  · exact h _ (getD_mem c)
  · rw [List.getD_eq_getElem?_getD, List.getElem?_eq_none (by omega)]
    exact Int.le_refl 0
theorem preS_le {xs : List Int} (h : ∀ x ∈ xs, 0 ≤ x) {i : Nat} : ∀ {j : Nat}, i ≤ j → preS xs i ≤ preS xs j
  | 0, hij => by rw [show i = 0 by omega]; exact Int.le_refl _
  | j + 1, hij => by
    by_cases c : i = j + 1
    · rw [c]
      exact Int.le_refl _
    · have := preS_le h (i := i) (j := j) (by omega)
      have := nn_getD h j
      rw [preS_succ]
      omega
theorem preS_nn {xs : List Int} (h : ∀ x ∈ xs, 0 ≤ x) (i : Nat) : 0 ≤ preS xs i := preS_le h (i := 0) (Nat.zero_le i)
theorem preS_end {xs : List Int} (h : ∀ x ∈ xs, 0 ≤ x) {i : Nat} (hi : i < xs.length) : preS xs i + 2 * xs.getD i 0 ≤ 2 * xs.sum := by
  rw [← preS_all, ← preS_succ]
  exact preS_le h hi
theorem lap_nn (a b c d : Int) : 0 ≤ lapZ a b c d := by unfold lapZ; omega
theorem lap_add {a b u v w : Int} (h1 : u ≤ v) (h2 : v ≤ w) : lapZ a b u v + lapZ a b v w = lapZ a b u w := by unfold lapZ; omega
theorem lap_sym (a b c d : Int) : lapZ a b c d = lapZ c d a b := by unfold lapZ; omega
theorem lap_shift (a b c d h : Int) : lapZ (a + h) (b + h) (c + h) (d + h) = lapZ a b c d := by unfold lapZ; omega
theorem rg_nn (xs : List Int) (i j : Nat) : 0 ≤ rg xs i j := by
  have := lap_nn (preS xs i) (preS xs i + 2 * xs.getD i 0) (preS xs j + xs.sum) (preS xs j + 2 * xs.getD j 0 + xs.sum)
  have := lap_nn (preS xs i) (preS xs i + 2 * xs.getD i 0) (preS xs j - xs.sum) (preS xs j + 2 * xs.getD j 0 - xs.sum)
  unfold rg
  omega
theorem rg_sym (xs : List Int) (i j : Nat) : rg xs i j = rg xs j i := by
  unfold rg lapZ
  omega
theorem rg_self {xs : List Int} (h : ∀ x ∈ xs, 0 ≤ x) (i : Nat) : rg xs i i = 2 * max 0 (2 * xs.getD i 0 - xs.sum) := by
  have := sum_bd (M := xs.sum) (xs := xs)
  have h0 : 0 ≤ xs.sum := by
    have := preS_all xs
    have := preS_nn h xs.length
    omega
  unfold rg lapZ
  omega
theorem lap_row {xs : List Int} (h : ∀ x ∈ xs, 0 ≤ x) (a b c : Int) : ∀ m, sumN (fun j => lapZ a b (preS xs j + c) (preS xs j + 2 * xs.getD j 0 + c)) m = lapZ a b c (preS xs m + c)
  | 0 => by
    show (0 : Int) = lapZ a b c (0 + c)
    unfold lapZ
    omega
  | m + 1 => by
    show sumN _ m + lapZ a b (preS xs m + c) (preS xs m + 2 * xs.getD m 0 + c) = _
    rw [lap_row h a b c m, preS_succ]
    have := preS_nn h m
    have := nn_getD h m
    exact lap_add (by omega) (by omega)
theorem rg_sum {xs : List Int} (h : ∀ x ∈ xs, 0 ≤ x) {i : Nat} (hi : i < xs.length) : sumN (rg xs i) xs.length = 2 * xs.getD i 0 := by
  have e1 : sumN (rg xs i) xs.length = sumN (fun j => lapZ (preS xs i) (preS xs i + 2 * xs.getD i 0) (preS xs j + xs.sum) (preS xs j + 2 * xs.getD j 0 + xs.sum)) xs.length + sumN (fun j => lapZ (preS xs i) (preS xs i + 2 * xs.getD i 0) (preS xs j + -xs.sum) (preS xs j + 2 * xs.getD j 0 + -xs.sum)) xs.length := by
    rw [← sumN_add]
    exact sumN_congr fun j _ => rfl
  rw [e1, lap_row h, lap_row h, preS_all]
  have := preS_end h hi
  have := preS_nn h i
  have := nn_getD h i
  unfold lapZ
  omega
/-- places counted -/
theorem cnt_range (A B : Int) : ∀ N : Nat, sumN (fun s => if A ≤ (s : Int) ∧ (s : Int) < B then 1 else 0) N = max 0 (min B N - max A 0)
  | 0 => by
    show (0 : Int) = _
    omega
  | N + 1 => by
    show sumN _ N + (if A ≤ (N : Int) ∧ (N : Int) < B then 1 else 0) = _
    rw [cnt_range A B N]
    split <;> omega
def inArc (xs : List Int) (i : Nat) (s : Int) : Prop := preS xs i ≤ s ∧ s < preS xs i + 2 * xs.getD i 0
instance (xs : List Int) (i : Nat) (s : Int) : Decidable (inArc xs i s) := inferInstanceAs (Decidable (_ ∧ _))
theorem arc_uniq {xs : List Int} (h : ∀ x ∈ xs, 0 ≤ x) {i j : Nat} {s : Int} (hi : inArc xs i s) (hj : inArc xs j s) : i = j := by
  obtain ⟨a1, a2⟩ := hi
  obtain ⟨b1, b2⟩ := hj
  rcases Nat.lt_trichotomy i j with c | c | c
  · have := preS_le h (i := i + 1) (j := j) c
    rw [preS_succ] at this
    omega
  · exact c
  · have := preS_le h (i := j + 1) (j := i) c
    rw [preS_succ] at this
    omega
theorem ite_two {p q r : Prop} [Decidable p] [Decidable q] [Decidable r] (h : p ↔ q ∨ r) (n : ¬ (q ∧ r)) : (if p then (1 : Int) else 0) = (if q then 1 else 0) + (if r then 1 else 0) := by
  by_cases hq : q
  · have hr : ¬ r := fun z => n ⟨hq, z⟩
    rw [if_pos (h.mpr (.inl hq)), if_pos hq, if_neg hr]
    rfl
  · by_cases hr : r
    · rw [if_pos (h.mpr (.inr hr)), if_neg hq, if_pos hr]
      rfl
    · rw [if_neg fun z => (h.mp z).elim hq hr, if_neg hq, if_neg hr]
      rfl
theorem rg_cnt {xs : List Int} (h : ∀ x ∈ xs, 0 ≤ x) {i j : Nat} (hi : i < xs.length) (hj : j < xs.length) : sumN (fun s => if inArc xs i s ∧ inArc xs j (((s : Int) + xs.sum) % (2 * xs.sum)) then 1 else 0) (2 * xs.sum).toNat = rg xs i j := by
  have i0 := preS_nn h i
  have i1 := preS_end h hi
  have i2 := nn_getD h i
  have j0 := preS_nn h j
  have j1 := preS_end h hj
  have j2 := nn_getD h j
  have e : sumN (fun s => if inArc xs i s ∧ inArc xs j (((s : Int) + xs.sum) % (2 * xs.sum)) then 1 else 0) (2 * xs.sum).toNat =
      sumN (fun s => (if max (preS xs i) (preS xs j - xs.sum) ≤ (s : Int) ∧ (s : Int) < min (preS xs i + 2 * xs.getD i 0) (preS xs j + 2 * xs.getD j 0 - xs.sum) then 1 else 0) + (if max (preS xs i) (preS xs j + xs.sum) ≤ (s : Int) ∧ (s : Int) < min (preS xs i + 2 * xs.getD i 0) (preS xs j + 2 * xs.getD j 0 + xs.sum) then 1 else 0)) (2 * xs.sum).toNat := sumN_congr fun s hs => by
    have hm : ((s : Int) + xs.sum) % (2 * xs.sum) = if (s : Int) < xs.sum then s + xs.sum else s - xs.sum := by
      by_cases c : (s : Int) < xs.sum
      · rw [if_pos c]
        exact Int.emod_eq_of_lt (by omega) (by omega)
      · rw [if_neg c, show (s : Int) + xs.sum = (s - xs.sum) + 2 * xs.sum by omega, Int.add_emod_right]
        exact Int.emod_eq_of_lt (by omega) (by omega)
    refine ite_two ?_ ?_
    · unfold inArc
      rw [hm]
      by_cases c1 : (s : Int) < xs.sum
      · rw [if_pos c1]
        omega
      · rw [if_neg c1]
        omega
    · omega
  rw [e, sumN_add, cnt_range, cnt_range]
  unfold rg lapZ
  omega
end Dd
/-! Rings turned, stretched, joined. -/
namespace Dd
open PySem L2
theorem cut_from {ds : List PyData} {k : Int} (h0 : 0 ≤ k) (h1 : k ≤ ds.length) : cutD ds (some k) none = ds.drop k.toNat := by
  have e : HT.sIx ds.length 0 (some k) = k.toNat := by
    unfold HT.sIx
    simp only []
    split <;> omega
  unfold cutD
  rw [e]
  show (ds.drop k.toNat).take (ds.length - k.toNat) = _
  rw [List.take_of_length_le (by rw [List.length_drop]; omega)]
theorem cut_to {ds : List PyData} {k : Int} (h0 : 0 ≤ k) (h1 : k ≤ ds.length) : cutD ds none (some k) = ds.take k.toNat := by
  have e : HT.sIx ds.length ds.length (some k) = k.toNat := by
    unfold HT.sIx
    simp only []
    split <;> omega
  unfold cutD
  rw [e]
  rfl
theorem intsD_drop (xs : List Int) (k : Nat) : (intsD xs).drop k = intsD (xs.drop k) := List.map_drop.symm
theorem intsD_take (xs : List Int) (k : Nat) : (intsD xs).take k = intsD (xs.take k) := List.map_take.symm
theorem tabD_drop (xs : List (List Int)) (k : Nat) : (tabD xs).drop k = tabD (xs.drop k) := List.map_drop.symm
theorem tabD_take (xs : List (List Int)) (k : Nat) : (tabD xs).take k = tabD (xs.take k) := List.map_take.symm
theorem tabD_app (a b : List (List Int)) : tabD a ++ tabD b = tabD (a ++ b) := List.map_append.symm
/-- the list turned -/
def rot {α : Type} (f : Nat) (l : List α) : List α := l.drop f ++ l.take f
def rotI (n f k : Nat) : Nat := if k < n - f then k + f else k + f - n
theorem rot_len {α : Type} {f : Nat} {l : List α} (h : f ≤ l.length) : (rot f l).length = l.length := by
  unfold rot
  rw [List.length_append, List.length_drop, List.length_take]
  omega
theorem rot_get {α : Type} {f k : Nat} {l : List α} {d : α} (h : f ≤ l.length) (hk : k < l.length) : (rot f l).getD k d = l.getD (rotI l.length f k) d := by
  unfold rot rotI
  rw [getD_app, List.length_drop]
  by_cases c : k < l.length - f
  · rw [if_pos c, if_pos c, List.getD_eq_getElem?_getD, List.getElem?_drop, List.getD_eq_getElem?_getD, Nat.add_comm]
  · rw [if_neg c, if_neg c, List.getD_eq_getElem?_getD, List.getElem?_take, if_pos (by omega), List.getD_eq_getElem?_getD, show k - (l.length - f) = k + f - l.length by omega]
theorem rotI_lt {n f k : Nat} (h : f ≤ n) (hk : k < n) : rotI n f k < n := by
  unfold rotI
  split <;> omega
theorem rot_sum {f : Nat} (l : List Int) : (rot f l).sum = l.sum := by
  unfold rot
  rw [List.sum_append]
  have e : l.sum = (l.take f).sum + (l.drop f).sum := by
    rw [← List.sum_append, List.take_append_drop]
  omega
/-- where it lies behind the turning -/
theorem rot_pre {f : Nat} {l : List Int} (h : f ≤ l.length) : ∀ k, k ≤ l.length → preS (rot f l) k = if k ≤ l.length - f then preS l (k + f) - preS l f else 2 * l.sum - preS l f + preS l (k + f - l.length)
  | 0, _ => by
    rw [if_pos (by omega), Nat.zero_add]
    show (0 : Int) = _
    omega
  | k + 1, hk => by
    rw [preS_succ, rot_pre h k (by omega), rot_get h (by omega)]
    unfold rotI
    by_cases c1 : k + 1 ≤ l.length - f
    · rw [if_pos c1, if_pos (show k ≤ l.length - f by omega), if_pos (show k < l.length - f by omega), show k + 1 + f = (k + f) + 1 by omega, preS_succ]
      omega
    · rw [if_neg c1]
      by_cases c2 : k ≤ l.length - f
      · have e : k = l.length - f := by omega
        rw [if_pos c2, if_neg (by omega), show k + 1 + f - l.length = 0 + 1 by omega, preS_succ, show k + f - l.length = 0 by omega, show k + f = l.length by omega, preS_all]
        show _ = _ - _ + ((0 : Int) + _)
        omega
      · rw [if_neg c2, if_neg (by omega), show k + 1 + f - l.length = (k + f - l.length) + 1 by omega, preS_succ]
        omega
/-- the two laps as a rule of numbers -/
def RG (S a u b v : Int) : Int := lapZ a (a + 2 * u) (b + S) (b + 2 * v + S) + lapZ a (a + 2 * u) (b - S) (b + 2 * v - S)
theorem rg_RG (xs : List Int) (i j : Nat) : rg xs i j = RG xs.sum (preS xs i) (xs.getD i 0) (preS xs j) (xs.getD j 0) := rfl
theorem RG_shift (S a u b v c : Int) : RG S (a + c) u (b + c) v = RG S a u b v := by
  unfold RG
  rw [show a + c + 2 * u = a + 2 * u + c by omega, show b + c + S = b + S + c by omega, show b + c + 2 * v + S = b + 2 * v + S + c by omega, show b + c - S = b - S + c by omega, show b + c + 2 * v - S = b + 2 * v - S + c by omega, lap_shift, lap_shift]
theorem RG_sym (S a u b v : Int) : RG S a u b v = RG S b v a u := by
  unfold RG
  have h1 := lap_shift a (a + 2 * u) (b - S) (b + 2 * v - S) S
  have h2 := lap_shift (a - S) (a + 2 * u - S) b (b + 2 * v) S
  rw [show b - S + S = b by omega, show b + 2 * v - S + S = b + 2 * v by omega] at h1
  rw [show a - S + S = a by omega, show a + 2 * u - S + S = a + 2 * u by omega] at h2
  rw [h2, ← h1, lap_sym (a - S), lap_sym (a + S)]
  omega
theorem RG_wrap {S a u b v : Int} (h1 : a + 2 * u ≤ b) (h2 : 0 ≤ a) (h3 : b + 2 * v ≤ 2 * S) (hu : 0 ≤ u) (hv : 0 ≤ v) : RG S (a + 2 * S) u b v = RG S a u b v := by unfold RG lapZ; omega
theorem rot_rg {f : Nat} {xs : List Int} (h : f ≤ xs.length) (h0 : ∀ x ∈ xs, 0 ≤ x) {i j : Nat} (hi : i < xs.length) (hj : j < xs.length) : rg (rot f xs) i j = rg xs (rotI xs.length f i) (rotI xs.length f j) := by
  rw [rg_RG, rg_RG, rot_sum, rot_pre h i (by omega), rot_pre h j (by omega), rot_get h hi, rot_get h hj]
  have li := rotI_lt h hi
  have lj := rotI_lt h hj
  have ei := preS_end h0 li
  have ej := preS_end h0 lj
  have ni := nn_getD h0 (rotI xs.length f i)
  have nj := nn_getD h0 (rotI xs.length f j)
  have pi := preS_nn h0 (rotI xs.length f i)
  have pj := preS_nn h0 (rotI xs.length f j)
  have key : ∀ k, k < xs.length → (if k ≤ xs.length - f then preS xs (k + f) - preS xs f else 2 * xs.sum - preS xs f + preS xs (k + f - xs.length)) = preS xs (rotI xs.length f k) + (if k < xs.length - f then 0 else 2 * xs.sum) - preS xs f := fun k hk => by
    unfold rotI
    by_cases c1 : k < xs.length - f
    · rw [if_pos (by omega), if_pos c1, if_pos c1]
      omega
    · rw [if_neg c1, if_neg c1]
      by_cases c2 : k ≤ xs.length - f
      · rw [if_pos c2, show k + f = xs.length by omega, preS_all, Nat.sub_self]
        show _ = (0 : Int) + _ - _
        omega
      · rw [if_neg c2]
        omega
  rw [key i hi, key j hj]
  have hle : ∀ a b, a + 1 ≤ b → preS xs a + 2 * xs.getD a 0 ≤ preS xs b := fun a b hab => by
    rw [← preS_succ]
    exact preS_le h0 hab
  by_cases ci : i < xs.length - f
  · by_cases cj : j < xs.length - f
    · rw [if_pos ci, if_pos cj, Int.sub_eq_add_neg, Int.sub_eq_add_neg, RG_shift, Int.add_zero, Int.add_zero]
    · rw [if_pos ci, if_neg cj, Int.sub_eq_add_neg, Int.sub_eq_add_neg, RG_shift, Int.add_zero]
      have hh := hle (rotI xs.length f j) (rotI xs.length f i) (by unfold rotI; rw [if_pos ci, if_neg cj]; omega)
      rw [RG_sym, RG_wrap hh pj ei nj ni, RG_sym]
  · by_cases cj : j < xs.length - f
    · rw [if_neg ci, if_pos cj, Int.sub_eq_add_neg, Int.sub_eq_add_neg, RG_shift, Int.add_zero]
      have hh := hle (rotI xs.length f i) (rotI xs.length f j) (by unfold rotI; rw [if_neg ci, if_pos cj]; omega)
      exact RG_wrap hh pi ej ni nj
    · rw [if_neg ci, if_neg cj, Int.sub_eq_add_neg, Int.sub_eq_add_neg, RG_shift, RG_shift]
theorem rot_rgT {f : Nat} {xs : List Int} (h : f ≤ xs.length) (h0 : ∀ x ∈ xs, 0 ≤ x) : rgT (rot f xs) = (rot f (rgT xs)).map (rot f) := by
  have hl : (rot f (rgT xs)).length = xs.length := by rw [rot_len (by rw [rgT_len]; exact h), rgT_len]
  refine list_ext_getD (d := []) (by rw [rgT_len, rot_len h, List.length_map, hl]) fun i hi => ?_
  rw [rgT_len, rot_len h] at hi
  have e : ((rot f (rgT xs)).map (rot f)).getD i [] = rot f ((rgT xs).getD (rotI xs.length f i) []) := by
    rw [List.getD_eq_getElem?_getD, List.getElem?_map, List.getElem?_eq_getElem (by omega)]
    have := rot_get (f := f) (l := rgT xs) (k := i) (d := []) (by rw [rgT_len]; exact h) (by rw [rgT_len]; exact hi)
    rw [rgT_len, List.getD_eq_getElem?_getD, List.getElem?_eq_getElem (by omega)] at this
    rw [← this]
    rfl
  have li := rotI_lt h hi
  have hr := getD_len (rgT_row xs) (show rotI xs.length f i < (rgT xs).length by rw [rgT_len]; exact li)
  have hr2 := getD_len (rgT_row (rot f xs)) (show i < (rgT (rot f xs)).length by rw [rgT_len, rot_len h]; exact hi)
  rw [rot_len h] at hr2
  refine list_ext_getD (d := 0) (by rw [hr2, e, rot_len (by rw [hr]; exact h), hr]) fun j hj => ?_
  rw [hr2] at hj
  rw [e, rot_get (by rw [hr]; exact h) (by rw [hr]; exact hj), hr]
  show at2 (rgT (rot f xs)) i j = at2 (rgT xs) _ _
  rw [rgT_at (by rw [rot_len h]; exact hi) (by rw [rot_len h]; exact hj), rgT_at li (rotI_lt h hj)]
  exact rot_rg h h0 hi hj
/-! stretched -/
theorem lap_mul {m : Int} (hm : 0 ≤ m) (a b c d : Int) : lapZ (m * a) (m * b) (m * c) (m * d) = m * lapZ a b c d := by
  have e1 : min (m * b) (m * d) = m * min b d := by
    rcases Int.le_total b d with h | h
    · have := Int.mul_le_mul_of_nonneg_left h hm
      rw [show min b d = b by omega]
      omega
    · have := Int.mul_le_mul_of_nonneg_left h hm
      rw [show min b d = d by omega]
      omega
  have e2 : max (m * a) (m * c) = m * max a c := by
    rcases Int.le_total a c with h | h
    · have := Int.mul_le_mul_of_nonneg_left h hm
      rw [show max a c = c by omega]
      omega
    · have := Int.mul_le_mul_of_nonneg_left h hm
      rw [show max a c = a by omega]
      omega
  unfold lapZ
  rw [e1, e2, ← Int.mul_sub]
  rcases Int.le_total 0 (min b d - max a c) with h | h
  · have := Int.mul_le_mul_of_nonneg_left h hm
    rw [Int.mul_zero] at this
    rw [show max 0 (min b d - max a c) = min b d - max a c by omega]
    omega
  · have := Int.mul_le_mul_of_nonneg_left h hm
    rw [Int.mul_zero] at this
    rw [show max 0 (min b d - max a c) = 0 by omega, Int.mul_zero]
    omega
theorem map_getD0 (m : Int) (xs : List Int) (i : Nat) : (xs.map (m * ·)).getD i 0 = m * xs.getD i 0 := by
  rw [List.getD_eq_getElem?_getD, List.getD_eq_getElem?_getD, List.getElem?_map]
  cases xs[i]? with
  | none => exact (Int.mul_zero m).symm
  | some x => rfl
theorem pre_mul (m : Int) (xs : List Int) (i : Nat) : preS (xs.map (m * ·)) i = m * preS xs i := by
  unfold preS
  rw [← sumN_mul]
  exact sumN_congr fun k _ => by
    show 2 * (xs.map (m * ·)).getD k 0 = m * (2 * xs.getD k 0)
    rw [map_getD0, Int.mul_left_comm]
theorem sum_mul (m : Int) : ∀ xs : List Int, (xs.map (m * ·)).sum = m * xs.sum
  | [] => (Int.mul_zero m).symm
  | x :: xs => by
    rw [List.map_cons, List.sum_cons, List.sum_cons, sum_mul m xs, Int.mul_add]
theorem mul_rg {m : Int} (hm : 0 ≤ m) (xs : List Int) (i j : Nat) : rg (xs.map (m * ·)) i j = m * rg xs i j := by
  unfold rg
  rw [pre_mul, pre_mul, sum_mul, map_getD0, map_getD0, Int.mul_add, ← lap_mul hm, ← lap_mul hm]
  simp only [Int.mul_add, Int.mul_sub, Int.mul_left_comm m 2]
theorem mul_rgT {m : Int} (hm : 0 ≤ m) (xs : List Int) : rgT (xs.map (m * ·)) = (rgT xs).map fun r => r.map (m * ·) := by
  unfold rgT
  rw [List.length_map, List.map_map]
  refine List.map_congr_left fun i _ => ?_
  show _ = ((List.range xs.length).map (rg xs i)).map (m * ·)
  rw [List.map_map]
  exact List.map_congr_left fun j _ => mul_rg hm xs i j
theorem lap_le (a b c d : Int) : lapZ a b c d ≤ max 0 (b - a) := by unfold lapZ; omega
theorem rg_le {xs : List Int} (h0 : ∀ x ∈ xs, 0 ≤ x) (i j : Nat) : rg xs i j ≤ 4 * xs.getD i 0 := by
  have h1 := lap_le (preS xs i) (preS xs i + 2 * xs.getD i 0) (preS xs j + xs.sum) (preS xs j + 2 * xs.getD j 0 + xs.sum)
  have h2 := lap_le (preS xs i) (preS xs i + 2 * xs.getD i 0) (preS xs j - xs.sum) (preS xs j + 2 * xs.getD j 0 - xs.sum)
  have := nn_getD h0 i
  unfold rg
  omega
/-! two neighbours joined -/
def join (a : Nat) (xs : List Int) : List Int := xs.take a ++ [xs.getD a 0 + xs.getD (a + 1) 0] ++ xs.drop (a + 2)
theorem join_len {a : Nat} {xs : List Int} (h : a + 1 < xs.length) : (join a xs).length = xs.length - 1 := by
  unfold join
  simp
  omega
theorem join_get {a k : Nat} {xs : List Int} (h : a + 1 < xs.length) : (join a xs).getD k 0 = if k < a then xs.getD k 0 else if k = a then xs.getD a 0 + xs.getD (a + 1) 0 else xs.getD (k + 1) 0 := by
  unfold join
  rw [getD_app, List.length_append, List.length_take, List.length_singleton, getD_app, List.length_take]
  by_cases c : k < a
  · rw [if_pos c, if_pos (by omega), if_pos (by omega), List.getD_eq_getElem?_getD, List.getElem?_take, if_pos c, List.getD_eq_getElem?_getD]
  · rw [if_neg c]
    by_cases e : k = a
    · rw [if_pos e, if_pos (by omega), if_neg (by omega), show k - min a xs.length = 0 by omega]
      rfl
    · rw [if_neg e, if_neg (by omega), List.getD_eq_getElem?_getD, List.getElem?_drop, List.getD_eq_getElem?_getD, show a + 2 + (k - (min a xs.length + 1)) = k + 1 by omega]
theorem join_pre {a : Nat} {xs : List Int} (h : a + 1 < xs.length) : ∀ k, preS (join a xs) k = if k ≤ a then preS xs k else preS xs (k + 1)
  | 0 => by rw [if_pos (Nat.zero_le a)]; rfl
  | k + 1 => by
    rw [preS_succ, join_pre h k, join_get h]
    by_cases c : k < a
    · rw [if_pos (by omega), if_pos c, if_pos (by omega), preS_succ]
    · by_cases e : k = a
      · subst e
        rw [if_pos (Nat.le_refl k), if_neg (Nat.lt_irrefl k), if_pos rfl, if_neg (by omega), preS_succ, preS_succ]
        omega
      · rw [if_neg (by omega), if_neg c, if_neg e, if_neg (by omega), preS_succ xs (k + 1)]
theorem join_sum {a : Nat} {xs : List Int} (h : a + 1 < xs.length) : (join a xs).sum = xs.sum := by
  have h1 := preS_all (join a xs)
  have h2 := preS_all xs
  rw [join_pre h, join_len h, if_neg (by omega), show xs.length - 1 + 1 = xs.length by omega] at h1
  omega
theorem lap_join {a u v c d : Int} (hu : 0 ≤ u) (hv : 0 ≤ v) : lapZ a (a + 2 * (u + v)) c d = lapZ a (a + 2 * u) c d + lapZ (a + 2 * u) (a + 2 * u + 2 * v) c d := by
  rw [lap_sym a, lap_sym a, lap_sym (a + 2 * u), show a + 2 * (u + v) = a + 2 * u + 2 * v by omega]
  exact (lap_add (by omega) (by omega)).symm
theorem RG_join {S a u v b w : Int} (hu : 0 ≤ u) (hv : 0 ≤ v) : RG S a (u + v) b w = RG S a u b w + RG S (a + 2 * u) v b w := by
  unfold RG
  rw [lap_join hu hv, lap_join hu hv]
  omega
def unj (a : Nat) (r : List Int) : List Int := join a r
/-- what the joined ring says: columns joined -/
theorem join_rgC {a : Nat} {xs : List Int} (h : a + 1 < xs.length) (h0 : ∀ x ∈ xs, 0 ≤ x) (S p u : Int) (hS : S = xs.sum) (j : Nat) : RG S p u (preS (join a xs) j) ((join a xs).getD j 0) = if j < a then RG S p u (preS xs j) (xs.getD j 0) else if j = a then RG S p u (preS xs a) (xs.getD a 0) + RG S p u (preS xs (a + 1)) (xs.getD (a + 1) 0) else RG S p u (preS xs (j + 1)) (xs.getD (j + 1) 0) := by
  rw [join_pre h, join_get h]
  by_cases c : j < a
  · rw [if_pos (by omega), if_pos c, if_pos c]
  · by_cases e : j = a
    · subst e
      rw [if_pos (Nat.le_refl j), if_neg c, if_pos rfl, if_neg c, if_pos rfl, RG_sym, RG_join (nn_getD h0 j) (nn_getD h0 (j + 1)), RG_sym, preS_succ]
      rw [RG_sym S (preS xs j + 2 * xs.getD j 0)]
    · rw [if_neg (by omega), if_neg c, if_neg e, if_neg c, if_neg e]
def joinR (a : Nat) (rows : List (List Int)) : List (List Int) := rows.take a ++ [(List.range (rows.getD a []).length).map fun j => (rows.getD a []).getD j 0 + (rows.getD (a + 1) []).getD j 0] ++ rows.drop (a + 2)
theorem joinR_get {a k : Nat} {rows : List (List Int)} (h : a + 1 < rows.length) : (joinR a rows).getD k [] = if k < a then rows.getD k [] else if k = a then (List.range (rows.getD a []).length).map (fun j => (rows.getD a []).getD j 0 + (rows.getD (a + 1) []).getD j 0) else rows.getD (k + 1) [] := by
  unfold joinR
  rw [getD_app, List.length_append, List.length_take, List.length_singleton, getD_app, List.length_take]
  by_cases c : k < a
  · rw [if_pos c, if_pos (by omega), if_pos (by omega), List.getD_eq_getElem?_getD, List.getElem?_take, if_pos c, List.getD_eq_getElem?_getD]
  · rw [if_neg c]
    by_cases e : k = a
    · rw [if_pos e, if_pos (by omega), if_neg (by omega), show k - min a rows.length = 0 by omega]
      rfl
    · rw [if_neg e, if_neg (by omega), List.getD_eq_getElem?_getD, List.getElem?_drop, List.getD_eq_getElem?_getD, show a + 2 + (k - (min a rows.length + 1)) = k + 1 by omega]
theorem joinR_len {a : Nat} {rows : List (List Int)} (h : a + 1 < rows.length) : (joinR a rows).length = rows.length - 1 := by
  unfold joinR
  simp
  omega
theorem join_rgT {a : Nat} {xs : List Int} (h : a + 1 < xs.length) (h0 : ∀ x ∈ xs, 0 ≤ x) : rgT (join a xs) = (joinR a (rgT xs)).map (join a) := by
  have hl := joinR_len (rows := rgT xs) (a := a) (by rw [rgT_len]; exact h)
  rw [rgT_len] at hl
  have row : ∀ i, i < xs.length → (rgT xs).getD i [] = (List.range xs.length).map (rg xs i) := fun i hi => by
    unfold rgT
    rw [range_getD _ _ hi]
  have row_len : ∀ i, ((List.range xs.length).map (rg xs i)).length = xs.length := fun i => by simp
  have row_at : ∀ i j, j < xs.length → ((List.range xs.length).map (rg xs i)).getD j 0 = rg xs i j := fun i j hj => range_getD _ _ hj
  refine list_ext_getD (d := []) (by rw [rgT_len, join_len h, List.length_map, hl]) fun i hi => ?_
  rw [rgT_len, join_len h] at hi
  have e : ((joinR a (rgT xs)).map (join a)).getD i [] = join a ((joinR a (rgT xs)).getD i []) := by
    rw [List.getD_eq_getElem?_getD, List.getElem?_map, List.getElem?_eq_getElem (by omega), List.getD_eq_getElem?_getD, List.getElem?_eq_getElem (by omega)]
    rfl
  rw [e, joinR_get (by rw [rgT_len]; exact h)]
  have hr2 := getD_len (rgT_row (join a xs)) (show i < (rgT (join a xs)).length by rw [rgT_len, join_len h]; exact hi)
  rw [join_len h] at hr2
  have at2' : ∀ j, j < xs.length - 1 → ((rgT (join a xs)).getD i []).getD j 0 = RG xs.sum (preS (join a xs) i) ((join a xs).getD i 0) (preS (join a xs) j) ((join a xs).getD j 0) := fun j hj => by
    show at2 (rgT (join a xs)) i j = _
    rw [rgT_at (by rw [join_len h]; exact hi) (by rw [join_len h]; exact hj), rg_RG, join_sum h]
  by_cases c : i < a
  · rw [if_pos c, row i (by omega)]
    refine list_ext_getD (d := 0) (by rw [hr2, join_len (by rw [row_len]; exact h), row_len]) fun j hj => ?_
    rw [hr2] at hj
    rw [at2' j hj, join_rgC h h0 _ _ _ rfl, join_get (xs := (List.range xs.length).map (rg xs i)) (k := j) (by rw [row_len]; exact h), join_pre h, if_pos (show i ≤ a by omega), join_get (xs := xs) (k := i) h, if_pos c, row_at _ _ (show a < xs.length by omega), row_at _ _ h]
    split
    · rw [row_at _ _ (by omega)]
      rfl
    · split
      · rfl
      · rw [row_at _ _ (by omega)]
        rfl
  · by_cases e : i = a
    · subst e
      rw [if_neg c, if_pos rfl, row i (by omega), row (i + 1) h]
      have mix : ∀ k, k < xs.length → ((List.range ((List.range xs.length).map (rg xs i)).length).map fun j => ((List.range xs.length).map (rg xs i)).getD j 0 + ((List.range xs.length).map (rg xs (i + 1))).getD j 0).getD k 0 = rg xs i k + rg xs (i + 1) k := fun k hk => by
        rw [range_getD _ _ (by rw [row_len]; exact hk), row_at _ _ hk, row_at _ _ hk]
      have mixl : ((List.range ((List.range xs.length).map (rg xs i)).length).map fun j => ((List.range xs.length).map (rg xs i)).getD j 0 + ((List.range xs.length).map (rg xs (i + 1))).getD j 0).length = xs.length := by simp
      generalize (List.range ((List.range xs.length).map (rg xs i)).length).map (fun j => ((List.range xs.length).map (rg xs i)).getD j 0 + ((List.range xs.length).map (rg xs (i + 1))).getD j 0) = M at mix mixl ⊢
      refine list_ext_getD (d := 0) (by rw [hr2, join_len (by omega), mixl]) fun j hj => ?_
      rw [hr2] at hj
      have two : ∀ q w, RG xs.sum (preS xs i) (xs.getD i 0 + xs.getD (i + 1) 0) q w = RG xs.sum (preS xs i) (xs.getD i 0) q w + RG xs.sum (preS xs (i + 1)) (xs.getD (i + 1) 0) q w := fun q w => by
        rw [RG_join (nn_getD h0 i) (nn_getD h0 (i + 1)), preS_succ]
      rw [at2' j hj, join_rgC h h0 _ _ _ rfl, join_get (xs := M) (k := j) (by omega), join_pre h, if_pos (Nat.le_refl i), join_get (xs := xs) (k := i) h, if_neg (Nat.lt_irrefl i), if_pos rfl, mix i (by omega), mix (i + 1) h, two, two, two, two]
      split
      · rw [mix j (by omega)]
        rfl
      · split
        · rw [rg_RG, rg_RG, rg_RG, rg_RG]
        · rw [mix (j + 1) (by omega)]
          rfl
    · rw [if_neg c, if_neg e, row (i + 1) (by omega)]
      refine list_ext_getD (d := 0) (by rw [hr2, join_len (by rw [row_len]; exact h), row_len]) fun j hj => ?_
      rw [hr2] at hj
      rw [at2' j hj, join_rgC h h0 _ _ _ rfl, join_get (xs := (List.range xs.length).map (rg xs (i + 1))) (k := j) (by rw [row_len]; exact h), join_pre h, if_neg (show ¬ i ≤ a by omega), join_get (xs := xs) (k := i) h, if_neg c, if_neg e, row_at _ _ (show a < xs.length by omega), row_at _ _ h]
      split
      · rw [row_at _ _ (by omega)]
        rfl
      · split
        · rfl
        · rw [row_at _ _ (by omega)]
          rfl
end Dd
/-! Shares. -/
namespace Dd
open PySem L2
/-- a over b in lowest terms -/
def lowA (a b : Int) : Int := a / (Int.gcd b a : Int)
def lowB (a b : Int) : Int := b / (Int.gcd b a : Int)
def lowD (a b : Int) : PyData := .tuple [.int (a / (Int.gcd b a : Int)), .int (b / (Int.gcd b a : Int))]
theorem gcd_pos {a b : Int} (hb : 0 < b) : 0 < (Int.gcd b a : Int) := by
  have : 0 < Int.gcd b a := Int.gcd_pos_of_ne_zero_left _ (by omega)
  omega
theorem gcd_le {a b : Int} (hb : 0 < b) : (Int.gcd b a : Int) ≤ b := Int.le_of_dvd hb (Int.gcd_dvd_left ..)
theorem gcd_div {a b : Int} (hb : 0 < b) (hlt : b.natAbs < 2 ^ 1000) (c : Int) : CDivW c (Int.gcd b a : Int) := by
  have h1 := gcd_le (a := a) hb
  refine wide_div (b := 1000) (gcd_pos hb) (Nat.lt_of_le_of_lt ?_ hlt) (by decide) (by decide)
  omega
theorem mul4 {a b : Int} (ha : a.natAbs < 2 ^ 400) (hb : b.natAbs < 2 ^ 400) : CMulW a b := wide_mul ha hb (by decide) (by decide) (by decide)
theorem low_cross {a b : Int} : lowA a b * b = a * lowB a b := by
  unfold lowA lowB
  obtain ⟨x, hx⟩ : (Int.gcd b a : Int) ∣ a := Int.gcd_dvd_right ..
  obtain ⟨y, hy⟩ : (Int.gcd b a : Int) ∣ b := Int.gcd_dvd_left ..
  by_cases hg : (Int.gcd b a : Int) = 0
  · rw [hg, Int.zero_mul] at hx hy
    subst hx; subst hy
    rfl
  generalize (Int.gcd b a : Int) = g at *
  subst hx; subst hy
  rw [Int.mul_ediv_cancel_left _ hg, Int.mul_ediv_cancel_left _ hg]
  simp only [Int.mul_comm, Int.mul_left_comm, Int.mul_assoc]
theorem low_pos {a b : Int} (hb : 0 < b) : 0 < lowB a b := Int.ediv_pos_of_pos_of_dvd hb (by have := gcd_pos (a := a) hb; omega) (Int.gcd_dvd_left ..)
theorem low_nn {a b : Int} (ha : 0 ≤ a) (hb : 0 < b) : 0 ≤ lowA a b := Int.ediv_nonneg ha (by have := gcd_pos (a := a) hb; omega)
theorem low_leA {a b : Int} (ha : 0 ≤ a) : lowA a b ≤ a := Int.ediv_le_self _ ha
theorem low_leB {a b : Int} (hb : 0 < b) : lowB a b ≤ b := Int.ediv_le_self _ (by omega)
/-- in lowest terms -/
def Low (a b : Int) : Prop := 0 ≤ a ∧ 0 < b ∧ Int.gcd b a = 1
theorem low_low {a b : Int} (ha : 0 ≤ a) (hb : 0 < b) : Low (lowA a b) (lowB a b) := by
  refine ⟨low_nn ha hb, low_pos hb, ?_⟩
  have hg : 0 < Int.gcd b a := Int.gcd_pos_of_ne_zero_left _ (by omega)
  exact Int.gcd_ediv_gcd_ediv_gcd hg
theorem low_one {a b : Int} (h : Low a b) : lowA a b = a ∧ lowB a b = b := by
  unfold lowA lowB
  rw [h.2.2]
  exact ⟨Int.ediv_one a, Int.ediv_one b⟩
theorem lowD_one {a b : Int} (h : Low a b) : lowD a b = .tuple [.int a, .int b] := by
  obtain ⟨h1, h2⟩ := low_one h
  show PyData.tuple [.int (lowA a b), .int (lowB a b)] = _
  rw [h1, h2]
theorem low_mul {a b k : Int} (hk : 0 < k) (hb : 0 < b) : lowA (k * a) (k * b) = lowA a b ∧ lowB (k * a) (k * b) = lowB a b := by
  have hg := gcd_pos (a := a) hb
  unfold lowA lowB
  rw [Int.gcd_mul_left, show ((k.natAbs * Int.gcd b a : Nat) : Int) = k * (Int.gcd b a : Int) by rw [Int.natCast_mul, Int.natAbs_of_nonneg (by omega)]]
  exact ⟨Int.mul_ediv_mul_of_pos _ _ hk, Int.mul_ediv_mul_of_pos _ _ hk⟩
theorem sm_low {a b : Int} : Sm 2 (lowD a b) := ⟨by show 2 < 1000; decide, fun x hx => by
  rcases List.mem_cons.mp hx with z | z
  · subst z; exact sm_int
  · rw [List.mem_singleton.mp z]; exact sm_int⟩
theorem lowD_comm (a b c d : Int) : lowD (a * d + c * b) (b * d) = lowD (c * b + a * d) (d * b) := by
  rw [Int.add_comm, Int.mul_comm b d]
end Dd
/-! More rules: a list unpacked; rows of an own table changed one by one; insert. -/
namespace Dd
open PySem L2
def gL (n : Nat) (w : WGs) : WG := fun d ρ R => match d with
  | .list ds => ds.length = n ∧ w ds ρ R
  | _ => False
section
variable {X : Cx} {pos : Pos} {ts : List Nat}
theorem g_lst {es : List Expr} {kk : Nat} {w : WGs} {n : Nat} (hc : X.calm = true) (h : PGs X es (gsOf X.K ts w)) (hn : (assignEach es X.env).length = n := by rfl) (hst : (assignEach es X.env).findIdx? (·.1) = none := by rfl) : PG X (.Tuple es kk pos) (gOf X.K ts (gL n w)) := PG.of (pg_unl hc h hn hst) fun v σ H Q ⟨b, B, G, ρ, d, R, q, hr, r, k⟩ => by
  unfold gL at q
  split at q
  · cases r with
    | lst h1 r1 => exact ⟨_, _, rfl, .inl (.inl (hr.good.ex _ _ h1)), by rw [r1.len]; exact q.1, b, B, G, ρ, _, R, q.2, hr, r1, k⟩
  · exact q.elim
end
/-! ### rows of an own table -/
theorem Env.gone {b : Option Addr} {B G H : Hp} {σ : L2.St} {ρ : Rho} (E : Env b B G H σ ρ) (j : Nat) (x : Option V) : Env b B G H (σ.set j x) (ρ.set j none) := by
  obtain ⟨hl, fps, h1, h2, h3⟩ := E
  refine ⟨by rw [List.length_set, List.length_set]; exact hl, fps, fun i t e => ?_, h2, h3⟩
  have n : i ≠ j := fun z => by
    subst z
    by_cases c : i < ρ.length
    · rw [List.getElem?_set_self c] at e
      cases e
    · rw [List.getElem?_eq_none (by rw [List.length_set]; omega)] at e
      cases e
  rw [List.getElem?_set_ne (Ne.symm n)] at e ⊢
  exact h1 i t e
theorem own_inner {K : PySem.W.Frag} {b : Option Addr} {F G0 H0 G H : Hp} {σ : L2.St} {ρ : Rho} {i : Nat} {ts us : List T} {n : Nat} (g0 : Good K b G0 H0) (e1 : Ex F G) (s : Stp K b G0 H0 G H) (E1 : Env b H0 G H σ ρ) (et : ρ[i]? = some (some (.node ts))) (en : ts[n]? = some (.node us)) :
    ∃ q vs p ws fw, σ[i]? = some (some (.ref q)) ∧ H q = some (.lst vs) ∧ vs.length = ts.length ∧ vs[n]? = some (.ref p) ∧ H p = some (.lst ws) ∧ q ≠ p ∧ TrAll b G H fw ws us ∧
      ∀ (us' : List T) (fw' : List Addr) (ws' : List V), TrAll b G H fw' ws' us' → (∀ a, a ∈ fw' → a ∈ fw) → At K b F G0 H0 (ρ.set i (some (.node (ts.set n (.node us'))))) σ (upd H p (.lst ws')) := by
  obtain ⟨fp, v0, ev, tr, hB, EX⟩ := E1.take et
  cases tr with
  | node hp gp bp rr np =>
    rename_i q fq vs
    obtain ⟨p, fw, ws, h1, h2, h3, h4, h5, h6, h7, h8⟩ := rr.inner en
    have pq : q ≠ p := fun z => np (by rw [z]; exact h7)
    refine ⟨q, vs, p, ws, fw, ev, hp, rr.len, h1, h2, pq, h5, fun us' fn ws' tr3 sub => ?_⟩
    have npn : p ∉ fn := fun z => h6 (sub _ z)
    obtain ⟨fp', g1, g2⟩ := h8 (upd H p (.lst ws')) us' fn ws' (fun a na => upd_ne na) upd_same (tr3.move (Ex.rfl' _) fun a z => ⟨(tr3.mem a z).1, upd_ne fun y => npn (by rw [← y]; exact z)⟩) sub
    have npq : q ∉ fp' := fun z => np (g2 q z)
    have st : Stp K b G0 H0 G (upd H p (.lst ws')) := by
      refine ⟨s.ex, ⟨fun a u e => ?_, fun a c => ?_⟩, fun a u n e => ?_, s.out, fun a c => (boxc_eq (upd_ne fun q => h4 (by rw [← q]; exact c))).trans (s.cel a c)⟩
      · have na : a ≠ p := fun q => by
          rw [q, h3] at e
          cases e
        rw [upd_ne na]
        exact s.good.ex a u e
      · obtain ⟨n, cc, cells, pos, rest, seed, q1, q2, q3⟩ := s.good.box a c
        have na : a ≠ p := fun q => h4 (by rw [← q]; exact c)
        exact ⟨n, cc, cells, pos, rest, seed, by rw [upd_ne na]; exact q1, q2, q3⟩
      · have na : a ≠ p := fun z => by
          rw [z, hB p (List.mem_cons_of_mem _ h7)] at e
          cases e
        rw [upd_ne na]
        exact s.keep a u n e
    have E2 := EX.back (H2 := upd H p (.lst ws')) (fun a o n _ e => by
      rw [upd_ne fun z => n (by rw [z]; exact List.mem_cons_of_mem _ h7)]
      exact e) (.node (by rw [upd_ne pq]; exact hp) gp bp g1 npq) (fun a z => by
      rcases List.mem_cons.mp z with z | z
      · subst z
        exact ⟨hB _ (List.mem_cons_self ..), .inl (List.mem_cons_self ..)⟩
      · exact ⟨hB _ (List.mem_cons_of_mem _ (g2 a z)), .inl (List.mem_cons_of_mem _ (g2 a z))⟩)
    rw [set_same ev] at E2
    exact ⟨G, e1, st, E2⟩
/-- the first k rows changed -/
def mutN (f : List T → List T) : Nat → List T → List T
  | 0, ts => ts
  | _, [] => []
  | k + 1, t :: ts => (match t with
    | .node us => .node (f us)
    | t => t) :: mutN f k ts
theorem mutN_len (f : List T → List T) : ∀ k ts, (mutN f k ts).length = ts.length
  | 0, _ => rfl
  | _ + 1, [] => rfl
  | k + 1, t :: ts => by simp [mutN, mutN_len f k ts]
theorem mutN_get (f : List T → List T) : ∀ {k : Nat} {ts : List T} {us : List T}, ts[k]? = some (.node us) → (mutN f k ts)[k]? = some (.node us) ∧ (mutN f k ts).set k (.node (f us)) = mutN f (k + 1) ts
  | 0, [], _, e => by simp at e
  | 0, t :: ts, us, e => by
    simp at e
    subst e
    exact ⟨rfl, rfl⟩
  | k + 1, [], _, e => by simp at e
  | k + 1, t :: ts, us, e => by
    obtain ⟨h1, h2⟩ := mutN_get f (k := k) (ts := ts) (us := us) (by simpa using e)
    exact ⟨by show (mutN f k ts)[k]? = _; exact h1, by show _ :: (mutN f k ts).set k _ = _ :: mutN f (k + 1) ts; rw [h2]⟩
theorem mutN_all (f : List T → List T) : ∀ rs : List (List T), mutN f rs.length (rs.map .node) = rs.map fun us => .node (f us)
  | [] => rfl
  | r :: rs => by
    show _ :: mutN f rs.length (rs.map .node) = _
    rw [mutN_all f rs]
    rfl
section
variable {X : Cx} {E : SX} {e : Expr} {we : WE} {pos p px py fpos apos cpos : Pos}
/-- for x in y: x.append(e) -/
def dRowsA (i j : Nat) (we : WE) : WS := fun C ρ => ∃ rs : List (List T), ρ[i]? = some (some (.node (rs.map .node))) ∧ j < ρ.length ∧ i ≠ j ∧ (∀ r ∈ rs, r.length < lim) ∧
  ∃ d, (∀ ρ' : Rho, ∀ P : T → Prop, P (.leaf d) → we noX ρ' P) ∧ C.nx ((ρ.set i (some (.node (rs.map fun us => .node (us ++ [.leaf d]))))).set j none)
/-- for x in y: x.clear() -/
def dRowsC (i j : Nat) : WS := fun C ρ => ∃ rs : List (List T), ρ[i]? = some (some (.node (rs.map .node))) ∧ j < ρ.length ∧ i ≠ j ∧ C.nx ((ρ.set i (some (.node (rs.map fun _ => .node [])))).set j none)
theorem Env.gone' {b : Option Addr} {B G H : Hp} {σ : L2.St} {ρ : Rho} (E : Env b B G H σ ρ) (j : Nat) : Env b B G H σ (ρ.set j none) := by
  obtain ⟨hl, fps, h1, h2, h3⟩ := E
  refine ⟨by rw [List.length_set]; exact hl, fps, fun i t e => ?_, h2, h3⟩
  have n : i ≠ j := fun z => by
    subst z
    by_cases c : i < ρ.length
    · rw [List.getElem?_set_self c] at e
      cases e
    · rw [List.getElem?_eq_none (by rw [List.length_set]; omega)] at e
      cases e
  rw [List.getElem?_set_ne (Ne.symm n)] at e
  exact h1 i t e
theorem rho_same {ρ : Rho} {i : Nat} {t : Option T} (e : ρ[i]? = some t) : ρ.set i t = ρ := by
  refine List.ext_getElem? fun j => ?_
  by_cases c : j = i
  · subst c
    rw [List.getElem?_set_self (List.getElem?_eq_some_iff.mp e).1, e]
  · rw [List.getElem?_set_ne (Ne.symm c)]
theorem s_rowsA (i j : Nat) {x y : Str} (hp : PassesOwn (model X.prog X.w) X.A X.env X.xe) (hc : X.calm = true) (hN : X.N.Nodup) (he : PE X e (tOf X.K X.mg E we)) (hi : X.N[i]? = some y := by rfl) (hj : X.N[j]? = some x := by rfl) (hvy : Vis X.env.scope y := by first | exact Or.inl rfl | exact Or.inr (Or.inl rfl) | exact Or.inr (Or.inr rfl)) (hvx : Vis X.env.scope x := by first | exact Or.inl rfl | exact Or.inr (Or.inl rfl) | exact Or.inr (Or.inr rfl)) (hdy : (y == ("__debug__" : Str)) = false := by decide) (hcdy : (y == ("__classdict__" : Str)) = false := by decide) (hdx : (x == ("__debug__" : Str)) = false := by decide) (hcdx : (x == ("__classdict__" : Str)) = false := by decide)
    (hx : Loc X.env.scope x := by first | exact Or.inl rfl | exact Or.inr rfl) (hf : X.fn x = true ∨ X.env.scope.names.lookup x = some .local := by first | exact .inl rfl | exact .inr rfl | assumption)
    (hsw : swapsWith (.Call (.Attribute (.Name x p) "append" apos) [e] [] cpos) none pos.line X.env = pure false := by rfl)
    (hbase : attributeBase (.Name x p) "append" X.env (eval (.Name x p) X.env) = eval (.Name x p) X.env := by rfl)
    (hfew : ((backTo cpos (starEach [e] X.env)).all (fun x => !x.1) && (backToKw cpos (keywordEach [] X.env)).all (fun x => x.1.isSome)
      && decide (([e] : List Expr).length + ([] : List Keyword).length + (if ([] : List Keyword).isEmpty then 0 else 1) < 30)) = true := by rfl)
    (hline : (apos.endLine == cpos.line) = true := by rfl) (hs : starEach [e] X.env = (false, eval e X.env) :: starEach [] X.env := by rfl) (hplain : (backTo cpos (starEach [] X.env)).any (·.1) = false := by rfl) (hfs : ∀ z, foldedSetIterable (.Name y py) X.env z = pure z := by intro _; rfl) :
    PS X (.For (.Name x px) (.Name y py) [.Expr (.Call (.Attribute (.Name x p) "append" apos) [e] [] cpos) pos] [] fpos) (sOf X.K X.mg E (dRowsA i j we)) :=
  PS.of (ps_for hp hc (pi_list (pe_var hi hvy hdy hcdy)) (pg_name hN hj hx hf) (pss_one (ps_expr (pe_bm PySem.F.plainAttrs_list PySem.F.slot_list_append PySem.F.type_list_append mt_append (pe_var hj hvx hdx hcdx) (pa_cons he pa_nil hs) hbase hfew hline hs hplain) hsw)) hfs) fun D σ H ⟨b, F, G0, H0, ρ, C, ⟨rs, et, hjl, hij, hlen, d, hd, q⟩, g0, a, eo⟩ => by
  obtain ⟨G, e1, s, E1⟩ := id a
  obtain ⟨q0, vs, ev, hq, hl, bq, _⟩ := env_node (K := X.K) E1 et
  rw [List.length_map] at hl
  let f : List T → List T := fun us => us ++ [.leaf d]
  let R : Nat → Rho := fun k => (ρ.set i (some (.node (mutN f k (rs.map .node))))).set j none
  have Rl : ∀ k, (R k).length = ρ.length := fun k => by show List.length (List.set _ _ _) = _; rw [List.length_set, List.length_set]
  have hil : i < ρ.length := (List.getElem?_eq_some_iff.mp et).1
  have Ri : ∀ k, (R k)[i]? = some (some (.node (mutN f k (rs.map .node)))) := fun k => by
    show (List.set _ _ _)[i]? = _
    rw [List.getElem?_set_ne (Ne.symm hij), List.getElem?_set_self hil]
  have Rj : ∀ k, (R k).set j none = R k := fun k => by show List.set (List.set _ _ _) _ _ = _; rw [List.set_set]
  have Rs : ∀ k, (R k).set i (some (.node (mutN f (k + 1) (rs.map .node)))) = R (k + 1) := fun k => by
    show List.set (List.set (List.set _ _ _) _ _) _ _ = List.set (List.set _ _ _) _ _
    rw [List.set_comm _ _ (Ne.symm hij), List.set_set]
  refine ⟨_, ev, q0, rfl, ⟨vs, .inl (.inl hq)⟩, fun k m σ' H' => m = rs.length - k ∧ k ≤ rs.length ∧ σ'[i]? = some (some (.ref q0)) ∧ H' q0 = some (.lst vs) ∧ At X.K b F G0 H0 (R k) σ' H', ⟨rs.length, by simp, Nat.zero_le _, ev, hq, G, e1, s, ?_⟩, ?_⟩
  · have := E1.gone' j
    show Env b H0 G H σ ((ρ.set i _).set j none)
    rw [show mutN f 0 (rs.map .node) = rs.map .node from rfl, rho_same et]
    exact this
  rintro k m σ' H' ⟨rfl, hk, ei', hq', at1⟩
  obtain ⟨G2, e2, s2, E2⟩ := id at1
  have hq2 : SqL X.K H' q0 vs := .inl (.inl hq')
  by_cases hlt : k < rs.length
  · refine .inr ⟨⟨vs, vs[k]'(by omega), hq2, List.getElem?_eq_getElem _⟩, fun σ2 H2 => k + 1 ≤ rs.length ∧ σ2[i]? = some (some (.ref q0)) ∧ H2 q0 = some (.lst vs) ∧ At X.K b F G0 H0 (R (k + 1)) σ2 H2, fun σ2 H2 h => ⟨rs.length - (k + 1), by omega, rfl, h⟩, fun v H3 ⟨eH, yv⟩ => ?_⟩
    subst eH
    have yv := yv vs hq2
    have us := rs[k]
    have en : (rs.map T.node)[k]? = some (.node rs[k]) := by rw [List.getElem?_map, List.getElem?_eq_getElem hlt]; rfl
    obtain ⟨en1, en2⟩ := mutN_get f en
    have E3 := E2.gone j (some v)
    rw [Rj k] at E3
    have ei3 : (σ'.set j (some v))[i]? = some (some (.ref q0)) := by rw [List.getElem?_set_ne (Ne.symm hij)]; exact ei'
    have ej3 : (σ'.set j (some v))[j]? = some (some v) := List.getElem?_set_self (by rw [E2.len, Rl]; exact hjl)
    obtain ⟨q1, vs1, p1, ws1, ev1, hq1, hl1, hn1, hp1, _, bp1, _, _⟩ := env_node2' (K := X.K) E3 (Ri k) en1
    rw [ei3] at ev1
    cases ev1
    rw [hq'] at hq1
    cases hq1
    rw [yv] at hn1
    cases hn1
    refine ⟨_, ej3, .inl ⟨rfl, _, .inl (.inl hp1)⟩, b, H0, G2, R k, noX, fun t => t = .leaf d, hd _ _ rfl, ⟨⟨s2.good, E3, fun a e => s2.free g0 e⟩, fun n pl c d G' H' x => x.elim⟩, fun G3 H4 v t fv ht s3 tr2 fr => ?_⟩
    subst ht
    cases tr2 with
    | leaf rv =>
      have s23 := s2.trans g0 s3
      obtain ⟨q2, vs2, p2, ws2, fw, ev2, hq3, hl2, hn2, hp2, qp, tr5, at5⟩ := own_inner g0 (e2.trans s3.ex) s23 (E3.stp s3) (Ri k) en1
      rw [ei3] at ev2
      cases ev2
      have hq4 := s3.keep _ _ bq hq'
      rw [hq4] at hq3
      cases hq3
      rw [yv] at hn2
      cases hn2
      obtain ⟨fn, tr6, sub⟩ := TrAll.snoc tr5 (.leaf rv) (fun _ _ z => nomatch z)
      have at6 := at5 _ _ _ tr6 fun a m => (sub a m).elim id fun z => nomatch z
      rw [en2, Rs] at at6
      refine ⟨p1, ws2, v, rfl, rfl, hp2, by rw [tr5.len]; exact lim_lt (hlen _ (List.getElem_mem hlt)), hlt, ei3, ?_, at6⟩
      rw [upd_ne qp]
      exact hq4
  · have ek : k = rs.length := by omega
    subst ek
    refine .inl ⟨⟨vs, hq2, by omega⟩, eo.nx _ _ _ q ?_⟩
    have e : R rs.length = (ρ.set i (some (.node (rs.map fun us => .node (us ++ [.leaf d]))))).set j none := by
      show (ρ.set i (some (.node (mutN f rs.length (rs.map .node))))).set j none = _
      rw [mutN_all]
    rw [← e]
    exact at1
theorem s_rowsC (i j : Nat) {x y : Str} (hp : PassesOwn (model X.prog X.w) X.A X.env X.xe) (hc : X.calm = true) (hN : X.N.Nodup) (hi : X.N[i]? = some y := by rfl) (hj : X.N[j]? = some x := by rfl) (hvy : Vis X.env.scope y := by first | exact Or.inl rfl | exact Or.inr (Or.inl rfl) | exact Or.inr (Or.inr rfl)) (hvx : Vis X.env.scope x := by first | exact Or.inl rfl | exact Or.inr (Or.inl rfl) | exact Or.inr (Or.inr rfl)) (hdy : (y == ("__debug__" : Str)) = false := by decide) (hcdy : (y == ("__classdict__" : Str)) = false := by decide) (hdx : (x == ("__debug__" : Str)) = false := by decide) (hcdx : (x == ("__classdict__" : Str)) = false := by decide)
    (hx : Loc X.env.scope x := by first | exact Or.inl rfl | exact Or.inr rfl) (hf : X.fn x = true ∨ X.env.scope.names.lookup x = some .local := by first | exact .inl rfl | exact .inr rfl | assumption)
    (hsw : swapsWith (.Call (.Attribute (.Name x p) "clear" apos) [] [] cpos) none pos.line X.env = pure false := by rfl)
    (hbase : attributeBase (.Name x p) "clear" X.env (eval (.Name x p) X.env) = eval (.Name x p) X.env := by rfl)
    (hline : (apos.endLine == cpos.line) = true := by rfl) (hfs : ∀ z, foldedSetIterable (.Name y py) X.env z = pure z := by intro _; rfl) :
    PS X (.For (.Name x px) (.Name y py) [.Expr (.Call (.Attribute (.Name x p) "clear" apos) [] [] cpos) pos] [] fpos) (sOf X.K X.mg E (dRowsC i j)) :=
  PS.of (ps_for hp hc (pi_list (pe_var hi hvy hdy hcdy)) (pg_name hN hj hx hf) (pss_one (ps_expr (pe_bm0 PySem.F.plainAttrs_list PySem.F.slot_list_clear PySem.F.type_list_clear mt_clear (pe_var hj hvx hdx hcdx) hbase hline) hsw)) hfs) fun D σ H ⟨b, F, G0, H0, ρ, C, ⟨rs, et, hjl, hij, q⟩, g0, a, eo⟩ => by
  obtain ⟨G, e1, s, E1⟩ := id a
  obtain ⟨q0, vs, ev, hq, hl, bq, _⟩ := env_node (K := X.K) E1 et
  rw [List.length_map] at hl
  let f : List T → List T := fun us => []
  let R : Nat → Rho := fun k => (ρ.set i (some (.node (mutN f k (rs.map .node))))).set j none
  have Rl : ∀ k, (R k).length = ρ.length := fun k => by show List.length (List.set _ _ _) = _; rw [List.length_set, List.length_set]
  have hil : i < ρ.length := (List.getElem?_eq_some_iff.mp et).1
  have Ri : ∀ k, (R k)[i]? = some (some (.node (mutN f k (rs.map .node)))) := fun k => by
    show (List.set _ _ _)[i]? = _
    rw [List.getElem?_set_ne (Ne.symm hij), List.getElem?_set_self hil]
  have Rj : ∀ k, (R k).set j none = R k := fun k => by show List.set (List.set _ _ _) _ _ = _; rw [List.set_set]
  have Rs : ∀ k, (R k).set i (some (.node (mutN f (k + 1) (rs.map .node)))) = R (k + 1) := fun k => by
    show List.set (List.set (List.set _ _ _) _ _) _ _ = List.set (List.set _ _ _) _ _
    rw [List.set_comm _ _ (Ne.symm hij), List.set_set]
  refine ⟨_, ev, q0, rfl, ⟨vs, .inl (.inl hq)⟩, fun k m σ' H' => m = rs.length - k ∧ k ≤ rs.length ∧ σ'[i]? = some (some (.ref q0)) ∧ H' q0 = some (.lst vs) ∧ At X.K b F G0 H0 (R k) σ' H', ⟨rs.length, by simp, Nat.zero_le _, ev, hq, G, e1, s, ?_⟩, ?_⟩
  · have := E1.gone' j
    show Env b H0 G H σ ((ρ.set i _).set j none)
    rw [show mutN f 0 (rs.map .node) = rs.map .node from rfl, rho_same et]
    exact this
  rintro k m σ' H' ⟨rfl, hk, ei', hq', at1⟩
  obtain ⟨G2, e2, s2, E2⟩ := id at1
  have hq2 : SqL X.K H' q0 vs := .inl (.inl hq')
  by_cases hlt : k < rs.length
  · refine .inr ⟨⟨vs, vs[k]'(by omega), hq2, List.getElem?_eq_getElem _⟩, fun σ2 H2 => k + 1 ≤ rs.length ∧ σ2[i]? = some (some (.ref q0)) ∧ H2 q0 = some (.lst vs) ∧ At X.K b F G0 H0 (R (k + 1)) σ2 H2, fun σ2 H2 h => ⟨rs.length - (k + 1), by omega, rfl, h⟩, fun v H3 ⟨eH, yv⟩ => ?_⟩
    subst eH
    have yv := yv vs hq2
    have en : (rs.map T.node)[k]? = some (.node rs[k]) := by rw [List.getElem?_map, List.getElem?_eq_getElem hlt]; rfl
    obtain ⟨en1, en2⟩ := mutN_get f en
    have E3 := E2.gone j (some v)
    rw [Rj k] at E3
    have ei3 : (σ'.set j (some v))[i]? = some (some (.ref q0)) := by rw [List.getElem?_set_ne (Ne.symm hij)]; exact ei'
    have ej3 : (σ'.set j (some v))[j]? = some (some v) := List.getElem?_set_self (by rw [E2.len, Rl]; exact hjl)
    obtain ⟨q2, vs2, p2, ws2, fw, ev2, hq3, hl2, hn2, hp2, qp, tr5, at5⟩ := own_inner g0 e2 s2 E3 (Ri k) en1
    rw [ei3] at ev2
    cases ev2
    rw [hq'] at hq3
    cases hq3
    rw [yv] at hn2
    cases hn2
    have at6 := at5 [] [] [] .nil fun a m => nomatch m
    rw [show T.node [] = .node (f rs[k]) from rfl, en2, Rs] at at6
    refine ⟨_, ej3, .inl ⟨rfl, _, .inl (.inl hp2)⟩, p2, ws2, rfl, rfl, hp2, hlt, ei3, ?_, at6⟩
    rw [upd_ne qp]
    exact hq'
  · have ek : k = rs.length := by omega
    subst ek
    refine .inl ⟨⟨vs, hq2, by omega⟩, eo.nx _ _ _ q ?_⟩
    have e : R rs.length = (ρ.set i (some (.node (rs.map fun us => .node [])))).set j none := by
      show (ρ.set i (some (.node (mutN f rs.length (rs.map .node))))).set j none = _
      rw [mutN_all]
    rw [← e]
    exact at1
theorem TrAll.toRp {b : Option Addr} {G H : Hp} : ∀ {fp : List Addr} {vs : List V} {ds : List PyData}, TrAll b G H fp vs (ds.map T.leaf) → RpAll b G vs ds
  | _, _, [], h => by
    cases h
    exact .nil
  | _, _, d :: ds, h => by
    cases h with
    | cons q r k =>
      cases q with
      | leaf rd => exact .cons rd (TrAll.toRp r)
/-- xs.insert(k, e) -/
def dIns (i : Nat) (wk we : WE) : WS := fun C ρ => ∃ ds : List PyData, ρ[i]? = some (some (.node (ds.map .leaf))) ∧ ds.length < lim ∧ wk (C.xc ρ) ρ (asI fun k => (0 ≤ k ∧ k < 2 ^ 62) ∧ we (C.xc ρ) ρ fun t => C.nx (ρ.set i (some (.node ((ds.take k.toNat ++ [t.dat] ++ ds.drop k.toNat).map .leaf)))))
theorem s_ins (i : Nat) {x : Str} {e2 : Expr} {wk : WE} (hk : PE X e2 (tOf X.K X.mg E wk)) (he : PE X e (tOf X.K X.mg E we)) (hN : X.N[i]? = some x := by rfl) (hv : Vis X.env.scope x := by first | exact Or.inl rfl | exact Or.inr (Or.inl rfl) | exact Or.inr (Or.inr rfl)) (hd : (x == ("__debug__" : Str)) = false := by decide) (hcd : (x == ("__classdict__" : Str)) = false := by decide)
    (hsw : swapsWith (.Call (.Attribute (.Name x p) "insert" apos) [e2, e] [] cpos) none pos.line X.env = pure false := by rfl)
    (hbase : attributeBase (.Name x p) "insert" X.env (eval (.Name x p) X.env) = eval (.Name x p) X.env := by rfl)
    (hfew : ((backTo cpos (starEach [e2, e] X.env)).all (fun x => !x.1) && (backToKw cpos (keywordEach [] X.env)).all (fun x => x.1.isSome)
      && decide (([e2, e] : List Expr).length + ([] : List Keyword).length + (if ([] : List Keyword).isEmpty then 0 else 1) < 30)) = true := by rfl)
    (hline : (apos.endLine == cpos.line) = true := by rfl) (hs : starEach [e2, e] X.env = (false, eval e2 X.env) :: starEach [e] X.env := by rfl) (hplain : (backTo cpos (starEach [e] X.env)).any (·.1) = false := by rfl) (hs2 : starEach [e] X.env = (false, eval e X.env) :: starEach [] X.env := by rfl) :
    PS X (.Expr (.Call (.Attribute (.Name x p) "insert" apos) [e2, e] [] cpos) pos) (sOf X.K X.mg E (dIns i wk we)) :=
  PS.of (ps_expr (pe_bm PySem.F.plainAttrs_list PySem.F.slot_list_insert PySem.F.type_list_insert mt_insert (pe_var hN hv hd hcd) (pa_cons hk (pa_cons he pa_nil hs2) hs) hbase hfew hline hs hplain) hsw) fun D σ H ⟨b, F, G0, H0, ρ, C, ⟨ds, et, hl, q⟩, g0, a, eo⟩ => by
  obtain ⟨G, e1, s, hr⟩ := a.site g0 eo
  obtain ⟨q0, vs0, ev, hq0, _, bq, _⟩ := env_node (K := X.K) hr.env et
  refine ⟨_, ev, .inl ⟨rfl, _, .inl (.inl hq0)⟩, b, H0, G, ρ, C.xc ρ, _, q, hr, fun G1 H1 v1 t1 f1 ht1 s1 tr1 fr1 => ?_⟩
  unfold asI at ht1
  split at ht1
  · rename_i k
    obtain ⟨⟨k0, k1⟩, ht1⟩ := ht1
    cases tr1 with
    | leaf r1 =>
      cases r1
      have hr1 := hr.stp s1
      refine tOfD_of ⟨b, H0, G1, ρ, C.xc ρ, fun d => C.nx (ρ.set i (some (.node ((ds.take k.toNat ++ [d] ++ ds.drop k.toNat).map .leaf)))), ht1, hr1, fun G2 H2 v d hd2 s2 hr2 rd => ?_⟩
      have s12 := s1.trans hr.good s2
      obtain ⟨fp, v2, ev2, tr, hB, EX⟩ := hr2.env.take et
      rw [ev] at ev2
      cases ev2
      cases tr with
      | node hp gp bp rr np =>
        rename_i fq vs
        have ra := rr.toRp
        have rn := (((ra.take k.toNat).append (.cons rd .nil)).append (ra.drop k.toNat))
        refine ⟨q0, vs, k, v, rfl, rfl, hp, by rw [ra.len]; exact lim_lt hl, k0, by omega, eo.nx _ _ _ hd2 ?_⟩
        refine At.mut (fp' := [q0]) g0 (e1.trans s12.ex) (s.trans g0 s12) EX ev (List.mem_cons_self ..) hB gp bp (.node upd_same gp bp (TrAll.leaves rn) (fun z => nomatch z)) fun a m => ?_
        rw [List.mem_singleton.mp m]
        exact ⟨hB _ (List.mem_cons_self ..), .inl (List.mem_cons_self ..)⟩
  · exact ht1.elim
end
/-! ### own lists lent for a fresh tree of flat leaves -/
mutual
def flT : T → Bool
  | .leaf d => flatD d
  | .node ts => flTs ts
  | .own _ _ => false
def flTs : List T → Bool
  | [] => true
  | t :: ts => flT t && flTs ts
end
mutual
theorem Tr.fl {b : Option Addr} {G G' H : Hp} : ∀ {fp : List Addr} {v : V} {t : T}, Tr b G H fp v t → flT t = true → (∀ a, a ∈ fp → G' a = none) → Tr b G' H fp v t
  | _, _, _, .leaf r, f, _ => .leaf (pyV_rp r (by simpa [flT] using f) G')
  | _, _, _, .node hp gp bp r n, f, k => .node hp (k _ (List.mem_cons_self ..)) bp (TrAll.fl r (by simpa [flT] using f) fun a m => k a (List.mem_cons_of_mem _ m)) n
  | _, _, _, .own _, f, _ => by simp [flT] at f
theorem TrAll.fl {b : Option Addr} {G G' H : Hp} : ∀ {fp : List Addr} {vs : List V} {ts : List T}, TrAll b G H fp vs ts → flTs ts = true → (∀ a, a ∈ fp → G' a = none) → TrAll b G' H fp vs ts
  | _, _, _, .nil, _, _ => .nil
  | _, _, _, .cons q r d, f, k => by
    rw [flTs, Bool.and_eq_true] at f
    exact .cons (Tr.fl q f.1 fun a m => k a (List.mem_append_left _ m)) (TrAll.fl r f.2 fun a m => k a (List.mem_append_right _ m)) d
end
def dBorF (w : WE) : WE := fun _ ρ P => w noX (frzR ρ) fun t => flT t = true ∧ P t
theorem d_borF {X : Cx} {E : SX} {e : Expr} {w : WE} (h : PE X e (tOf X.K X.mg E w)) : PE X e (tOf X.K X.mg E (dBorF w)) := PE.of h fun σ H Q ⟨b, B, G, ρ, xp, P, p, hr, k⟩ => by
  obtain ⟨G1, ex, h1⟩ := hr.toHere.borrow
  refine ⟨b, B, G1, frzR ρ, noX, _, p, ⟨h1, noXC⟩, fun G' H' v t fp hp s tr fr => ?_⟩
  have st := Stp.back hr.good ex s
  refine k G H' v t fp hp.2 st (tr.fl hp.1 fun a m => ?_) fr
  cases q : G a with
  | none => rfl
  | some o =>
    have := hr.good.ex a o q
    rw [fr a m] at this
    cases this
theorem flTs_ints : ∀ ns : List Int, flTs (ns.map fun i => T.leaf (.int i)) = true
  | [] => rfl
  | n :: ns => by
    show (flT _ && flTs _) = true
    rw [flTs_ints ns]
    rfl
theorem flT_I (ns : List Int) : flT (nodeI ns) = true := flTs_ints ns
theorem flTs_rows : ∀ rows : List (List Int), flTs (rows.map nodeI) = true
  | [] => rfl
  | r :: rows => by
    show (flT _ && flTs _) = true
    rw [flTs_rows rows, flT_I]
    rfl
theorem flT_T (rows : List (List Int)) : flT (nodeT rows) = true := flTs_rows rows
end Dd
/-! x in a list; an own list's settled item; xs[::-1]. -/
namespace Dd
open PySem L2
theorem room65 {k : Nat} {A : Around} (r : Room k A) : A.units + 65 < cLine := by have := r.un; omega
def rdIn : R2D := fun d e P => match e with
  | .list ds => SeqAt.shaped d = true ∧ SeqAt.shaped (.list ds) = true ∧ P (boo (inD d ds))
  | _ => False
def rdNotIn : R2D := fun d e P => match e with
  | .list ds => SeqAt.shaped d = true ∧ SeqAt.shaped (.list ds) = true ∧ P (boo (!inD d ds))
  | _ => False
theorem e_in {d : PyData} {ds : List PyData} {P : T → Prop} : rdIn d (.list ds) P = (SeqAt.shaped d = true ∧ SeqAt.shaped (.list ds) = true ∧ P (boo (inD d ds))) := rfl
theorem e_notIn {d : PyData} {ds : List PyData} {P : T → Prop} : rdNotIn d (.list ds) P = (SeqAt.shaped d = true ∧ SeqAt.shaped (.list ds) = true ∧ P (boo (!inD d ds))) := rfl
theorem asL_I {P : List PyData → Prop} {ns : List Int} : asL P (nodeI ns) = P (intsD ns) := by
  unfold asL
  rw [nodeI_dat]
theorem asL_T {P : List PyData → Prop} {rows : List (List Int)} : asL P (nodeT rows) = P (tabD rows) := by
  unfold asL
  rw [nodeT_dat]
theorem ok_in {K : PySem.W.Frag} : RdOk K (rInD K) rdIn := fun b G H x y d e P Q g rx ry h k => by
  unfold rdIn at h
  split at h
  · obtain ⟨s1, s2, p⟩ := h
    exact ⟨_, _, rp_dp g.ex rx (shaped_lay s1), rp_dp g.ex ry (shaped_lay s2), s1, s2, k G H _ _ [] p g.stp (.leaf (.bl _)) fun _ z => nomatch z⟩
  · exact h.elim
theorem ok_notIn {K : PySem.W.Frag} : RdOk K (rNotInD K) rdNotIn := fun b G H x y d e P Q g rx ry h k => by
  unfold rdNotIn at h
  split at h
  · obtain ⟨s1, s2, p⟩ := h
    exact ⟨_, _, rp_dp g.ex rx (shaped_lay s1), rp_dp g.ex ry (shaped_lay s2), s1, s2, k G H _ _ [] p g.stp (.leaf (.bl _)) fun _ z => nomatch z⟩
  · exact h.elim
section
variable {X : Cx} {E : SX} {e e2 : Expr} {w wa wb we wk : WE} {pos p p1 p2 p3 : Pos}
theorem d_inL (hu : X.A.units + 65 < cLine) (ha : PE X e (tOf X.K X.mg E wa)) (hb : PE X e2 (tOf X.K X.mg E wb)) (hm : behindInMarks .In e2 = false := by rfl) : PE X (.Compare e [.In] [e2] pos) (tOf X.K X.mg E (dOp rdIn wa wb)) := d_cmp (op_inD hu) ok_in ha hb hm
theorem d_notInL (hu : X.A.units + 65 < cLine) (ha : PE X e (tOf X.K X.mg E wa)) (hb : PE X e2 (tOf X.K X.mg E wb)) (hm : behindInMarks .NotIn e2 = false := by rfl) : PE X (.Compare e [.NotIn] [e2] pos) (tOf X.K X.mg E (dOp rdNotIn wa wb)) := d_cmp (op_notInD hu) ok_notIn ha hb hm
theorem t_inL (hu : X.A.units + 65 < cLine) (ha : PE X e (tOf X.K X.mg E wa)) (hb : PE X e2 (tOf X.K X.mg E wb)) (hm : behindInMarks .In e2 = false := by rfl) : PT X (.Compare e [.In] [e2] pos) (ttOf X.K X.mg E (dTst (dOp rdIn wa wb))) := t_cmp (op_inD hu) ok_in ha hb hm
theorem t_notInL (hu : X.A.units + 65 < cLine) (ha : PE X e (tOf X.K X.mg E wa)) (hb : PE X e2 (tOf X.K X.mg E wb)) (hm : behindInMarks .NotIn e2 = false := by rfl) : PT X (.Compare e [.NotIn] [e2] pos) (ttOf X.K X.mg E (dTst (dOp rdNotIn wa wb))) := t_cmp (op_notInD hu) ok_notIn ha hb hm
/-- x[k], x an own list, the item settled -/
def dOix (i : Nat) (wk : WE) : WE := fun x ρ P => ∃ ts, ρ[i]? = some (some (.node ts)) ∧ wk x ρ (asI fun k => ∃ n d, ixN ts.length k = some n ∧ ts[n]? = some (.leaf d) ∧ P (.leaf d))
theorem d_oix (i : Nat) {x : Str} (hk : PE X e2 (tOf X.K X.mg E wk)) (hN : X.N[i]? = some x := by rfl) (hv : Vis X.env.scope x := by first | exact Or.inl rfl | exact Or.inr (Or.inl rfl) | exact Or.inr (Or.inr rfl)) (hd : (x == ("__debug__" : Str)) = false := by decide) (hcd : (x == ("__classdict__" : Str)) = false := by decide) (hs : PlainIx e2 := by exact fun _ _ => rfl) :
    PE X (.Subscript (.Name x p) e2 pos) (tOf X.K X.mg E (dOix i wk)) := PE.of (pe_ix ix_list (pe_var hN hv hd hcd) hk hs) fun σ H Q ⟨b, B, G, ρ, xp, P, ⟨ts, et, q⟩, hr, k⟩ => by
  obtain ⟨q0, vs0, ev, hq0, hl0, bq, _⟩ := env_node (K := X.K) hr.env et
  refine ⟨_, ev, b, B, G, ρ, xp, _, q, hr, fun G1 H1 v1 t1 f1 ht1 s1 tr1 fr1 => ?_⟩
  unfold asI at ht1
  split at ht1
  · obtain ⟨n, d, hn, en, hp⟩ := ht1
    cases tr1 with
    | leaf r1 =>
      cases r1
      have hr1 := hr.stp s1
      obtain ⟨q1, vs1, ev1, hq1, hl1, bq1, at1⟩ := env_node (K := X.K) hr1.env et
      rw [ev] at ev1
      cases ev1
      obtain ⟨u, hu, ru⟩ := at1 _ _ en
      refine ⟨q0, vs1, _, u, rfl, rfl, .inl (.inl hq1), ?_, (k.stp hr.good s1).leaf s1.good hp ru⟩
      unfold L2.atI
      rw [hl1, hn]
      exact hu
  · exact ht1.elim
/-- xs[::-1] -/
theorem RpAll.rev {b : Option Addr} {G : Hp} : ∀ {vs : List V} {ds : List PyData}, RpAll b G vs ds → RpAll b G vs.reverse ds.reverse
  | _, _, .nil => .nil
  | _, _, .cons h r => by
    rw [List.reverse_cons, List.reverse_cons]
    exact (RpAll.rev r).append (.cons h .nil)
def dRev (w : WE) : WE := fun x ρ P => w x ρ (asL fun ds => P (.node (ds.reverse.map .leaf)))
theorem d_rev {kk : Nat} {q1 q2 q3 : Pos} (he : PE X e (tOf X.K X.mg E w)) : PE X (.Subscript e (.Slice none none (some (.UnaryOp .USub (.Constant (.int 1) kk q1) q2)) q3) pos) (tOf X.K X.mg E (dRev w)) := PE.of (pe_revL he) fun σ H Q ⟨b, B, G, ρ, xp, P, p, hr, k⟩ => tOfD_of ⟨b, B, G, ρ, xp, fun d => match d with
  | .list ds => P (.node (ds.reverse.map .leaf))
  | _ => False, p, hr, fun G1 H1 v d hp s hr1 r => by
    try dsimp only at hp
    split at hp
    · cases r with
      | lst h1 r1 => exact ⟨_, _, rfl, .inl (.inl (hr1.good.ex _ _ h1)), fun a ha => new_lst hr1.good r1.rev hp (k.stp hr.good s) ha⟩
    · exact hp.elim⟩
end
end Dd
/-! Ties, faults of tables, the star. -/
namespace Dd
open PySem L2
def tieD (p : Nat × Nat) : PyData := .tuple [.int p.1, .int p.2]
def tiesD (ts : List (Nat × Nat)) : List PyData := ts.map tieD
abbrev Ties := Option (List (Nat × Nat))
def tiesO : Ties → PyData
  | none => .none
  | some ts => .list (tiesD ts)
def tiesT : Ties → T
  | none => non
  | some ts => .node ((tiesD ts).map .leaf)
theorem tiesT_dat (o : Ties) : (tiesT o).dat = tiesO o := by
  cases o with
  | none => rfl
  | some ts => exact dat_leaves0 _
def tieB : Ties → Nat → Nat → Bool
  | none, i, j => decide (i ≠ j)
  | some ts, i, j => decide ((i, j) ∈ ts) || decide ((j, i) ∈ ts)
theorem tieB_sym (o : Ties) (i j : Nat) : tieB o i j = tieB o j i := by
  cases o with
  | none => exact decide_eq_decide.mpr ⟨Ne.symm, Ne.symm⟩
  | some ts => exact Bool.or_comm ..
/-- ties of n members -/
def TiesOk (n : Nat) : Ties → Prop
  | none => True
  | some ts => ts.length < 1000 ∧ ∀ p ∈ ts, p.1 < n ∧ p.2 < n ∧ p.1 ≠ p.2
theorem tieB_self {n : Nat} {o : Ties} (h : TiesOk n o) (i : Nat) : tieB o i i = false := by
  cases o with
  | none => simp [tieB]
  | some ts =>
    have : (i, i) ∉ ts := fun m => (h.2 _ m).2.2 rfl
    simp [tieB, this]
theorem tieD_eqv (p q : Nat × Nat) : PyData.eqv (tieD p) (tieD q) = decide (p = q) := by
  obtain ⟨a, b⟩ := p
  obtain ⟨c, d⟩ := q
  by_cases h : a = c ∧ b = d
  · obtain ⟨rfl, rfl⟩ := h
    rw [decide_eq_true rfl]
    simp [tieD, PyData.eqv, PyData.eqvAll]
  · rw [decide_eq_false fun e => h (by cases e; exact ⟨rfl, rfl⟩)]
    simp only [tieD, PyData.eqv, PyData.eqvAll, Bool.and_true, Bool.and_eq_false_iff, beq_eq_false_iff_ne, ne_eq, decide_eq_false_iff_not]
    omega
theorem inD_tie (p : Nat × Nat) : ∀ ts : List (Nat × Nat), inD (tieD p) (tiesD ts) = decide (p ∈ ts)
  | [] => by simp [inD, tiesD]
  | q :: ts => by
    show (PyData.eqv (tieD q) (tieD p) || inD (tieD p) (tiesD ts)) = _
    rw [inD_tie p ts, tieD_eqv]
    by_cases h : q = p
    · simp [h]
    · have h' : ¬ p = q := fun e => h e.symm
      simp [h, h']
theorem sm_tie {n : Nat} {p : Nat × Nat} : Sm (n + 1) (tieD p) := ⟨by show 2 < 1000; decide, fun x hx => by
  rcases List.mem_cons.mp hx with z | z
  · subst z; exact sm_int
  · rw [List.mem_singleton.mp z]; exact sm_int⟩
theorem sm_ties {n : Nat} {ts : List (Nat × Nat)} (h : ts.length < 1000) : Sm (n + 2) (.list (tiesD ts)) := ⟨by unfold tiesD; rw [List.length_map]; exact h, fun x hx => by
  obtain ⟨p, _, rfl⟩ := List.mem_map.mp hx
  exact sm_tie⟩
theorem e_eqS {n : Nat} {d : PyData} {P : T → Prop} (h : Sm n d) (hn : n ≤ 64) (q : P (boo true)) : rdEq d d P := by
  have h1 := h.shaped hn
  have h2 := h.eqv hn
  cases d with
  | int i => show P (boo (decide (i = i))); rw [decide_eq_true rfl]; exact q
  | str i => show P (boo (decide (i = i))); rw [decide_eq_true rfl]; exact q
  | bool i => show P (boo (decide (i = i))); rw [decide_eq_true rfl]; exact q
  | _ => exact ⟨h1, h1, by rw [h2]; exact q⟩
theorem e_neS {n : Nat} {d : PyData} {P : T → Prop} (h : Sm n d) (hn : n ≤ 64) (q : P (boo false)) : rdNe d d P := by
  have h1 := h.shaped hn
  have h2 := h.eqv hn
  cases d with
  | int i => show P (boo (decide (i ≠ i))); rw [decide_eq_false fun z => z rfl]; exact q
  | str i => show P (boo (decide (i ≠ i))); rw [decide_eq_false fun z => z rfl]; exact q
  | bool i => show P (boo (decide (i ≠ i))); rw [decide_eq_false fun z => z rfl]; exact q
  | _ => exact ⟨h1, h1, by rw [h2]; exact q⟩
theorem sm_tiesO {m n : Nat} {o : Ties} (h : TiesOk m o) : Sm (n + 2) (tiesO o) := by
  cases o with
  | none => exact sm_none
  | some ts => exact sm_ties h.1
/-! the first one found -/
def firstN {α : Type} (f : Nat → Option α) : Nat → Option α
  | 0 => none
  | n + 1 => (firstN f n).or (f n)
theorem firstN_none {α : Type} {f : Nat → Option α} : ∀ {n : Nat}, firstN f n = none ↔ ∀ i, i < n → f i = none
  | 0 => ⟨fun _ i h => absurd h (Nat.not_lt_zero _), fun _ => rfl⟩
  | n + 1 => by
    show (firstN f n).or (f n) = none ↔ _
    rw [Option.or_eq_none_iff, firstN_none]
    refine ⟨fun ⟨h1, h2⟩ i hi => ?_, fun h => ⟨fun i hi => h i (by omega), h n (by omega)⟩⟩
    by_cases c : i = n
    · rw [c]; exact h2
    · exact h1 i (by omega)
theorem firstN_some {α : Type} {f : Nat → Option α} {i : Nat} {d : α} (h0 : firstN f i = none) (h1 : f i = some d) : ∀ {n : Nat}, i < n → firstN f n = some d
  | 0, h => absurd h (Nat.not_lt_zero _)
  | n + 1, h => by
    show (firstN f n).or (f n) = some d
    by_cases c : i = n
    · subst c
      rw [h0, h1]
      rfl
    · rw [firstN_some h0 h1 (show i < n by omega)]
      rfl
theorem firstN_step {α : Type} {f : Nat → Option α} {i : Nat} (h0 : firstN f i = none) (h1 : f i = none) : firstN f (i + 1) = none := by
  show (firstN f i).or (f i) = none
  rw [h0, h1]
  rfl
def fltD (w : Str) (i j : Int) : PyData := .tuple [.str w, .int i, .int j]
def fltAt (o : Ties) (rows : List (List Int)) (i j : Nat) : Option PyData :=
  if at2 rows i j < 0 then some (fltD "low" i j)
  else if i = j ∧ at2 rows i j ≠ 0 then some (fltD "self" i i)
  else if at2 rows i j > 0 ∧ tieB o i j = false then some (fltD "lone" i j)
  else if at2 rows i j ≠ at2 rows j i then some (fltD "odd" i j)
  else none
def fltRow (xs : List Int) (o : Ties) (rows : List (List Int)) (n i : Nat) : Option PyData :=
  (firstN (fltAt o rows i) n).or (if (rows.getD i []).sum > 2 * xs.getD i 0 then some (fltD "over" i (-1)) else none)
def flt (xs : List Int) (o : Ties) (rows : List (List Int)) (n : Nat) : Option PyData := firstN (fltRow xs o rows n) n
def optD : Option PyData → PyData
  | none => .none
  | some d => d
theorem fltAt_none {o : Ties} {rows : List (List Int)} {i j : Nat} : fltAt o rows i j = none ↔ 0 ≤ at2 rows i j ∧ (i = j → at2 rows i j = 0) ∧ (0 < at2 rows i j → tieB o i j = true) ∧ at2 rows i j = at2 rows j i := by
  unfold fltAt
  by_cases h1 : at2 rows i j < 0
  · rw [if_pos h1]
    exact ⟨fun h => (by cases h), fun h => by omega⟩
  · rw [if_neg h1]
    by_cases h2 : i = j ∧ at2 rows i j ≠ 0
    · rw [if_pos h2]
      exact ⟨fun h => (by cases h), fun h => absurd (h.2.1 h2.1) h2.2⟩
    · rw [if_neg h2]
      by_cases h3 : at2 rows i j > 0 ∧ tieB o i j = false
      · rw [if_pos h3]
        exact ⟨fun h => (by cases h), fun h => by rw [h.2.2.1 h3.1] at h3; exact absurd h3.2 (by decide)⟩
      · rw [if_neg h3]
        by_cases h4 : at2 rows i j ≠ at2 rows j i
        · rw [if_pos h4]
          exact ⟨fun h => (by cases h), fun h => absurd h.2.2.2 h4⟩
        · rw [if_neg h4]
          refine ⟨fun _ => ⟨by omega, fun e => ?_, fun hp => ?_, ?_⟩, fun _ => rfl⟩
          · exact Decidable.byContradiction fun z => h2 ⟨e, z⟩
          · cases q : tieB o i j with
            | true => rfl
            | false => exact absurd ⟨hp, q⟩ h3
          · exact Decidable.byContradiction fun z => h4 z
structure NoFlt (xs : List Int) (o : Ties) (rows : List (List Int)) (n : Nat) : Prop where
  nn : ∀ i j, i < n → j < n → 0 ≤ at2 rows i j
  self : ∀ i, i < n → at2 rows i i = 0
  tie : ∀ i j, i < n → j < n → 0 < at2 rows i j → tieB o i j = true
  sym : ∀ i j, i < n → j < n → at2 rows i j = at2 rows j i
  sum : ∀ i, i < n → (rows.getD i []).sum ≤ 2 * xs.getD i 0
theorem flt_none {xs : List Int} {o : Ties} {rows : List (List Int)} {n : Nat} : flt xs o rows n = none ↔ NoFlt xs o rows n := by
  unfold flt
  rw [firstN_none]
  have key : ∀ i, fltRow xs o rows n i = none ↔ (∀ j, j < n → fltAt o rows i j = none) ∧ (rows.getD i []).sum ≤ 2 * xs.getD i 0 := fun i => by
    unfold fltRow
    rw [Option.or_eq_none_iff, firstN_none]
    refine and_congr_right fun _ => ?_
    by_cases c : (rows.getD i []).sum > 2 * xs.getD i 0
    · rw [if_pos c]
      exact ⟨fun h => (by cases h), fun h => by omega⟩
    · rw [if_neg c]
      exact ⟨fun _ => by omega, fun _ => rfl⟩
  refine ⟨fun h => ?_, fun h i hi => (key i).mpr ⟨fun j hj => fltAt_none.mpr ⟨h.nn i j hi hj, fun e => by subst e; exact h.self i hi, h.tie i j hi hj, h.sym i j hi hj⟩, h.sum i hi⟩⟩
  have q := fun i hi => (key i).mp (h i hi)
  have r := fun i j hi hj => fltAt_none.mp ((q i hi).1 j hj)
  exact ⟨fun i j hi hj => (r i j hi hj).1, fun i hi => (r i i hi hi).2.1 rfl, fun i j hi hj => (r i j hi hj).2.2.1, fun i j hi hj => (r i j hi hj).2.2.2, fun i hi => (q i hi).2⟩
/-! covers -/
def CovOk (n : Nat) (o : Ties) (cs : List Int) : Prop := ∀ i j, i < n → j < n → tieB o i j = true → 2 ≤ cs.getD i 0 + cs.getD j 0
theorem cov_half {n : Nat} {o : Ties} {cs : List Int} (ho : TiesOk n o) (h : ∀ i j, i < n → j < i → tieB o i j = true → 2 ≤ cs.getD i 0 + cs.getD j 0) : CovOk n o cs := fun i j hi hj ht => by
  rcases Nat.lt_trichotomy i j with c | c | c
  · rw [tieB_sym] at ht
    have := h j i hj c ht
    omega
  · subst c
    rw [tieB_self ho] at ht
    cases ht
  · exact h i j hi c ht
theorem bool_iff {a b : Bool} {p : Prop} (h : a = true ↔ p) (k : b = true ↔ p) : a = b := by
  cases a with
  | true => exact (k.mpr (h.mp rfl)).symm
  | false =>
    cases b with
    | false => rfl
    | true => exact h.mpr (k.mp rfl)
def wsum (n : Nat) (xs cs : List Int) : Int := sumN (fun i => xs.getD i 0 * cs.getD i 0) n
/-! who is near -/
def natI (ns : List Nat) : List Int := ns.map fun (i : Nat) => (i : Int)
theorem natI_len (ns : List Nat) : (natI ns).length = ns.length := List.length_map _
theorem lc_nats {wi : WI} {wg : WG} {we : WE} {x : XP} {ρ : Rho} {vs : List Nat} {P : T → Prop} (ns : List Nat) (f : Nat → T) (hi : ∀ P : List PyData → Prop, P (intsD (natI ns)) → wi x ρ P) (hl : ns.length < lim)
    (he : ∀ (a : Nat) (Q : T → Prop) (R : Prop), a ∈ ns → Q (f a) → wg (.int (a : Nat)) (wipeR ρ vs) fun ρ2 => (true = true → we noX ρ2 Q) ∧ (true = false → R)) (h : P (.node (ns.map f))) : dLc wi wg dYes we vs x ρ P := by
  refine lc_ints (natI ns) (fun i => f i.toNat) hi (by rw [natI_len]; exact hl) (fun a Q R ha hQ => ?_) ?_
  · obtain ⟨k, hk, rfl⟩ := List.mem_map.mp ha
    rw [Int.toNat_natCast] at hQ
    exact he k Q R hk hQ
  · rw [show (natI ns).map (fun i => f i.toNat) = ns.map f by unfold natI; rw [List.map_map]; exact List.map_congr_left fun a _ => by show f ((a : Int)).toNat = f a; rw [Int.toNat_natCast]]
    exact h
theorem node_bools {α : Type} (l : List α) (g : α → Bool) : (T.node (l.map fun b => boo (g b))).dat = .list ((l.map g).map .bool) := by
  rw [dat_eq, List.map_map, List.map_map]
  rfl
theorem any_map {α : Type} (l : List α) (g : α → Bool) : (l.map g).any id = l.any g := by
  rw [List.any_map]
  rfl
def nearL (o : Ties) (n : Nat) (ss : List Nat) : List Nat := (List.range n).filter fun a => ss.any fun b => tieB o a b
theorem nearL_len (o : Ties) (n : Nat) (ss : List Nat) : (nearL o n ss).length ≤ n := by
  have := List.length_filter_le (fun a => ss.any fun b => tieB o a b) (List.range n)
  rw [List.length_range] at this
  exact this
theorem nearL_lt {o : Ties} {n : Nat} {ss : List Nat} {a : Nat} (h : a ∈ nearL o n ss) : a < n := List.mem_range.mp (List.mem_filter.mp h).1
def wOf (xs : List Int) (l : List Nat) : Int := (l.map fun a => xs.getD a 0).sum
/-! the star -/
def stA (xs : List Int) (h i j : Nat) : Int := if i = h ∧ j ≠ h then 2 * xs.getD j 0 else if j = h ∧ i ≠ h then 2 * xs.getD i 0 else 0
def stT (xs : List Int) (h : Nat) : List (List Int) := (List.range xs.length).map fun i => (List.range xs.length).map (stA xs h i)
theorem stT_len (xs : List Int) (h : Nat) : (stT xs h).length = xs.length := by simp [stT]
theorem stT_row (xs : List Int) (h : Nat) : ∀ r ∈ stT xs h, r.length = xs.length := fun r hr => by
  obtain ⟨i, _, rfl⟩ := List.mem_map.mp hr
  simp
theorem stT_at {xs : List Int} {h i j : Nat} (hi : i < xs.length) (hj : j < xs.length) : at2 (stT xs h) i j = stA xs h i j := by
  show ((stT xs h).getD i []).getD j 0 = _
  unfold stT
  rw [range_getD _ _ hi, range_getD _ _ hj]
theorem st_sum {xs : List Int} {h i : Nat} (hh : h < xs.length) (hi : i < xs.length) : ((stT xs h).getD i []).sum = if i = h then 2 * (xs.sum - xs.getD h 0) else 2 * xs.getD i 0 := by
  unfold stT
  rw [range_getD _ _ hi, sum_range]
  by_cases c : i = h
  · subst c
    rw [if_pos rfl]
    have e : sumN (stA xs i i) xs.length = sumN (fun k => if k = i then 0 else 2 * xs.getD k 0) xs.length := sumN_congr fun j _ => by
      unfold stA
      by_cases d : j = i
      · rw [if_neg (fun z => z.2 d), if_neg (fun z => z.2 rfl), if_pos d]
      · rw [if_pos ⟨rfl, d⟩, if_neg d]
    have e2 := sumN_but (c := fun k => 2 * xs.getD k 0) hi
    have e3 : sumN (fun k => 2 * xs.getD k 0) xs.length = 2 * xs.sum := by rw [sumN_mul, ← sum_getD]
    rw [e]
    omega
  · rw [if_neg c]
    have e := sumN_one (c := stA xs h i) (d := h) hh fun j _ hj => by
      unfold stA
      rw [if_neg (fun z => c z.1), if_neg (fun z => hj z.1)]
    rw [e]
    unfold stA
    rw [if_neg (fun z => c z.1), if_pos ⟨rfl, c⟩]
def whT (xs : List Int) : Option Nat → List (List Int)
  | none => rgT xs
  | some h => stT xs h
theorem whT_len (xs : List Int) (o : Option Nat) : (whT xs o).length = xs.length := by cases o; exact rgT_len xs; exact stT_len xs _
theorem whT_row (xs : List Int) (o : Option Nat) : ∀ r ∈ whT xs o, r.length = xs.length := by cases o; exact rgT_row xs; exact stT_row xs _
theorem rgT_sum {xs : List Int} (h0 : ∀ x ∈ xs, 0 ≤ x) {i : Nat} (hi : i < xs.length) : ((rgT xs).getD i []).sum = 2 * xs.getD i 0 := by
  unfold rgT
  rw [range_getD _ _ hi, sum_range, rg_sum h0 hi]
theorem whT_flt {xs : List Int} (h0 : ∀ x ∈ xs, 0 ≤ x) {o : Option Nat} (yes : ∀ k, o = some k → k < xs.length ∧ xs.sum < 2 * xs.getD k 0) (no : o = none → ∀ k, k < xs.length → ¬ xs.sum < 2 * xs.getD k 0) : NoFlt xs none (whT xs o) xs.length := by
  cases o with
  | none =>
    refine ⟨fun i j hi hj => ?_, fun i hi => ?_, fun i j hi hj hp => ?_, fun i j hi hj => ?_, fun i hi => ?_⟩
    · show 0 ≤ at2 (rgT xs) i j
      rw [rgT_at hi hj]; exact rg_nn xs i j
    · show at2 (rgT xs) i i = 0
      rw [rgT_at hi hi, rg_self h0]
      have := no rfl i hi
      omega
    · refine decide_eq_true fun e => ?_
      subst e
      have hp : 0 < at2 (rgT xs) i i := hp
      rw [rgT_at hi hi, rg_self h0] at hp
      have := no rfl i hi
      omega
    · show at2 (rgT xs) i j = at2 (rgT xs) j i
      rw [rgT_at hi hj, rgT_at hj hi]; exact rg_sym xs i j
    · show ((rgT xs).getD i []).sum ≤ _
      rw [rgT_sum h0 hi]
      exact Int.le_refl _
  | some h =>
    obtain ⟨hh, hw⟩ := yes h rfl
    refine ⟨fun i j hi hj => ?_, fun i hi => ?_, fun i j hi hj hp => ?_, fun i j hi hj => ?_, fun i hi => ?_⟩
    · show 0 ≤ at2 (stT xs h) i j
      rw [stT_at hi hj]
      have := nn_getD h0 i
      have := nn_getD h0 j
      unfold stA
      split
      · omega
      · split <;> omega
    · show at2 (stT xs h) i i = 0
      rw [stT_at hi hi]
      unfold stA
      rw [if_neg (fun z => z.2 z.1), if_neg (fun z => z.2 z.1)]
    · refine decide_eq_true fun e => ?_
      subst e
      have hp : 0 < at2 (stT xs h) i i := hp
      rw [stT_at hi hi] at hp
      unfold stA at hp
      rw [if_neg (fun z => z.2 z.1), if_neg (fun z => z.2 z.1)] at hp
      exact absurd hp (by decide)
    · show at2 (stT xs h) i j = at2 (stT xs h) j i
      rw [stT_at hi hj, stT_at hj hi]
      unfold stA
      by_cases c1 : i = h
      · by_cases c2 : j = h
        · rw [c1, c2]
        · rw [if_pos ⟨c1, c2⟩, if_neg (fun z => c2 z.1), if_pos ⟨c1, c2⟩]
      · by_cases c2 : j = h
        · rw [if_neg (fun z => c1 z.1), if_pos ⟨c2, c1⟩, if_pos ⟨c2, c1⟩]
        · rw [if_neg (fun z => c1 z.1), if_neg (fun z => c2 z.1), if_neg (fun z => c2 z.1), if_neg (fun z => c1 z.1)]
    · show ((stT xs h).getD i []).sum ≤ _
      rw [st_sum hh hi]
      split
      · rename_i c
        rw [c]
        omega
      · exact Int.le_refl _
end Dd
/-! Tables laid within weights, covers above them. -/
namespace Dd
open PySem L2
theorem fltAt_tup {o : Ties} {rows : List (List Int)} {i j : Nat} {d : PyData} (h : fltAt o rows i j = some d) : ∃ w a b, d = fltD w a b := by
  unfold fltAt at h
  split at h
  · cases h; exact ⟨_, _, _, rfl⟩
  · split at h
    · cases h; exact ⟨_, _, _, rfl⟩
    · split at h
      · cases h; exact ⟨_, _, _, rfl⟩
      · split at h
        · cases h; exact ⟨_, _, _, rfl⟩
        · cases h
theorem sum_set : ∀ {xs : List Int} {j : Nat} {v : Int}, j < xs.length → (xs.set j v).sum = xs.sum - xs.getD j 0 + v
  | [], j, v, h => by simp at h
  | x :: xs, 0, v, h => by
    rw [List.set_cons_zero, List.sum_cons, List.sum_cons]
    show v + xs.sum = x + xs.sum - x + v
    omega
  | x :: xs, j + 1, v, h => by
    have h' : j < xs.length := by simpa using h
    rw [List.set_cons_succ, List.sum_cons, List.sum_cons, sum_set h']
    show x + (xs.sum - xs.getD j 0 + v) = x + xs.sum - xs.getD j 0 + v
    omega
def rs (rows : List (List Int)) (k : Nat) : Int := (rows.getD k []).sum
theorem rs_set2 {n : Nat} {rows : List (List Int)} (hl : rows.length = n) (hr : ∀ r ∈ rows, r.length = n) {i j : Nat} (hi : i < n) (hj : j < n) (v : Int) (k : Nat) : rs (set2 rows i j v) k = if k = i then rs rows i - at2 rows i j + v else rs rows k := by
  unfold rs set2
  have ri := getD_len hr (show i < rows.length by omega)
  by_cases c : k = i
  · subst c
    rw [if_pos rfl, List.getD_eq_getElem?_getD, List.getElem?_set_self (by omega)]
    show ((rows.getD k []).set j v).sum = _
    rw [sum_set (by omega)]
    rfl
  · rw [if_neg c, List.getD_eq_getElem?_getD, List.getElem?_set_ne (Ne.symm c), ← List.getD_eq_getElem?_getD]
theorem rs_eq {n : Nat} {rows : List (List Int)} (hl : rows.length = n) (hr : ∀ r ∈ rows, r.length = n) {k : Nat} (hk : k < n) : rs rows k = sumN (fun j => at2 rows k j) n := by
  unfold rs
  have rk := getD_len hr (show k < rows.length by omega)
  rw [sum_getD, rk]
  rfl
/-- what is being laid -/
structure LT (n : Nat) (xs : List Int) (o : Ties) (rows : List (List Int)) (left : List Int) (i j : Nat) : Prop where
  rl : rows.length = n
  rr : ∀ r ∈ rows, r.length = n
  ll : left.length = n
  ln : ∀ k, k < n → 0 ≤ left.getD k 0
  le : ∀ k, k < n → left.getD k 0 + rs rows k = 2 * xs.getD k 0
  nn : ∀ a b, a < n → b < n → 0 ≤ at2 rows a b
  self : ∀ a, a < n → at2 rows a a = 0
  tie : ∀ a b, a < n → b < n → 0 < at2 rows a b → tieB o a b = true
  sym : ∀ a b, a < n → b < n → at2 rows a b = at2 rows b a
  zer : ∀ a b, a < n → b < a → ¬ (a < i ∨ (a = i ∧ b < j)) → at2 rows a b = 0
theorem LT.next {n : Nat} {xs : List Int} {o : Ties} {rows : List (List Int)} {left : List Int} {i j : Nat} (h : LT n xs o rows left i j) : LT n xs o rows left i (j + 1) :=
  { h with zer := fun a b ha hb hv => h.zer a b ha hb fun z => hv (by omega) }
theorem LT.row {n : Nat} {xs : List Int} {o : Ties} {rows : List (List Int)} {left : List Int} {i : Nat} (h : LT n xs o rows left i i) : LT n xs o rows left (i + 1) 0 :=
  { h with zer := fun a b ha hb hv => h.zer a b ha hb fun z => hv (by omega) }
theorem LT.lay {n : Nat} {xs : List Int} {o : Ties} {rows : List (List Int)} {left : List Int} {i j : Nat} (h : LT n xs o rows left i j) (hi : i < n) (hj : j < i) (ht : tieB o i j = true) {v : Int} (v0 : 0 ≤ v) (v1 : v ≤ left.getD i 0) (v2 : v ≤ left.getD j 0) :
    LT n xs o (set2 (set2 rows i j v) j i v) ((left.set i (left.getD i 0 - v)).set j ((left.set i (left.getD i 0 - v)).getD j 0 - v)) i (j + 1) := by
  have hj' : j < n := by omega
  have l2 := set2_len rows i j v
  have r2 := set2_row h.rl h.rr hi v (j := j)
  have z1 := h.zer i j hi hj (by omega)
  have z2 : at2 rows j i = 0 := by rw [h.sym j i hj' hi]; exact z1
  have at' : ∀ a b, at2 (set2 (set2 rows i j v) j i v) a b = if a = j ∧ b = i then v else if a = i ∧ b = j then v else at2 rows a b := fun a b => by
    rw [at2_set2 (by rw [l2]; exact h.rl) r2 hj' hi, at2_set2 h.rl h.rr hi hj']
  have gl : ∀ k, ((left.set i (left.getD i 0 - v)).set j ((left.set i (left.getD i 0 - v)).getD j 0 - v)).getD k 0 = if k = j then left.getD j 0 - v else if k = i then left.getD i 0 - v else left.getD k 0 := fun k => by
    rw [getD_set (by rw [List.length_set, h.ll]; exact hj'), getD_set (by rw [h.ll]; exact hi), getD_set (by rw [h.ll]; exact hi), if_neg (show ¬ j = i by omega)]
  refine ⟨by rw [set2_len, l2]; exact h.rl, set2_row (by rw [l2]; exact h.rl) r2 hj' v, by rw [List.length_set, List.length_set]; exact h.ll, fun k hk => ?_, fun k hk => ?_, fun a b ha hb => ?_, fun a ha => ?_, fun a b ha hb hp => ?_, fun a b ha hb => ?_, fun a b ha hb hv => ?_⟩
  · rw [gl]
    have := h.ln k hk
    split
    · omega
    · split <;> omega
  · rw [gl, rs_set2 (by rw [l2]; exact h.rl) r2 hj' hi, rs_set2 h.rl h.rr hi hj', rs_set2 h.rl h.rr hi hj', at2_set2 h.rl h.rr hi hj', if_neg (show ¬ (j = i ∧ i = j) by omega), if_neg (show ¬ j = i by omega), z1, z2]
    have e1 := h.le k hk
    have e2 := h.le i hi
    have e3 := h.le j hj'
    by_cases c : k = j
    · rw [if_pos c, if_pos c, c]
      omega
    · rw [if_neg c, if_neg c]
      by_cases d : k = i
      · rw [if_pos d, if_pos d, d]
        omega
      · rw [if_neg d, if_neg d]
        exact e1
  · rw [at']
    have := h.nn a b ha hb
    split
    · exact v0
    · split
      · exact v0
      · exact this
  · rw [at', if_neg (by omega), if_neg (by omega)]
    exact h.self a ha
  · rw [at'] at hp
    by_cases c : a = j ∧ b = i
    · rw [c.1, c.2, tieB_sym]; exact ht
    · rw [if_neg c] at hp
      by_cases d : a = i ∧ b = j
      · rw [d.1, d.2]; exact ht
      · rw [if_neg d] at hp
        exact h.tie a b ha hb hp
  · rw [at', at', h.sym a b ha hb]
    by_cases c : a = j ∧ b = i
    · rw [if_pos c, if_neg (show ¬ (b = j ∧ a = i) by omega), if_pos ⟨c.2, c.1⟩]
    · rw [if_neg c]
      by_cases d : a = i ∧ b = j
      · rw [if_pos d, if_pos ⟨d.2, d.1⟩]
      · rw [if_neg d, if_neg (show ¬ (b = j ∧ a = i) by omega), if_neg (show ¬ (b = i ∧ a = j) by omega)]
  · rw [at', if_neg (by omega), if_neg (by omega)]
    exact h.zer a b ha hb (by omega)
theorem LT.noFlt {n : Nat} {xs : List Int} {o : Ties} {rows : List (List Int)} {left : List Int} {i j : Nat} (h : LT n xs o rows left i j) : NoFlt xs o rows n :=
  ⟨h.nn, h.self, h.tie, h.sym, fun k hk => by
    have := h.ln k hk
    have := h.le k hk
    unfold rs at this
    omega⟩
/-- the sum of a table -/
def tsum (rows : List (List Int)) : Int := (rows.map List.sum).sum
theorem tsum_eq {n : Nat} {rows : List (List Int)} (hl : rows.length = n) (hr : ∀ r ∈ rows, r.length = n) : tsum rows = sumN (fun i => sumN (fun j => at2 rows i j) n) n := by
  have e : rows.map List.sum = (List.range n).map fun i => rs rows i := by
    refine list_ext_getD (d := 0) (by rw [List.length_map, List.length_map, List.length_range, hl]) fun i hi => ?_
    rw [List.length_map] at hi
    rw [range_getD _ _ (by omega), List.getD_eq_getElem?_getD, List.getElem?_map, List.getElem?_eq_getElem hi]
    unfold rs
    rw [List.getD_eq_getElem?_getD, List.getElem?_eq_getElem hi]
    rfl
  unfold tsum
  rw [e, sum_range]
  exact sumN_congr fun i hi => rs_eq hl hr hi
/-- no table beats a cover -/
theorem weak_dual {n : Nat} {xs cs : List Int} {o : Ties} {rows : List (List Int)} (hl : rows.length = n) (hr : ∀ r ∈ rows, r.length = n) (nf : NoFlt xs o rows n) (c0 : ∀ k, k < n → 0 ≤ cs.getD k 0) (hc : CovOk n o cs) : tsum rows ≤ 2 * wsum n xs cs := by
  rw [tsum_eq hl hr]
  -- twice the sum, each number times its two halves
  have h1 : sumN (fun i => sumN (fun j => 2 * at2 rows i j) n) n ≤ sumN (fun i => sumN (fun j => cs.getD i 0 * at2 rows i j + cs.getD j 0 * at2 rows i j) n) n := sumN_le fun i hi => sumN_le fun j hj => by
    rw [← Int.add_mul]
    by_cases c : 0 < at2 rows i j
    · exact Int.mul_le_mul_of_nonneg_right (hc i j hi hj (nf.tie i j hi hj c)) (Int.le_of_lt c)
    · have := nf.nn i j hi hj
      rw [show at2 rows i j = 0 by omega, Int.mul_zero, Int.mul_zero]
      exact Int.le_refl 0
  have h2 : sumN (fun i => sumN (fun j => 2 * at2 rows i j) n) n = 2 * sumN (fun i => sumN (fun j => at2 rows i j) n) n := by
    rw [← sumN_mul]
    exact sumN_congr fun i _ => sumN_mul 2 _ n
  have h3 : sumN (fun i => sumN (fun j => cs.getD i 0 * at2 rows i j + cs.getD j 0 * at2 rows i j) n) n = 2 * sumN (fun i => cs.getD i 0 * sumN (fun j => at2 rows i j) n) n := by
    have e1 : sumN (fun i => sumN (fun j => cs.getD i 0 * at2 rows i j + cs.getD j 0 * at2 rows i j) n) n = sumN (fun i => sumN (fun j => cs.getD i 0 * at2 rows i j) n) n + sumN (fun i => sumN (fun j => cs.getD j 0 * at2 rows i j) n) n := by
      rw [← sumN_add]
      exact sumN_congr fun i _ => sumN_add _ _ n
    have e2 : sumN (fun i => sumN (fun j => cs.getD j 0 * at2 rows i j) n) n = sumN (fun i => sumN (fun j => cs.getD i 0 * at2 rows i j) n) n := by
      rw [sumN_swap]
      exact sumN_congr fun j hj => sumN_congr fun i hi => by rw [nf.sym i j hi hj]
    have e3 : sumN (fun i => sumN (fun j => cs.getD i 0 * at2 rows i j) n) n = sumN (fun i => cs.getD i 0 * sumN (fun j => at2 rows i j) n) n := sumN_congr fun i _ => sumN_mul _ _ n
    rw [e1, e2, e3]
    omega
  have h4 : sumN (fun i => cs.getD i 0 * sumN (fun j => at2 rows i j) n) n ≤ sumN (fun i => 2 * (xs.getD i 0 * cs.getD i 0)) n := sumN_le fun i hi => by
    have := nf.sum i hi
    rw [show (rows.getD i []).sum = rs rows i from rfl, rs_eq hl hr hi] at this
    have := Int.mul_le_mul_of_nonneg_left this (c0 i hi)
    rw [show cs.getD i 0 * (2 * xs.getD i 0) = 2 * (xs.getD i 0 * cs.getD i 0) by rw [Int.mul_left_comm, Int.mul_comm (cs.getD i 0)]] at this
    exact this
  have h5 : sumN (fun i => 2 * (xs.getD i 0 * cs.getD i 0)) n = 2 * wsum n xs cs := sumN_mul 2 _ n
  omega

/-- a planted table -/
structure Plt (n : Nat) (o : Ties) (rows : List (List Int)) : Prop where
  rl : rows.length = n
  rr : ∀ r ∈ rows, r.length = n
  nn : ∀ a b, 0 ≤ at2 rows a b ∧ at2 rows a b < 10000000000000000
  ev : ∀ a b, at2 rows a b % 2 = 0
  self : ∀ a, a < n → at2 rows a a = 0
  tie : ∀ a b, a < n → b < n → 0 < at2 rows a b → tieB o a b = true
  sym : ∀ a b, a < n → b < n → at2 rows a b = at2 rows b a
end Dd
/-! Texts. -/
namespace Dd
open PySem L2 TL
def strsD (ys : List Str) : List PyData := ys.map .str
theorem rp_strs {b : Option Addr} {G : Hp} : ∀ {ns : List Str} {vs : List V}, RpAll b G vs (strsD ns) → vs = ns.map V.str
  | [], _, .nil => rfl
  | n :: ns, _, .cons (.str _) r => by
    rw [rp_strs (ns := ns) r] <;> rfl
theorem rp_strs' {b : Option Addr} {G : Hp} : ∀ (ns : List Str), RpAll b G (ns.map V.str) (strsD ns)
  | [] => .nil
  | n :: ns => .cons (.str n) (rp_strs' ns)
/-- s[i] -/
def rdIxS : R2D := fun d e P => match d, e with
  | .str z, .int i => z.length ≤ lim ∧ ∃ c, atI z.cps.toList i = some c ∧ P (.leaf (.str ⟨#[c]⟩))
  | _, _ => False
theorem e_ixs {z : Str} {i : Int} {P : T → Prop} : rdIxS (.str z) (.int i) P = (z.length ≤ lim ∧ ∃ c, atI z.cps.toList i = some c ∧ P (.leaf (.str ⟨#[c]⟩))) := rfl
theorem ok_ixS {K : PySem.W.Frag} : RdOk K rIxS rdIxS := fun b G H x y d e P Q g rx ry h k => by
  unfold rdIxS at h
  split at h
  · obtain ⟨hl, c, hc, p⟩ := h
    cases rx
    cases ry
    exact ⟨_, _, c, rfl, rfl, lim_le hl, hc, k G H _ _ [] p g.stp (.leaf (.str _)) fun _ z => nomatch z⟩
  · exact h.elim
/-- x in a tuple of flat things -/
def inF (x : PyData) (xs : List PyData) : Bool := xs.any fun y => eqV (pyV y) (pyV x)
def rdInT : R2D := fun d e P => match e with
  | .tuple ds => flatD d = true ∧ ds.all flatD = true ∧ P (boo (inF d ds))
  | _ => False
def rdNotInT : R2D := fun d e P => match e with
  | .tuple ds => flatD d = true ∧ ds.all flatD = true ∧ P (boo (!inF d ds))
  | _ => False
theorem e_inT {d : PyData} {ds : List PyData} {P : T → Prop} : rdInT d (.tuple ds) P = (flatD d = true ∧ ds.all flatD = true ∧ P (boo (inF d ds))) := rfl
theorem e_notInT {d : PyData} {ds : List PyData} {P : T → Prop} : rdNotInT d (.tuple ds) P = (flatD d = true ∧ ds.all flatD = true ∧ P (boo (!inF d ds))) := rfl
theorem rp_pyV {b : Option Addr} {G : Hp} {v : V} {d : PyData} (r : Rp b G v d) (h : flatD d = true) : v = pyV d := by
  cases r with
  | non => rfl
  | bl k => rfl
  | int i => rfl
  | str x => rfl
  | lst _ _ => cases h
  | tup _ _ => cases h
  | box _ => cases h
  | exc _ => cases h
theorem rp_pyVs {b : Option Addr} {G : Hp} : ∀ {vs : List V} {ds : List PyData}, RpAll b G vs ds → ds.all flatD = true → vs = ds.map pyV
  | _, _, .nil, _ => rfl
  | _, _, .cons r rs, h => by
    rw [List.all_cons, Bool.and_eq_true] at h
    rw [rp_pyV r h.1, rp_pyVs rs h.2]
    rfl
theorem flatV_pyV {d : PyData} (h : flatD d = true) : flatV (pyV d) = true := by
  cases d <;> first | rfl | cases h
theorem flatV_all : ∀ {ds : List PyData}, ds.all flatD = true → (ds.map pyV).all flatV = true
  | [], _ => rfl
  | d :: ds, h => by
    rw [List.all_cons, Bool.and_eq_true] at h
    rw [List.map_cons, List.all_cons, flatV_pyV h.1, flatV_all h.2]
    rfl
theorem inV_eq (d : PyData) (ds : List PyData) : inV (pyV d) (ds.map pyV) = inF d ds := by
  unfold inV inF
  rw [List.any_map]
  rfl
theorem ok_inT {K : PySem.W.Frag} : RdOk K (rIn K false) rdInT := fun b G H x y d e P Q g rx ry h k => by
  unfold rdInT at h
  split at h
  · obtain ⟨f1, f2, p⟩ := h
    have ex := rp_pyV rx f1
    subst ex
    cases ry with
    | tup h1 r1 =>
      have ev := rp_pyVs r1 f2
      subst ev
      refine ⟨_, _, rfl, .inr (.inl (.inl (g.ex _ _ h1))), flatV_pyV f1, flatV_all f2, ?_⟩
      rw [inV_eq]
      exact k G H _ _ [] p g.stp (.leaf (.bl _)) fun _ z => nomatch z
  · exact h.elim
theorem ok_notInT {K : PySem.W.Frag} : RdOk K (rIn K true) rdNotInT := fun b G H x y d e P Q g rx ry h k => by
  unfold rdNotInT at h
  split at h
  · obtain ⟨f1, f2, p⟩ := h
    have ex := rp_pyV rx f1
    subst ex
    cases ry with
    | tup h1 r1 =>
      have ev := rp_pyVs r1 f2
      subst ev
      refine ⟨_, _, rfl, .inr (.inl (.inl (g.ex _ _ h1))), flatV_pyV f1, flatV_all f2, ?_⟩
      rw [inV_eq]
      exact k G H _ _ [] p g.stp (.leaf (.bl _)) fun _ z => nomatch z
  · exact h.elim
/-- a sign in a text -/
def rdInS : R2D := fun d e P => match d, e with
  | .str x, .str z => ∃ c, x = ⟨#[c]⟩ ∧ P (boo (decide (c ∈ z.cps.toList)))
  | _, _ => False
theorem e_inS {c : Nat} {z : Str} {P : T → Prop} : rdInS (.str ⟨#[c]⟩) (.str z) P = P (boo (decide (c ∈ z.cps.toList))) := propext ⟨fun ⟨c', e, p⟩ => by cases e; exact p, fun p => ⟨c, rfl, p⟩⟩
theorem ok_inS {K : PySem.W.Frag} : RdOk K (fun x y H Q => ∃ (c : Nat) (z : Str), x = .str ⟨#[c]⟩ ∧ y = .str z ∧ Q (.bl (decide (c ∈ z.cps.toList))) H) rdInS := fun b G H x y d e P Q g rx ry h k => by
  unfold rdInS at h
  split at h
  · obtain ⟨c, rfl, p⟩ := h
    cases rx
    cases ry
    exact ⟨_, _, rfl, rfl, k G H _ _ [] p g.stp (.leaf (.bl _)) fun _ z => nomatch z⟩
  · exact h.elim
section
variable {X : Cx} {E : SX} {e e2 : Expr} {w wa wb we wk : WE} {ws : WA} {pos p apos : Pos}
theorem d_ats (ha : PE X e (tOf X.K X.mg E wa)) (hb : PE X e2 (tOf X.K X.mg E wb)) (hs : PlainIx e2 := by exact fun _ _ => rfl) : PE X (.Subscript e e2 pos) (tOf X.K X.mg E (dOp rdIxS wa wb)) := d_ix ix_str ok_ixS ha hb hs
theorem d_inT (ha : PE X e (tOf X.K X.mg E wa)) (hb : PE X e2 (tOf X.K X.mg E wb)) (hm : behindInMarks .In e2 = false := by rfl) : PE X (.Compare e [.In] [e2] pos) (tOf X.K X.mg E (dOp rdInT wa wb)) := d_cmp op_in_seq ok_inT ha hb hm
theorem d_notInT (ha : PE X e (tOf X.K X.mg E wa)) (hb : PE X e2 (tOf X.K X.mg E wb)) (hm : behindInMarks .NotIn e2 = false := by rfl) : PE X (.Compare e [.NotIn] [e2] pos) (tOf X.K X.mg E (dOp rdNotInT wa wb)) := d_cmp op_notIn_seq ok_notInT ha hb hm
theorem t_inT (ha : PE X e (tOf X.K X.mg E wa)) (hb : PE X e2 (tOf X.K X.mg E wb)) (hm : behindInMarks .In e2 = false := by rfl) : PT X (.Compare e [.In] [e2] pos) (ttOf X.K X.mg E (dTst (dOp rdInT wa wb))) := t_cmp op_in_seq ok_inT ha hb hm
theorem t_notInT (ha : PE X e (tOf X.K X.mg E wa)) (hb : PE X e2 (tOf X.K X.mg E wb)) (hm : behindInMarks .NotIn e2 = false := by rfl) : PT X (.Compare e [.NotIn] [e2] pos) (ttOf X.K X.mg E (dTst (dOp rdNotInT wa wb))) := t_cmp op_notIn_seq ok_notInT ha hb hm
theorem d_inS (ha : PE X e (tOf X.K X.mg E wa)) (hb : PE X e2 (tOf X.K X.mg E wb)) (hm : behindInMarks .In e2 = false := by rfl) : PE X (.Compare e [.In] [e2] pos) (tOf X.K X.mg E (dOp rdInS wa wb)) := d_cmp op_in_sign ok_inS ha hb hm
theorem t_inS (ha : PE X e (tOf X.K X.mg E wa)) (hb : PE X e2 (tOf X.K X.mg E wb)) (hm : behindInMarks .In e2 = false := by rfl) : PT X (.Compare e [.In] [e2] pos) (ttOf X.K X.mg E (dTst (dOp rdInS wa wb))) := t_cmp op_in_sign ok_inS ha hb hm
/-- tuple(xs) -/
def cTuple : CD := fun ds P => match ds with
  | [.list xs] => P (.leaf (.tuple xs))
  | [.tuple xs] => P (.leaf (.tuple xs))
  | _ => False
theorem e_tupl {xs : List PyData} {P : T → Prop} : cTuple [.list xs] P = P (.leaf (.tuple xs)) := rfl
theorem e_tupt {xs : List PyData} {P : T → Prop} : cTuple [.tuple xs] P = P (.leaf (.tuple xs)) := rfl
theorem ok_tuple {K : PySem.W.Frag} : CdOk K (fun xs H Q => ∃ p ys, xs = [.ref p] ∧ ((SqL K H p ys ∧ ∀ l, H l = none → Q (.ref l) (upd H l (.tup ys))) ∨ (SqT K H p ys ∧ Q (.ref p) H))) cTuple := fun b G H vs ds P Q g r h k => by
  unfold cTuple at h
  split at h
  · cases r with
    | cons r1 r2 =>
      cases r2
      cases r1 with
      | lst h1 h2 => exact ⟨_, _, rfl, .inl ⟨.inl (.inl (g.ex _ _ h1)), fun a ha => new_tup g h2 h k ha⟩⟩
  · cases r with
    | cons r1 r2 =>
      cases r2
      cases r1 with
      | tup h1 h2 => exact ⟨_, _, rfl, .inr ⟨.inl (.inl (g.ex _ _ h1)), k G H _ _ [] h g.stp (.leaf (.tup h1 h2)) fun _ z => nomatch z⟩⟩
  · exact h.elim
theorem d_tuple (hm : X.mg "tuple" = none) (ha : PA X [e] (aOf X.K X.mg E ws)) (hg : Gl X "tuple" := by rfl) (he : starEach [e] X.env = (false, eval e X.env) :: starEach [] X.env := by rfl) (hpl : (backTo pos (starEach [] X.env)).any (·.1) = false := by rfl) : PE X (.Call (.Name "tuple" p) [e] [] pos) (tOf X.K X.mg E (dBlt cTuple ws)) :=
  d_ty call_tuple_of ok_tuple hg hm (by decide +kernel) ha (by decide) (by decide) he hpl
/-- sep.join(xs) -/
def asS (P : Str → Prop) (t : T) : Prop := match t with
  | .leaf (.str z) => P z
  | _ => False
theorem asS_s {P : Str → Prop} {z : Str} : asS P (.leaf (.str z)) = P z := rfl
def asX (P : List Str → Prop) (t : T) : Prop := ∃ ys : List Str, t.dat = .list (strsD ys) ∧ P ys
def dJoin (wa wb : WE) : WE := fun x ρ P => wa x ρ (asS fun a => wb x ρ (asX fun ys => (ys.map (·.length)).sum + ys.length * a.length ≤ 1000000 ∧ P (.leaf (.str (Txt.join a ys)))))
theorem d_join (ha : PE X e (tOf X.K X.mg E wa)) (hb : PE X e2 (tOf X.K X.mg E wb)) (hs : starEach [e2] X.env = [(false, eval e2 X.env)] := by rfl) (hbase : attributeBase e "join" X.env (eval e X.env) = eval e X.env := by rfl) (hline : (apos.endLine == pos.line) = true := by rfl) :
    PE X (.Call (.Attribute e "join" apos) [e2] [] pos) (tOf X.K X.mg E (dJoin wa wb)) := PE.of (pe_join ha hb hs hbase hline) fun σ H Q ⟨b, B, G, ρ, xp, P, p, hr, k⟩ => by
  refine ⟨b, B, G, ρ, xp, _, p, hr, fun G1 H1 v t fp ht s1 tr fr => ?_⟩
  unfold asS at ht
  split at ht
  · rename_i a
    cases tr with
    | leaf r =>
      cases r
      have hr1 := hr.stp s1
      refine ⟨⟨_, rfl⟩, tOfD_of ⟨b, B, G1, ρ, xp, fun d => ∃ ys : List Str, d = .list (strsD ys) ∧ (ys.map (·.length)).sum + ys.length * a.length ≤ 1000000 ∧ P (.leaf (.str (Txt.join a ys))), ht, hr1, fun G2 H2 v d hd s2 hr2 rd => ?_⟩⟩
      obtain ⟨ys, rfl, hb, hp⟩ := hd
      cases rd with
      | lst h1 r1 =>
        have e := rp_strs r1
        subst e
        exact ⟨a, _, ys, rfl, rfl, .inl (.inl (.inl (s2.good.ex _ _ h1))), Nat.le_trans hb (by decide), ((k.stp hr.good s1).stp hr1.good s2).leaf s2.good hp (.str _)⟩
  · exact ht.elim
end
theorem strs_len (ys : List Str) : (strsD ys).length = ys.length := List.length_map _
theorem asX_n {P : List Str → Prop} {ys : List Str} : asX P (.node ((strsD ys).map .leaf)) ↔ P ys := by
  unfold asX
  rw [dat_leaves0]
  refine ⟨fun ⟨zs, e, p⟩ => ?_, fun p => ⟨ys, rfl, p⟩⟩
  have e : strsD ys = strsD zs := by injection e
  have inj : ∀ {a b : List Str}, strsD a = strsD b → a = b := fun {a} => by
    induction a with
    | nil => intro b h; cases b with
      | nil => rfl
      | cons _ _ => cases h
    | cons x a ih => intro b h; cases b with
      | nil => cases h
      | cons y b =>
        injection h with h1 h2
        injection h1 with h1
        rw [h1, ih h2]
  rw [inj e]
  exact p
theorem asX_l {P : List Str → Prop} {ys : List Str} (p : P ys) : asX P (.leaf (.list (strsD ys))) := ⟨ys, rfl, p⟩
/-! ### names -/
def IsName (z : Str) : Prop := 1 ≤ z.length ∧ z.length ≤ 8 ∧ ∀ c ∈ z.cps.toList, 97 ≤ c ∧ c ≤ 122
def sgn (c : Nat) : Str := ⟨#[c]⟩
theorem join_sgn : ∀ cs : List Nat, tl (Txt.join ⟨#[]⟩ (cs.map sgn)) = cs := fun cs => by
  rw [join_eq, tl_join]
  have e : ∀ cs : List Nat, joinL [] (cs.map fun c => [c]) = cs := fun cs => by
    induction cs with
    | nil => rfl
    | cons c cs ih =>
      cases cs with
      | nil => rfl
      | cons d ds =>
        show [c] ++ ([] ++ joinL [] ((d :: ds).map fun c => [c])) = _
        rw [ih]
        rfl
  rw [show tl ⟨#[]⟩ = [] from rfl, List.map_map]
  exact e cs
theorem sum_sgn : ∀ cs : List Nat, ((cs.map sgn).map (·.length)).sum = cs.length
  | [] => rfl
  | c :: cs => by
    rw [List.map_cons, List.map_cons, List.sum_cons, sum_sgn cs, List.length_cons]
    show 1 + _ = _
    omega
theorem sm_str {n : Nat} {z : Str} (h : ∀ c ∈ z.cps.toList, c < 1114112) : Sm n (.str z) := by
  have e : PySem.PyData.strOk z = true := by
    unfold PySem.PyData.strOk
    rw [← Array.all_toList]
    exact List.all_eq_true.mpr fun c hc => decide_eq_true (h c hc)
  cases n <;> exact e
theorem sm_name {n : Nat} {z : Str} (h : IsName z) : Sm n (.str z) := sm_str fun c hc => by have := h.2.2 c hc; omega
end Dd
/-! Shares added; leaves of trees. -/
namespace Dd
open PySem L2
abbrev Sh := Int × Int
def shD (s : Sh) : PyData := .tuple [.int s.1, .int s.2]
def addS (s t : Sh) : Sh := (lowA (s.1 * t.2 + t.1 * s.2) (s.2 * t.2), lowB (s.1 * t.2 + t.1 * s.2) (s.2 * t.2))
def lowS (s : Sh) : Sh := (lowA s.1 s.2, lowB s.1 s.2)
theorem shD_add (s t : Sh) : shD (addS s t) = lowD (s.1 * t.2 + t.1 * s.2) (s.2 * t.2) := rfl
theorem shD_low (s : Sh) : shD (lowS s) = lowD s.1 s.2 := rfl
def foldS : List Sh → Sh → Sh
  | [], s => s
  | t :: ts, s => foldS ts (addS s t)
theorem foldS_snoc : ∀ (ts : List Sh) (t s : Sh), foldS (ts ++ [t]) s = addS (foldS ts s) t
  | [], t, s => rfl
  | u :: ts, t, s => foldS_snoc ts t (addS s u)
/-- a share: above from nought on, below from one on -/
def ShOk (s : Sh) : Prop := 0 ≤ s.1 ∧ 0 < s.2
theorem addS_ok {s t : Sh} (hs : ShOk s) (ht : ShOk t) : ShOk (addS s t) := by
  have h1 : 0 ≤ s.1 * t.2 + t.1 * s.2 := Int.add_nonneg (Int.mul_nonneg hs.1 (Int.le_of_lt ht.2)) (Int.mul_nonneg ht.1 (Int.le_of_lt hs.2))
  have h2 : 0 < s.2 * t.2 := Int.mul_pos hs.2 ht.2
  exact ⟨low_nn h1 h2, low_pos h2⟩
theorem foldS_ok : ∀ {ts : List Sh} {s : Sh}, (∀ t ∈ ts, ShOk t) → ShOk s → ShOk (foldS ts s)
  | [], s, _, h => h
  | t :: ts, s, ht, h => foldS_ok (ts := ts) (fun u hu => ht u (List.mem_cons_of_mem _ hu)) (addS_ok h (ht t (List.mem_cons_self ..)))
/-- lowest terms are made all the same -/
theorem low_fac {a b : Int} (hb : 0 < b) : ∃ g : Int, 0 < g ∧ a = g * lowA a b ∧ b = g * lowB a b := by
  refine ⟨(Int.gcd b a : Int), gcd_pos hb, ?_, ?_⟩
  · unfold lowA
    rw [Int.mul_ediv_cancel' (Int.gcd_dvd_right ..)]
  · unfold lowB
    rw [Int.mul_ediv_cancel' (Int.gcd_dvd_left ..)]
theorem addS_low {s t : Sh} (hs : ShOk s) (ht : ShOk t) : addS s (lowS t) = addS s t := by
  obtain ⟨g, g0, e1, e2⟩ := low_fac (a := t.1) (b := t.2) ht.2
  have hb := low_pos (a := t.1) ht.2
  have h := low_mul (a := s.1 * lowB t.1 t.2 + lowA t.1 t.2 * s.2) (b := s.2 * lowB t.1 t.2) (k := g) g0 (Int.mul_pos hs.2 hb)
  unfold addS lowS
  generalize lowA t.1 t.2 = x at *
  generalize lowB t.1 t.2 = y at *
  have k1 : g * (s.1 * y + x * s.2) = s.1 * t.2 + t.1 * s.2 := by
    rw [e1, e2, Int.mul_add, Int.mul_left_comm, Int.mul_assoc]
  have k2 : g * (s.2 * y) = s.2 * t.2 := by
    rw [e2, Int.mul_left_comm]
  rw [k1, k2] at h
  rw [h.1, h.2]
/-- bounds of a fold -/
def ShB (C B : Int) (s : Sh) : Prop := 0 ≤ s.1 ∧ 0 < s.2 ∧ s.1 ≤ C * s.2 ∧ s.2 ≤ B
theorem addS_bd {C B D M : Int} {s t : Sh} (hs : ShB C B s) (ht : ShB D M t) (hC : 0 ≤ C) (hD : 0 ≤ D) (hB : 0 ≤ B) : ShB (C + D) (B * M) (addS s t) := by
  obtain ⟨s0, s1, s2, s3⟩ := hs
  obtain ⟨t0, t1, t2, t3⟩ := ht
  have hx : 0 ≤ s.1 * t.2 + t.1 * s.2 := Int.add_nonneg (Int.mul_nonneg s0 (Int.le_of_lt t1)) (Int.mul_nonneg t0 (Int.le_of_lt s1))
  have hy : 0 < s.2 * t.2 := Int.mul_pos s1 t1
  have hxy : s.1 * t.2 + t.1 * s.2 ≤ (C + D) * (s.2 * t.2) := by
    have h1 := Int.mul_le_mul_of_nonneg_right s2 (Int.le_of_lt t1)
    have h2 := Int.mul_le_mul_of_nonneg_right t2 (Int.le_of_lt s1)
    rw [Int.add_mul, ← Int.mul_assoc]
    rw [Int.mul_assoc D t.2 s.2, Int.mul_comm t.2 s.2] at h2
    omega
  obtain ⟨g, g0, e1, e2⟩ := low_fac (a := s.1 * t.2 + t.1 * s.2) hy
  refine ⟨low_nn hx hy, low_pos hy, ?_, ?_⟩
  · show lowA _ _ ≤ (C + D) * lowB _ _
    generalize lowA (s.1 * t.2 + t.1 * s.2) (s.2 * t.2) = x at *
    generalize lowB (s.1 * t.2 + t.1 * s.2) (s.2 * t.2) = y at *
    rw [e1, e2, Int.mul_left_comm] at hxy
    exact Int.le_of_mul_le_mul_left hxy g0
  · show lowB _ _ ≤ B * M
    refine Int.le_trans (low_leB hy) (Int.mul_le_mul s3 t3 (Int.le_of_lt t1) hB)
theorem ShB.ok {C B : Int} {s : Sh} (h : ShB C B s) : ShOk s := ⟨h.1, h.2.1⟩
theorem foldS_bd {D M : Int} (hD : 0 ≤ D) (hM : 0 ≤ M) : ∀ {ts : List Sh}, (∀ t ∈ ts, ShB D M t) → ShB (ts.length * D) (M ^ ts.length) (foldS ts (0, 1)) := fun {ts} => by
  have key : ∀ (ts : List Sh) (C B : Int) (s : Sh), 0 ≤ C → 0 ≤ B → (∀ t ∈ ts, ShB D M t) → ShB C B s → ShB (C + ts.length * D) (B * M ^ ts.length) (foldS ts s) := fun ts => by
    induction ts with
    | nil =>
      intro C B s _ _ _ h
      simpa [foldS] using h
    | cons t ts ih =>
      intro C B s hC hB ht h
      have h1 := addS_bd h (ht t (List.mem_cons_self ..)) hC hD hB
      have h2 := ih (C + D) (B * M) (addS s t) (by omega) (Int.mul_nonneg hB hM) (fun u hu => ht u (List.mem_cons_of_mem _ hu)) h1
      have e1 : C + D + (ts.length : Int) * D = C + ((t :: ts).length : Int) * D := by
        rw [List.length_cons, show ((ts.length + 1 : Nat) : Int) = (ts.length : Int) + 1 from rfl, Int.add_mul]
        omega
      have e2 : B * M * M ^ ts.length = B * M ^ (t :: ts).length := by
        rw [List.length_cons, Int.pow_succ, Int.mul_assoc, Int.mul_comm M]
      rw [e1, e2] at h2
      exact h2
  intro ht
  have := key ts 0 1 (0, 1) (by decide) (by decide) ht ⟨by decide, by decide, by decide, by decide⟩
  rw [Int.zero_add, Int.one_mul] at this
  exact this
/-! leaves -/
structure Lf where
  row : List Str
  sh : Sh
  ps : List Int
def lfD (l : Lf) : PyData := .tuple [.tuple (strsD l.row), shD l.sh, .list (intsD l.ps)]
def lfsD (ls : List Lf) : List PyData := ls.map lfD
theorem lfs_len (ls : List Lf) : (lfsD ls).length = ls.length := List.length_map _
theorem lfs_get {ls : List Lf} {i : Nat} {d : PyData} (h : (lfsD ls)[i]? = some d) : ∃ l, ls[i]? = some l ∧ d = lfD l := by
  unfold lfsD at h
  rw [List.getElem?_map] at h
  cases q : ls[i]? with
  | none => rw [q] at h; cases h
  | some l => rw [q] at h; cases h; exact ⟨l, rfl, rfl⟩
/-- small enough to be reckoned with -/
def S4 (s : Sh) : Prop := ShOk s ∧ s.1.natAbs < 2 ^ 400 ∧ s.2.natAbs < 2 ^ 400
theorem sm_sh {n : Nat} {s : Sh} : Sm (n + 1) (shD s) := ⟨by show 2 < 1000; decide, fun x hx => by
  rcases List.mem_cons.mp hx with z | z
  · subst z; exact sm_int
  · rw [List.mem_singleton.mp z]; exact sm_int⟩
/-! comprehensions over what is told of things -/
section
variable {wi : WI} {wg : WG} {wt : WT} {we : WE} {x : XP} {ρ : Rho} {vs : List Nat} {P : T → Prop} {α : Type}
theorem lc_overF (enc : α → PyData) (xs : List α) (p : α → Bool) (f : α → T) (hi : ∀ P : List PyData → Prop, P (xs.map enc) → wi x ρ P) (hl : xs.length < lim)
    (he : ∀ (a : α) (Q : T → Prop) (R : Prop), a ∈ xs → (p a = true → Q (f a)) → (p a = false → R) → wg (enc a) (wipeR ρ vs) fun ρ2 => wt noX ρ2 fun k => (k = true → we noX ρ2 Q) ∧ (k = false → R)) (h : P (.node ((xs.filter p).map f))) : dLc wi wg wt we vs x ρ P := by
  refine hi _ ⟨by rw [List.length_map]; exact hl, fun i acc => acc = ((xs.take i).filter p).map f, rfl, fun i d acc e inv => ?_, fun acc inv => ?_⟩
  · rw [List.getElem?_map] at e
    cases q : xs[i]? with
    | none => rw [q] at e; cases e
    | some a =>
      rw [q] at e
      cases e
      refine he a (fun t => acc ++ [t] = ((xs.take (i + 1)).filter p).map f) (acc = ((xs.take (i + 1)).filter p).map f) (List.mem_of_getElem? q) (fun z => ?_) (fun z => ?_)
      · rw [inv, List.take_add_one, q, List.filter_append, List.map_append]
        congr 1
        show _ = List.map f (List.filter p [a])
        rw [List.filter_cons, if_pos z]
        rfl
      · rw [inv, List.take_add_one, q, List.filter_append, List.map_append]
        have e : (some a).toList.filter p = [] := by
          show [a].filter p = []
          rw [List.filter_cons, if_neg (by rw [z]; decide)]
          rfl
        rw [e, List.map_nil, List.append_nil]
  · rw [List.length_map, List.take_length] at inv
    rw [inv]
    exact h
theorem lc_over (enc : α → PyData) (xs : List α) (f : α → T) (hi : ∀ P : List PyData → Prop, P (xs.map enc) → wi x ρ P) (hl : xs.length < lim)
    (he : ∀ (a : α) (Q : T → Prop) (R : Prop), a ∈ xs → Q (f a) → wg (enc a) (wipeR ρ vs) fun ρ2 => (true = true → we noX ρ2 Q) ∧ (true = false → R)) (h : P (.node (xs.map f))) : dLc wi wg dYes we vs x ρ P :=
  lc_overF enc xs (fun _ => true) f hi hl (fun a Q R ha q _ => he a Q R ha (q rfl)) (by
    rw [List.filter_eq_self.mpr fun _ _ => rfl]
    exact h)
end
theorem node_over {α : Type} (enc : α → PyData) (xs : List α) : T.node (xs.map fun a => T.leaf (enc a)) = .node ((xs.map enc).map .leaf) := by
  rw [List.map_map]
  rfl
end Dd
/-! for x in (a, b, c): if test: return e — a, b, c names, perhaps of own lists. -/
namespace Dd
open PySem L2
section
variable {X : Cx} {E : SX} {e tst : Expr} {we : WE} {wt : WT} {fpos tpos px p1 p2 p3 ipos rpos : Pos} {kt : Nat}
def dFor3 (k1 k2 k3 j : Nat) (wt : WT) (we : WE) : WS := fun C ρ => ∃ t1 t2 t3, ρ[k1]? = some (some t1) ∧ ρ[k2]? = some (some t2) ∧ ρ[k3]? = some (some t3) ∧ j < ρ.length ∧ k1 ≠ j ∧ k2 ≠ j ∧ k3 ≠ j ∧
  (∀ t, t = t1 ∨ t = t2 ∨ t = t3 → wt noX ((frzR ρ).set j (some (.leaf t.dat))) fun c => c = true → we (C.xc (ρ.set j none)) (ρ.set j none) C.rt) ∧ C.nx (ρ.set j none)
theorem s_for3 (k1 k2 k3 j : Nat) {x a1 a2 a3 : Str} (hp : PassesOwn (model X.prog X.w) X.A X.env X.xe) (hc : X.calm = true) (hN : X.N.Nodup) (ht : PT X tst (ttOf X.K X.mg E wt)) (he : PE X e (tOf X.K X.mg E we))
    (h1 : X.N[k1]? = some a1 := by rfl) (h2 : X.N[k2]? = some a2 := by rfl) (h3 : X.N[k3]? = some a3 := by rfl) (hj : X.N[j]? = some x := by rfl)
    (hv1 : Vis X.env.scope a1 := by first | exact Or.inl rfl | exact Or.inr (Or.inl rfl) | exact Or.inr (Or.inr rfl)) (hv2 : Vis X.env.scope a2 := by first | exact Or.inl rfl | exact Or.inr (Or.inl rfl) | exact Or.inr (Or.inr rfl)) (hv3 : Vis X.env.scope a3 := by first | exact Or.inl rfl | exact Or.inr (Or.inl rfl) | exact Or.inr (Or.inr rfl))
    (hd1 : (a1 == ("__debug__" : Str)) = false := by decide) (hd2 : (a2 == ("__debug__" : Str)) = false := by decide) (hd3 : (a3 == ("__debug__" : Str)) = false := by decide) (hc1 : (a1 == ("__classdict__" : Str)) = false := by decide) (hc2 : (a2 == ("__classdict__" : Str)) = false := by decide) (hc3 : (a3 == ("__classdict__" : Str)) = false := by decide)
    (hx : Loc X.env.scope x := by first | exact Or.inl rfl | exact Or.inr rfl) (hf : X.fn x = true ∨ X.env.scope.names.lookup x = some .local := by first | exact .inl rfl | exact .inr rfl | assumption)
    (hs : starEach [.Name a1 p1, .Name a2 p2, .Name a3 p3] X.env = (false, eval (.Name a1 p1) X.env) :: starEach [.Name a2 p2, .Name a3 p3] X.env := by rfl) (hs2 : starEach [.Name a2 p2, .Name a3 p3] X.env = (false, eval (.Name a2 p2) X.env) :: starEach [.Name a3 p3] X.env := by rfl) (hs3 : starEach [.Name a3 p3] X.env = (false, eval (.Name a3 p3) X.env) :: starEach [] X.env := by rfl)
    (hfs : ∀ z, foldedSetIterable (.Tuple [.Name a1 p1, .Name a2 p2, .Name a3 p3] kt tpos) X.env z = pure z := by intro _; rfl) :
    PS X (.For (.Name x px) (.Tuple [.Name a1 p1, .Name a2 p2, .Name a3 p3] kt tpos) [.If tst [.Return (some e) rpos] [] ipos] [] fpos) (sOf X.K X.mg E (dFor3 k1 k2 k3 j wt we)) :=
  PS.of (ps_for hp hc (pi_tup (pe_tup (pa_cons (pe_var h1 hv1 hd1 hc1) (pa_cons (pe_var h2 hv2 hd2 hc2) (pa_cons (pe_var h3 hv3 hd3 hc3) pa_nil hs3) hs2) hs))) (pg_name hN hj hx hf) (pss_one (ps_if ht (s_one (s_ret he)) pss_nil)) hfs) fun D σ H ⟨b, F, G0, H0, ρ, C, ⟨t1, t2, t3, e1, e2, e3, hjl, n1, n2, n3, ht, q⟩, g0, a, eo⟩ => by
  obtain ⟨G, eG, s, E1⟩ := id a
  obtain ⟨fps, hE, _, _⟩ := E1.ex
  obtain ⟨v1, ev1, _⟩ := hE k1 t1 e1
  obtain ⟨v2, ev2, _⟩ := hE k2 t2 e2
  obtain ⟨v3, ev3, _⟩ := hE k3 t3 e3
  let R : Rho := ρ.set j none
  have Rl : R.length = ρ.length := List.length_set
  have Rk : ∀ {k : Nat} {t : T}, k ≠ j → ρ[k]? = some (some t) → R[k]? = some (some t) := fun hk h => by
    show (List.set _ _ _)[_]? = _
    rw [List.getElem?_set_ne (Ne.symm hk)]
    exact h
  have frR : ∀ d : T, (frzR R).set j (some d) = (frzR ρ).set j (some d) := fun d => by
    show ((ρ.set j none).map _).set j _ = (ρ.map _).set j _
    rw [List.map_set, List.set_set]
  refine ⟨v1, ev1, v2, ev2, v3, ev3, (by show 3 ≤ sizeLine; decide), fun p hpn => ⟨p, rfl, ⟨_, .inl (.inl upd_same)⟩, ?_⟩⟩
  have so := s.good.own (.tup [v1, v2, v3]) hpn
  refine ⟨fun i m σ' H' => m = 3 - i ∧ i ≤ 3 ∧ σ'[k1]? = some (some v1) ∧ σ'[k2]? = some (some v2) ∧ σ'[k3]? = some (some v3) ∧ H' p = some (.tup [v1, v2, v3]) ∧ (b ≠ some p) ∧ At X.K b F G0 H0 R σ' H', ⟨3, rfl, by decide, ev1, ev2, ev3, upd_same, ?_, G, eG, s.trans g0 so, (E1.stp so).gone' j⟩, ?_⟩
  · intro z
    obtain ⟨_, _, _, _, _, _, y, _⟩ := s.good.box p z
    rw [hpn] at y
    cases y
  rintro i m σ' H' ⟨rfl, hi, w1, w2, w3, hp', bp, at1⟩
  obtain ⟨G2, eG2, s2, E2⟩ := id at1
  have hq : SqT X.K H' p [v1, v2, v3] := .inl (.inl hp')
  by_cases hlt : i < 3
  · have hget : i < [v1, v2, v3].length := hlt
    refine .inr ⟨⟨_, _, hq, List.getElem?_eq_getElem hget⟩, fun σ2 H2 => i + 1 ≤ 3 ∧ σ2[k1]? = some (some v1) ∧ σ2[k2]? = some (some v2) ∧ σ2[k3]? = some (some v3) ∧ H2 p = some (.tup [v1, v2, v3]) ∧ (b ≠ some p) ∧ At X.K b F G0 H0 R σ2 H2, fun σ2 H2 h => ⟨3 - (i + 1), by omega, rfl, h⟩, fun v H3 ⟨eH, yv⟩ => ?_⟩
    rw [eH]
    have yv := yv _ hq
    -- whose value it is
    obtain ⟨k, t, hk, et, evk, ht3⟩ : ∃ k t, k ≠ j ∧ R[k]? = some (some t) ∧ σ'[k]? = some (some v) ∧ (t = t1 ∨ t = t2 ∨ t = t3) := by
      match i, hlt, yv with
      | 0, _, y => cases y; exact ⟨k1, t1, n1, Rk n1 e1, w1, .inl rfl⟩
      | 1, _, y => cases y; exact ⟨k2, t2, n2, Rk n2 e2, w2, .inr (.inl rfl)⟩
      | 2, _, y => cases y; exact ⟨k3, t3, n3, Rk n3 e3, w3, .inr (.inr rfl)⟩
    have hr : Here X.K b H0 G2 H' σ' R := ⟨s2.good, E2, fun a e => s2.free g0 e⟩
    obtain ⟨G1, ex, hr1⟩ := hr.borrow
    have rv : Rp b G1 v t.dat := by
      obtain ⟨fps, hF, _, _⟩ := hr1.env.ex
      obtain ⟨v', ev', tr⟩ := hF k (.leaf t.dat) (by unfold frzR; rw [List.getElem?_map, et]; rfl)
      rw [evk] at ev'
      cases ev'
      generalize fps k = fp at tr
      cases tr with
      | leaf r => exact r
    have hr2 := hr1.leaf j rv
    rw [frR] at hr2
    refine ⟨b, H0, G1, _, noX, _, ht t ht3, ⟨hr2, noXC⟩, fun G' H4 c hcc s3 => ?_⟩
    have st := Stp.back hr.good ex s3
    have E3 : Env b H0 G2 H4 (σ'.set j (some v)) R := by
      have := (E2.stp st).gone j (some v)
      rw [show R.set j none = R from List.set_set ..] at this
      exact this
    have at4 : At X.K b F G0 H0 R (σ'.set j (some v)) H4 := ⟨G2, eG2, s2.trans g0 st, E3⟩
    have sk : ∀ {k' : Nat} {u : V}, k' ≠ j → σ'[k']? = some (some u) → (σ'.set j (some v))[k']? = some (some u) := fun hk' h => by rw [List.getElem?_set_ne (Ne.symm hk')]; exact h
    cases c with
    | true =>
      show sOf X.K X.mg E (dRet we) _ _ _
      exact ⟨b, F, G0, H0, R, { nx := fun _ => False, rt := C.rt, xc := C.xc }, hcc rfl, g0, at4, ⟨fun _ _ _ z => z.elim, fun _ _ _ z => z.elim, fun _ _ _ z => z.elim, eo.rt, eo.xc⟩⟩
    | false =>
      exact ⟨hlt, sk n1 w1, sk n2 w2, sk n3 w3, st.keep _ _ bp hp', bp, at4⟩
  · have ei : i = 3 := by omega
    subst ei
    exact .inl ⟨⟨_, hq, Nat.le_refl 3⟩, eo.nx _ _ _ q at1⟩
end
end Dd
/-! Own exceptions: classes whose __init__ takes nothing and keeps its word; raise, try, isinstance. -/
namespace Dd
open PySem L2
/-! ### the way out of a call, with the slots as they stand -/
abbrev wxOf (E : SX) : WX := fun cls d σ H => E σ cls d H
section
variable {X : Cx} {E : SX} {k : Nat} {f C : Addr} {fd : FuncData} {ps : List Str} {sp : Sp} {dvs : List V} {ds : List Value} {x m : Str} {p pos apos : Pos} {e o : Expr} {es : List Expr} {t : TA} {ws : WA} {S : Spec}
theorem run_fnX {pins : List (Addr × Obj)} {σ : L2.St} {H : Hp} {s : Shared} {Q : VK} {us : List Value} {vs : List V} (F : FnOk X.prog X.w X.K X.mg X.base (L2.CX X.prog X.w) k f fd ps sp) (hr : Room k X.A) (hb : Binds X.K fd ps []) (tk : Takes X (wxOf E))
    (I : Inv X pins σ H s) (r : Vals vs us) (h : sp vs H Q (E σ)) : wpAny (model X.prog X.w) X.A (call (.ref f) us) (EP X pins σ Q) X.xe s := by
  have hl : us.length = ps.length := by rw [← r.length]; exact F.len _ _ _ _ h
  have hb2 := hb s us I.kIn (by rw [List.append_nil]; exact hl)
  rw [List.append_nil] at hb2
  refine wpAny_call (codeAny_mono (F.run X.A X.stack s H ⟨us, []⟩ us vs Q (E σ) hr I.env0 hb2 r h) fun r s' hq => ?_)
  cases r with
  | error e => exact tk e s' (XE.of_call I (fun _ _ _ z => z) hq)
  | ok fl =>
    cases fl with
    | ret u => exact I.after hq
    | next => exact False.elim hq
    | brk => exact False.elim hq
    | cont => exact False.elim hq
theorem pe_callX (F : FnOk X.prog X.w X.K X.mg X.base (L2.CX X.prog X.w) k f fd ps sp) (hr : Room k X.A) (hg : Gl X x) (hm : X.mg x = some (.ref f)) (hk : PySem.W.keepIn X.K (.ref f) = true) (hb : Binds X.K fd ps []) (tk : Takes X (wxOf E))
    (ha : PA X (e :: es) t) (hdb : (x == ("__debug__" : Str)) = false := by decide) (he : starEach (e :: es) X.env = (false, eval e X.env) :: starEach es X.env := by rfl) (hpl : (backTo pos (starEach es X.env)).any (·.1) = false := by rfl) :
    PE X (.Call (.Name x p) (e :: es) [] pos) (fun σ H Q => t σ H fun vs H1 => sp vs H1 Q (E σ)) := by
  refine ⟨fun pins s σ H Q I h => ?_⟩
  refine wpAny_Call_Name_kw (ld_glob I hg hm ?_ hdb)
  refine PySem.W.callWith_K (h₀ := X.base) I.ok.mod.kin hk (thn (ha.run pos pins s σ H _ I h) fun us s1 ⟨vs, H1, I1, r, q⟩ => ⟨I1.kIn, ?_⟩) he hpl
  exact run_fnX F hr hb tk I1 r q
/-- a def that may raise, called by its name -/
structure CalX (P : Program) (w : World) (K : PySem.W.Frag) (mg : Str → Option Value) (base : Heap) (x : Str) (ps : List Str) (k : Nat) (S : Spec) : Prop where
  ex : ∃ f fd, FnOk P w K mg base (L2.CX P w) k f fd ps (spOf K mg S) ∧ mg x = some (.ref f) ∧ PySem.W.keepIn K (.ref f) = true ∧ Binds K fd ps []
theorem CalX.mk' {P : Program} {w : World} {K : PySem.W.Frag} {mg : Str → Option Value} {base : Heap} {x qual : Str} {ps : List Str} {k : Nat} {S : Spec} {st : Stmt} {f : Addr} {fd : FuncData} (F : Fun K x qual st f fd) (h : FnOk P w K mg base (L2.CX P w) k f fd ps (spOf K mg S)) (m : mg x = some (.ref f)) (b : Binds K fd ps []) : CalX P w K mg base x ps k S := ⟨f, fd, h, m, F.kp, b⟩
theorem d_callX {j k : Nat} (C : CalX X.prog X.w X.K X.mg X.base x ps k S) (hr : Room j X.A) (tk : Takes X (wxOf E)) (ha : PA X (e :: es) (aOf X.K X.mg E ws)) (hg : Gl X x := by rfl) (hj : k ≤ j := by decide) (hdb : (x == ("__debug__" : Str)) = false := by decide) (he : starEach (e :: es) X.env = (false, eval e X.env) :: starEach es X.env := by rfl) (hpl : (backTo pos (starEach es X.env)).any (·.1) = false := by rfl) :
    PE X (.Call (.Name x p) (e :: es) [] pos) (tOf X.K X.mg E (dCall S ws)) := by
  obtain ⟨f, fd, h, m, kp, b⟩ := C.ex
  refine PE.of (pe_callX h (hr.mono hj) hg m kp b tk ha hdb he hpl) fun σ H Q q => ?_
  have q2 := dcall_core q
  obtain ⟨b, B, G, ρ, xp, P, p, hr, kk⟩ := q2
  refine ⟨b, B, G, ρ, xp, P, p, hr, fun G' H' vs ds hp s r => ?_⟩
  have h2 : spOf X.K X.mg S (vs ++ []) H' Q (E σ) := kk G' H' vs ds hp s r
  rw [List.append_nil] at h2
  exact h2
end
section
variable {P : Program} {w : World} {K : PySem.W.Frag} {mg : Str → Option Value} {base : Heap}
theorem fn_okX {x qual : Str} {st : Stmt} {f : Addr} {fd : FuncData} {N ps : List Str} {k : Nat} {S : Spec} {ws : WS} (F : Fun K x qual st f fd) (sc : FnScope N ps (defScope st)) (len : ∀ ds P xp, S ds P xp → ds.length = ps.length)
    (body : ∀ (cdv : Value) (A : Around) (outer : List PySem.Env) (s : Shared) (H : Hp) (E : XK), Room k (A.deeper (PyProof.Rows.envOfC qual (defScope st) s.heap.objs.size f cdv)) → PSs (cxOf (L2.CX P w) P w K mg base N qual (defScope st) f cdv A outer s H E) (defBody st) (sOf K mg (fun _ => E) ws))
    (spec : ∀ ds P xp, S ds P xp → ws { nx := fun _ => P non, rt := P, xc := fun _ => xp } (startR N ds)) : FnOk P w K mg base (L2.CX P w) (k + 1) f fd ps (spOf K mg S) := by
  refine F.okX sc (sp_len len) fun cdv A outer s H vs Q E hr h => ⟨_, body cdv A outer s H E hr, ?_⟩
  obtain ⟨b, G, ds, P, xp, q, g, r, k, x⟩ := h
  exact body_core (spec ds P _ q) (E0 := E) (fun _ => rfl) g r k x
end
/-! ### the making -/
/-- what the text and the written part say of the class of that name -/
structure ExcF (P : Program) (w : World) (K : PySem.W.Frag) (mg : Str → Option Value) (base : Heap) (n : Str) : Prop where
  ex : ∃ (C fI : Addr) (fd : FuncData), mg n = some (.ref C) ∧ OexC K C ∧ PySem.W.findIn K (.ref C) "word" = some none ∧ PySem.W.findIn K (.ref C) "__init__" = some (some (.ref fI)) ∧ PySem.W.typeIn K (.ref fI) = some (.type "function") ∧
    FnOk P w K mg base CX0 1 fI fd ["self"] (fun vs H Q _ => ∃ a C : Addr, vs = [.ref a] ∧ H a = some (exo a C none) ∧ OexC K C ∧ PySem.W.findIn K (.ref C) "word" = some none ∧ ∀ dx, H dx = none → dx ≠ a → Q .non (upd (upd H dx (exd dx [("word", .str n)])) a (exo a C (some dx)))) ∧ Binds K fd ["self"] []
section
variable {P : Program} {w : World} {K : PySem.W.Frag} {mg : Str → Option Value} {base : Heap}
theorem exc_init {n qual : Str} {st : Stmt} {f : Addr} {fd : FuncData} {q1 q2 q3 q4 : Pos} {i : Nat} (F : Fun K "__init__" qual st f fd) (sc : FnScope ["self"] ["self"] (defScope st)) (hb : defBody st = [.Assign [.Attribute (.Name "self" q1) "word" q2] (.Constant (.str n) i q3) q4]) (hl : List.lookup ("self" : Str) (defScope st).names = some NameKind.local) :
    FnOk P w K mg base CX0 1 f fd ["self"] (fun vs H Q _ => ∃ a C : Addr, vs = [.ref a] ∧ H a = some (exo a C none) ∧ OexC K C ∧ PySem.W.findIn K (.ref C) "word" = some none ∧ ∀ dx, H dx = none → dx ≠ a → Q .non (upd (upd H dx (exd dx [("word", .str n)])) a (exo a C (some dx)))) := by
  refine F.ok sc (fun vs H Q E h => ?_) (fun cdv A outer s H vs Q E hr h => ?_)
  · obtain ⟨a, C, rfl, _⟩ := h
    rfl
  · obtain ⟨a, C, rfl, e, T, nw, q⟩ := h
    rw [hb]
    exact ⟨_, pss_one (ps_ost (pe_var (i := 0) rfl (.inl hl)) pe_str), .ref a, rfl, a, C, rfl, T, nw, .inl ⟨e, q⟩⟩
end
section
variable {X : Cx} {E : SX} {n : Str} {p pos pos2 : Pos}
/-- C(), C with an own __init__ -/
theorem pmk_oex0 {CX : CXT} {x : Str} {C fI : Addr} {k : Nat} {fd : FuncData} {ps : List Str} {sp : Sp} (T : OexC X.K C) (iC : PySem.W.findIn X.K (.ref C) "__init__" = some (some (.ref fI))) (tI : PySem.W.typeIn X.K (.ref fI) = some (.type "function"))
    (F1 : FnOk X.prog X.w X.K X.mg X.base CX k fI fd ps sp) (hr : Room (k + 1) X.A) (hb : Binds X.K fd ps []) (hx : Passes CX X (fun _ _ _ => False)) (hg : Gl X x) (hm : X.mg x = some (.ref C)) (hdb : (x == ("__debug__" : Str)) = false := by decide) :
    PMk X (.Call (.Name x p) [] [] pos) (tMkO C sp [] tNil) := by
  intro pins s σ H1 Q I1 h
  obtain ⟨nm, q, N, bs, bm, sn, sub, ab, col, dd, k0, k1, k2, k3, k5, hC, hbm⟩ := T.cls
  refine wpAny_Call_Name_kw (ld_glob I1 hg hm ?_ hdb)
  refine PySem.W.callWith_K0 I1.kIn T.kC ?_
  show wpAny _ _ (call (.ref C) []) _ _ _
  obtain ⟨hp, g, dr, tk, os⟩ := s
  have hsz : hp.objs.size ≤ hp.objs.size + 1 := Nat.le_succ _
  have hn : H1 (hp.objs.size + 1) = none := I1.hok.fresh hsz
  have hq : sp [V.ref (hp.objs.size + 1)] _ _ _ := h.2 (hp.objs.size + 1) hn
  have kk : ∀ b o, hp.get? b = some o → ((hp.push (PySem.W.kdv_tup [])).push (PySem.HandSPX.excO C hp.objs.size)).get? b = some o := fun b o e => Heap.get?_push_of_some _ (Heap.get?_push_of_some _ e)
  have hget : ((hp.push (PySem.W.kdv_tup [])).push (PySem.HandSPX.excO C hp.objs.size)).get? (hp.objs.size + 1) = some (PySem.HandSPX.excO C hp.objs.size) := by heap_get
  have I2 : Inv X pins σ (upd H1 (hp.objs.size + 1) (exo (hp.objs.size + 1) C none)) ⟨(hp.push (PySem.W.kdv_tup [])).push (PySem.HandSPX.excO C hp.objs.size), g, dr, tk, os⟩ :=
    I1.laid (t' := tk) (a := hp.objs.size + 1) (o := exo (hp.objs.size + 1) C none) (h' := (hp.push (PySem.W.kdv_tup [])).push (PySem.HandSPX.excO C hp.objs.size)) kk hsz (exo_ok hget)
  have r2 : Vals [V.ref (hp.objs.size + 1)] [Value.ref (hp.objs.size + 1)] := .cons rfl .nil
  have hl : [Value.ref (hp.objs.size + 1)].length = ps.length := by
    have e := r2.length
    rw [F1.len _ _ _ _ hq] at e
    exact e.symm
  have hb2 := hb ⟨(hp.push (PySem.W.kdv_tup [])).push (PySem.HandSPX.excO C hp.objs.size), g, dr, tk, os⟩ [Value.ref (hp.objs.size + 1)] I2.kIn (by rw [List.append_nil]; exact hl)
  rw [List.append_nil] at hb2
  refine PySem.wpAny_call (PySem.HandSPX.call_own F.excBase_ValueError (fun Y => PySem.HandSPX.refsVE_contains Y bm hbm) (I1.kIn _ _ hC) (PySem.W.looks_findIn I1.kIn iC) (fun self => PySem.W.bind_fn I1.kIn self tI) (Nat.zero_le _)
    (codeAny_mono (F1.run _ X.stack _ _ ⟨[Value.ref (hp.objs.size + 1)], []⟩ [Value.ref (hp.objs.size + 1)] _ _ (fun _ _ _ => False) (hr.make C [] []) (I2.env0.make C [] []) hb2 r2 hq) fun r s' hq' => ?_))
  cases r with
  | error er => exact hx pins σ _ _ er s' I2 hq'
  | ok fl =>
    cases fl with
    | ret u =>
      obtain ⟨v, H2, os2, bare2, un2, hok2, rv, ev, d, fs, ea, ed, hd1, q2⟩ := hq'
      subst ev
      obtain ⟨h2, g2, d2, t2, os'⟩ := s'
      exact ⟨rv, mk_end (raises_own T.exC T.tyC) I1 hsz kk un2 hok2 os2 bare2 ea ed hd1 q2⟩
    | next => exact False.elim hq'
    | brk => exact False.elim hq'
    | cont => exact False.elim hq'
def dRaise (n : Str) (pl : PyData) : WS := fun C ρ => C.xc ρ n pl
theorem s_raise {j : Nat} (R : ExcF X.prog X.w X.K X.mg X.base n) (hr : Room j X.A) (hc : X.calm = true) (tk : Takes X (wxOf E)) (hg : Gl X n := by rfl) (hj : 2 ≤ j := by decide) (hdb : (n == ("__debug__" : Str)) = false := by decide) :
    PS X (.Raise (some (.Call (.Name n p) [] [] pos)) none pos2) (sOf X.K X.mg E (dRaise n .none)) := by
  obtain ⟨C, fI, fd, hm, T, nw, iC, tI, F1, hb⟩ := R.ex
  refine PS.of (ps_raise hc tk (pmk_oex0 T iC tI F1 (hr.mono hj) hb pass0 hg hm hdb)) fun D σ H ⟨b, F, G0, H0, ρ, C', q, g0, a, eo⟩ => ?_
  refine ⟨Nat.zero_le _, fun a' ha => ⟨a', C, rfl, upd_same, T, nw, fun dx hdx ne => ?_⟩⟩
  have hd0 : H dx = none := by
    rw [upd_ne ne] at hdx
    exact hdx
  refine ⟨rfl, dx, _, upd_same, by rw [upd_ne ne]; exact upd_same, hd0, ?_⟩
  obtain ⟨G, e1, s, E1⟩ := a
  have st := (s.good.new (.xd (exF n .none)) hd0).1
  have eH : upd (del (upd (upd (upd H a' (exo a' C none)) dx (exd dx [("word", .str n)])) a' (exo a' C (some dx))) a') dx (.xd [("word", .str n)]) = upd H dx (.xd [("word", .str n)]) := by
    funext z
    by_cases c : z = dx
    · rw [c, upd_same, upd_same]
    · rw [upd_ne c, upd_ne c]
      by_cases c2 : z = a'
      · rw [c2, del_same, ha]
      · rw [del_ne c2, upd_ne c2, upd_ne c, upd_ne c2]
  rw [eH]
  exact eo.xc ρ σ n .none C dx _ _ q (e1.trans st.ex) (s.trans g0 st) (E1.stp st) hm upd_same
/-! ### try -/
/-- every own error of the list is caught -/
def dTry (ns : Str → Prop) (i : Nat) (wb : WS) (ws : Addr → Addr → Str → PyData → WS) : WS := fun C ρ => wb { C with xc := fun ρ' n pl => ns n ∧ ∀ a d, ws a d n pl { nx := fun ρ2 => C.nx (ρ2.set i none), rt := C.rt, bk := fun ρ2 => C.bk (ρ2.set i none), ct := fun ρ2 => C.ct (ρ2.set i none) } (ρ'.set i (some (.leaf (excD a d n pl)))) } ρ
theorem s_try {x nm : Str} {c : Value} {i : Nat} {body suite : List Stmt} {b₀ : Stmt} {np pos' : Pos} {wb : WS} {ws : Addr → Addr → Str → PyData → WS} (ns : Str → Prop) (hN : X.N.Nodup) (tk : Takes X (wxOf E)) (hc : Names X x c) (hK : ∀ n C, ns n → X.mg n = some (.ref C) → PySem.W.exmOne X.K (.ref C) c = some true)
    (hb : ∀ (E' : SX) (pn : List (Addr × Obj)) (xe : Value → Shared → Prop), Takes (X.tr pn xe) (wxOf E') → PassesOwn (model X.prog X.w) X.A X.env xe → PSs (X.tr pn xe) body (sOf X.K X.mg E' wb))
    (hsu : ∀ (a d C : Addr) (n : Str) (pl : PyData) (oe : Obj) (pn : List (Addr × Obj)), ns n → X.mg n = some (.ref C) → Zc (.ref C) (some d) oe → (∃ vs, oe.data = .fields vs) → PSs (X.suite a ((a, oe) :: pn)) (b₀ :: suite) (sOf X.K X.mg noE (ws a d n pl)))
    (hi : X.N[i]? = some nm := by rfl) (hs : X.stack = X.env :: X.outer := by rfl) (hf : X.env.frame = some X.env.locals := by rfl) (hln : X.env.kindOf nm = some .local := by rfl) :
    PS X (.Try body [.ExceptHandler (some (.Name x np)) (some nm) (b₀ :: suite) pos'] [] [] pos) (sOf X.K X.mg E (dTry ns i wb ws)) := by
  refine PS.of (ps_try_as (tb := fun W => sOf X.K X.mg (fun σ cls d H => W cls d σ H) wb) (ts := fun a cls d D σ H => ∃ (n : Str) (pl : PyData) (C d' : Addr), cls = .ref C ∧ d = some d' ∧ ns n ∧ X.mg n = some (.ref C) ∧ sOf X.K X.mg noE (ws a d' n pl) D σ H) (Wout := wxOf E) hs hf hN hi hln hc tk
    (fun W pn xe tk' ps' => hb _ pn xe tk' ps') (fun a oe cls d pn hz hv => ⟨fun pins s σ H D I h => ?_⟩)) fun D σ H ⟨b, F, G0, H0, ρ, C, q, g0, a, eo⟩ => ?_
  · obtain ⟨n, pl, C, d', rfl, rfl, hx, hm, q⟩ := h
    exact (hsu a d' C n pl oe pn hx hm hz hv).run pins s σ H D I q
  · refine ⟨b, F, G0, H0, ρ, _, q, g0, a, ⟨eo.nx, eo.bk, eo.ct, eo.rt, fun ρ' σ' n pl c0 d G H' hx e1 s E1 hm hd => ?_⟩⟩
    obtain ⟨hx, hw⟩ := hx
    refine ⟨true, hK n c0 hx hm, fun _ a' ha => ⟨n, pl, c0, d, rfl, rfl, hx, hm, b, F, G0, H0, _, _, hw a' d, g0, ⟨G, e1, s, E1.leaf i (.exc hd)⟩, ⟨?_, ?_, ?_, eo.rt, fun _ _ _ _ _ _ _ _ z => z.elim⟩⟩, fun z => nomatch z⟩
    · intro ρ2 σ2 H2 h2 ⟨G2, f2, s2, E2⟩
      exact eo.nx _ _ _ h2 ⟨G2, f2, s2, E2.gone i none⟩
    · intro ρ2 σ2 H2 h2 ⟨G2, f2, s2, E2⟩
      exact eo.bk _ _ _ h2 ⟨G2, f2, s2, E2.gone i none⟩
    · intro ρ2 σ2 H2 h2 ⟨G2, f2, s2, E2⟩
      exact eo.ct _ _ _ h2 ⟨G2, f2, s2, E2.gone i none⟩
/-! ### isinstance of the held exception -/
/-- what the class D must say of its instances -/
structure ExcT (K : PySem.W.Frag) (D : Addr) : Prop where
  hc : (PySem.W.clsIn K D).isSome = true
  hg : PySem.W.findIn K (.ref D) "__getattribute__" = some (some (.builtin "BaseException.__getattribute__"))
  hk : PySem.W.findIn K (.ref D) "__getattr__" = some none
  hs : PySem.W.subIn K (.ref D) (.type "BaseException") = some true
  ha : PySem.W.findIn K (.ref D) "__class__" = some (some (.builtin "object.__class__"))
  hn : PySem.W.specialIn K (.builtin "object.__class__") "__get__" = some (some (.builtin "getset_descriptor.__get__"))
  ht : PySem.W.takesIn K (.builtin "object.__class__") = some true
  hm : PySem.W.mroIn K D (.type "object") = some true
def rIsX (K : PySem.W.Frag) (D a d : Addr) : List V → Hp → VK → Prop := fun xs H Q => ∃ (c : V) (cv : Value) (b : Bool) (fs : List (Str × V)), xs = [.ref a, c] ∧ (∀ u, RelV c u → u = cv) ∧ H d = some (.xd fs) ∧ PySem.W.kitOne K (.ref D) cv = some b ∧ Q (.bl b) H
theorem call_isX {a D d : Addr} {oe : Obj} {pn : List (Addr × Obj)} (C : ExcT X.K D) (hz : Zc (.ref D) (some d) oe) (hf : ∃ vs, oe.data = .fields vs) : CallR (X.suite a ((a, oe) :: pn)) (.builtin "isinstance") (rIsX X.K D a d) := by
  intro pins s σ H xs us Q I r h
  obtain ⟨c, cv, b, fs, rfl, hcv, hd, e, q⟩ := h
  cases r with
  | cons rx rr =>
    cases rr with
    | cons rt rr =>
      cases rr
      cases rx
      have ec := hcv _ rt
      subst ec
      obtain ⟨hget, _⟩ := I.pin (a, oe) (List.mem_append.mpr (.inl List.mem_cons_self))
      obtain ⟨vs, hv⟩ := hf
      have hx : ObjOk X.prog X.w H s.heap d (.xd fs) := I.hok d _ hd
      obtain ⟨mA, hns, _⟩ := hx
      obtain ⟨od, ho, _⟩ := lookIn_ns hns
      have J : PySem.W.InstAt s.heap a oe D (some od) := ⟨hget, hz.1, by unfold PySem.W.notCls; rw [hv] <;> rfl, by rw [hz.2]; exact ho⟩
      exact PySem.W.kia_one (PySem.W.kitx_exc C.hc C.hg C.hk C.hs C.ha C.hn C.ht C.hm) I.kIn J e (fun z => nomatch z) fun tk => ⟨.bl b, H, I.kept (t' := tk) fun _ _ z => z, rfl, q⟩
def dIsX (a d : Addr) (n : Str) (pl : PyData) (k : Bool) (w : WE) : WE := fun x ρ P => w x ρ fun t => t.dat = excD a d n pl ∧ P (boo k)
theorem d_isX {a d D : Addr} {n : Str} {pl : PyData} {oe : Obj} {pn : List (Addr × Obj)} {e c : Expr} {cV : V} {cv : Value} {k : Bool} {w : WE} (T : ExcT X.K D) (hz : Zc (.ref D) (some d) oe) (hf : ∃ vs, oe.data = .fields vs) (hm : X.mg "isinstance" = none) (ha : PE (X.suite a ((a, oe) :: pn)) e (tOf X.K X.mg noE w)) (hc : PE (X.suite a ((a, oe) :: pn)) c (tC cV)) (hcv : ∀ u, RelV cV u → u = cv) (hk : PySem.W.kitOne X.K (.ref D) cv = some k) (hg : Gl X "isinstance" := by rfl)
    (he : starEach [e, c] X.env = (false, eval e X.env) :: starEach [c] X.env := by rfl) (hpl : (backTo pos (starEach [c] X.env)).any (·.1) = false := by rfl) (he2 : starEach [c] X.env = (false, eval c X.env) :: starEach [] X.env := by rfl) :
    PE (X.suite a ((a, oe) :: pn)) (.Call (.Name "isinstance" p) [e, c] [] pos) (tOf X.K X.mg noE (dIsX a d n pl k w)) := by
  refine PE.of (X := X.suite a ((a, oe) :: pn)) (pe_callB (call_isX T hz hf) hg hm (by decide +kernel) (pa_cons ha (pa_cons hc pa_nil he2) he) (by decide) (by decide) he hpl) fun σ H Q ⟨b, B, G, ρ, xp, P, p, hr, kk⟩ => ?_
  refine tOfD_of ⟨b, B, G, ρ, xp, fun t => t = excD a d n pl ∧ P (boo k), p, hr, fun G1 H1 v t hp s1 hr1 r => ?_⟩
  obtain ⟨et, hp⟩ := hp
  subst et
  have ev : v = .ref a ∧ G1 d = some (.xd (exF n pl)) := by
    generalize eE : excD a d n pl = D' at r
    cases r with
    | exc h =>
      simp only [PyData.dict.injEq, List.cons.injEq, Prod.mk.injEq, PyData.int.injEq, PyData.str.injEq] at eE
      obtain ⟨⟨e1, e2⟩, ⟨e3, e4⟩, _⟩ := eE
      have e1 := Int.ofNat.inj e1
      have e3 := Int.ofNat.inj e3
      subst e1 e2 e3 e4
      exact ⟨rfl, h⟩
    | _ => cases eE
  obtain ⟨rfl, hG⟩ := ev
  exact ⟨cV, cv, k, _, rfl, hcv, s1.good.ex _ _ hG, hk, (kk.stp hr.good s1).leaf s1.good hp (.bl _)⟩
end
end Dd
namespace Dd
open PySem L2
def IsTab (K : PySem.W.Frag) (mg : Str → Option Value) (L : List Str) (cv : Value) (g : Str → Bool) : Prop := ∀ n D, n ∈ L → mg n = some (.ref D) → ExcT K D ∧ PySem.W.kitOne K (.ref D) cv = some (g n)
def ExTab (K : PySem.W.Frag) (mg : Str → Option Value) (L : List Str) (cv : Value) : Prop := ∀ n D, n ∈ L → mg n = some (.ref D) → PySem.W.exmOne K (.ref D) cv = some true
theorem kit_own {K : PySem.W.Frag} {D C : Addr} {b : Bool} (hi : PySem.W.isClsIn K C = true) (ht : PySem.W.typeIn K (.ref C) = some (.type "type")) (hd : PySem.W.subIn K (.ref D) (.ref D) = some true) (hs : PySem.W.subIn K (.ref D) (.ref C) = some b) : PySem.W.kitOne K (.ref D) (.ref C) = some b := by
  unfold PySem.W.kitOne
  by_cases c : (Value.ref D == Value.ref C) = true
  · rw [if_pos c]
    have e : D = C := Value.ref.inj (beq_iff_eq.mp c)
    subst e
    rw [hd] at hs
    exact hs
  · rw [if_neg c]
    show (if ((PySem.W.clsIn K C).isSome && PySem.W.typeIn K (Value.ref C) == some (Value.type "type")) = true then PySem.W.subIn K (Value.ref D) (Value.ref C) else none) = some b
    have hi' : (PySem.W.clsIn K C).isSome = true := hi
    rw [if_pos (by rw [hi', ht]; rfl)]
    exact hs
theorem kit_blt {K : PySem.W.Frag} {D : Addr} {T : String} {b : Bool} (hm : PySem.W.kitMeta T = true) (hs : PySem.W.subIn K (.ref D) (.type T) = some b) : PySem.W.kitOne K (.ref D) (.type T) = some b := by
  unfold PySem.W.kitOne
  rw [if_neg (show ¬ ((Value.ref D == Value.type T) = true) from fun z => by
    have := beq_iff_eq.mp z
    cases this)]
  show (if PySem.W.kitMeta T = true then PySem.W.subIn K (Value.ref D) (Value.type T) else none) = some b
  rw [if_pos hm]
  exact hs
def clsI : Stmt → Stmt
  | .ClassDef _ _ _ body _ _ _ _ _ _ _ => body.headD (.Pass ⟨0, 0, 0, 0⟩)
  | s => s
section
variable {X : Cx} {E : SX} {p pos : Pos} {L : List Str}
theorem d_isO {a d D : Addr} {n cn : Str} {pl : PyData} {oe : Obj} {pn : List (Addr × Obj)} {e : Expr} {g : Str → Bool} {w : WE} {cp : Pos} (I : ∃ C, X.mg cn = some (.ref C) ∧ IsTab X.K X.mg L (.ref C) g) (hx : n ∈ L) (hm : X.mg n = some (.ref D)) (hz : Zc (.ref D) (some d) oe) (hf : ∃ vs, oe.data = .fields vs) (hmi : X.mg "isinstance" = none) (ha : PE (X.suite a ((a, oe) :: pn)) e (tOf X.K X.mg noE w))
    (hg : Gl X "isinstance" := by rfl) (hgc : Gl X cn := by rfl) (hdb : (cn == ("__debug__" : Str)) = false := by decide) (he : starEach [e, .Name cn cp] X.env = (false, eval e X.env) :: starEach [.Name cn cp] X.env := by rfl) (hpl : (backTo pos (starEach [.Name cn cp] X.env)).any (·.1) = false := by rfl) (he2 : starEach [.Name cn cp] X.env = (false, eval (.Name cn cp) X.env) :: starEach [] X.env := by rfl) :
    PE (X.suite a ((a, oe) :: pn)) (.Call (.Name "isinstance" p) [e, .Name cn cp] [] pos) (tOf X.K X.mg noE (dIsX a d n pl (g n) w)) := by
  obtain ⟨C, hmc, hI⟩ := I
  obtain ⟨T, hk⟩ := hI n D hx hm
  exact d_isX (cV := .ref C) T hz hf hmi ha (pe_glob (X := X.suite a ((a, oe) :: pn)) (v := .ref C) hgc hmc rfl hdb) (fun u r => r) hk hg he hpl he2
theorem d_isB {a d D : Addr} {n : Str} {cn : String} {pl : PyData} {oe : Obj} {pn : List (Addr × Obj)} {e : Expr} {g : Str → Bool} {w : WE} {cp : Pos} (I : X.mg (Str.ofString cn) = none ∧ IsTab X.K X.mg L (.type cn) g) (hv : bootBuiltins (Str.ofString cn) = some (.type cn)) (hx : n ∈ L) (hm : X.mg n = some (.ref D)) (hz : Zc (.ref D) (some d) oe) (hf : ∃ vs, oe.data = .fields vs) (hmi : X.mg "isinstance" = none) (ha : PE (X.suite a ((a, oe) :: pn)) e (tOf X.K X.mg noE w))
    (hg : Gl X "isinstance" := by rfl) (hgc : Gl X (Str.ofString cn) := by rfl) (hnn : Str.ofString cn ≠ "__name__" := by decide) (hdb : (Str.ofString cn == ("__debug__" : Str)) = false := by decide) (he : starEach [e, .Name (Str.ofString cn) cp] X.env = (false, eval e X.env) :: starEach [.Name (Str.ofString cn) cp] X.env := by rfl) (hpl : (backTo pos (starEach [.Name (Str.ofString cn) cp] X.env)).any (·.1) = false := by rfl) (he2 : starEach [.Name (Str.ofString cn) cp] X.env = (false, eval (.Name (Str.ofString cn) cp) X.env) :: starEach [] X.env := by rfl) :
    PE (X.suite a ((a, oe) :: pn)) (.Call (.Name "isinstance" p) [e, .Name (Str.ofString cn) cp] [] pos) (tOf X.K X.mg noE (dIsX a d n pl (g n) w)) := by
  obtain ⟨hmc, hI⟩ := I
  obtain ⟨T, hk⟩ := hI n D hx hm
  exact d_isX (cV := .ty cn) T hz hf hmi ha (pe_bltn (X := X.suite a ((a, oe) :: pn)) (v := .ty cn) hgc hmc hv rfl hnn hdb) (fun u r => r) hk hg he hpl he2
theorem s_tryO {cn nm : Str} {i : Nat} {body suite : List Stmt} {b₀ : Stmt} {np pos' : Pos} {wb : WS} {ws : Addr → Addr → Str → PyData → WS} (L : List Str) (I : ∃ C, X.mg cn = some (.ref C) ∧ ExTab X.K X.mg L (.ref C)) (hN : X.N.Nodup) (tk : Takes X (wxOf E))
    (hb : ∀ (E' : SX) (pn : List (Addr × Obj)) (xe : Value → Shared → Prop), Takes (X.tr pn xe) (wxOf E') → PassesOwn (model X.prog X.w) X.A X.env xe → PSs (X.tr pn xe) body (sOf X.K X.mg E' wb))
    (hsu : ∀ (a d C : Addr) (n : Str) (pl : PyData) (oe : Obj) (pn : List (Addr × Obj)), n ∈ L → X.mg n = some (.ref C) → Zc (.ref C) (some d) oe → (∃ vs, oe.data = .fields vs) → PSs (X.suite a ((a, oe) :: pn)) (b₀ :: suite) (sOf X.K X.mg noE (ws a d n pl)))
    (hg : Gl X cn := by rfl) (hdb : (cn == ("__debug__" : Str)) = false := by decide) (hi : X.N[i]? = some nm := by rfl) (hs : X.stack = X.env :: X.outer := by rfl) (hf : X.env.frame = some X.env.locals := by rfl) (hln : X.env.kindOf nm = some .local := by rfl) :
    PS X (.Try body [.ExceptHandler (some (.Name cn np)) (some nm) (b₀ :: suite) pos'] [] [] pos) (sOf X.K X.mg E (dTry (fun n => n ∈ L) i wb ws)) := by
  obtain ⟨C, hm, hK⟩ := I
  exact s_try (fun n => n ∈ L) hN tk ⟨hg, hdb, .inl hm⟩ hK hb hsu hi hs hf hln
end
section
variable {n : Str} {C : Ctl} {ρ : Rho} {pl : PyData} {a d : Addr} {k : Bool} {w : WE} {x : XP} {P : T → Prop} {ns : Str → Prop} {i : Nat} {wb : WS} {ws : Addr → Addr → Str → PyData → WS}
theorem e_raise : dRaise n pl C ρ = C.xc ρ n pl := rfl
theorem e_isX : dIsX a d n pl k w x ρ P = w x ρ fun t => t.dat = excD a d n pl ∧ P (boo k) := rfl
theorem e_try : dTry ns i wb ws C ρ = wb { C with xc := fun ρ' n pl => ns n ∧ ∀ a d, ws a d n pl { nx := fun ρ2 => C.nx (ρ2.set i none), rt := C.rt, bk := fun ρ2 => C.bk (ρ2.set i none), ct := fun ρ2 => C.ct (ρ2.set i none) } (ρ'.set i (some (.leaf (excD a d n pl)))) } ρ := rfl
end
end Dd
/-! Functions that change a list handed in: its last argument is an own tree of the caller's. -/
namespace Dd
open PySem L2
def less (H : Hp) (fp : List Addr) : Hp := fun a => if a ∈ fp then none else H a
theorem less_in {H : Hp} {fp : List Addr} {a : Addr} (h : a ∈ fp) : less H fp a = none := if_pos h
theorem less_out {H : Hp} {fp : List Addr} {a : Addr} (h : a ∉ fp) : less H fp a = H a := if_neg h
/-- settled arguments, the tree, what is wanted of the tree behind -/
abbrev SpecM := List PyData → T → (T → Prop) → Prop
def spOfM (K : PySem.W.Frag) (S : SpecM) : Sp := fun vs H Q _ => ∃ (b : Option Addr) (G : Hp) (ds : List PyData) (us : List V) (p : Addr) (t : T) (fp : List Addr) (P : T → Prop), S ds t P ∧ vs = us ++ [.ref p] ∧ Good K b G H ∧ RpAll b G us ds ∧ Tr b G H fp (.ref p) t ∧
  ∀ (G' H' : Hp) (fp' : List Addr) (t' : T), P t' → Stp K b G (less H fp) G' H' → Tr b G' H' fp' (.ref p) t' → (∀ a, a ∈ fp' → a ∈ fp ∨ H a = none) → Q .non H'
section
variable {K : PySem.W.Frag} {b : Option Addr} {G H : Hp} {fp : List Addr}
theorem less_good (g : Good K b G H) (m : ∀ a, a ∈ fp → G a = none ∧ b ≠ some a) : Good K b G (less H fp) := by
  refine ⟨fun a o e => ?_, fun a c => ?_⟩
  · have na : a ∉ fp := fun z => by
      rw [(m a z).1] at e
      cases e
    rw [less_out na]
    exact g.ex a o e
  · obtain ⟨n, cc, cells, pos, rest, seed, q1, q2⟩ := g.box a c
    have na : a ∉ fp := fun z => (m a z).2 c
    exact ⟨n, cc, cells, pos, rest, seed, by rw [less_out na]; exact q1, q2⟩
theorem less_stp (g : Good K b G H) (m : ∀ a, a ∈ fp → G a = none ∧ b ≠ some a) : Stp K b G (less H fp) G H := by
  refine ⟨Ex.rfl' _, g, fun a o c e => ?_, fun a o n e => n, fun a c => ?_⟩
  · by_cases z : a ∈ fp
    · rw [less_in z] at e
      cases e
    · rw [less_out z] at e
      exact e
  · exact boxc_eq (less_out fun z => (m a z).2 c).symm
end
section
variable {P : Program} {w : World} {K : PySem.W.Frag} {mg : Str → Option Value} {base : Heap}
def startM (N : List Str) (ds : List PyData) (t : T) : Rho := ds.map (fun d => some (.leaf d)) ++ some t :: List.replicate (N.length - (ds.length + 1)) none
theorem env_startM {b : Option Addr} {G H : Hp} {N : List Str} {us : List V} {p : Addr} {ds : List PyData} {t : T} {fp : List Addr} (r : RpAll b G us ds) (tr : Tr b G H fp (.ref p) t) : Env b (less H fp) G H (L2.start N (us ++ [.ref p])) (startM N ds (.own p t)) := by
  have hl := r.len
  have mm := tr.mem
  refine ⟨?_, fun i => if i = ds.length then fp else [], fun i u e => ?_, fun i a m => ?_, fun i j a n m => ?_⟩
  · unfold L2.start startM
    simp [hl]
  · unfold startM at e
    by_cases c : i < ds.length
    · rw [List.getElem?_append_left (by simpa using c), List.getElem?_map, List.getElem?_eq_getElem c] at e
      cases e
      obtain ⟨v, ev, rv⟩ := r.get (List.getElem?_eq_getElem c)
      refine ⟨v, ?_, ?_⟩
      · unfold L2.start
        rw [List.getElem?_append_left (by simp; omega), List.getElem?_map, List.getElem?_append_left (by omega), ev] <;> rfl
      · simp only [if_neg (show ¬ i = ds.length by omega)]
        exact .leaf rv
    · rw [List.getElem?_append_right (by simp; omega), List.length_map] at e
      by_cases c2 : i = ds.length
      · subst c2
        rw [Nat.sub_self] at e
        cases e
        refine ⟨.ref p, ?_, ?_⟩
        · unfold L2.start
          rw [List.getElem?_append_left (by simp; omega), List.getElem?_map, List.getElem?_append_right (by omega), hl, Nat.sub_self] <;> rfl
        · simp only [if_pos]
          exact .own tr
      · obtain ⟨k, hk⟩ : ∃ k, i - ds.length = k + 1 := ⟨i - ds.length - 1, by omega⟩
        rw [hk, List.getElem?_cons_succ, List.getElem?_replicate] at e
        split at e <;> cases e
  · by_cases c : i = ds.length
    · simp only [if_pos c] at m
      obtain ⟨g, bb, o⟩ := mm a m
      exact ⟨less_in m, g, bb, o⟩
    · simp only [if_neg c] at m
      cases m
  · by_cases c : i = ds.length
    · simp only [if_neg (show ¬ j = ds.length from fun z => n (c.trans z.symm))]
      exact fun z => nomatch z
    · simp only [if_neg c] at m
      cases m
/-- a def that raises nothing, tells nothing and changes its last argument -/
theorem fn_okM {x qual : Str} {st : Stmt} {f : Addr} {fd : FuncData} {N ps : List Str} {k : Nat} {S : SpecM} {ws : WS} (F : Fun K x qual st f fd) (sc : FnScope N ps (defScope st)) (len : ∀ ds t P, S ds t P → ds.length + 1 = ps.length)
    (body : ∀ (cdv : Value) (A : Around) (outer : List PySem.Env) (s : Shared) (H : Hp) (E : XK), Room k (A.deeper (PyProof.Rows.envOfC qual (defScope st) s.heap.objs.size f cdv)) → PSs (cxOf CX0 P w K mg base N qual (defScope st) f cdv A outer s H E).nox (defBody st) (sOf K mg noE ws))
    (spec : ∀ ds t P p, S ds t P → ws { nx := fun ρ' => ∃ t', ρ'[ds.length]? = some (some (.own p t')) ∧ P t', rt := fun _ => False } (startM N ds (.own p t))) : FnOk P w K mg base CX0 (k + 1) f fd ps (spOfM K S) := by
  refine F.ok sc (fun vs H Q E h => ?_) fun cdv A outer s H vs Q E hr h => ⟨_, body cdv A outer s H E hr, ?_⟩
  · obtain ⟨b, G, ds, us, p, t, fp, P, q, rfl, g, r, _⟩ := h
    rw [List.length_append, r.len]
    exact len _ _ _ q
  · obtain ⟨b, G, ds, us, p, t, fp, P, q, rfl, g, r, tr, k⟩ := h
    have mm : ∀ a, a ∈ fp → G a = none ∧ b ≠ some a := fun a m => ⟨(tr.mem a m).1, (tr.mem a m).2.1⟩
    refine ⟨b, G, G, less H fp, _, _, spec ds t P p q, less_good g mm, ⟨G, Ex.rfl' _, less_stp g mm, env_startM r tr⟩, ⟨fun ρ σ H' hp a => ?_, fun _ _ _ z => z.elim, fun _ _ _ z => z.elim, fun _ _ _ _ _ z => z.elim, fun _ _ _ _ _ _ _ _ z => z.elim⟩⟩
    obtain ⟨t', et, hp⟩ := hp
    obtain ⟨G', _, s, E1⟩ := a
    obtain ⟨fps, h1, h2, _⟩ := E1.ex
    obtain ⟨v, ev, tr'⟩ := h1 _ _ et
    generalize hf : fps ds.length = fq at tr'
    cases tr' with
    | own tr2 =>
      refine k G' H' _ t' hp s tr2 fun a m => ?_
      have := (h2 ds.length a (by rw [hf]; exact m)).1
      by_cases c : a ∈ fp
      · exact .inl c
      · rw [less_out c] at this
        exact .inr this
structure CalM (P : Program) (w : World) (K : PySem.W.Frag) (mg : Str → Option Value) (base : Heap) (x : Str) (ps : List Str) (k : Nat) (S : SpecM) : Prop where
  ex : ∃ f fd, FnOk P w K mg base CX0 k f fd ps (spOfM K S) ∧ mg x = some (.ref f) ∧ PySem.W.keepIn K (.ref f) = true ∧ Binds K fd ps []
theorem CalM.mk' {x qual : Str} {ps : List Str} {k : Nat} {S : SpecM} {st : Stmt} {f : Addr} {fd : FuncData} (F : Fun K x qual st f fd) (h : FnOk P w K mg base CX0 k f fd ps (spOfM K S)) (m : mg x = some (.ref f)) (b : Binds K fd ps []) : CalM P w K mg base x ps k S := ⟨f, fd, h, m, F.kp, b⟩
end
/-! ### the call, as a statement of its own -/
/-- its arguments: settled ones, then the slot j -/
def aM (K : PySem.W.Frag) (mg : Str → Option Value) (E : SX) (ws : WA) (j : Nat) : TA := fun σ H Q => ∃ (b : Option Addr) (B G : Hp) (ρ : Rho) (xp : XP) (P : List PyData → Prop), ws xp ρ P ∧ Site K mg (E σ) b B G H σ ρ xp ∧
  ∀ (G' H' : Hp) (vs : List V) (ds : List PyData), P ds → Stp K b G H G' H' → RpAll b G' vs ds → ∃ v, σ[j]? = some (some v) ∧ Q (vs ++ [v]) H'
section
variable {X : Cx} {E : SX} {e : Expr} {es : List Expr} {w : WE} {ws : WA} {pos p q : Pos} {x : Str}
theorem PA.imp {t u : TA} (h : PA X es t) (k : ∀ σ H Q, u σ H Q → t σ H Q) : PA X es u := ⟨fun ps pins s σ H Q I q => h.run ps pins s σ H Q I (k σ H Q q)⟩
theorem am_last (j : Nat) {y : Str} (hN : X.N[j]? = some y := by rfl) (hv : Vis X.env.scope y := by first | exact Or.inl rfl | exact Or.inr (Or.inl rfl) | exact Or.inr (Or.inr rfl)) (hd : (y == ("__debug__" : Str)) = false := by decide) (hcd : (y == ("__classdict__" : Str)) = false := by decide) (hs : starEach [.Name y q] X.env = (false, eval (.Name y q) X.env) :: starEach [] X.env := by rfl) :
    PA X [.Name y q] (aM X.K X.mg E aNil j) := PA.imp (pa_cons (pe_var hN hv hd hcd) pa_nil hs) fun σ H Q ⟨b, B, G, ρ, xp, P, p, hr, k⟩ => by
  obtain ⟨v, ev, h⟩ := k G H [] [] p hr.good.stp .nil
  exact ⟨v, ev, h⟩
theorem am_cons {j : Nat} (ha : PE X e (tOf X.K X.mg E w)) (hb : PA X es (aM X.K X.mg E ws j)) (hs : starEach (e :: es) X.env = (false, eval e X.env) :: starEach es X.env := by rfl) : PA X (e :: es) (aM X.K X.mg E (aCons w ws) j) := PA.imp (pa_cons ha hb hs) fun σ H Q ⟨b, B, G, ρ, xp, P, p, hr, k⟩ => by
  refine tOfD_of ⟨b, B, G, ρ, xp, fun d => ws xp ρ fun ds => P (d :: ds), p, hr, fun G1 H1 x d p1 s1 hr1 rx => ?_⟩
  refine ⟨b, B, G1, ρ, xp, fun ds => P (d :: ds), p1, hr1, fun G2 H2 vs ds p2 s2 r2 => ?_⟩
  exact k G2 H2 _ _ p2 (s1.trans hr.good s2) (.cons (rx.mono s2.ex) r2)
def dCallM (S : SpecM) (ws : WA) (j : Nat) : WS := fun C ρ => ws (C.xc ρ) ρ fun ds => ∃ ts, ρ[j]? = some (some (.node ts)) ∧ S ds (.node ts) fun t' => C.nx (ρ.set j (some t'))
theorem s_callM {j k l : Nat} {ps : List Str} {S : SpecM} (C : CalM X.prog X.w X.K X.mg X.base x ps k S) (hr : Room l X.A) (ha : PA X (e :: es) (aM X.K X.mg E ws j)) (hg : Gl X x := by rfl) (hj : k ≤ l := by decide) (hdb : (x == ("__debug__" : Str)) = false := by decide) (he : starEach (e :: es) X.env = (false, eval e X.env) :: starEach es X.env := by rfl) (hpl : (backTo pos (starEach es X.env)).any (·.1) = false := by rfl)
    (hs : swapsWith (.Call (.Name x p) (e :: es) [] pos) none q.line X.env = pure false := by rfl) :
    PS X (.Expr (.Call (.Name x p) (e :: es) [] pos) q) (sOf X.K X.mg E (dCallM S ws j)) := by
  obtain ⟨f, fd, h, m, kp, bi⟩ := C.ex
  refine PS.of (ps_expr (pe_call (E := fun _ _ _ => False) h (hr.mono hj) hg m kp bi .nil pass0 ha hdb he hpl) hs) fun D σ H ⟨b, F, G0, H0, ρ, C, q, g0, a, eo⟩ => ?_
  obtain ⟨G, e1, s, hr⟩ := a.site g0 eo
  refine ⟨b, H0, G, ρ, C.xc ρ, _, q, hr, fun G1 H1 vs ds hp s1 r1 => ?_⟩
  obtain ⟨ts, et, hS⟩ := hp
  obtain ⟨hl, fps, h1, h2, h3⟩ := hr.env.stp s1
  obtain ⟨v, ev, tr⟩ := h1 j _ et
  have mm := h2 j
  generalize hf : fps j = fp at tr mm
  obtain ⟨p0, ep⟩ : ∃ p0, v = .ref p0 := by
    cases tr
    exact ⟨_, rfl⟩
  subst ep
  have g1 := s1.good
  have s01 := s.trans g0 s1
  refine ⟨_, ev, b, G1, ds, vs, p0, _, fp, _, hS, List.append_nil _, g1, r1, tr, fun G' H' fp' t' hP s2 tr' fr' => ?_⟩
  have fr0 : ∀ a, a ∈ fp → H0 a = none := fun a m => (mm a m).1
  have out2 : ∀ a o, a ∉ fp → G1 a = none → H1 a = some o → G' a = none := fun a o na n e => s2.out a o n (by rw [less_out na]; exact e)
  have keep2 : ∀ a o, a ∉ fp → b ≠ some a → H1 a = some o → H' a = some o := fun a o na c e => s2.keep a o c (by rw [less_out na]; exact e)
  refine eo.nx _ _ _ hP ⟨G', e1.trans (s1.ex.trans s2.ex), ⟨s01.ex.trans s2.ex, s2.good, fun a o c e => ?_, fun a o n e => ?_, fun a c => ?_⟩, ?_⟩
  · refine keep2 a o (fun z => ?_) c (s01.keep a o c e)
    rw [fr0 a z] at e
    cases e
  · obtain ⟨o', e'⟩ := s01.there g0 e
    refine out2 a o' (fun z => ?_) (s01.out a o n e) e'
    rw [fr0 a z] at e
    cases e
  · rw [s2.cel a c, ← s01.cel a c]
    exact boxc_eq (less_out fun z => (mm a z).2.2.1 c)
  · refine ⟨by rw [List.length_set]; exact hl, fun i => if i = j then fp' else fps i, fun i u e => ?_, fun i a m => ?_, fun i i' a n m => ?_⟩
    · by_cases c : i = j
      · subst c
        have hi : i < ρ.length := (List.getElem?_eq_some_iff.mp et).1
        rw [List.getElem?_set_self hi] at e
        cases e
        exact ⟨_, ev, by simp only [if_pos]; exact tr'⟩
      · rw [List.getElem?_set_ne (Ne.symm c)] at e
        obtain ⟨w, ew, q⟩ := h1 i u e
        refine ⟨w, ew, ?_⟩
        simp only [if_neg c]
        refine q.move s2.ex fun a m => ?_
        obtain ⟨_, gn, bn, o, eo'⟩ := h2 i a m
        have na : a ∉ fp := fun z => h3 i j a c m (by rw [hf]; exact z)
        exact ⟨out2 a o na gn eo', by rw [eo']; exact keep2 a o na bn eo'⟩
    · by_cases c : i = j
      · simp only [if_pos c] at m
        obtain ⟨gn, bn, o⟩ := tr'.mem a m
        refine ⟨?_, gn, bn, o⟩
        rcases fr' a m with z | z
        · exact fr0 a z
        · exact s01.free g0 z
      · simp only [if_neg c] at m
        obtain ⟨z0, gn, bn, o, eo'⟩ := h2 i a m
        have na : a ∉ fp := fun z => h3 i j a c m (by rw [hf]; exact z)
        exact ⟨z0, out2 a o na gn eo', bn, o, keep2 a o na bn eo'⟩
    · have key : ∀ i a, i ≠ j → a ∈ fps i → a ∉ fp' := fun i a c m m' => by
        obtain ⟨_, _, _, o, eo'⟩ := h2 i a m
        rcases fr' a m' with z | z
        · exact h3 i j a c m (by rw [hf]; exact z)
        · rw [eo'] at z
          cases z
      by_cases c : i = j
      · simp only [if_pos c] at m
        have c' : ¬ i' = j := fun z => n (c.trans z.symm)
        simp only [if_neg c']
        exact fun z => key i' a c' z m
      · simp only [if_neg c] at m
        by_cases c' : i' = j
        · simp only [if_pos c']
          exact key i a c m
        · simp only [if_neg c']
          exact h3 i i' a n m
/-! ### a named tree of the own slot, changed in place -/
def dOwn (i : Nat) (ws : WS) : WS := fun C ρ => match ρ[i]? with
  | some (some (.own p t)) => ws { nx := fun ρ' => ∃ t', ρ'[i]? = some (some t') ∧ C.nx (ρ'.set i (some (.own p t'))), rt := fun _ => False } (ρ.set i (some t))
  | _ => False
theorem env_own {b : Option Addr} {B G H : Hp} {σ : L2.St} {ρ : Rho} {i : Nat} {t t' : T} (E : Env b B G H σ ρ) (e : ρ[i]? = some (some t)) (h : ∀ fp v, σ[i]? = some (some v) → Tr b G H fp v t → Tr b G H fp v t') : Env b B G H σ (ρ.set i (some t')) := by
  obtain ⟨hl, fps, h1, h2, h3⟩ := E
  refine ⟨by rw [List.length_set]; exact hl, fps, fun j u q => ?_, h2, h3⟩
  by_cases c : j = i
  · subst c
    have hi : j < ρ.length := (List.getElem?_eq_some_iff.mp e).1
    rw [List.getElem?_set_self hi] at q
    cases q
    obtain ⟨v, ev, tr⟩ := h1 j t e
    exact ⟨v, ev, h _ _ ev tr⟩
  · rw [List.getElem?_set_ne (Ne.symm c)] at q
    exact h1 j u q
theorem own_lift {K : PySem.W.Frag} {mg : Str → Option Value} {i : Nat} {w : WS} {t : TS} (core : ∀ {D σ H}, sOf K mg E w D σ H → t D σ H) (ht : ∀ (D : Ends) σ H, t { D with nx := fun σ' H' => σ' = σ → D.nx σ H' } σ H → t D σ H) {D : Ends} {σ : L2.St} {H : Hp} (h : sOf K mg E (dOwn i w) D σ H) : t D σ H := by
  obtain ⟨b, F, G0, H0, ρ, C, q, g0, a, eo⟩ := h
  unfold dOwn at q
  split at q
  case h_2 => exact q.elim
  rename_i p u eu
  obtain ⟨G, e1, s, E1⟩ := a
  obtain ⟨_, fps0, k1, _, _⟩ := id E1
  obtain ⟨v0, ev0, tr0⟩ := k1 i _ eu
  have evp : σ[i]? = some (some (.ref p)) := by
    generalize fps0 i = fp0 at tr0
    cases tr0
    exact ev0
  have hi : i < ρ.length := (List.getElem?_eq_some_iff.mp eu).1
  refine ht D σ H (core ⟨b, F, G0, H0, _, _, q, g0, ⟨G, e1, s, env_own E1 eu fun fp v ev tr => by
    cases tr with
    | own h => exact h⟩, ⟨fun ρ' σ' H' hn a' => ?_, fun _ _ _ z => z.elim, fun _ _ _ z => z.elim, fun _ _ _ _ _ z => z.elim, fun _ _ _ _ _ _ _ _ z => z.elim⟩⟩)
  rintro rfl
  obtain ⟨t', et', hn⟩ := hn
  obtain ⟨G', e1', s', E1'⟩ := a'
  refine eo.nx _ _ _ hn ⟨G', e1', s', env_own E1' et' fun fp v ev tr => ?_⟩
  rw [evp] at ev
  cases ev
  exact .own tr
theorem asg_sub {te to ti : TE} {r : TSet} (D : Ends) (σ : L2.St) (H : Hp) (h : tAsg te (gSub to ti r) { D with nx := fun σ' H' => σ' = σ → D.nx σ H' } σ H) : tAsg te (gSub to ti r) D σ H := by
  have h2 := h
  simp only [tAsg, gSub, true_implies] at h2
  exact h2
theorem s_set2O (i : Nat) {e2 e3 : Expr} {w1 w2 we : WE} {tpos ipos : Pos} {kp : Pos} (h1 : PE X e2 (tOf X.K X.mg E w1)) (h2 : PE X e3 (tOf X.K X.mg E w2)) (he : PE X e (tOf X.K X.mg E we)) (hN : X.N[i]? = some x := by rfl) (hv : Vis X.env.scope x := by first | exact Or.inl rfl | exact Or.inr (Or.inl rfl) | exact Or.inr (Or.inr rfl)) (hd : (x == ("__debug__" : Str)) = false := by decide) (hcd : (x == ("__classdict__" : Str)) = false := by decide)
    (hpl : PlainIx e2 := by exact fun _ _ => rfl)
    (ha : ∀ v, assign (.Subscript (.Subscript (.Name x kp) e2 ipos) e3 tpos) X.env v = (do
      let ov ← holding [v] (eval (.Subscript (.Name x kp) e2 ipos) X.env)
      let iv ← holding [v, ov] (eval e3 X.env)
      standAt tpos
      holding [v, ov, iv] (setItem ov iv v)
      release [v, ov, iv] []) := by intro _; rfl)
    (hs : swapsWithSole [.Subscript (.Subscript (.Name x kp) e2 ipos) e3 tpos] e pos.line X.env = pure false := by rfl) (hw : swappedStores [.Subscript (.Subscript (.Name x kp) e2 ipos) e3 tpos] e X.env = pure none := by rfl) (h1' : (assignEach [.Subscript (.Subscript (.Name x kp) e2 ipos) e3 tpos] X.env).map (·.2) = [assign (.Subscript (.Subscript (.Name x kp) e2 ipos) e3 tpos) X.env] := by rfl) :
    PS X (.Assign [.Subscript (.Subscript (.Name x kp) e2 ipos) e3 tpos] e pos) (sOf X.K X.mg E (dOwn i (dSet2 i w1 w2 we))) :=
  PS.of (ps_asg he (pg_sub (pe_ix ix_list (pe_var hN hv hd hcd) h1 hpl) h2 set_list ha) hs hw h1') fun D σ H h => own_lift set2_core asg_sub h
end
theorem own_dat {p : Addr} {t : T} : (T.own p t).dat = t.dat := rfl
end Dd
/-! zip of a text (of plain signs) and a list; more texts: str(x), int(text), split, written tables. -/
namespace Dd
open PySem PySem.Spec PyProof.Rows L2
/-- the text's signs with the list's items -/
def ItzS (K : PySem.W.Frag) (x : Str) (b : Addr) : It :=
  ⟨fun i H => ∃ (ys : List V) (c : Nat) (y : V), SqL K H b ys ∧ x.cps[i]? = some c ∧ ys[i]? = some y,
    fun i H v H' => ∃ T c y, v = .ref T ∧ H T = none ∧ H' = upd H T (.tup [.str ⟨#[c]⟩, y]) ∧ x.cps[i]? = some c ∧ ∀ ys, SqL K H b ys → ys[i]? = some y,
    fun i H => ∃ ys : List V, SqL K H b ys ∧ i ≤ x.cps.size ∧ i ≤ ys.length ∧ (i = x.cps.size ∨ i = ys.length)⟩
theorem sep_S {n b : Nat} (hb : b < n) : ZipSep2 (n + 4) (n + 2) (n + 3) n (n + 1) [n] [n + 1, b] := by
  have m1 : ∀ {a c : Nat}, a ≠ c → a ∉ [c] := fun h z => h (List.mem_singleton.mp z)
  have m2 : ∀ {a c d : Nat}, a ≠ c → a ≠ d → a ∉ [c, d] := fun h k z => by
    rcases List.mem_cons.mp z with z | z
    · exact h z
    · exact k (List.mem_singleton.mp z)
  exact { TIz := Nat.ne_of_lt (by omega), TOz := Nat.ne_of_lt (by omega), TITO := Nat.ne_of_lt (by omega), TIi1 := Nat.ne_of_gt (by omega), mem1 := List.mem_singleton.mpr rfl, zf1 := m1 (Nat.ne_of_gt (by omega)), Tf1 := m1 (Nat.ne_of_gt (by omega)), TIi2 := Nat.ne_of_gt (by omega), mem2 := List.mem_cons_self .., zf2 := m2 (Nat.ne_of_gt (by omega)) (Nat.ne_of_gt (by omega)), Tf2 := m2 (Nat.ne_of_gt (by omega)) (Nat.ne_of_gt (by omega)), sep1_2 := m2 (Nat.ne_of_lt (by omega)) (Nat.ne_of_gt (by omega)), sep2_1 := m1 (Nat.ne_of_gt (by omega)) }
theorem turn_zipS {P : Program} {w : World} {K : PySem.W.Frag} {elts : List Expr} {kk : Nat} {tpos : Pos} {x : Str} {t : Tok} {b n : Nat} (hb : b < n) :
    Turn P w K (.Tuple elts kk tpos) (ItzS K x b) [n + 4, n + 2, n + 3, n, n + 1] (n + 4) (fun i h => IsZip h (n + 4) (n + 2) (n + 3) .none ∧ IsTupOf2 h (n + 2) (.ref n) (.ref (n + 1)) ∧ (∃ x y, IsTupOf2 h (n + 3) x y) ∧ h.IsStrIter n "str_ascii_iterator" x t i ∧ h.IsListIter (n + 1) b i) where
  mem := by simp
  obj := fun i h st c hc => by
    obtain ⟨hz, hTI, ⟨x, y, hTO⟩, ⟨o1, e1, _, d1⟩, ⟨o2, e2, _, d2⟩⟩ := st
    have e' : c = n + 4 ∨ c = n + 2 ∨ c = n + 3 ∨ c = n ∨ c = n + 1 := by simpa using hc
    rcases e' with q | q | q | q | q
    · rw [q]; exact ⟨_, hz, fun v q => nomatch q⟩
    · rw [q]; exact ⟨_, hTI, fun v q => nomatch q⟩
    · rw [q]; exact ⟨_, hTO, fun v q => nomatch q⟩
    · rw [q]; exact ⟨o1, e1, fun v q => by rw [d1] at q; cases q⟩
    · rw [q]; exact ⟨o2, e2, fun v q => by rw [d2] at q; cases q⟩
  keep := fun i h h' st k => by
    obtain ⟨hz, hTI, ⟨x, y, hTO⟩, ⟨o1, e1, r1⟩, h2⟩ := st
    exact ⟨k _ (by simp) _ hz, k _ (by simp) _ hTI, ⟨x, y, k _ (by simp) _ hTO⟩, ⟨o1, k _ (by simp) _ e1, r1⟩, h2.at fun o q => k _ (by simp) o q⟩
  item := by
    intro X hP hw hK hc i pins s σ H E I hf st hg
    subst hP hw hK
    obtain ⟨hz, hTI, ⟨x0, y0, hTO⟩, h1, h2⟩ := st
    obtain ⟨ys, c, y, hqy, hx, hy⟩ := hg
    obtain ⟨its2, rv2, p2, _⟩ := I.list hqy
    obtain ⟨u2, hu2, ru2⟩ := rv2.get hy
    have hh := I.ok.hd hc
    have hzl : (n : Nat) + 4 < s.heap.objs.size := Heap.lt_size hz
    have i1 : i < x.cps.size := (Array.getElem?_eq_some_iff.mp hx).1
    have i2 : i < its2.toArray.size := by
      have := (List.getElem?_eq_some_iff.mp hu2).1
      simpa using this
    refine wpAny_pyNext_zipD2_item (sep_S hb) (Draws.strAscii (A := X.A.in1) hh n x t) (Draws.list (A := X.A.in1) hh (n + 1) b (Nat.ne_of_lt (Nat.lt_succ_of_lt hb)) its2.toArray) hz hTI hTO h1 ⟨h2, p2.isList⟩ i1 i2 fun x1 x2 h' tk q1 q2 z' TO' h1' h2' hT hsz hk => ?_
    obtain ⟨c', t', hc', rfl⟩ := q1
    rw [hx] at hc'
    cases hc'
    have e2 : x2 = u2 := by
      have q2' : its2[i]? = some x2 := by simpa using q2
      rw [hu2] at q2'
      cases q2'
      rfl
    subst e2
    refine ⟨_, rfl, wpAny_letOwnedTupleGo_zip (s := { s with heap := h', toks := tk }) z' fun h'' z'' sb => ?_⟩
    have hT2 : h''.get? s.heap.objs.size = some { cls := .type "tuple", data := .seq #[.str ⟨#[c]⟩ t', x2] } := (sb.2 _ (Nat.ne_of_gt hzl)).trans hT
    have new : ObjOk X.prog X.w (upd H s.heap.objs.size (.tup [.str ⟨#[c]⟩, y])) h'' s.heap.objs.size (.tup [.str ⟨#[c]⟩, y]) :=
      ⟨by show 2 ≤ sizeLine; decide, [.str ⟨#[c]⟩ t', x2], .cons ⟨t', rfl⟩ (.cons ru2 .nil), ⟨_, hT2, rfl, _, rfl⟩⟩
    have I1 : Inv X pins σ (upd H s.heap.objs.size (.tup [.str ⟨#[c]⟩, y])) { s with heap := h'', toks := tk } :=
      I.turnedNew (t' := tk) (ch := [n + 4, n + 2, n + 3, n, n + 1]) (fun c o hb q => (sb.2 c (fun q' => hb (by simp [q']))).trans (hk c o (fun q' => hb (by simp [q'])) (fun q' => hb (by simp [q'])) (fun q' => hb (by simp [q'])) (fun q' => hb (by simp [q'])) q)) hf (Nat.le_refl _) new
    refine ⟨.ref s.heap.objs.size, _, I1, rfl, ⟨_, c, y, rfl, I.hok.fresh (Nat.le_refl _), rfl, hx, fun l hl => by rw [I.list_inj hl hqy]; exact hy⟩, ⟨z'', ?_, ⟨.str ⟨#[c]⟩ t', x2, ?_⟩, ?_, ?_⟩, fun c hcm => ?_⟩
    · exact (sb.2 _ (Nat.ne_of_lt (by omega))).trans (hk _ _ (Nat.ne_of_lt (by omega)) (Nat.ne_of_lt (by omega)) (Nat.ne_of_gt (by omega)) (Nat.ne_of_gt (by omega)) hTI)
    · exact (sb.2 _ (Nat.ne_of_lt (by omega))).trans TO'
    · obtain ⟨o1, e1, r1⟩ := h1'
      exact ⟨o1, (sb.2 _ (Nat.ne_of_lt (by omega))).trans e1, r1⟩
    · exact h2'.1.at fun o q => (sb.2 _ (Nat.ne_of_lt (by omega))).trans q
    · have hlt : c < s.heap.objs.size := by
        have e' : c = n + 4 ∨ c = n + 2 ∨ c = n + 3 ∨ c = n ∨ c = n + 1 := by simpa using hcm
        show (c : Nat) < s.heap.objs.size
        rcases e' with q | q | q | q | q
        · rw [q]; exact hzl
        · rw [q]; exact Nat.lt_of_le_of_lt (Nat.add_le_add_left (by decide : 2 ≤ 4) n) hzl
        · rw [q]; exact Nat.lt_of_le_of_lt (Nat.add_le_add_left (by decide : 3 ≤ 4) n) hzl
        · rw [q]; exact Nat.lt_of_le_of_lt (Nat.le_add_right n 4) hzl
        · rw [q]; exact Nat.lt_of_le_of_lt (Nat.add_le_add_left (by decide : 1 ≤ 4) n) hzl
      rw [upd_ne (Nat.ne_of_lt hlt)]
      exact (hf c hcm).1
  done := by
    intro X hP hw hK hc i pins s σ H E I hf st hg
    subst hP hw hK
    obtain ⟨hz, hTI, ⟨x0, y0, hTO⟩, h1, h2⟩ := st
    obtain ⟨ys, hqy, l1, l2, hend⟩ := hg
    obtain ⟨its2, rv2, p2, _⟩ := I.list hqy
    have e2 := rv2.length
    have hh := I.ok.hd hc
    exact wpAny_pyNext_zipD2_end (sep_S hb) (Draws.strAscii (A := X.A.in1) hh n x t) (Draws.list (A := X.A.in1) hh (n + 1) b (Nat.ne_of_lt (Nat.lt_succ_of_lt hb)) its2.toArray) hz hTI hTO h1 ⟨h2, p2.isList⟩ l1 (by simp; omega) (by simp; omega) fun h' tk hk => ⟨rfl, I.turnedL (t' := tk) (ch := [n + 4, n + 2, n + 3, n, n + 1]) (fun c o hb q =>
      hk c o (fun q' => hb (by simp [q'])) (fun q' => hb (by simp [q'])) (fun q' => hb (by simp [q'])) (fun q' => hb (by simp [q'])) q) hf⟩
  self := fun A i s Q E st h => wpAny_pyIter_zip st.1 h
def iZipS (K : PySem.W.Frag) (ta : TA) : TI := fun σ H R => ta σ H fun vs H1 => ∃ (x : Str) (b : Addr) (ys : List V), vs = [.str x, .ref b] ∧ x.cps.all (· < 128) = true ∧ SqL K H1 b ys ∧ R (ItzS K x b) H1
theorem pi_zipS {X : Cx} {e e2 : Expr} {ta : TA} {p pos tpos : Pos} {elts : List Expr} {kk : Nat} (hg : Gl X "zip") (hm : X.mg "zip" = none) (ha : PA X [e, e2] ta)
    (hs : starEach [e, e2] X.env = (false, eval e X.env) :: starEach [e2] X.env := by rfl) (hpl : (backTo pos (starEach [e2] X.env)).any (·.1) = false := by rfl) :
    PI X (.Tuple elts kk tpos) (.Call (.Name "zip" p) [e, e2] [] pos) (iZipS X.K ta) := by
  refine ⟨fun pins s σ H R I h => ?_⟩
  refine Call_ (ld_blt I hg hm PyProof.Rows.boot_zip (PyProof.Rows.callWith_type1 (thn (ha.run pos pins s σ H _ I h) fun us s1 ⟨vs, H1, I1, r1, q1⟩ => ?_) hs hpl))
  obtain ⟨x, b, ys, ex, ha, hqy, q⟩ := q1
  subst ex
  cases r1 with
  | cons r rr =>
    cases rr with
    | cons r' rr =>
      cases rr
      obtain ⟨t, rfl⟩ := r
      cases r'
      obtain ⟨its2, rv2, p2, _⟩ := I1.list hqy
      have lb : b < s1.heap.objs.size := p2.lt
      have ety : strIterType x = "str_ascii_iterator" := if_pos ha
      refine zip_begins2 (begins_text x t) (begins_list b its2.toArray) trivial p2.isList fun h' hz hTI hTO h1 h2 hsz hk => wpAny_pyIter_zip hz ?_
      have I2 : Inv X pins σ H1 { s1 with heap := h' } := I1.kept (t' := s1.toks) hk
      refine ⟨s1.heap.objs.size + 4, [s1.heap.objs.size + 4, s1.heap.objs.size + 2, s1.heap.objs.size + 3, s1.heap.objs.size, s1.heap.objs.size + 1], _, _, H1, rfl, I2, turn_zipS (x := x) (t := t) lb, ⟨hz, hTI, ⟨_, _, hTO⟩, ⟨_, h1, by rw [ety], rfl⟩, ⟨_, h2, rfl, rfl⟩⟩, fun c hcm => ?_, q⟩
      have e' : (c : Nat) = s1.heap.objs.size + 4 ∨ (c : Nat) = s1.heap.objs.size + 2 ∨ (c : Nat) = s1.heap.objs.size + 3 ∨ (c : Nat) = s1.heap.objs.size ∨ (c : Nat) = s1.heap.objs.size + 1 := by simpa using hcm
      have hle : s1.heap.objs.size ≤ c := by rcases e' with q | q | q | q | q <;> rw [q] <;> omega
      exact I1.fpOk hle (I1.hok.fresh hle)

/-! ### read as data -/
def zipSD : List Nat → List PyData → List PyData
  | c :: cs, y :: ys => .tuple [.str ⟨#[c]⟩, y] :: zipSD cs ys
  | _, _ => []
theorem zipSD_len : ∀ xs ys, (zipSD xs ys).length = min xs.length ys.length
  | [], _ => by simp [zipSD]
  | _ :: _, [] => by simp [zipSD]
  | x :: xs, y :: ys => by
    have := zipSD_len xs ys
    simp [zipSD, this]
    all_goals omega
theorem zipSD_get : ∀ (xs : List Nat) (ys : List PyData) (i : Nat) (x : Nat) (y : PyData), xs[i]? = some x → ys[i]? = some y → (zipSD xs ys)[i]? = some (.tuple [.str ⟨#[x]⟩, y])
  | [], _, _, _, _, h, _ => by simp at h
  | _ :: _, [], _, _, _, _, h => by simp at h
  | x :: xs, y :: ys, 0, _, _, h, k => by
    simp at h k
    subst h k
    rfl
  | x :: xs, y :: ys, i + 1, u, v, h, k => by
    show (zipSD xs ys)[i]? = _
    exact zipSD_get xs ys i u v (by simpa using h) (by simpa using k)
theorem walkD_zipS {K : PySem.W.Frag} {b : Option Addr} {F : Hp} {x : Str} {c : Addr} {ys : List V} {es : List PyData} (h' : F c = some (.lst ys)) (r' : RpAll b F ys es) : WalkD K b F (ItzS K x c) (zipSD x.cps.toList es) := by
  have l2 := r'.len
  have le := zipSD_len x.cps.toList es
  have ls : x.cps.toList.length = x.cps.size := Array.length_toList
  have at1 : ∀ {G H : Hp}, Ex F G → Good K b G H → SqL K H c ys := fun e g => .inl (.inl (g.ex _ _ (e _ _ h')))
  refine ⟨fun i G H hi e g => ?_, fun G H e g => ?_, fun i G H v H' hi e g y => ?_⟩
  · have k1 : i < x.cps.size := by omega
    have k2 : i < ys.length := by omega
    exact ⟨ys, x.cps[i], ys[i], at1 e g, Array.getElem?_eq_getElem k1, List.getElem?_eq_getElem k2⟩
  · exact ⟨ys, at1 e g, by omega, by omega, by omega⟩
  · obtain ⟨T, u, w, rfl, hT, rfl, f1, f2⟩ := y
    obtain ⟨d', q2, r2⟩ := r'.get' (f2 _ (at1 e g))
    obtain ⟨G', s, rr⟩ := pair_new g hT (.str ⟨#[u]⟩) (r2.mono e)
    exact ⟨G', _, zipSD_get _ _ i _ _ (by rw [Array.getElem?_toList]; exact f1) q2, s, rr⟩
section
variable {X : Cx} {E : SX} {e e2 : Expr} {ws : WA} {p pos tpos : Pos} {elts : List Expr} {kk : Nat}
def iZs (ws : WA) : WI := fun x ρ P => ws x ρ fun ds => ∃ (z : Str) (es : List PyData), ds = [.str z, .list es] ∧ z.cps.all (· < 128) = true ∧ P (zipSD z.cps.toList es)
theorem i_zipS (hm : X.mg "zip" = none) (ha : PA X [e, e2] (aOf X.K X.mg E ws)) (hg : Gl X "zip" := by rfl) (hs : starEach [e, e2] X.env = (false, eval e X.env) :: starEach [e2] X.env := by rfl) (hpl : (backTo pos (starEach [e2] X.env)).any (·.1) = false := by rfl) :
    PI X (.Tuple elts kk tpos) (.Call (.Name "zip" p) [e, e2] [] pos) (iOf X.K X.mg E (iZs ws)) := PI.of (pi_zipS hg hm ha hs hpl) fun σ H R ⟨b, B, G, ρ, xp, P, q, hr, k⟩ => by
  refine ⟨b, B, G, ρ, xp, _, q, hr, fun G1 H1 vs ds hp s1 r1 => ?_⟩
  obtain ⟨z, es, rfl, ha, hp⟩ := hp
  cases r1 with
  | cons ra rb =>
    cases ra
    cases rb with
    | cons rb rc =>
      cases rc
      cases rb with
      | lst h1 r2 => exact ⟨z, _, _, rfl, ha, .inl (.inl (s1.good.ex _ _ h1)), k G1 H1 _ _ hp s1 (walkD_zipS h1 r2)⟩
end
end Dd
/-! str(x), int(text), split, a module's texts and written tables. -/
namespace Dd
open PySem L2 TL
/-- str(x), x a number or a text -/
def cStr : CD := fun ds P => match ds with
  | [.int i] => i.natAbs < 2 ^ 1000 ∧ P (.leaf (.str (Str.ofString (toString i))))
  | [.str z] => P (.leaf (.str z))
  | _ => False
theorem e_stri {i : Int} {P : T → Prop} : cStr [.int i] P = (i.natAbs < 2 ^ 1000 ∧ P (.leaf (.str (Str.ofString (toString i))))) := rfl
theorem e_strs {z : Str} {P : T → Prop} : cStr [.str z] P = P (.leaf (.str z)) := rfl
theorem ok_strC {K : PySem.W.Frag} : CdOk K (fun xs H Q => (∃ i, xs = [.int i] ∧ i.natAbs.log2 < 1920 ∧ Q (.str (toString i)) H) ∨ ∃ a, xs = [.str a] ∧ Q (.str a) H) cStr := fun b G H vs ds P Q g r h k => by
  unfold cStr at h
  split at h
  · obtain ⟨hi, p⟩ := h
    cases r with
    | cons r1 r2 =>
      cases r2
      cases r1
      rename_i i
      refine .inl ⟨i, rfl, ?_, k.leaf g p (.str _)⟩
      by_cases c : i.natAbs = 0
      · rw [c]
        decide
      · exact Nat.lt_of_lt_of_le ((Nat.log2_lt c).mpr hi) (by decide)
  · cases r with
    | cons r1 r2 =>
      cases r2
      cases r1
      exact .inr ⟨_, rfl, k.leaf g h (.str _)⟩
  · exact h.elim
/-- int(text) -/
def cIntS : CD := fun ds P => ∃ a n, ds = [.str a] ∧ PySem.intText? a = some n ∧ a.length ≤ 640 ∧ P (int n)
theorem ok_intS {K : PySem.W.Frag} : CdOk K (fun xs H Q => ∃ a n, xs = [.str a] ∧ PySem.intText? a = some n ∧ a.length ≤ 640 ∧ Q (.int n) H) cIntS := fun b G H vs ds P Q g r h k => by
  obtain ⟨a, n, rfl, hn, hl, p⟩ := h
  cases r with
  | cons r1 r2 =>
    cases r2
    cases r1
    exact ⟨a, n, rfl, hn, hl, k.leaf g p (.int _)⟩
/-- a module's text -/
structure ConS (mg : Str → Option Value) (x z : Str) : Prop where
  ex : ∃ t, mg x = some (.str z t)
/-- a module's written table of texts -/
structure ConD (K : PySem.W.Frag) (w : World) (mg : Str → Option Value) (x : Str) (tab : List (Str × Str)) : Prop where
  ex : ∃ d es n, mg x = some (.ref d) ∧ KDict K w d es n ∧ ∀ z, (∀ v, tab.lookup z = some v → ∃ t, PySem.W.nsIn K d z = some (some (.str v t))) ∧ (tab.lookup z = none → PySem.W.nsIn K d z = some none)
section
variable {X : Cx} {E : SX} {e e2 : Expr} {w wa wb : WE} {ws : WA} {pos p p2 apos : Pos} {x : Str}
theorem d_strC (hm : X.mg "str" = none) (ha : PA X [e] (aOf X.K X.mg E ws)) (hg : Gl X "str" := by rfl) (he : starEach [e] X.env = (false, eval e X.env) :: starEach [] X.env := by rfl) (hpl : (backTo pos (starEach [] X.env)).any (·.1) = false := by rfl) : PE X (.Call (.Name "str" p) [e] [] pos) (tOf X.K X.mg E (dBlt cStr ws)) :=
  d_ty (call_str_int.or SkE.call_str_str) ok_strC hg hm (by decide +kernel) ha (by decide) (by decide) he hpl
theorem d_intS (hm : X.mg "int" = none) (ha : PA X [e] (aOf X.K X.mg E ws)) (hg : Gl X "int" := by rfl) (he : starEach [e] X.env = (false, eval e X.env) :: starEach [] X.env := by rfl) (hpl : (backTo pos (starEach [] X.env)).any (·.1) = false := by rfl) : PE X (.Call (.Name "int" p) [e] [] pos) (tOf X.K X.mg E (dBlt cIntS ws)) :=
  d_ty call_int_str ok_intS hg hm (by decide +kernel) ha (by decide) (by decide) he hpl
theorem d_conS {z : Str} (C : ConS X.mg x z) (hg : Gl X x := by rfl) (hd : (x == ("__debug__" : Str)) = false := by decide) : PE X (.Name x pos) (tOf X.K X.mg E (dC (.str z))) := by
  obtain ⟨t, h⟩ := C.ex
  exact PE.of (pe_glob (v := .str z) hg h ⟨t, rfl⟩ hd) fun σ H Q ⟨b, B, G, ρ, xp, P, p, hr, k⟩ => k.leaf hr.good p (.str z)
def dSplit (wa wb : WE) : WE := fun x ρ P => wa x ρ (asS fun a => wb x ρ (asS fun b => (b.length == 0) = false ∧ a.length ≤ lim ∧ P (.node ((strsD (Txt.split a b)).map .leaf))))
theorem d_split (ha : PE X e (tOf X.K X.mg E wa)) (hb : PE X e2 (tOf X.K X.mg E wb)) (hs : starEach [e2] X.env = [(false, eval e2 X.env)] := by rfl) (hbase : attributeBase e "split" X.env (eval e X.env) = eval e X.env := by rfl) (hline : (apos.endLine == pos.line) = true := by rfl) :
    PE X (.Call (.Attribute e "split" apos) [e2] [] pos) (tOf X.K X.mg E (dSplit wa wb)) := PE.of (pe_split ha hb hs hbase hline) fun σ H Q ⟨b, B, G, ρ, xp, P, p, hr, k⟩ => by
  refine ⟨b, B, G, ρ, xp, _, p, hr, fun G1 H1 v t fp ht s1 tr fr => ?_⟩
  unfold asS at ht
  split at ht
  · rename_i a
    cases tr with
    | leaf r =>
      cases r
      have hr1 := hr.stp s1
      refine ⟨⟨_, rfl⟩, b, B, G1, ρ, xp, _, ht, hr1, fun G2 H2 v t fp ht s2 tr fr => ?_⟩
      try dsimp only at ht
      split at ht
      · cases tr with
        | leaf r =>
          cases r
          obtain ⟨h0, hl, hp⟩ := ht
          refine ⟨a, _, rfl, rfl, h0, Nat.le_trans (Nat.add_le_add_right hl 2) (by decide), fun q hq => ?_⟩
          exact new_lst s2.good (rp_strs' _) hp ((k.stp hr.good s1).stp hr1.good s2) hq
      · exact ht.elim
  · exact ht.elim
/-- e in T, T a written table -/
def dInTab (neg : Bool) (tab : List (Str × Str)) (wa : WE) : WE := fun x ρ P => wa x ρ (asS fun z => P (boo (neg != (tab.lookup z).isSome)))
def dAtTab (tab : List (Str × Str)) (wa : WE) : WE := fun x ρ P => wa x ρ (asS fun z => ∃ v, tab.lookup z = some v ∧ P (.leaf (.str v)))
theorem tab_core {K : PySem.W.Frag} {mg : Str → Option Value} {neg : Bool} {d : Addr} {tab : List (Str × Str)} (hT : ∀ z, (∀ v, tab.lookup z = some v → ∃ t, PySem.W.nsIn K d z = some (some (.str v t))) ∧ (tab.lookup z = none → PySem.W.nsIn K d z = some none)) {σ : L2.St} {H : Hp} {Q : VK} (q : tOf K mg E (dInTab neg tab wa) σ H Q) :
    tOp (fun x y H Q => ∃ (z : Str) (r : Option Value), x = .str z ∧ y = .ref d ∧ PySem.W.nsIn K d z = some r ∧ Q (.bl (neg != r.isSome)) H) (tOf K mg E wa) (tC (.ref d)) σ H Q := by
  obtain ⟨b, B, G, ρ, xp, P, p, hr, k⟩ := q
  refine ⟨b, B, G, ρ, xp, _, p, hr, fun G1 H1 v t fp ht s1 tr fr => ?_⟩
  unfold asS at ht
  split at ht
  · rename_i z
    cases tr with
    | leaf r =>
      cases r
      have fin : ∀ k0 : Bool, k0 = (neg != (tab.lookup z).isSome) → Q (.bl k0) H1 := fun k0 e => by
        subst e
        exact (k.stp hr.good s1).leaf s1.good ht (.bl _)
      cases q : tab.lookup z with
      | none =>
        exact ⟨z, _, rfl, rfl, (hT z).2 q, fin _ (by rw [q] <;> rfl)⟩
      | some v =>
        obtain ⟨t, hv⟩ := (hT z).1 v q
        exact ⟨z, _, rfl, rfl, hv, fin _ (by rw [q] <;> rfl)⟩
  · exact ht.elim
theorem opr_in {d : Addr} {es : Array DictEntry} {n : Nat} (D : KDict X.K X.w d es n) : OpR X (compareOp .In) (fun x y H Q => ∃ (z : Str) (r : Option Value), x = .str z ∧ y = .ref d ∧ PySem.W.nsIn X.K d z = some r ∧ Q (.bl (false != r.isSome)) H) := fun pins s σ H x y v u Q I rx ry ⟨z, r, h1, h2, h3, h4⟩ => op_in_kd D pins s σ H x y v u Q I rx ry ⟨z, r, h1, h2, h3, by simpa using h4⟩
theorem opr_notIn {d : Addr} {es : Array DictEntry} {n : Nat} (D : KDict X.K X.w d es n) : OpR X (compareOp .NotIn) (fun x y H Q => ∃ (z : Str) (r : Option Value), x = .str z ∧ y = .ref d ∧ PySem.W.nsIn X.K d z = some r ∧ Q (.bl (true != r.isSome)) H) := fun pins s σ H x y v u Q I rx ry ⟨z, r, h1, h2, h3, h4⟩ => op_notIn_kd D pins s σ H x y v u Q I rx ry ⟨z, r, h1, h2, h3, by simpa using h4⟩
theorem d_inTab {tab : List (Str × Str)} (C : ConD X.K X.w X.mg x tab) (ha : PE X e (tOf X.K X.mg E wa)) (hg : Gl X x := by rfl) (hdb : (x == ("__debug__" : Str)) = false := by decide) (hmk : behindInMarks .In (.Name x p2) = false := by rfl) : PE X (.Compare e [.In] [.Name x p2] pos) (tOf X.K X.mg E (dInTab false tab wa)) := by
  obtain ⟨d, es, n, hm, D, hT⟩ := C.ex
  exact PE.of (pe_cmpR (opr_in D) ha (pe_glob (v := .ref d) hg hm rfl hdb) hmk) fun σ H Q q => tab_core hT q
theorem d_notInTab {tab : List (Str × Str)} (C : ConD X.K X.w X.mg x tab) (ha : PE X e (tOf X.K X.mg E wa)) (hg : Gl X x := by rfl) (hdb : (x == ("__debug__" : Str)) = false := by decide) (hmk : behindInMarks .NotIn (.Name x p2) = false := by rfl) : PE X (.Compare e [.NotIn] [.Name x p2] pos) (tOf X.K X.mg E (dInTab true tab wa)) := by
  obtain ⟨d, es, n, hm, D, hT⟩ := C.ex
  exact PE.of (pe_cmpR (opr_notIn D) ha (pe_glob (v := .ref d) hg hm rfl hdb) hmk) fun σ H Q q => tab_core hT q
theorem t_inTab {tab : List (Str × Str)} (C : ConD X.K X.w X.mg x tab) (ha : PE X e (tOf X.K X.mg E wa)) (hg : Gl X x := by rfl) (hdb : (x == ("__debug__" : Str)) = false := by decide) (hmk : behindInMarks .In (.Name x p2) = false := by rfl) : PT X (.Compare e [.In] [.Name x p2] pos) (ttOf X.K X.mg E (dTst (dInTab false tab wa))) := by
  obtain ⟨d, es, n, hm, D, hT⟩ := C.ex
  exact PT.of (pt_cmpR (opr_in D) ha (pe_glob (v := .ref d) hg hm rfl hdb) hmk) fun σ H Q q => tab_core hT (dtst_core q)
theorem t_notInTab {tab : List (Str × Str)} (C : ConD X.K X.w X.mg x tab) (ha : PE X e (tOf X.K X.mg E wa)) (hg : Gl X x := by rfl) (hdb : (x == ("__debug__" : Str)) = false := by decide) (hmk : behindInMarks .NotIn (.Name x p2) = false := by rfl) : PT X (.Compare e [.NotIn] [.Name x p2] pos) (ttOf X.K X.mg E (dTst (dInTab true tab wa))) := by
  obtain ⟨d, es, n, hm, D, hT⟩ := C.ex
  exact PT.of (pt_cmpR (opr_notIn D) ha (pe_glob (v := .ref d) hg hm rfl hdb) hmk) fun σ H Q q => tab_core hT (dtst_core q)
theorem d_atTab {tab : List (Str × Str)} (C : ConD X.K X.w X.mg x tab) (ha : PE X e (tOf X.K X.mg E wa)) (hg : Gl X x := by rfl) (hdb : (x == ("__debug__" : Str)) = false := by decide) (hs : PlainIx e := by exact fun _ _ => rfl) : PE X (.Subscript (.Name x p2) e pos) (tOf X.K X.mg E (dAtTab tab wa)) := by
  obtain ⟨d, es, n, hm, D, hT⟩ := C.ex
  refine PE.of (pe_ix ix_kdict (pe_glob (v := .ref d) hg hm rfl hdb) ha hs) fun σ H Q ⟨b, B, G, ρ, xp, P, p, hr, k⟩ => ?_
  refine ⟨b, B, G, ρ, xp, _, p, hr, fun G1 H1 v t fp ht s1 tr fr => ?_⟩
  unfold asS at ht
  split at ht
  · rename_i z
    cases tr with
    | leaf r =>
      cases r
      obtain ⟨v, hv, hp⟩ := ht
      obtain ⟨t, hn⟩ := (hT z).1 v hv
      exact ⟨d, z, .str v, rfl, rfl, ⟨es, n, _, D.at_, D.lit, hn, ⟨t, rfl⟩⟩, (k.stp hr.good s1).leaf s1.good hp (.str _)⟩
  · exact ht.elim
end
end Dd
namespace Dd
open PySem L2 TL
def rdNotInS : R2D := fun d e P => match d, e with
  | .str x, .str z => ∃ c, x = ⟨#[c]⟩ ∧ P (boo (!decide (c ∈ z.cps.toList)))
  | _, _ => False
theorem e_notInS {c : Nat} {z : Str} {P : T → Prop} : rdNotInS (.str ⟨#[c]⟩) (.str z) P = P (boo (!decide (c ∈ z.cps.toList))) := propext ⟨fun ⟨c', e, p⟩ => by cases e; exact p, fun p => ⟨c, rfl, p⟩⟩
theorem ok_notInS {K : PySem.W.Frag} : RdOk K (fun x y H Q => ∃ (c : Nat) (z : Str), x = .str ⟨#[c]⟩ ∧ y = .str z ∧ Q (.bl (!decide (c ∈ z.cps.toList))) H) rdNotInS := fun b G H x y d e P Q g rx ry h k => by
  unfold rdNotInS at h
  split at h
  · obtain ⟨c, rfl, p⟩ := h
    cases rx
    cases ry
    exact ⟨_, _, rfl, rfl, k G H _ _ [] p g.stp (.leaf (.bl _)) fun _ z => nomatch z⟩
  · exact h.elim
section
variable {X : Cx} {E : SX} {e e2 : Expr} {wa wb : WE} {pos : Pos}
theorem d_notInS (ha : PE X e (tOf X.K X.mg E wa)) (hb : PE X e2 (tOf X.K X.mg E wb)) (hm : behindInMarks .NotIn e2 = false := by rfl) : PE X (.Compare e [.NotIn] [e2] pos) (tOf X.K X.mg E (dOp rdNotInS wa wb)) := d_cmp op_notIn_sign ok_notInS ha hb hm
theorem t_notInS (ha : PE X e (tOf X.K X.mg E wa)) (hb : PE X e2 (tOf X.K X.mg E wb)) (hm : behindInMarks .NotIn e2 = false := by rfl) : PT X (.Compare e [.NotIn] [e2] pos) (ttOf X.K X.mg E (dTst (dOp rdNotInS wa wb))) := t_cmp op_notIn_sign ok_notInS ha hb hm
/-- over a text -/
theorem i_strD {tg : Expr} (h : PE X e (tOf X.K X.mg E wa)) : PI X tg e (iOf X.K X.mg E (iStrD wa)) := PI.of (pi_str h) fun σ H Q ⟨b, B, G, ρ, xp, P, p, hr, k⟩ => tOfD_of ⟨b, B, G, ρ, xp, fun d => match d with
  | .str z => P (z.cps.toList.map fun c => .str ⟨#[c]⟩)
  | _ => False, p, hr, fun G1 H1 v d hp s hr1 r => by
    try dsimp only at hp
    split at hp
    · cases r
      exact ⟨_, rfl, k G1 H1 _ _ hp s strD_walk⟩
    · exact hp.elim⟩
end
end Dd
namespace Dd
open PySem L2 TL
def entS (e : DictEntry) : Option (Str × Str) := match e.key, e.val with
  | .str k _, .str v _ => some (k, v)
  | _, _ => none
theorem ent_find {z : Str} : ∀ (l : List DictEntry) (tab : List (Str × Str)), l.map entS = tab.map some → (∀ v, tab.lookup z = some v → ∃ e t, l.find? (·.key.isStr z) = some e ∧ e.val = .str v t) ∧ (tab.lookup z = none → l.find? (·.key.isStr z) = none) ∧ l.any (·.refKey) = false
  | [], [], _ => ⟨fun _ h => (by cases h), fun _ => rfl, rfl⟩
  | [], _ :: _, h => by cases h
  | _ :: _, [], h => by cases h
  | e :: l, (k, v) :: tab, h => by
    injection h with h1 h2
    obtain ⟨i1, i2, i3⟩ := ent_find (z := z) l tab h2
    obtain ⟨hash, key, val⟩ := e
    unfold entS at h1
    obtain ⟨t, t', rfl, rfl⟩ : ∃ t t', key = .str k t ∧ val = .str v t' := by
      cases key <;> first
        | (cases val <;> first
            | (injection h1 with h1
               injection h1 with h3 h4
               subst h3 h4
               exact ⟨_, _, rfl, rfl⟩)
            | (cases h1))
        | (cases h1)
    by_cases c : k = z
    · subst c
      have b : (k == k) = true := by simp
      refine ⟨fun w hw => ⟨⟨hash, .str k t, .str v t'⟩, t', ?_, ?_⟩, fun hw => ?_, ?_⟩
      · rw [List.find?_cons_of_pos]
        exact b
      · rw [List.lookup_cons, b] at hw
        cases hw
        rfl
      · rw [List.lookup_cons, b] at hw
        cases hw
      · rw [List.any_cons, i3]
        rfl
    · have b : (z == k) = false := by simpa using fun h => c h.symm
      have b2 : (k == z) = false := by simpa using c
      refine ⟨fun w hw => ?_, fun hw => ?_, ?_⟩
      · rw [List.lookup_cons, b] at hw
        obtain ⟨e, t, h1, h2⟩ := i1 w hw
        refine ⟨e, t, ?_, h2⟩
        rw [List.find?_cons_of_neg]
        · exact h1
        · show ¬ ((k == z) = true)
          rw [b2]
          exact Bool.false_ne_true
      · rw [List.lookup_cons, b] at hw
        rw [List.find?_cons_of_neg]
        · exact i2 hw
        · show ¬ ((k == z) = true)
          rw [b2]
          exact Bool.false_ne_true
      · rw [List.any_cons, i3]
        rfl
theorem conD_of {K : PySem.W.Frag} {w : World} {mg : Str → Option Value} {x : Str} {tab : List (Str × Str)} {d : Addr} {es : Array DictEntry} {n : Nat} (hm : mg x = some (.ref d)) (D : KDict K w d es n) (h : es.toList.map entS = tab.map some) : ConD K w mg x tab := by
  refine ⟨d, es, n, hm, D, fun z => ?_⟩
  obtain ⟨i1, i2, i3⟩ := ent_find (z := z) _ _ h
  have e : PySem.W.nsIn K d z = (match es.toList.find? (·.key.isStr z) with
      | some e => some (some e.val)
      | none => if es.toList.any (·.refKey) then none else some none) := by
    unfold PySem.W.nsIn
    rw [D.at_] <;> rfl
  refine ⟨fun v hv => ?_, fun hv => ?_⟩
  · obtain ⟨en, t, h1, h2⟩ := i1 v hv
    exact ⟨t, by rw [e, h1]; show some (some en.val) = _; rw [h2]⟩
  · rw [e, i2 hv, i3]
    rfl
end Dd
namespace Dd
open PySem L2
local macro_rules | `(tactic| walk_at "dd") => `(tactic| try simp only [dSeq, dIf, dOp, dVar, dC, dFr, dBlt, dRet, dRetV, dAsg, dAsgG, dApp, dFrz, dDrop, dNext, dBreak, dCont, dPar, dNot, dAnd, dOr, dIfE, dLst, dTup, dCall, dIsi, dSl, dYes, dSet2, dLR1, dBor, dBorT, dAug2, dAppV, dClr, e_min1, e_max1, e_mulL, e_addL, e_addT, e_sumI, e_flat, frz_nil, frz_cons, Option.map_some, Option.map_none, flat_i, flat_b, flat_n, flat_s, nodeT_dat,  aNil, aCons, oN, iR1, iR2, iEn, iZi, gN, gs0, gsC, gT, gL, dRowsA, dRowsC, dIns, dBorF, dOix, dRev, dFor3, dSplit, iStrD, dInTab, dAtTab, iZs, e_stri, e_strs, e_notInS, dTry, dRaise, dOwn, own_dat, T.own.injEq, dCallM, startM, dIsX, dJoin, asS_s, e_ixs, e_inT, e_notInT, e_inS, e_tupl, e_tupt, asL_I, asL_T, e_in, e_notIn, tiesT_dat, asB_b, asI_i, asL_l, asL_n, asL_c, asU_u, e_tst, e_andV, e_orV, e_notV, e_neg, e_chain, e_aug, e_setI, e_augI, e_oS, e_iL, e_iT, e_I, e_I0, e_add, e_mul, e_ixl, e_ixt, e_eqi, e_eqs, e_eqb, e_eql, e_eqt, e_nei, e_nes, e_neb, e_nel, e_net, e_isNn, e_isNi, e_isNl, e_isNt, e_isNb, e_isNs, e_notNn, e_notNi, e_notNl, e_notNt, e_lenl, e_lent, e_lens, e_max2, e_min2, e_listl, e_listt, e_take, e_great, dat_leaf, dat_n0, dat_n1, dat_n2, dat_n3, dat_n4, dat_n5, dat_n6, dat_n7, dat_n8, dat_leaves0, nodeI_dat, len_intsD, wipeR, List.map_cons, List.map_nil, List.set_cons_zero, List.set_cons_succ, List.getElem?_cons_zero, List.getElem?_cons_succ, List.getElem?_nil, Option.some.injEq, T.leaf.injEq, T.node.injEq, exists_eq_left', exists_eq_left, startR, List.length_cons, List.length_nil, Nat.reduceAdd, Nat.reduceSub, Nat.zero_add, Nat.sub_self, List.replicate, List.cons_append, List.nil_append, List.append_nil, decide_eq_true_eq, decide_eq_false_iff_not, Bool.not_eq_true', Bool.not_eq_false', Bool.not_true, Bool.not_false, reduceCtorEq, true_implies, false_implies, and_true, true_and, Int.zero_add, Int.toNat_natCast, implies_true, false_and, and_false, ite_true, ite_false])
def topS (i : Nat) : Stmt := PySem.Challenge.pw_outlivers_k51_deeds_written.main.body.getD i (.Pass ⟨0, 0, 0, 0⟩)
def tab_SHAPES : List (Str × Str) := [("join", "nc"), ("pay", "nc"), ("draw", "nc"), ("tie", "nn"), ("untie", "nn"), ("bet", "nnc"), ("drop", "nn"), ("blanks", "c"), ("strike", "c")]
abbrev st_XNoDeed : Stmt := clsI (topS 2)
theorem sc_XNoDeed : FnScope ["self"] ["self"] (defScope st_XNoDeed) := ⟨rfl, rfl, rfl, by decide +kernel, rfl, by decide +kernel, by decide +kernel⟩
abbrev st_p_is_name : Stmt := topS 6
theorem sc_p_is_name : FnScope ["word", "sign"] ["word"] (defScope st_p_is_name) := ⟨rfl, rfl, rfl, by decide +kernel, rfl, by decide +kernel, by decide +kernel⟩
/-- whether a text is a name -/
def nameB (z : Str) : Bool := decide (1 ≤ z.length ∧ z.length ≤ 8) && z.cps.toList.all fun c => decide (c ∈ ("abcdefghijklmnopqrstuvwxyz" : Str).cps.toList)
theorem for_signs {z L : Str} {C : Ctl} (h1 : (z.cps.toList.all fun c => decide (c ∈ L.cps.toList)) = true → ∀ y, C.nx [some (.leaf (.str z)), y]) (h2 : (z.cps.toList.all fun c => decide (c ∈ L.cps.toList)) = false → C.rt (boo false)) :
    dFor (iStrD (dVar 0)) (gN 1) (dIf (dTst (dOp rdNotInS (dVar 1) (dC (.str L)))) (dRet (dC (.bool false))) dNext) C [some (.leaf (.str z)), none] := by
  refine for_of (z.cps.toList.map fun c => .str ⟨#[c]⟩) (fun i ρ' => (∃ y, ρ' = [some (.leaf (.str z)), y]) ∧ ∀ j c, j < i → z.cps.toList[j]? = some c → c ∈ L.cps.toList) (fun P h => by walk_at "dd"; exact h) ⟨⟨none, rfl⟩, fun j c hj => absurd hj (Nat.not_lt_zero _)⟩ ?_ ?_
  · rintro i d ρ' hd ⟨⟨y, rfl⟩, hi⟩
    rw [List.getElem?_map] at hd
    cases hc : z.cps.toList[i]? with
    | none =>
      rw [hc] at hd
      cases hd
    | some c =>
      rw [hc] at hd
      cases hd
      walk_at "dd"
      refine ⟨fun h => ?_, fun h => ⟨⟨_, rfl⟩, fun j c' hj e => ?_⟩⟩
      · refine h2 ?_
        rw [List.all_eq_false]
        exact ⟨c, List.mem_of_getElem? hc, by simpa using h⟩
      · by_cases e2 : j = i
        · subst e2
          rw [hc] at e
          cases e
          simpa using h
        · exact hi j c' (by omega) e
  · rintro ρ' ⟨⟨y, rfl⟩, hi⟩
    rw [List.length_map] at hi
    refine h1 ?_ y
    rw [List.all_eq_true]
    intro c hc
    obtain ⟨j, hj⟩ := List.mem_iff_getElem?.mp hc
    exact decide_eq_true (hi j c (List.getElem?_eq_some_iff.mp hj).1 hj)
def S_p_is_name : Spec := fun ds P _ => ∃ z : Str, ds = [.str z] ∧ z.length ≤ lim ∧ P (boo (nameB z))
section
variable {P : Program} {w : World} {K : PySem.W.Frag} {mg : Str → Option Value} {base : Heap}
theorem ok_p_is_name {f : Addr} {fd : FuncData} (F : Fun K "is_name" "is_name" st_p_is_name f fd) (m_len : mg "len" = none) (m_LONGEST : ConI K mg "LONGEST" 8) (m_LETTERS : ConS mg "LETTERS" "abcdefghijklmnopqrstuvwxyz") :
    FnOk P w K mg base CX0 1 f fd ["word"] (spOf K mg S_p_is_name) := by
  refine fn_ok F sc_p_is_name ?len (fun cdv A outer s H E hr => s_cons (s_if (t_not (t_chain (rd := rdLe) (rd' := rdLe) op_le op_le (ok_I0 fun _ _ => rfl) (ok_I0 fun _ _ => rfl) d_int (d_len m_len (a_cons (d_var 0) a_nil)) (d_con m_LONGEST))) (s_one (s_ret d_bl))
      s_nil)
    (s_cons (s_for (ts := [1]) PassesOwn.never rfl (i_strD (d_var 0)) (g_name 1 sc_p_is_name.nd)
      (s_one (s_if (t_notInS (d_var 1) (d_conS m_LETTERS)) (s_one (s_ret d_bl))
      s_nil)))
    (s_one (s_ret d_bl)))) ?spec ?nx
  case len =>
    rintro ds P xp ⟨z, rfl, _⟩
    rfl
  case nx => exact fun _ _ _ h => h
  case spec =>
    rintro ds P ⟨z, rfl, hz, q⟩
    walk_at "dd"
    have no : ¬ (1 ≤ z.length ∧ z.length ≤ 8) → nameB z = false := fun h => by unfold nameB; rw [decide_eq_false h]; rfl
    refine ⟨hz, fun h1 => ⟨fun h2 => ?_, fun h2 => ?_⟩, fun h1 => ?_⟩
    · rw [no (by omega)] at q
      exact q
    · have yes : nameB z = z.cps.toList.all fun c => decide (c ∈ ("abcdefghijklmnopqrstuvwxyz" : Str).cps.toList) := by unfold nameB; rw [decide_eq_true (show 1 ≤ z.length ∧ z.length ≤ 8 by omega)]; rfl
      rw [yes] at q
      refine for_signs (fun h y => ?_) fun h => ?_
      · rw [h] at q
        exact q
      · rw [h] at q
        exact q
    · rw [no (by omega)] at q
      exact q
end
abbrev st_p_is_number : Stmt := topS 11
theorem sc_p_is_number : FnScope ["word", "sign"] ["word"] (defScope st_p_is_number) := ⟨rfl, rfl, rfl, by decide +kernel, rfl, by decide +kernel, by decide +kernel⟩
def numB (z : Str) : Bool := decide (1 ≤ z.length ∧ z.length ≤ 10) && (z.cps.toList.all fun c => decide (c ∈ ("0123456789" : Str).cps.toList)) && (decide (z = "0") || decide (z.cps.toList[0]? ≠ some 48))
theorem numB_len {z : Str} (h : numB z = true) : z.length ≤ 10 := by
  unfold numB at h
  rw [Bool.and_eq_true, Bool.and_eq_true, decide_eq_true_eq] at h
  exact h.1.1.2
theorem numB_int {z : Str} (h : numB z = true) : PySem.intText? z = some ((NumText.digitsVal z.cps.toList : Nat) : Int) := by
  have hl := numB_len h
  unfold numB at h
  rw [Bool.and_eq_true, Bool.and_eq_true, decide_eq_true_eq, List.all_eq_true] at h
  refine intText_digits (fun c hc => ?_) (fun e => ?_) (by omega)
  · have m : c ∈ (Str.ofString "0123456789").cps.toList := of_decide_eq_true (h.1.2 c hc)
    have all : ∀ c ∈ (Str.ofString "0123456789").cps.toList, 48 ≤ c ∧ c ≤ 57 := by decide +kernel
    exact all c m
  · have e2 : z.length = 0 := by
      show z.cps.size = 0
      rw [← Array.length_toList, e]
      rfl
    omega
def S_p_is_number : Spec := fun ds P _ => ∃ z : Str, ds = [.str z] ∧ z.length ≤ lim ∧ P (boo (numB z))
section
variable {P : Program} {w : World} {K : PySem.W.Frag} {mg : Str → Option Value} {base : Heap}
theorem ok_p_is_number {f : Addr} {fd : FuncData} (F : Fun K "is_number" "is_number" st_p_is_number f fd) (m_len : mg "len" = none) (m_MOST_FIGURES : ConI K mg "MOST_FIGURES" 10) (m_FIGURES : ConS mg "FIGURES" "0123456789") :
    FnOk P w K mg base CX0 1 f fd ["word"] (spOf K mg S_p_is_number) := by
  refine fn_ok F sc_p_is_number ?len (fun cdv A outer s H E hr => s_cons (s_if (t_not (t_chain (rd := rdLe) (rd' := rdLe) op_le op_le (ok_I0 fun _ _ => rfl) (ok_I0 fun _ _ => rfl) d_int (d_len m_len (a_cons (d_var 0) a_nil)) (d_con m_MOST_FIGURES))) (s_one (s_ret d_bl))
      s_nil)
    (s_cons (s_for (ts := [1]) PassesOwn.never rfl (i_strD (d_var 0)) (g_name 1 sc_p_is_number.nd)
      (s_one (s_if (t_notInS (d_var 1) (d_conS m_FIGURES)) (s_one (s_ret d_bl))
      s_nil)))
    (s_one (s_ret (d_or (d_eq hr.units (d_var 0) d_str) (d_one (d_ne hr.units (d_ats (d_var 0) d_int) d_str))))))) ?spec ?nx
  case len =>
    rintro ds P xp ⟨z, rfl, _⟩
    rfl
  case nx => exact fun _ _ _ h => h
  case spec =>
    rintro ds P ⟨z, rfl, hz, q⟩
    walk_at "dd"
    have no : ¬ (1 ≤ z.length ∧ z.length ≤ 10) → numB z = false := fun h => by unfold numB; rw [decide_eq_false h]; rfl
    refine ⟨hz, fun h1 => ⟨fun h2 => ?_, fun h2 => ?_⟩, fun h1 => ?_⟩
    · rw [no (by omega)] at q
      exact q
    · have yes : numB z = ((z.cps.toList.all fun c => decide (c ∈ ("0123456789" : Str).cps.toList)) && (decide (z = "0") || decide (z.cps.toList[0]? ≠ some 48))) := by unfold numB; rw [decide_eq_true (show 1 ≤ z.length ∧ z.length ≤ 10 by omega)]; rfl
      rw [yes] at q
      refine for_signs (fun h y => ?_) fun h => ?_
      · rw [h] at q
        walk_at "dd"
        have hne : z.cps.toList ≠ [] := fun e => by
          have e2 : z.length = 0 := by
            show z.cps.size = 0
            rw [← Array.length_toList, e]
            rfl
          omega
        obtain ⟨c, r, hcr⟩ := List.exists_cons_of_ne_nil hne
        rw [hcr] at q ⊢
        refine ⟨fun e => ?_, fun e => ⟨hz, c, ?_, ?_⟩⟩
        · rw [decide_eq_true e] at q
          exact q
        · unfold L2.atI
          rw [ixN_of (by omega) (by simp)] <;> rfl
        · rw [decide_eq_false e] at q
          have e2 : decide ((⟨#[c]⟩ : Str) ≠ Str.ofString "0") = decide ((c :: r)[0]? ≠ some 48) := by
            refine decide_eq_decide.mpr ⟨fun h k => h ?_, fun h k => h ?_⟩
            · have k : c = 48 := by simpa using k
              rw [k] <;> rfl
            · have k2 : (⟨#[c]⟩ : Str) = ⟨#[48]⟩ := k
              have k3 : c = 48 := by simpa using k2
              rw [k3] <;> rfl
          rw [e2]
          exact q
      · rw [h] at q
        exact q
    · rw [no (by omega)] at q
      exact q
end
abbrev st_p_number_in : Stmt := topS 12
theorem sc_p_number_in : FnScope ["word"] ["word"] (defScope st_p_number_in) := ⟨rfl, rfl, rfl, by decide +kernel, rfl, by decide +kernel, by decide +kernel⟩
def S_p_number_in : Spec := fun ds P xp => ∃ z : Str, ds = [.str z] ∧ z.length ≤ lim ∧ (numB z = true → ∃ n, PySem.intText? z = some n ∧ P (int n)) ∧ (numB z = false → xp "NoDeed" .none)
section
variable {P : Program} {w : World} {K : PySem.W.Frag} {mg : Str → Option Value} {base : Heap}
theorem ok_p_number_in {f : Addr} {fd : FuncData} (F : Fun K "number_in" "number_in" st_p_number_in f fd) (C_p_is_number : Cal P w K mg base "is_number" ["word"] 1 S_p_is_number) (X_NoDeed : ExcF P w K mg base "NoDeed") (m_int : mg "int" = none) :
    FnOk P w K mg base (L2.CX P w) 3 f fd ["word"] (spOf K mg S_p_number_in) := by
  refine fn_okX F sc_p_number_in ?len (fun cdv A outer s H E hr => s_cons (s_if (t_not (t_val (d_callC C_p_is_number hr (a_cons (d_var 0) a_nil)))) (s_one (s_raise X_NoDeed hr rfl (takes_of rfl rfl rfl rfl)))
      s_nil)
    (s_one (s_ret (d_intS m_int (a_cons (d_var 0) a_nil))))) ?spec
  case len =>
    rintro ds P xp ⟨z, rfl, _⟩
    rfl
  case spec =>
    rintro ds P xp ⟨z, rfl, hz, q1, q2⟩
    walk_at "dd"
    refine ⟨z, rfl, hz, ?_⟩
    walk_at "dd"
    refine ⟨fun h => q2 h, fun h => ?_⟩
    obtain ⟨n, hn, p⟩ := q1 h
    refine ⟨z, n, rfl, hn, ?_, p⟩
    have := numB_len h
    omega
end
abbrev st_p_deed_text : Stmt := topS 13
theorem sc_p_deed_text : FnScope ["deed", "part"] ["deed"] (defScope st_p_deed_text) := ⟨rfl, rfl, rfl, by decide +kernel, rfl, by decide +kernel, by decide +kernel⟩
/-- a deed's parts: texts and small numbers -/
def PartOk : PyData → Prop
  | .int i => i.natAbs < 2 ^ 1000
  | .str _ => True
  | _ => False
def partT : PyData → Str
  | .int i => Str.ofString (toString i)
  | .str z => z
  | _ => ""
def S_p_deed_text : Spec := fun ds P _ => ∃ xs : List PyData, ds = [.tuple xs] ∧ xs.length < 1000 ∧ (∀ x ∈ xs, PartOk x) ∧ ((xs.map partT).map (·.length)).sum + xs.length ≤ 1000000 ∧ P (.leaf (.str (Txt.join " " (xs.map partT))))
section
variable {P : Program} {w : World} {K : PySem.W.Frag} {mg : Str → Option Value} {base : Heap}
theorem ok_p_deed_text {f : Addr} {fd : FuncData} (F : Fun K "deed_text" "deed_text" st_p_deed_text f fd) (m_str : mg "str" = none) :
    FnOk P w K mg base CX0 1 f fd ["deed"] (spOf K mg S_p_deed_text) := by
  refine fn_ok F sc_p_deed_text ?len (fun cdv A outer s H E hr => s_one (s_ret (d_join d_str (d_lc (own := [("part", 1)]) rfl sc_p_deed_text.nd (i_tup (d_var 0)) (blkOk_by (N := ["deed", "part"]) (sc := defScope st_p_deed_text) (by decide +kernel)) (fun _ _ _ _ _ => g_name 1 sc_p_deed_text.nd) (fun _ _ _ _ _ => ts_nil) (fun _ _ _ _ _ => d_strC m_str (a_cons (d_var 1) a_nil)))))) ?spec ?nx
  case len =>
    rintro ds P xp ⟨z, rfl, _⟩
    rfl
  case nx => exact fun _ _ _ h => h
  case spec =>
    rintro ds P ⟨xs, rfl, hl, hx, hs, q⟩
    walk_at "dd"
    refine lc_map xs (fun d => .leaf (.str (partT d))) (fun P h => by walk_at "dd"; exact h) (lt_lim hl) (fun i d Q R e hQ => ?_) ?_
    · have hd := hx d (List.mem_of_getElem? e)
      walk_at "dd"
      cases d <;> first
        | exact ⟨hd, hQ⟩
        | exact hQ
        | exact hd.elim
    · rw [show xs.map (fun d => T.leaf (.str (partT d))) = (strsD (xs.map partT)).map .leaf by unfold strsD; rw [List.map_map, List.map_map]; rfl]
      refine asX_n.mpr ⟨?_, q⟩
      rw [List.length_map, show (Str.ofString " ").length = 1 from rfl]
      omega
end
abbrev st_p_deed_of : Stmt := topS 14
theorem sc_p_deed_of : FnScope ["text", "words", "shape", "parts", "kind", "word"] ["text"] (defScope st_p_deed_of) := ⟨rfl, rfl, rfl, by decide +kernel, rfl, by decide +kernel, by decide +kernel⟩
def partD (k : Nat) (w : Str) : Option PyData := if k = 99 then (if numB w then (PySem.intText? w).map .int else none) else if nameB w then some (.str w) else none
def partsD : List Nat → List Str → Option (List PyData)
  | k :: ks, w :: ws => (partD k w).bind fun d => (partsD ks ws).map (d :: ·)
  | _, _ => some []
def deedW : List Str → Option PyData
  | [] => none
  | w :: ws => match tab_SHAPES.lookup w with
    | none => none
    | some sh => if ws.length = sh.cps.toList.length then (partsD sh.cps.toList ws).map fun ds => .tuple (.str w :: ds) else none
theorem partsD_step : ∀ (i : Nat) (ks : List Nat) (ws : List Str), partsD ks ws = (partsD (ks.take i) (ws.take i)).bind fun a => (partsD (ks.drop i) (ws.drop i)).map (a ++ ·)
  | 0, ks, ws => by
    show _ = (some ([] : List PyData)).bind _
    simp
  | i + 1, [], ws => by
    simp [partsD]
  | i + 1, k :: ks, [] => by
    simp [partsD]
  | i + 1, k :: ks, w :: ws => by
    show (partD k w).bind (fun d => (partsD ks ws).map (d :: ·)) = ((partD k w).bind fun d => (partsD (ks.take i) (ws.take i)).map (d :: ·)).bind fun a => (partsD (ks.drop i) (ws.drop i)).map (a ++ ·)
    rw [partsD_step i ks ws]
    cases partD k w with
    | none => rfl
    | some d =>
      cases partsD (ks.take i) (ws.take i) with
      | none => rfl
      | some a =>
        show Option.map _ (Option.map _ _) = Option.map _ _
        rw [Option.map_map]
        rfl
theorem partsD_ok {i : Nat} {ks : List Nat} {ws : List Str} {k : Nat} {w : Str} {a : List PyData} {d : PyData} (hk : ks[i]? = some k) (hw : ws[i]? = some w) (h : partsD (ks.take i) (ws.take i) = some a) (hd : partD k w = some d) : partsD (ks.take (i + 1)) (ws.take (i + 1)) = some (a ++ [d]) := by
  obtain ⟨i1, e1⟩ := List.getElem?_eq_some_iff.mp hk
  obtain ⟨i2, e2⟩ := List.getElem?_eq_some_iff.mp hw
  rw [partsD_step i, List.take_take, List.take_take, Nat.min_eq_left (Nat.le_succ i), h, List.drop_take, List.drop_take, List.drop_eq_getElem_cons i1, List.drop_eq_getElem_cons i2, e1, e2, show i + 1 - i = 1 by omega, List.take_succ_cons, List.take_succ_cons]
  show Option.map _ ((partD k w).bind _) = _
  rw [hd]
  rfl
theorem partsD_no {i : Nat} {ks : List Nat} {ws : List Str} {k : Nat} {w : Str} (hk : ks[i]? = some k) (hw : ws[i]? = some w) (hd : partD k w = none) : partsD ks ws = none := by
  obtain ⟨i1, e1⟩ := List.getElem?_eq_some_iff.mp hk
  obtain ⟨i2, e2⟩ := List.getElem?_eq_some_iff.mp hw
  rw [partsD_step i, List.drop_eq_getElem_cons i1, List.drop_eq_getElem_cons i2, e1, e2]
  have e : partsD (k :: ks.drop (i + 1)) (w :: ws.drop (i + 1)) = none := by
    show (partD k w).bind _ = _
    rw [hd]
    rfl
  rw [e]
  cases partsD (ks.take i) (ws.take i) <;> rfl
theorem partsD_len : ∀ {ks : List Nat} {ws : List Str} {a : List PyData}, partsD ks ws = some a → a.length ≤ ks.length
  | [], _, _, h => by
    cases h
    exact Nat.zero_le _
  | _ :: _, [], _, h => by
    cases h
    exact Nat.zero_le _
  | k :: ks, w :: ws, a, h => by
    have h : (partD k w).bind (fun d => (partsD ks ws).map (d :: ·)) = some a := h
    cases e : partD k w with
    | none =>
      rw [e] at h
      cases h
    | some d =>
      rw [e] at h
      cases e2 : partsD ks ws with
      | none =>
        have h : Option.map (d :: ·) (partsD ks ws) = some a := h
        rw [e2] at h
        cases h
      | some b =>
        have h : Option.map (d :: ·) (partsD ks ws) = some a := h
        rw [e2] at h
        cases h
        have := partsD_len e2
        show b.length + 1 ≤ ks.length + 1
        omega
theorem cut1 (x : Str) (xs : List Str) : cutD (strsD (x :: xs)) (some 1) none = strsD xs := by
  unfold cutD
  rw [show ((1 : Int)) = ((1 : Nat) : Int) from rfl, HT.sIx_nat, HT.sIx_none, strs_len, List.length_cons, Nat.min_eq_left (by omega)]
  show ((PyData.str x :: strsD xs).drop 1).take _ = _
  rw [List.drop_succ_cons, List.drop_zero]
  exact List.take_of_length_le (by rw [strs_len]; omega)
def S_p_deed_of : Spec := fun ds P xp => ∃ ws : List Str, ds = [.str (Txt.join " " ws)] ∧ ws ≠ [] ∧ ws.length < 1000 ∧ (∀ w ∈ ws, 32 ∉ TL.tl w ∧ w.length ≤ 10000) ∧ (Txt.join " " ws).length ≤ 10000 ∧ (∀ d, deedW ws = some d → P (.leaf d)) ∧ (deedW ws = none → xp "NoDeed" .none)
theorem tab_sh {w v : Str} (h : tab_SHAPES.lookup w = some v) : v.cps.all (· < 128) = true ∧ v.length ≤ 3 := by
  have all : ∀ kv ∈ tab_SHAPES, (kv.2.cps.all (· < 128) = true ∧ kv.2.length ≤ 3) := by decide +kernel
  have key : ∀ (tab : List (Str × Str)), tab.lookup w = some v → ∃ kv ∈ tab, kv.2 = v := fun tab => by
    induction tab with
    | nil => intro h; cases h
    | cons kv tab ih =>
      intro h
      rw [List.lookup_cons] at h
      split at h
      · cases h
        exact ⟨kv, List.mem_cons_self .., rfl⟩
      · obtain ⟨x, hx, e⟩ := ih h
        exact ⟨x, List.mem_cons_of_mem _ hx, e⟩
  obtain ⟨kv, hm, rfl⟩ := key _ h
  exact all kv hm
section
variable {P : Program} {w : World} {K : PySem.W.Frag} {mg : Str → Option Value} {base : Heap}
theorem ok_p_deed_of {f : Addr} {fd : FuncData} (F : Fun K "deed_of" "deed_of" st_p_deed_of f fd) (C_p_is_name : Cal P w K mg base "is_name" ["word"] 1 S_p_is_name) (C_p_number_in : CalX P w K mg base "number_in" ["word"] 3 S_p_number_in) (X_NoDeed : ExcF P w K mg base "NoDeed") (m_zip : mg "zip" = none) (m_tuple : mg "tuple" = none) (m_len : mg "len" = none) (m_SHAPES : ConD K w mg "SHAPES" tab_SHAPES) :
    FnOk P w K mg base (L2.CX P w) 4 f fd ["text"] (spOf K mg S_p_deed_of) := by
  refine fn_okX F sc_p_deed_of ?len (fun cdv A outer s H E hr => s_cons (s_asg 1 sc_p_deed_of.nd (d_fr (d_split (d_var 0) d_str)))
    (s_cons (s_if (t_notInTab m_SHAPES (d_at (d_var 1) d_int)) (s_one (s_raise X_NoDeed hr rfl (takes_of rfl rfl rfl rfl)))
      s_nil)
    (s_cons (s_asg 2 sc_p_deed_of.nd (d_atTab m_SHAPES (d_at (d_var 1) d_int)))
    (s_cons (s_if (t_ne hr.units (d_len m_len (a_cons (d_var 1) a_nil)) (d_add (d_len m_len (a_cons (d_var 2) a_nil)) d_int)) (s_one (s_raise X_NoDeed hr rfl (takes_of rfl rfl rfl rfl)))
      s_nil)
    (s_cons (s_asg 3 sc_p_deed_of.nd (d_lst (a_cons (d_at (d_var 1) d_int) a_nil)))
    (s_cons (s_for (ts := [4, 5]) (passes_of rfl) rfl (i_zipS m_zip (a_cons (d_var 2) (a_cons (d_sl (d_var 1) (o_some d_int) o_none) a_nil))) (g_tup (n := 2) rfl (gs_cons (g_name 4 sc_p_deed_of.nd) (gs_cons (g_name 5 sc_p_deed_of.nd) gs_nil)))
      (s_one (s_if (t_eq hr.units (d_var 4) d_str) (s_one (s_app 3 (d_callX C_p_number_in hr (takes_of rfl rfl rfl rfl) (a_cons (d_var 5) a_nil))))
      (s_one (s_if (t_val (d_callC C_p_is_name hr (a_cons (d_var 5) a_nil))) (s_one (s_app 3 (d_var 5)))
      (s_one (s_raise X_NoDeed hr rfl (takes_of rfl rfl rfl rfl))))))))
    (s_frz 3 (s_one (s_ret (d_tuple m_tuple (a_cons (d_var 3) a_nil))))))))))) ?spec
  case len =>
    rintro ds P xp ⟨z, rfl, _⟩
    rfl
  case spec =>
    rintro ds P xp ⟨ws, rfl, hne, hl, hw, hz, q1, q2⟩
    have sp : Txt.split (Txt.join " " ws) " " = ws := TL.split_join (y := " ") (s := 32) (S := []) rfl (by decide +kernel) hne fun p hp => (hw p hp).1
    walk_at "dd"
    rw [sp]
    obtain ⟨w, rest, rfl⟩ := List.exists_cons_of_ne_nil hne
    have at0 : atI (strsD (w :: rest)) 0 = some (.str w) := by
      unfold L2.atI
      rw [ixN_of (by omega) (by show (0 : Int) < ((strsD (w :: rest)).length : Nat); rw [strs_len, List.length_cons]; omega)] <;> rfl
    refine ⟨by decide, Nat.le_trans hz (by decide), _, at0, ?_⟩
    walk_at "dd"
    cases ht : tab_SHAPES.lookup w with
    | none =>
      refine ⟨fun _ => q2 ?_, fun h => (by cases h)⟩
      show (match tab_SHAPES.lookup w with
        | none => none
        | some sh => _) = none
      rw [ht]
    | some v =>
      have ed : deedW (w :: rest) = if rest.length = v.cps.toList.length then (partsD v.cps.toList rest).map fun ds => .tuple (.str w :: ds) else none := by
        show (match tab_SHAPES.lookup w with
          | none => none
          | some sh => _) = _
        rw [ht]
      obtain ⟨va, vl⟩ := tab_sh ht
      have vl2 : v.cps.toList.length = v.length := Array.length_toList
      refine ⟨fun h => (by cases h), fun _ => ⟨_, at0, ?_⟩⟩
      walk_at "dd"
      refine ⟨v, ht, Nat.le_trans vl (by decide), fun h => q2 ?_, fun h => ⟨_, at0, by decide, ?_⟩⟩
      · rw [ed, if_neg]
        rw [strs_len, List.length_cons] at h
        omega
      · rw [strs_len, List.length_cons] at h
        have hr : rest.length = v.cps.toList.length := by omega
        rw [if_pos hr] at ed
        rw [ed] at q1 q2
        refine for_of (zipSD v.cps.toList (strsD rest)) (fun i ρ' => ∃ (acc : List PyData) (y4 y5 : Option T), ρ' = [some (.leaf (.str (Txt.join " " (w :: rest)))), some (.leaf (.list (strsD (w :: rest)))), some (.leaf (.str v)), some (.node ((PyData.str w :: acc).map .leaf)), y4, y5] ∧ partsD (v.cps.toList.take i) (rest.take i) = some acc) (fun P h => ?_) ⟨[], none, none, rfl, rfl⟩ ?_ ?_
        · skip
          walk_at "dd"
          refine ⟨v, strsD rest, ?_, va, h⟩
          rw [show cutD (strsD (w :: rest)) (some 1) none = strsD rest from cut1 _ _]
        · rintro i d ρ' hd ⟨acc, y4, y5, rfl, hp⟩
          have hi : i < (zipSD v.cps.toList (strsD rest)).length := (List.getElem?_eq_some_iff.mp hd).1
          rw [zipSD_len, strs_len] at hi
          have i1 : i < v.cps.toList.length := by omega
          have i2 : i < rest.length := by omega
          have g1 := List.getElem?_eq_getElem i1
          have g2 := List.getElem?_eq_getElem i2
          generalize v.cps.toList[i] = k at g1
          generalize hw' : rest[i] = w' at g2
          have hd2 := zipSD_get v.cps.toList (strsD rest) i k (.str w') g1 (by unfold strsD; rw [List.getElem?_map, g2]; rfl)
          rw [hd] at hd2
          cases hd2
          have wl : w'.length ≤ lim := Nat.le_trans (hw w' (List.mem_cons_of_mem _ (List.mem_of_getElem? g2))).2 (by decide)
          have al := partsD_len hp
          rw [List.length_take] at al
          have none_of : partD k w' = none → xp "NoDeed" .none := fun h => q2 (by rw [partsD_no g1 g2 h]; rfl)
          walk_at "dd"
          have lm : (List.map T.leaf acc).length + 1 < lim := by
            rw [List.length_map]
            exact Nat.lt_of_le_of_lt (show acc.length + 1 ≤ 10 by omega) (by decide)
          have c99 : (⟨#[k]⟩ : Str) = Str.ofString "c" → k = 99 := fun e => by
            have e : (⟨#[k]⟩ : Str) = ⟨#[99]⟩ := e
            simpa using e
          refine ⟨fun e => ⟨lm, w', rfl, wl, fun hn => ⟨_, numB_int hn, acc ++ [.int ((NumText.digitsVal w'.cps.toList : Nat) : Int)], some (.leaf (.str ⟨#[k]⟩)), some (.leaf (.str w')), ?_, partsD_ok g1 g2 hp ?_⟩, fun hn => none_of ?_⟩, fun e => ⟨w', rfl, wl, ?_⟩⟩
          · rw [List.map_append]
            rfl
          · unfold partD
            rw [if_pos (c99 e), if_pos hn, numB_int hn] <;> rfl
          · unfold partD
            rw [if_pos (c99 e), hn] <;> rfl
          · have k99 : k ≠ 99 := fun z => e (by rw [z] <;> rfl)
            walk_at "dd"
            refine ⟨fun hn => ⟨lm, acc ++ [.str w'], some (.leaf (.str ⟨#[k]⟩)), some (.leaf (.str w')), ?_, partsD_ok g1 g2 hp ?_⟩, fun hn => none_of ?_⟩
            · rw [List.map_append]
              rfl
            · unfold partD
              rw [if_neg k99, if_pos hn]
            · unfold partD
              rw [if_neg k99, hn] <;> rfl
        · rintro ρ' ⟨acc, y4, y5, rfl, hp⟩
          rw [zipSD_len, strs_len, hr, Nat.min_self, List.take_length, ← hr, List.take_length] at hp
          rw [hp] at q1
          walk_at "dd"
          rw [show (T.node (T.leaf (.str w) :: List.map T.leaf acc)).dat = .list (.str w :: acc) from dat_leaves0 (.str w :: acc)]
          walk_at "dd"
          exact q1 _ rfl
end
abbrev st_l_box : Stmt := topS 16
theorem sc_l_box : FnScope ["_law_script"] ["_law_script"] (defScope st_l_box) := ⟨rfl, rfl, rfl, by decide +kernel, rfl, by decide +kernel, by decide +kernel⟩
section
variable {P : Program} {w : World} {K : PySem.W.Frag} {mg : Str → Option Value} {base : Heap}
theorem ok_l_box {f : Addr} {fd : FuncData} (F : Fun K "_law_box" "_law_box" st_l_box f fd) (m_list : mg "list" = none) : FnOk P w K mg base CX0 1 f fd ["_law_script"] (spBox K) := by
  refine F.ok sc_l_box (fun vs H Q E h => ?_) (fun cdv A outer s H vs Q E hr h => ?_)
  · obtain ⟨a, ns, rfl, _⟩ := h
    rfl
  · obtain ⟨a, ns, rfl, hS, q⟩ := h
    refine ⟨_, pss_one (ps_ret (pe_lst (pa_cons (pe_callTy call_list_of (by rfl) m_list (by decide +kernel) (pa_cons (pe_slice sl_list (pv 0) po_none (po_some pe_int)) pa_nil)) (pa_cons pe_int (pa_cons pe_int (pa_cons pe_int pa_nil)))))), ?_⟩
    refine ⟨_, rfl, 63, rfl, a, _, rfl, hS, fun t ht => ?_⟩
    refine ⟨t, _, rfl, .inl (.inl (.inl upd_same)), fun c hc => ?_⟩
    refine ⟨by show 4 ≤ sizeLine; decide, fun p hp => ?_⟩
    have pc : p ≠ c := fun z => by
      rw [z, upd_same] at hp
      cases hp
    have hcut : cutV (ns.map V.int) none (some 63) = (ns.take 63).map V.int := by
      unfold cutV
      rw [HT.sIx_none]
      rw [show HT.sIx (ns.map V.int).length (ns.map V.int).length (some 63) = min 63 (ns.map V.int).length from HT.sIx_nat _ _ 63]
      rw [List.drop_zero, Nat.sub_zero, List.map_take]
      by_cases h : 63 ≤ (ns.map V.int).length
      · rw [Nat.min_eq_left h]
      · rw [Nat.min_eq_right (by omega), List.take_of_length_le (Nat.le_refl _), List.take_of_length_le (by omega)]
    refine q p c _ (ns.take 63) upd_same ?_ pc (by simp; omega)
    rw [upd_ne (Ne.symm pc), upd_same, hcut]
end
abbrev st_l_take : Stmt := topS 17
theorem sc_l_take : FnScope ["_law_box_here", "_law_many", "_law_rest", "_law_cell", "_law_seed"] ["_law_box_here", "_law_many"] (defScope st_l_take) := ⟨rfl, rfl, rfl, by decide +kernel, rfl, by decide +kernel, by decide +kernel⟩
theorem box_step {K : PySem.W.Frag} {G H H' : Hp} {a c : Addr} {cells : List Int} {pos : Nat} {rest seed : Int} (g : Good K (some a) G H) (e0 : boxc H a = some (.ref c)) (e : H' a = some (.lst [.ref c, .int pos, .int rest, .int seed])) (o : ∀ x, x ≠ a → H' x = H x) (hc : G c = some (.lst (cells.map V.int)))
    (h1 : cells.length ≤ 63) (h2 : pos ≤ 63) (h3 : 0 ≤ rest) (h4 : 0 ≤ seed) (h5 : seed < 2147483629) : Stp K (some a) G H G H' := by
  have gn : G a = none := (g.box a rfl).1
  refine ⟨fun _ _ e => e, ⟨fun x u q => ?_, fun x q => ?_⟩, fun x u n q => ?_, fun x u n _ => n, fun x q => ?_⟩
  · have na : x ≠ a := fun z => by
      rw [z, gn] at q
      cases q
    rw [o x na]
    exact g.ex x u q
  · cases q
    exact ⟨gn, c, cells, pos, rest, seed, e, hc, h1, h2, h3, h4, h5⟩
  · rw [o x fun z => n (by rw [z])]
    exact q
  · cases q
    rw [e0]
    unfold boxc
    rw [e] <;> rfl
theorem at3 {α : Type} {a b c d : α} : atI [a, b, c, d] 3 = some d := rfl
theorem at2' {α : Type} {a b c d : α} : atI [a, b, c, d] 2 = some c := rfl
theorem at1' {α : Type} {a b c d : α} : atI [a, b, c, d] 1 = some b := rfl
theorem at0' {α : Type} {a b c d : α} : atI [a, b, c, d] 0 = some a := rfl
section
variable {P : Program} {w : World} {K : PySem.W.Frag} {mg : Str → Option Value} {base : Heap}
theorem ok_l_take {f : Addr} {fd : FuncData} (F : Fun K "_law_take" "_law_take" st_l_take f fd) (ml : mg "len" = none) : FnOk P w K mg base CX0 1 f fd ["_law_box_here", "_law_many"] (spOf K mg S_l_take) := by
  refine F.ok sc_l_take (sp_len fun ds P xp h => ?_) (fun cdv A outer s H vs Q E hr h => ?_)
  · obtain ⟨n, rfl, _⟩ := h
    rfl
  · obtain ⟨b, G, ds, P, xp, ⟨n, rfl, n0, n1, hP⟩, g, r, k, _⟩ := h
    cases r with
    | cons r1 r2 =>
      cases r1 with
      | @box a hb =>
        subst hb
        cases r2 with
        | cons r3 r4 =>
          cases r3
          cases r4
          obtain ⟨gn, c, cells, pos, rest, seed, hH, hG, hl, hp, h0, hs0, hs1⟩ := g.box a rfl
          refine ⟨_, pss_cons (ps_if (pt_cmpR op_gt (pe_ix ix_list (pv 0) pe_int (fun _ _ => rfl)) pe_int (nomark _))
              (pss_cons (ps_set (i := 2) sc_l_take.nd rfl (.inl rfl) (pe_ix ix_list (pv 0) pe_int (fun _ _ => rfl)))
              (pss_cons (ps_asg (pe_op op_fdivW (pv 2) (pv 1)) (pg_sub (pv 0) pe_int set_list))
              (pss_one (ps_ret (pe_op op_mod (pv 2) (pv 1)))))) pss_nil)
            (pss_cons (ps_set (i := 3) sc_l_take.nd rfl (.inl rfl) pe_int)
            (pss_cons (ps_if (pt_cmpR op_lt (pe_ix ix_list (pv 0) pe_int (fun _ _ => rfl)) (pe_callB call_len_seq (by rfl) ml PySem.boot_len (pa_cons (pe_ix ix_list (pv 0) pe_int (fun _ _ => rfl)) pa_nil)) (nomark _))
              (pss_cons (ps_set (i := 3) sc_l_take.nd rfl (.inl rfl) (pe_ix ix_list (pe_ix ix_list (pv 0) pe_int (fun _ _ => rfl)) (pe_ix ix_list (pv 0) pe_int (fun _ _ => rfl)) (fun _ _ => rfl)))
              (pss_one (ps_augS (pv 0) pe_int get_list pe_int ip_add set_list))) pss_nil)
            (pss_cons (ps_if (pt_cmpR op_ge (pv 3) (pe_op op_pow pe_int pe_int) (nomark _))
              (pss_cons (ps_asg (pe_op op_fdivW (pv 3) (pv 1)) (pg_sub (pv 0) pe_int set_list))
              (pss_one (ps_ret (pe_op op_mod (pv 3) (pv 1))))) pss_nil)
            (pss_cons (ps_set (i := 4) sc_l_take.nd rfl (.inl rfl) (pe_ix ix_list (pv 0) pe_int (fun _ _ => rfl)))
            (pss_cons (ps_set (i := 4) sc_l_take.nd rfl (.inl rfl) (pe_op op_add (pe_op op_add (pe_op op_pow (pv 4) pe_int) (pe_op op_mul pe_int (pv 4))) (pe_op op_mul pe_int (pe_op op_mod (pv 3) pe_int))))
            (pss_cons (ps_asg (pe_op op_mod (pe_op op_add (pv 4) pe_int) pe_int) (pg_sub (pv 0) pe_int set_list))
            (pss_one (ps_ret (pe_op op_mod (pe_op op_fdiv (pe_ix ix_list (pv 0) pe_int (fun _ _ => rfl)) pe_int) (pv 1)))))))))), ?_⟩
          have L : ∀ {H' : Hp} {xs : List V}, H' a = some (.lst xs) → SqL K H' a xs := fun h => .inl (.inl h)
          -- the end: r a drawn number, H' the heap
          have fin : ∀ (H' : Hp) (pos' : Nat) (rest' seed' r : Int), H' a = some (.lst [.ref c, .int pos', .int rest', .int seed']) → (∀ x, x ≠ a → H' x = H x) → pos' ≤ 63 → 0 ≤ rest' → 0 ≤ seed' → seed' < 2147483629 → 0 ≤ r → r < n → Q (.int r) H' := fun H' pos' rest' seed' r e o q1 q2 q3 q4 q5 q6 =>
            k G H' _ _ [] (hP r q5 q6) (box_step g (by unfold boxc; rw [hH] <;> rfl) e o hG hl q1 q2 q3 q4) (.leaf (.int r)) fun _ z => nomatch z
          have mod0 : ∀ x : Int, 0 ≤ x % n := fun x => Int.emod_nonneg _ (by omega)
          have modn : ∀ x : Int, x % n < n := fun x => Int.emod_lt_of_pos _ n0
          refine ⟨_, rfl, a, _, 2, _, rfl, rfl, L hH, at2', rest, 0, rfl, rfl, _, rfl, ?_⟩
          refine ite2 (fun c0 => ?_) (fun c0 => ?_)
          · have c3 : (0 : Int) < rest := of_decide_eq_true c0
            refine ⟨_, rfl, a, _, 2, _, rfl, rfl, L hH, at2', ?_⟩
            refine ⟨_, rfl, _, rfl, _, _, rfl, rfl, (wide_div (b := 200) n0 (Nat.lt_of_lt_of_le (show n.natAbs < 1000000000000000000000000000000 by omega) (by decide)) (by decide) (by decide)), _, rfl, a, _, 2, 2, rfl, rfl, hH, rfl, ?_⟩
            refine ⟨_, rfl, _, rfl, _, _, rfl, rfl, n0, ?_⟩
            exact fin _ pos (rest / n) seed _ upd_same (fun x nx => upd_ne nx) hp (Int.ediv_nonneg (by omega) (by omega)) hs0 hs1 (mod0 _) (modn _)
          -- cell = 0; box[1] < len(box[0])
          refine ⟨_, rfl, a, _, 1, _, rfl, rfl, L hH, at1', _, rfl, a, _, 0, _, rfl, rfl, L hH, at0', c, _, rfl, .inl (.inl (.inl (g.ex _ _ hG))), _, _, rfl, rfl, _, rfl, ?_⟩
          refine ite2 (fun c1 => ?_) (fun c1 => ?_)
          · have c3 : (pos : Int) < ((cells.map V.int).length : Nat) := of_decide_eq_true c1
            rw [List.length_map] at c3
            have c4 : pos < cells.length := by omega
            have ec : atI (cells.map V.int) (pos : Int) = some (.int cells[pos]) := atI_nat (by rw [List.getElem?_map, List.getElem?_eq_getElem c4] <;> rfl)
            refine ⟨_, rfl, a, _, 0, _, rfl, rfl, L hH, at0', _, rfl, a, _, 1, _, rfl, rfl, L hH, at1', c, _, _, _, rfl, rfl, .inl (.inl (g.ex _ _ hG)), ec, ?_⟩
            refine ⟨_, rfl, a, _, 1, _, rfl, rfl, hH, by decide, rfl, _, _, rfl, rfl, a, _, 1, 1, rfl, rfl, hH, rfl, ?_⟩
            generalize hcell : cells[pos] = cell
            have ho : ∀ x, x ≠ a → upd H a (.lst ([V.ref c, .int pos, .int rest, .int seed].set 1 (.int ((pos : Int) + 1)))) x = H x := fun x nx => upd_ne nx
            have hH1 : upd H a (.lst ([V.ref c, .int pos, .int rest, .int seed].set 1 (.int ((pos : Int) + 1)))) a = some (.lst [.ref c, .int ((pos + 1 : Nat) : Int), .int rest, .int seed]) := upd_same
            have hp1 : pos + 1 ≤ 63 := by omega
            revert ho hH1 hp1
            generalize upd H a (.lst ([V.ref c, .int pos, .int rest, .int seed].set 1 (.int ((pos : Int) + 1)))) = H1
            generalize pos + 1 = pos1
            intro ho hH1 hp1
            -- cell >= 10 ** 18
            refine ⟨_, rfl, 10, 18, rfl, rfl, ⟨by decide, by decide, by decide⟩, _, _, rfl, rfl, _, rfl, ?_⟩
            refine ite2 (fun c2 => ?_) (fun c2 => ?_)
            · have c3 : (10 : Int) ^ (18 : Int).toNat ≤ cell := of_decide_eq_true c2
              have hc : 0 ≤ cell := Int.le_trans (by decide) c3
              refine ⟨_, rfl, _, rfl, _, _, rfl, rfl, (wide_div (b := 200) n0 (Nat.lt_of_lt_of_le (show n.natAbs < 1000000000000000000000000000000 by omega) (by decide)) (by decide) (by decide)), _, rfl, a, _, 2, 2, rfl, rfl, hH1, rfl, ?_⟩
              refine ⟨_, rfl, _, rfl, _, _, rfl, rfl, n0, ?_⟩
              exact fin _ pos1 (cell / n) seed _ upd_same (fun x nx => by rw [upd_ne nx]; exact ho x nx) hp1 (Int.ediv_nonneg hc (by omega)) hs0 hs1 (mod0 _) (modn _)
            · refine ⟨_, rfl, a, _, 3, _, rfl, rfl, L hH1, at3, ?_⟩
              refine ⟨_, rfl, seed, 3, rfl, rfl, ⟨by decide, by decide, by show seed.natAbs < 2 ^ 64; omega⟩, _, rfl, 48271, seed, rfl, rfl, .inl ⟨by decide, by decide⟩, _, _, rfl, rfl, _, rfl, cell, 2147483629, rfl, rfl, (by show (0 : Int) < 2147483629; decide), 69621, _, rfl, rfl, .inl ⟨by decide, by decide⟩, _, _, rfl, rfl, ?_⟩
              refine ⟨_, rfl, _, 11, rfl, rfl, _, 2147483629, rfl, rfl, (by show (0 : Int) < 2147483629; decide), _, rfl, a, _, 3, 3, rfl, rfl, hH1, rfl, ?_⟩
              refine ⟨_, rfl, a, _, 3, _, rfl, rfl, L upd_same, at3, _, 64, rfl, rfl, ⟨by decide, by decide⟩, _, rfl, _, n, rfl, rfl, n0, ?_⟩
              exact fin _ pos1 rest _ _ upd_same (fun x nx => by rw [upd_ne nx]; exact ho x nx) hp1 h0 (Int.emod_nonneg _ (by decide)) (Int.emod_lt_of_pos _ (by decide)) (mod0 _) (modn _)
          · -- 0 >= 10 ** 18
            refine ⟨_, rfl, 10, 18, rfl, rfl, ⟨by decide, by decide, by decide⟩, _, _, rfl, rfl, _, rfl, ?_⟩
            refine ite2 (fun c2 => ?_) (fun c2 => ?_)
            · have c3 : (10 : Int) ^ (18 : Int).toNat ≤ (0 : Int) := of_decide_eq_true c2
              have hc : 0 ≤ (0 : Int) := Int.le_trans (by decide) c3
              refine ⟨_, rfl, _, rfl, _, _, rfl, rfl, (wide_div (b := 200) n0 (Nat.lt_of_lt_of_le (show n.natAbs < 1000000000000000000000000000000 by omega) (by decide)) (by decide) (by decide)), _, rfl, a, _, 2, 2, rfl, rfl, hH, rfl, ?_⟩
              refine ⟨_, rfl, _, rfl, _, _, rfl, rfl, n0, ?_⟩
              exact fin _ pos ((0 : Int) / n) seed _ upd_same (fun x nx => upd_ne nx) hp (Int.ediv_nonneg hc (by omega)) hs0 hs1 (mod0 _) (modn _)
            · refine ⟨_, rfl, a, _, 3, _, rfl, rfl, L hH, at3, ?_⟩
              refine ⟨_, rfl, seed, 3, rfl, rfl, ⟨by decide, by decide, by show seed.natAbs < 2 ^ 64; omega⟩, _, rfl, 48271, seed, rfl, rfl, .inl ⟨by decide, by decide⟩, _, _, rfl, rfl, _, rfl, (0 : Int), 2147483629, rfl, rfl, (by show (0 : Int) < 2147483629; decide), 69621, _, rfl, rfl, .inl ⟨by decide, by decide⟩, _, _, rfl, rfl, ?_⟩
              refine ⟨_, rfl, _, 11, rfl, rfl, _, 2147483629, rfl, rfl, (by show (0 : Int) < 2147483629; decide), _, rfl, a, _, 3, 3, rfl, rfl, hH, rfl, ?_⟩
              refine ⟨_, rfl, a, _, 3, _, rfl, rfl, L upd_same, at3, _, 64, rfl, rfl, ⟨by decide, by decide⟩, _, rfl, _, n, rfl, rfl, n0, ?_⟩
              exact fin _ pos rest _ _ upd_same (fun x nx => upd_ne nx) hp h0 (Int.emod_nonneg _ (by decide)) (Int.emod_lt_of_pos _ (by decide)) (mod0 _) (modn _)
end
abbrev st_l_same : Stmt := topS 18
theorem sc_l_same : FnScope ["_law_found", "_law_due", "_law_one", "_law_other"] ["_law_found", "_law_due"] (defScope st_l_same) := ⟨rfl, rfl, rfl, by decide +kernel, rfl, by decide +kernel, by decide +kernel⟩
def S_same : Nat → Spec
  | 0 => fun _ _ _ => False
  | n + 1 => fun ds P _ => ∃ d, ds = [d, d] ∧ Sm n d ∧ P (boo true)
theorem zipD_same : ∀ (xs : List PyData) (i : Nat) (d : PyData), (zipD xs xs)[i]? = some d → ∃ x, x ∈ xs ∧ d = .tuple [x, x]
  | [], i, d, h => by simp [zipD] at h
  | x :: xs, 0, d, h => by
    simp [zipD] at h
    exact ⟨x, List.mem_cons_self .., h.symm⟩
  | x :: xs, i + 1, d, h => by
    obtain ⟨y, hy, e⟩ := zipD_same xs i d (by simpa [zipD] using h)
    exact ⟨y, List.mem_cons_of_mem _ hy, e⟩
section
variable {P : Program} {w : World} {K : PySem.W.Frag} {mg : Str → Option Value} {base : Heap}
theorem all_true {n : Nat} : (List.replicate n true).all id = true := by simp
theorem ok_same_all {f : Addr} {fd : FuncData} (hb : Binds K fd ["_law_found", "_law_due"] []) (hm : mg "_law_same" = some (.ref f)) (F : Fun K "_law_same" "_law_same" st_l_same f fd) (m_isinstance : mg "isinstance" = none) (m_list : mg "list" = none) (m_tuple : mg "tuple" = none) (m_all : mg "all" = none) (m_bool : mg "bool" = none) (m_int : mg "int" = none) (m_str : mg "str" = none) (m_len : mg "len" = none) (m_zip : mg "zip" = none) :
    ∀ n : Nat, n ≤ 30 → FnOk P w K mg base CX0 n f fd ["_law_found", "_law_due"] (spOf K mg (S_same n))
  | 0, _ => ⟨fun vs H Q E ⟨_, _, _, _, _, h, _⟩ => h.elim, fun A outer s H args us vs Q E _ _ _ _ ⟨_, _, _, _, _, h, _⟩ => h.elim⟩
  | n + 1, hn => by
    have C_l_same : Cal P w K mg base "_law_same" ["_law_found", "_law_due"] n (S_same n) := ⟨f, fd, ok_same_all hb hm F m_isinstance m_list m_tuple m_all m_bool m_int m_str m_len m_zip n (by omega), hm, F.kp, hb⟩
    refine fn_ok F sc_l_same ?len (fun cdv A outer s H E hr => s_cons (s_if ((w_or (t_val (d_isi (n := "list") m_isinstance m_list (by decide +kernel) (d_var 1))) (w_or1 (t_val (d_isi (n := "tuple") m_isinstance m_tuple (by decide +kernel) (d_var 1))))).pt) (s_cons (s_if ((w_or (t_ne hr.units (d_isi (n := "list") m_isinstance m_list (by decide +kernel) (d_var 0)) (d_isi (n := "list") m_isinstance m_list (by decide +kernel) (d_var 1))) (w_or1 (t_ne hr.units (d_isi (n := "tuple") m_isinstance m_tuple (by decide +kernel) (d_var 0)) (d_isi (n := "tuple") m_isinstance m_tuple (by decide +kernel) (d_var 1))))).pt) (s_one (s_ret d_bl))
      s_nil)
    (s_one (s_ret (d_and (d_eq hr.units (d_len m_len (a_cons (d_var 0) a_nil)) (d_len m_len (a_cons (d_var 1) a_nil))) (d_one (d_all rfl m_all (a_cons (d_lc (own := [("_law_one", 2), ("_law_other", 3)]) rfl sc_l_same.nd (i_zip m_zip (a_cons (d_var 0) (a_cons (d_var 1) a_nil))) (blkOk_by (N := ["_law_found", "_law_due", "_law_one", "_law_other"]) (sc := defScope st_l_same) (by decide +kernel)) (fun _ _ _ _ _ => g_tup (n := 2) rfl (gs_cons (g_name 2 sc_l_same.nd) (gs_cons (g_name 3 sc_l_same.nd) gs_nil))) (fun _ _ _ _ _ => ts_nil) (fun _ _ _ _ _ => d_callC C_l_same hr (a_cons (d_var 2) (a_cons (d_var 3) a_nil)) (hj := Nat.le_refl _))) a_nil)))))))
      s_nil)
    (s_cons (s_if ((w_or (t_isN (d_var 0) d_non) (w_or1 (t_isN (d_var 1) d_non))).pt) (s_one (s_ret (d_and (d_isN (d_var 0) d_non) (d_one (d_isN (d_var 1) d_non)))))
      s_nil)
    (s_cons (s_if ((w_or (t_ne hr.units (d_isi (n := "bool") m_isinstance m_bool (by decide +kernel) (d_var 0)) (d_isi (n := "bool") m_isinstance m_bool (by decide +kernel) (d_var 1))) (w_or1 (t_ne hr.units (d_isi (n := "int") m_isinstance m_int (by decide +kernel) (d_var 0)) (d_isi (n := "int") m_isinstance m_int (by decide +kernel) (d_var 1))))).pt) (s_one (s_ret d_bl))
      s_nil)
    (s_one (s_ret (d_and (d_eq hr.units (d_isi (n := "str") m_isinstance m_str (by decide +kernel) (d_var 0)) (d_isi (n := "str") m_isinstance m_str (by decide +kernel) (d_var 1))) (d_one (d_eq hr.units (d_var 0) (d_var 1))))))))) ?spec ?nx
    case len =>
      rintro ds P xp ⟨d, rfl, _⟩
      rfl
    case nx => exact fun _ _ _ h => h
    case spec =>
      rintro ds P ⟨d, rfl, hd, q⟩
      have hs := hd.shaped (by omega)
      have k1 : kitB "list" "list" = some true := by decide
      have k2 : kitB "tuple" "list" = some false := by decide
      have k3 : kitB "int" "list" = some false := by decide
      have k4 : kitB "bool" "list" = some false := by decide
      have k5 : kitB "str" "list" = some false := by decide
      have k6 : kitB "NoneType" "list" = some false := by decide
      have t1 : kitB "list" "tuple" = some false := by decide
      have t2 : kitB "tuple" "tuple" = some true := by decide
      have t3 : kitB "int" "tuple" = some false := by decide
      have t4 : kitB "bool" "tuple" = some false := by decide
      have t5 : kitB "str" "tuple" = some false := by decide
      have t6 : kitB "NoneType" "tuple" = some false := by decide
      have b3 : kitB "int" "bool" = some false := by decide
      have b4 : kitB "bool" "bool" = some true := by decide
      have b5 : kitB "str" "bool" = some false := by decide
      have i3 : kitB "int" "int" = some true := by decide
      have i4 : kitB "bool" "int" = some true := by decide
      have i5 : kitB "str" "int" = some false := by decide
      have s3 : kitB "int" "str" = some false := by decide
      have s4 : kitB "bool" "str" = some false := by decide
      have s5 : kitB "str" "str" = some true := by decide
      have seq : ∀ (m : Nat) (xs : List PyData) (v : PyData) (xp : XP), n = m + 1 → (v = .list xs ∨ v = .tuple xs) → xs.length < 1000 → (∀ x ∈ xs, Sm m x) → dLc (iZi (aCons (dVar 0) (aCons (dVar 1) aNil))) (gT 2 (gsC (gN 2) (gsC (gN 3) gs0))) dYes (dCall (S_same n) (aCons (dVar 2) (aCons (dVar 3) aNil))) [2, 3] xp [some (.leaf v), some (.leaf v), none, none] (fun t => cAll [t.dat] P) := fun m xs v xp hn2 hv hx hxs => by
        subst hn2
        refine lc_map (zipD xs xs) (fun _ => boo true) (fun P h => ?_) (by rw [zipD_len]; exact lt_lim (by omega)) (fun i d Q R e hQ => ?_) ?_
        · rcases hv with hv | hv <;> subst hv <;> walk_at "dd" <;> exact h
        · obtain ⟨x, hx, rfl⟩ := zipD_same xs i d e
          walk_at "dd"
          exact ⟨x, rfl, hxs x hx, hQ⟩
        · refine ⟨List.replicate (zipD xs xs).length true, ?_, ?_⟩
          · rw [dat_eq, List.map_map, List.map_replicate]
            rw [show (T.dat ∘ fun _ => boo true) = Function.const PyData (PyData.bool true) from rfl, List.map_const]
          · rw [all_true]
            exact q
      cases d with
      | none =>
        walk_at "dd"
        simp only [tyN, k6, t6, Option.some.injEq, exists_eq_left', asB_b, reduceCtorEq]
        walk_at "dd"
        exact q
      | bool b =>
        walk_at "dd"
        simp only [tyN, k4, t4, b4, i4, s4, Option.some.injEq, exists_eq_left', asB_b, reduceCtorEq]
        walk_at "dd"
        simpa using q
      | int i =>
        walk_at "dd"
        simp only [tyN, k3, t3, b3, i3, s3, Option.some.injEq, exists_eq_left', asB_b, reduceCtorEq]
        walk_at "dd"
        simpa using q
      | str x =>
        walk_at "dd"
        simp only [tyN, k5, t5, b5, i5, s5, Option.some.injEq, exists_eq_left', asB_b, reduceCtorEq]
        walk_at "dd"
        simpa using q
      | list xs =>
        cases n with
        | zero => exact hd.elim
        | succ m =>
          have sq := seq m xs (.list xs) noX rfl (.inl rfl) hd.1 hd.2
          walk_at "dd"
          simp only [tyN, k1, t1, Option.some.injEq, exists_eq_left', asB_b, reduceCtorEq]
          walk_at "dd"
          simpa using sq
      | tuple xs =>
        cases n with
        | zero => exact hd.elim
        | succ m =>
          have sq := seq m xs (.tuple xs) noX rfl (.inr rfl) hd.1 hd.2
          walk_at "dd"
          simp only [tyN, k2, t2, Option.some.injEq, exists_eq_left', asB_b, reduceCtorEq]
          walk_at "dd"
          simpa using sq
      | dict kvs => cases n <;> exact hd.elim
theorem ok_l_same {f : Addr} {fd : FuncData} (hb : Binds K fd ["_law_found", "_law_due"] []) (hm : mg "_law_same" = some (.ref f)) (F : Fun K "_law_same" "_law_same" st_l_same f fd) (m_isinstance : mg "isinstance" = none) (m_list : mg "list" = none) (m_tuple : mg "tuple" = none) (m_all : mg "all" = none) (m_bool : mg "bool" = none) (m_int : mg "int" = none) (m_str : mg "str" = none) (m_len : mg "len" = none) (m_zip : mg "zip" = none) :
    FnOk P w K mg base CX0 8 f fd ["_law_found", "_law_due"] (spOf K mg (S_same 8)) := ok_same_all hb hm F m_isinstance m_list m_tuple m_all m_bool m_int m_str m_len m_zip 8 (by decide)
end
abbrev st_l_names : Stmt := topS 19
theorem sc_l_names : FnScope ["_law_box_here", "_law_many", "_law_letters", "_law_size", "_law_place", "_law_alike", "_law_first", "_law_rows", "_law_k", "_law_row", "_law_step", "_law_one"] ["_law_box_here", "_law_many"] (defScope st_l_names) := ⟨rfl, rfl, rfl, by decide +kernel, rfl, by decide +kernel, by decide +kernel⟩
def S_l_names : Spec := fun ds P _ => ∃ n : Int, ds = [.dict [], .int n] ∧ 0 ≤ n ∧ n ≤ 26 ∧ ∀ ns : List Str, (ns.length : Int) = n → (∀ z ∈ ns, IsName z) → ns.Nodup → P (.node ((strsD ns).map .leaf))
theorem abc_at : ∀ k : Int, 0 ≤ k → k < 26 → L2.atI (Str.ofString "abcdefghijklmnopqrstuvwxyz").cps.toList k = some (97 + k.toNat) := by
  have h : ∀ k : Fin 26, L2.atI (Str.ofString "abcdefghijklmnopqrstuvwxyz").cps.toList ((k.val : Nat) : Int) = some (97 + k.val) := by decide +kernel
  intro k k0 k1
  have := h ⟨k.toNat, by omega⟩
  simp only [] at this
  rw [Int.toNat_of_nonneg k0] at this
  exact this
def nameOf (cs : List Int) : Str := Txt.join (Str.ofString "") (cs.map fun a => sgn (97 + a.toNat))
theorem tl_nameOf (cs : List Int) : TL.tl (nameOf cs) = cs.map fun a => 97 + a.toNat := by
  have h := join_sgn (cs.map fun a => 97 + a.toNat)
  rw [List.map_map] at h
  exact h
theorem name_ok {cs : List Int} (h1 : 1 ≤ cs.length) (h2 : cs.length ≤ 8) (h : ∀ a ∈ cs, 0 ≤ a ∧ a < 26) : IsName (nameOf cs) := by
  refine ⟨?_, ?_, fun c hc => ?_⟩
  · rw [TL.len_tl, tl_nameOf, List.length_map]; exact h1
  · rw [TL.len_tl, tl_nameOf, List.length_map]; exact h2
  · have hc : c ∈ TL.tl (nameOf cs) := hc
    rw [tl_nameOf] at hc
    obtain ⟨a, ha, rfl⟩ := List.mem_map.mp hc
    have := h a ha
    omega
def nmAt (z : Str) (p : Nat) : Nat := (TL.tl z).getD p 0
theorem nmAt_of {cs : List Int} {p : Nat} (hp : p < cs.length) : nmAt (nameOf cs) p = 97 + (cs.getD p 0).toNat := by
  unfold nmAt
  rw [tl_nameOf, List.getD_eq_getElem?_getD, List.getElem?_map, List.getElem?_eq_getElem hp, List.getD_eq_getElem?_getD, List.getElem?_eq_getElem hp]
  rfl
theorem names_nodup {ns : List Str} {p : Nat} {f : Int} (hl : ns.length ≤ 26) (h : ∀ k (hk : k < ns.length), nmAt ns[k] p = 97 + ((f + 11 * (k : Int)) % 26).toNat) : ns.Nodup := by
  refine List.pairwise_iff_getElem.mpr fun i j hi hj hij e => ?_
  have h1 := h i hi
  have h2 := h j hj
  rw [e, h2] at h1
  omega
section
variable {P : Program} {w : World} {K : PySem.W.Frag} {mg : Str → Option Value} {base : Heap}
theorem ok_l_names {f : Addr} {fd : FuncData} (F : Fun K "_law_names" "_law_names" st_l_names f fd) (C_l_take : Cal P w K mg base "_law_take" ["_law_box_here", "_law_many"] 1 S_l_take) (m_range : mg "range" = none) (m_list : mg "list" = none) :
    FnOk P w K mg base CX0 2 f fd ["_law_box_here", "_law_many"] (spOf K mg S_l_names) := by
  refine fn_ok F sc_l_names ?len (fun cdv A outer s H E hr => s_cons (s_asg 2 sc_l_names.nd d_str)
    (s_cons (s_asg 3 sc_l_names.nd (d_fr (d_add d_int (d_callC C_l_take hr (a_cons (d_var 0) (a_cons d_int a_nil))))))
    (s_cons (s_asg 4 sc_l_names.nd (d_fr (d_callC C_l_take hr (a_cons (d_var 0) (a_cons (d_var 3) a_nil)))))
    (s_cons (s_asg 5 sc_l_names.nd (d_eq hr.units (d_callC C_l_take hr (a_cons (d_var 0) (a_cons d_int a_nil))) d_int))
    (s_cons (s_setLc (own := [("_law_k", 8)]) (i := 6) rfl sc_l_names.nd rfl rfl (sw_true rfl rfl rfl (by decide +kernel)) (i_rng1 m_range (a_cons (d_var 3) a_nil)) (blkOk_by (N := ["_law_box_here", "_law_many", "_law_letters", "_law_size", "_law_place", "_law_alike", "_law_first", "_law_rows", "_law_k", "_law_row", "_law_step", "_law_one"]) (sc := defScope st_l_names) (by decide +kernel)) (fun _ _ _ _ _ => g_name 8 sc_l_names.nd) (fun _ _ _ _ _ => ts_nil) (fun _ _ _ _ _ => d_callC C_l_take hr (a_cons (d_var 0) (a_cons d_int a_nil))))
    (s_frz 6 (s_cons (s_asg 7 sc_l_names.nd (d_lst a_nil))
    (s_cons (s_for (ts := [8]) PassesOwn.never rfl (i_rng1 m_range (a_cons (d_var 1) a_nil)) (g_name 8 sc_l_names.nd)
      (s_cons (s_asg 9 sc_l_names.nd (d_list m_list (a_cons (d_var 6) a_nil)))
    (s_cut (s_if (t_not (t_val (d_var 5))) (s_one (s_setLc (own := [("_law_step", 10)]) (i := 9) rfl sc_l_names.nd rfl rfl (sw_true rfl rfl rfl (by decide +kernel)) (i_rng1 m_range (a_cons (d_add (d_add (d_var 4) d_int) (d_callC C_l_take hr (a_cons (d_var 0) (a_cons (d_sub (d_var 3) (d_var 4)) a_nil)))) a_nil)) (blkOk_by (N := ["_law_box_here", "_law_many", "_law_letters", "_law_size", "_law_place", "_law_alike", "_law_first", "_law_rows", "_law_k", "_law_row", "_law_step", "_law_one"]) (sc := defScope st_l_names) (by decide +kernel)) (fun _ _ _ _ _ => g_name 10 sc_l_names.nd) (fun _ _ _ _ _ => ts_nil) (fun _ _ _ _ _ => d_callC C_l_take hr (a_cons (d_var 0) (a_cons d_int a_nil)))))
      s_nil)
    (s_cons (s_setI 9 (hj := d_var 4) (he := d_mod (d_add (d_at (d_var 6) (d_var 4)) (d_mul d_int (d_var 8))) d_int))
    (s_frz 9 (s_one (s_app 7 (d_join d_str (d_lc (own := [("_law_one", 11)]) rfl sc_l_names.nd (i_list (d_var 9)) (blkOk_by (N := ["_law_box_here", "_law_many", "_law_letters", "_law_size", "_law_place", "_law_alike", "_law_first", "_law_rows", "_law_k", "_law_row", "_law_step", "_law_one"]) (sc := defScope st_l_names) (by decide +kernel)) (fun _ _ _ _ _ => g_name 11 sc_l_names.nd) (fun _ _ _ _ _ => ts_nil) (fun _ _ _ _ _ => d_ats (d_var 2) (d_var 11)))))))))))
    (s_one (s_retV 7)))))))))) ?spec ?nx
  case len =>
    rintro ds P xp ⟨n, rfl, _⟩
    rfl
  case nx => exact fun _ _ _ h => h
  case spec =>
    rintro ds P ⟨n, rfl, n0, n1, q⟩
    walk_at "dd"
    refine ⟨by decide, by decide, fun r r0 r1 => ⟨by omega, by omega, fun p p0 p1 => ⟨by decide, by decide, fun u u0 u1 => ?_⟩⟩⟩
    -- a list of drawn letters
    let Dr : Nat → List T → Prop := fun i acc => ∃ cs : List Int, acc = cs.map (fun i => T.leaf (.int i)) ∧ cs.length = i ∧ ∀ a ∈ cs, 0 ≤ a ∧ a < 26
    have dr : ∀ {i : Nat} {acc : List T}, Dr i acc → ∀ a : Int, 0 ≤ a → a < 26 → Dr (i + 1) (acc ++ [.leaf (.int a)]) := fun {i acc} ⟨cs, e, hl, hc⟩ a a0 a1 => by
      subst e
      rw [snocI]
      refine ⟨_, rfl, by rw [List.length_append, hl]; rfl, fun x hx => ?_⟩
      rcases List.mem_append.mp hx with z | z
      · exact hc x z
      · rw [List.mem_singleton.mp z]
        exact ⟨a0, a1⟩
    refine lc_inv (rngD 0 (1 + r).toNat) Dr (fun P h => by walk_at "dd"; exact ⟨by omega, h⟩) (by rw [rngD_len]; exact lt_lim (by omega)) ⟨[], rfl, rfl, fun _ z => (nomatch z)⟩ ?_ ?_
    · rintro i d acc hd hacc
      walk_at "dd"
      exact ⟨by decide, by decide, fun a a0 a1 => dr hacc a a0 a1⟩
    · rintro acc ⟨fs, rfl, hfl, hf⟩
      rw [rngD_len] at hfl
      rw [show T.node (fs.map fun i => T.leaf (.int i)) = nodeI fs from rfl]
      have fp := hf _ (getD_mem (d := 0) (show p.toNat < fs.length by omega))
      walk_at "dd"
      refine ⟨Nat.zero_le _, ?_⟩
      refine for_rng 0 n.toNat (fun i ρ' => ∃ (ns : List Str) (y8 y9 : Option T), ρ' = [some (.leaf bx), some (int n), some (.leaf (.str (Str.ofString "abcdefghijklmnopqrstuvwxyz"))), some (int (1 + r)), some (int p), some (boo (decide (u = 0))), some (.leaf (.list (intsD fs))), some (.node ((strsD ns).map .leaf)), y8, y9, none, none] ∧ ns.length = i ∧ (∀ z ∈ ns, IsName z) ∧ ∀ k (hk : k < ns.length), nmAt ns[k] p.toNat = 97 + ((fs.getD p.toNat 0 + 11 * (k : Int)) % 26).toNat) (fun P h => by walk_at "dd"; exact ⟨by omega, h⟩) ⟨[], none, none, rfl, rfl, fun _ z => (nomatch z), fun k hk => absurd hk (Nat.not_lt_zero _)⟩ ?_ ?_
      · rintro i ρ' hi ⟨ns, y8, y9, rfl, hl, hn, hk⟩
        walk_at "dd"
        refine ⟨fun ρ' => ∃ cs : List Int, ρ' = [some (.leaf bx), some (int n), some (.leaf (.str (Str.ofString "abcdefghijklmnopqrstuvwxyz"))), some (int (1 + r)), some (int p), some (boo (decide (u = 0))), some (.leaf (.list (intsD fs))), some (.node ((strsD ns).map .leaf)), some (int i), some (nodeI cs), none, none] ∧ p.toNat < cs.length ∧ cs.length ≤ 8 ∧ ∀ a ∈ cs, 0 ≤ a ∧ a < 26, ?_, ?_⟩
        · walk_at "dd"
          refine ⟨fun _ => lc_raw ?_, fun _ => ⟨fs, by rw [node_ints], by omega, by omega, hf⟩⟩
          walk_at "dd"
          refine ⟨by omega, by omega, fun v v0 v1 => ⟨by omega, by rw [rngD_len]; exact lt_lim (by omega), Dr, ⟨[], rfl, rfl, fun _ z => (nomatch z)⟩, ?_, ?_⟩⟩
          · rintro i d acc hd hacc
            walk_at "dd"
            exact ⟨by decide, by decide, fun a a0 a1 => dr hacc a a0 a1⟩
          · rintro acc ⟨cs, rfl, hcl, hc⟩
            rw [rngD_len] at hcl
            exact ⟨cs, rfl, by omega, by omega, hc⟩
        · rintro ρ' ⟨cs, rfl, hp, hl8, hc⟩
          unfold nodeI
          walk_at "dd"
          refine ⟨_, atI_ints p0 (by omega), ?_⟩
          walk_at "dd"
          obtain ⟨w, hw⟩ : ∃ w, w = (fs.getD p.toNat 0 + 11 * (i : Int)) % 26 := ⟨_, rfl⟩
          have w0 : 0 ≤ w := by rw [hw]; exact Int.emod_nonneg _ (by decide)
          have w1 : w < 26 := by rw [hw]; exact Int.emod_lt_of_pos _ (by decide)
          rw [← hw]
          refine ⟨small_mul (by decide) (small_lt (by omega) (by omega)), by decide, p.toNat, by rw [List.length_map]; exact ixN_of p0 (by omega), ?_⟩
          rw [mapI1_set]
          have hcs : ∀ a ∈ cs.set p.toNat w, 0 ≤ a ∧ a < 26 := fun a ha => by
            rcases mem_set ha with z | z
            · exact hc a z
            · rw [z]; exact ⟨w0, w1⟩
          have hcl : (cs.set p.toNat w).length = cs.length := List.length_set
          have hcg : (cs.set p.toNat w).getD p.toNat 0 = w := by rw [getD_set hp, if_pos rfl]
          generalize cs.set p.toNat w = ds at hcs hcl hcg
          rw [show T.node (ds.map fun i => T.leaf (.int i)) = nodeI ds from rfl]
          walk_at "dd"
          refine ⟨by rw [List.length_map, strs_len, hl]; exact lt_lim (by omega), ?_⟩
          refine lc_ints ds (fun a => .leaf (.str (sgn (97 + a.toNat)))) (fun P h => by walk_at "dd"; exact h) (lt_lim (by omega)) (fun a Q R ha hQ => ?_) ?_
          · walk_at "dd"
            exact ⟨by decide +kernel, _, abc_at a (hcs a ha).1 (hcs a ha).2, hQ⟩
          · rw [show T.node (ds.map fun a => T.leaf (.str (sgn (97 + a.toNat)))) = .node ((strsD (ds.map fun a => sgn (97 + a.toNat))).map .leaf) by unfold strsD; rw [List.map_map, List.map_map]; rfl, asX_n]
            refine ⟨?_, ?_⟩
            · have this := sum_sgn (ds.map fun a => 97 + a.toNat)
              simp only [List.map_map, List.length_map] at this
              rw [List.map_map, List.length_map]
              have e : (ds.map ((fun x => x.length) ∘ fun a => sgn (97 + a.toNat))).sum = ds.length := this
              rw [e]
              show _ + _ * 0 ≤ _
              omega
            · refine ⟨ns ++ [nameOf ds], some (int i), some (.leaf (.list (intsD ds))), ?_, by rw [List.length_append, hl]; rfl, fun z hz => ?_, fun k hk2 => ?_⟩
              · unfold strsD
                rw [List.map_append, List.map_append]
                rfl
              · rcases List.mem_append.mp hz with y | y
                · exact hn z y
                · rw [List.mem_singleton.mp y]
                  exact name_ok (by omega) (by omega) hcs
              · rw [List.getElem_append]
                split
                · rename_i h
                  exact hk k h
                · have hk2 : k < ns.length + 1 := by rw [List.length_append] at hk2; exact hk2
                  have ek : k = i := by omega
                  rw [List.getElem_singleton, nmAt_of (by omega), hcg, hw, ek]
      · rintro ρ' ⟨ns, y8, y9, rfl, hl, hn, hk⟩
        walk_at "dd"
        exact q ns (by omega) hn (names_nodup (by omega) hk)
end
abbrev st_l_number : Stmt := topS 20
theorem sc_l_number : FnScope ["_law_box_here"] ["_law_box_here"] (defScope st_l_number) := ⟨rfl, rfl, rfl, by decide +kernel, rfl, by decide +kernel, by decide +kernel⟩
def S_l_number : Spec := fun ds P _ => ds = [.dict []] ∧ ∀ v : Int, 0 ≤ v → v < 10000000000 → P (int v)
section
variable {P : Program} {w : World} {K : PySem.W.Frag} {mg : Str → Option Value} {base : Heap}
theorem ok_l_number {f : Addr} {fd : FuncData} (F : Fun K "_law_number" "_law_number" st_l_number f fd) (C_l_take : Cal P w K mg base "_law_take" ["_law_box_here", "_law_many"] 1 S_l_take) :
    FnOk P w K mg base CX0 2 f fd ["_law_box_here"] (spOf K mg S_l_number) := by
  refine fn_ok F sc_l_number ?len (fun cdv A outer s H E hr => s_one (s_ret (d_at (d_lst (a_cons d_int (a_cons (d_callC C_l_take hr (a_cons (d_var 0) (a_cons d_int a_nil))) (a_cons (d_callC C_l_take hr (a_cons (d_var 0) (a_cons d_int a_nil))) (a_cons (d_callC C_l_take hr (a_cons (d_var 0) (a_cons (d_pow d_int d_int) a_nil))) (a_cons d_int a_nil)))))) (d_callC C_l_take hr (a_cons (d_var 0) (a_cons d_int a_nil)))))) ?spec ?nx
  case len =>
    rintro ds P xp ⟨rfl, _⟩
    rfl
  case nx => exact fun _ _ _ h => h
  case spec =>
    rintro ds P ⟨rfl, q⟩
    walk_at "dd"
    refine ⟨by decide, by decide, fun a a0 a1 => ⟨by decide, by decide, fun b b0 b1 => ⟨by unfold CPow; decide, by decide, by decide, fun c c0 c1 => ⟨by decide, by decide, by decide, fun r r0 r1 => ?_⟩⟩⟩⟩
    have c2 : c < 10000000000 := c1
    have : r = 0 ∨ r = 1 ∨ r = 2 ∨ r = 3 ∨ r = 4 := by omega
    rcases this with rfl | rfl | rfl | rfl | rfl
    · exact ⟨_, rfl, q _ (by omega) (by omega)⟩
    · exact ⟨_, rfl, q _ (by omega) (by omega)⟩
    · exact ⟨_, rfl, q _ (by omega) (by omega)⟩
    · exact ⟨_, rfl, q _ (by omega) (by omega)⟩
    · exact ⟨_, rfl, q _ (by omega) (by omega)⟩
end
abbrev st_law : Stmt := topS 21
theorem sc_law : FnScope ["_law_script", "_law_box_here", "_law_turn", "_law_names_here", "_law_deeds", "_law_deed", "_law_due", "_law_again", "_law_part"] ["_law_script"] (defScope st_law) := ⟨rfl, rfl, rfl, by decide +kernel, rfl, by decide +kernel, by decide +kernel⟩
theorem part_n {z : Str} (h : IsName z) : partD 110 z = some (.str z) ∧ 32 ∉ TL.tl z ∧ z.length ≤ 10 := by
  obtain ⟨h1, h2, h3⟩ := h
  have nb : nameB z = true := by
    unfold nameB
    rw [decide_eq_true ⟨h1, h2⟩, Bool.true_and, List.all_eq_true]
    intro c hc
    have := h3 c hc
    have all : ∀ k : Fin 26, (97 + k.val) ∈ (Str.ofString "abcdefghijklmnopqrstuvwxyz").cps.toList := by decide +kernel
    have := all ⟨c - 97, by omega⟩
    rw [show 97 + (c - 97) = c by omega] at this
    exact decide_eq_true this
  refine ⟨?_, fun m => ?_, by omega⟩
  · unfold partD
    rw [if_neg (by decide), if_pos nb]
  · have := h3 32 m
    omega
theorem numL_head : ∀ n : Nat, 1 ≤ n → (TL.numL n)[0]? ≠ some 48 := fun n => by
  induction n using Nat.strongRecOn with
  | _ n ih =>
    intro h
    by_cases c : n < 10
    · rw [TL.numL_lt c]
      simp
      omega
    · rw [TL.numL_step (by omega), List.getElem?_append_left (by
        have := TL.numL_ne (n / 10)
        exact List.length_pos_iff.mpr this)]
      exact ih (n / 10) (by omega) (by omega)
theorem part_c {v : Int} (h0 : 0 ≤ v) (h1 : v < 10000000000) : partD 99 (Str.ofString (toString v)) = some (.int v) ∧ 32 ∉ TL.tl (Str.ofString (toString v)) ∧ (Str.ofString (toString v)).length ≤ 10 := by
  obtain ⟨n, rfl⟩ := Int.eq_ofNat_of_zero_le h0
  have et := TL.tl_num n
  have ln : (TL.numL n).length ≤ 10 := TL.numL_len (by decide) (by omega)
  have ll : (Str.ofString (toString (n : Int))).length = (TL.numL n).length := by rw [TL.len_tl, et]
  have ne := List.length_pos_iff.mpr (TL.numL_ne n)
  have ec : (Str.ofString (toString (n : Int))).cps.toList = TL.numL n := et
  have nb : numB (Str.ofString (toString (n : Int))) = true := by
    unfold numB
    rw [decide_eq_true (show 1 ≤ (Str.ofString (toString (n : Int))).length ∧ (Str.ofString (toString (n : Int))).length ≤ 10 by omega), Bool.true_and, Bool.and_eq_true, List.all_eq_true]
    refine ⟨fun c hc => ?_, ?_⟩
    · rw [ec] at hc
      have := TL.numL_digits n c hc
      have all : ∀ k : Fin 10, (48 + k.val) ∈ (Str.ofString "0123456789").cps.toList := by decide +kernel
      have := all ⟨c - 48, by omega⟩
      rw [show 48 + (c - 48) = c by omega] at this
      exact decide_eq_true this
    · rw [Bool.or_eq_true, decide_eq_true_eq, decide_eq_true_eq, ec]
      by_cases c : n = 0
      · subst c
        exact .inl rfl
      · exact .inr (numL_head n (by omega))
  refine ⟨?_, ?_, by omega⟩
  · unfold partD
    rw [if_pos rfl, if_pos nb, TL.int_num (by omega)]
    rfl
  · rw [et]
    exact TL.numL_free (by omega)
theorem joinL_len (s : List Nat) : ∀ ps : List (List Nat), (TL.joinL s ps).length ≤ (ps.map List.length).sum + ps.length * s.length
  | [] => Nat.zero_le _
  | [p] => by
    show p.length ≤ _
    simp
  | p :: q :: r => by
    have ih := joinL_len s (q :: r)
    show (p ++ (s ++ TL.joinL s (q :: r))).length ≤ _
    rw [List.length_append, List.length_append, List.map_cons, List.sum_cons, List.length_cons, Nat.succ_mul]
    omega
theorem joinL_mem {s : List Nat} {c : Nat} : ∀ ps : List (List Nat), c ∈ TL.joinL s ps → c ∈ s ∨ ∃ p ∈ ps, c ∈ p
  | [], h => by cases h
  | [p], h => .inr ⟨p, List.mem_cons_self .., h⟩
  | p :: q :: r, h => by
    have h : c ∈ p ++ (s ++ TL.joinL s (q :: r)) := h
    rcases List.mem_append.mp h with h | h
    · exact .inr ⟨p, List.mem_cons_self .., h⟩
    · rcases List.mem_append.mp h with h | h
      · exact .inl h
      · rcases joinL_mem (q :: r) h with h | ⟨p', hp, h⟩
        · exact .inl h
        · exact .inr ⟨p', List.mem_cons_of_mem _ hp, h⟩
theorem join_small {ws : List Str} (hl : ws.length ≤ 100) (hw : ∀ w ∈ ws, w.length ≤ 10 ∧ ∀ c ∈ w.cps.toList, c < 1114112) : (Txt.join " " ws).length ≤ 10000 ∧ ∀ c ∈ (Txt.join " " ws).cps.toList, c < 1114112 := by
  have e : (Txt.join " " ws).cps.toList = TL.joinL [32] (ws.map TL.tl) := by
    show TL.tl _ = _
    rw [TL.join_eq, TL.tl_join]
    rfl
  refine ⟨?_, fun c hc => ?_⟩
  · rw [TL.len_tl, show TL.tl (Txt.join " " ws) = TL.joinL [32] (ws.map TL.tl) from e]
    refine Nat.le_trans (joinL_len _ _) ?_
    have hs : ∀ vs : List Str, (∀ w ∈ vs, w.length ≤ 10) → ((vs.map TL.tl).map List.length).sum ≤ vs.length * 10 := fun vs => by
      induction vs with
      | nil => intro _; exact Nat.le_refl _
      | cons v vs ih =>
        intro h
        have h1 := h v (List.mem_cons_self ..)
        have h2 := ih fun w hw => h w (List.mem_cons_of_mem _ hw)
        rw [TL.len_tl] at h1
        rw [List.map_cons, List.map_cons, List.sum_cons, List.length_cons, Nat.succ_mul]
        omega
    have := hs ws fun w h => (hw w h).1
    rw [List.length_map, show ([32] : List Nat).length = 1 from rfl]
    omega
  · rw [e] at hc
    rcases joinL_mem _ hc with h | ⟨p, hp, h⟩
    · rw [List.mem_singleton.mp h]
      decide
    · obtain ⟨w, hw', rfl⟩ := List.mem_map.mp hp
      exact (hw w hw').2 c h
theorem small_lt' {v : Int} (h0 : 0 ≤ v) (h1 : v < 10000000000) : v.natAbs < 2 ^ 1000 := Nat.lt_of_lt_of_le (show v.natAbs < 10000000000 by omega) (by decide)
/-- a part and how it is written -/
structure PartP (k : Nat) (p : PyData) : Prop where
  ok : PartOk p
  sm : Sm 6 p
  sp : 32 ∉ TL.tl (partT p)
  ln : (partT p).length ≤ 10
  ch : ∀ c ∈ (partT p).cps.toList, c < 1114112
  rd : partD k (partT p) = some p
theorem partP_n {z : Str} (h : IsName z) : PartP 110 (.str z) := by
  obtain ⟨h1, h2, h3⟩ := part_n h
  exact ⟨trivial, sm_name h, h2, h3, fun c hc => by have := h.2.2 c hc; omega, h1⟩
theorem partP_c {v : Int} (h0 : 0 ≤ v) (h1 : v < 10000000000) : PartP 99 (.int v) := by
  obtain ⟨q1, q2, q3⟩ := part_c h0 h1
  refine ⟨small_lt' h0 h1, sm_int, q2, q3, fun c hc => ?_, q1⟩
  obtain ⟨n, rfl⟩ := Int.eq_ofNat_of_zero_le h0
  have hc : c ∈ TL.numL n := by
    rw [← TL.tl_num n]
    exact hc
  have := TL.numL_digits n c hc
  omega
def AllP : List Nat → List PyData → Prop
  | [], [] => True
  | k :: ks, p :: ps => PartP k p ∧ AllP ks ps
  | _, _ => False
theorem AllP.len : ∀ {ks : List Nat} {ps : List PyData}, AllP ks ps → ps.length = ks.length
  | [], [], _ => rfl
  | _ :: _, _ :: _, h => by
    rw [List.length_cons, List.length_cons, AllP.len h.2]
theorem AllP.parts : ∀ {ks : List Nat} {ps : List PyData}, AllP ks ps → partsD ks (ps.map partT) = some ps
  | [], [], _ => rfl
  | k :: ks, p :: ps, h => by
    show (partD k (partT p)).bind (fun d => (partsD ks (ps.map partT)).map (d :: ·)) = _
    rw [h.1.rd, AllP.parts h.2]
    rfl
theorem AllP.mem : ∀ {ks : List Nat} {ps : List PyData}, AllP ks ps → ∀ p ∈ ps, ∃ k, PartP k p
  | [], [], _, p, h => by cases h
  | k :: ks, q :: ps, h, p, hp => by
    rcases List.mem_cons.mp hp with e | hp
    · rw [e]
      exact ⟨k, h.1⟩
    · exact AllP.mem h.2 p hp
/-- a deed and its row -/
structure GoodD (d : PyData) : Prop where
  ex : ∃ (ps : List PyData), d = .tuple ps ∧ 1 ≤ ps.length ∧ ps.length ≤ 4 ∧ deedW (ps.map partT) = some d ∧ ∀ p ∈ ps, PartOk p ∧ Sm 6 p ∧ 32 ∉ TL.tl (partT p) ∧ (partT p).length ≤ 10 ∧ ∀ c ∈ (partT p).cps.toList, c < 1114112
theorem good_of {kw sh : Str} {ps : List PyData} (hk : tab_SHAPES.lookup kw = some sh) (h : AllP sh.cps.toList ps) (h1 : 32 ∉ TL.tl kw) (h2 : kw.length ≤ 10) (h3 : ∀ c ∈ kw.cps.toList, c < 1114112) : GoodD (.tuple (.str kw :: ps)) := by
  have hl := h.len
  obtain ⟨_, sl⟩ := tab_sh hk
  have sl2 : sh.cps.toList.length = sh.length := Array.length_toList
  refine ⟨_, rfl, by simp, by rw [List.length_cons]; omega, ?_, fun p hp => ?_⟩
  · show (match tab_SHAPES.lookup kw with
      | none => none
      | some sh => if (ps.map partT).length = sh.cps.toList.length then (partsD sh.cps.toList (ps.map partT)).map fun ds => PyData.tuple (.str kw :: ds) else none) = _
    rw [hk]
    show (if _ then _ else _) = _
    rw [if_pos (by rw [List.length_map, hl]), h.parts]
    rfl
  · rcases List.mem_cons.mp hp with e | hp
    · rw [e]
      exact ⟨trivial, sm_str h3, h1, h2, h3⟩
    · obtain ⟨k, q⟩ := h.mem p hp
      exact ⟨q.ok, q.sm, q.sp, q.ln, q.ch⟩
section
variable {P : Program} {w : World} {K : PySem.W.Frag} {mg : Str → Option Value} {base : Heap}
theorem ok_law {f fb : Addr} {fd fdb : FuncData} (F : Fun K "law" "law" st_law f fd) (B : FnOk P w K mg base CX0 1 fb fdb ["_law_script"] (spBox K)) (mB : mg "_law_box" = some (.ref fb)) (kB : PySem.W.keepIn K (.ref fb) = true) (bB : Binds K fdb ["_law_script"] []) (C_l_names : Cal P w K mg base "_law_names" ["_law_box_here", "_law_many"] 2 S_l_names) (C_l_number : Cal P w K mg base "_law_number" ["_law_box_here"] 2 S_l_number) (C_l_same : Cal P w K mg base "_law_same" ["_law_found", "_law_due"] 8 (S_same 8)) (C_p_deed_text : Cal P w K mg base "deed_text" ["deed"] 1 S_p_deed_text) (C_p_deed_of : CalX P w K mg base "deed_of" ["text"] 4 S_p_deed_of) (m_range : mg "range" = none) (m_str : mg "str" = none) :
    FnOk P w K mg base CX0 9 f fd ["_law_script"] (spOf0 K) := by
  refine law_ok F sc_law rfl B mB kB bB (by decide) (fun cdv A outer s H E hr => ps_set (i := 1) sc_law.nd rfl (by first | exact .inl rfl | exact .inr rfl) (pe_call B (hr.mono (by decide)) (by rfl) mB kB bB .nil pass0 (pa_cons (pv 0) pa_nil))) (fun cdv A outer s H E hr => s_cons (s_for (ts := [2]) PassesOwn.never rfl (i_rng1 m_range (a_cons d_int a_nil)) (g_name 2 sc_law.nd)
      (s_cons (s_asg 3 sc_law.nd (d_fr (d_callC C_l_names hr (a_cons (d_var 1) (a_cons d_int a_nil)))))
    (s_cons (s_asg 4 sc_law.nd (d_fr (d_lst (a_cons (d_tup (a_cons d_str (a_cons (d_at (d_var 3) d_int) (a_cons (d_callC C_l_number hr (a_cons (d_var 1) a_nil)) a_nil)))) (a_cons (d_tup (a_cons d_str (a_cons (d_at (d_var 3) d_int) (a_cons (d_callC C_l_number hr (a_cons (d_var 1) a_nil)) a_nil)))) a_nil)))))
    (s_cons (s_asg 4 sc_law.nd (d_fr (d_add (d_var 4) (d_lst (a_cons (d_tup (a_cons d_str (a_cons (d_at (d_var 3) d_int) (a_cons (d_callC C_l_number hr (a_cons (d_var 1) a_nil)) a_nil)))) (a_cons (d_tup (a_cons d_str (a_cons (d_at (d_var 3) d_int) (a_cons (d_at (d_var 3) d_int) a_nil)))) a_nil))))))
    (s_cons (s_asg 4 sc_law.nd (d_fr (d_add (d_var 4) (d_lst (a_cons (d_tup (a_cons d_str (a_cons (d_at (d_var 3) d_int) (a_cons (d_at (d_var 3) d_int) a_nil)))) (a_cons (d_tup (a_cons d_str (a_cons (d_at (d_var 3) d_int) (a_cons (d_at (d_var 3) d_int) (a_cons (d_callC C_l_number hr (a_cons (d_var 1) a_nil)) a_nil))))) a_nil))))))
    (s_cons (s_asg 4 sc_law.nd (d_fr (d_add (d_var 4) (d_lst (a_cons (d_tup (a_cons d_str (a_cons (d_at (d_var 3) d_int) (a_cons (d_at (d_var 3) d_int) a_nil)))) (a_cons (d_tup (a_cons d_str (a_cons (d_callC C_l_number hr (a_cons (d_var 1) a_nil)) a_nil))) (a_cons (d_tup (a_cons d_str (a_cons (d_callC C_l_number hr (a_cons (d_var 1) a_nil)) a_nil))) a_nil)))))))
    (s_one (s_for (ts := [5]) PassesOwn.never rfl (i_list (d_var 4)) (g_name 5 sc_law.nd)
      (s_cons (s_asg 6 sc_law.nd (d_fr (d_join d_str (d_lc (own := [("_law_part", 8)]) rfl sc_law.nd (i_tup (d_var 5)) (blkOk_by (N := ["_law_script", "_law_box_here", "_law_turn", "_law_names_here", "_law_deeds", "_law_deed", "_law_due", "_law_again", "_law_part"]) (sc := defScope st_law) (by decide +kernel)) (fun _ _ _ _ _ => g_name 8 sc_law.nd) (fun _ _ _ _ _ => ts_nil) (fun _ _ _ _ _ => d_strC m_str (a_cons (d_var 8) a_nil))))))
    (s_one (s_for (ts := [7]) PassesOwn.never rfl (i_rng1 m_range (a_cons d_int a_nil)) (g_name 7 sc_law.nd)
      (s_one (s_if ((w_or (t_not (t_val (d_callC C_l_same hr (a_cons (d_callC C_p_deed_text hr (a_cons (d_var 5) a_nil)) (a_cons (d_var 6) a_nil))))) (w_or1 (t_not (t_val (d_callC C_l_same hr (a_cons (d_callX C_p_deed_of hr takes0 (a_cons (d_var 6) a_nil)) (a_cons (d_var 5) a_nil))))))).pt) (s_one (s_ret d_bl))
      s_nil)))))))))))))
    (s_one (s_ret d_bl))) ?spec
  case spec =>
    walk_at "dd"
    refine for_rng 0 2 (fun _ ρ' => ∃ y2 y3 y4 y5 y6 y7 y8 : Option T, ρ' = [none, some (.leaf bx), y2, y3, y4, y5, y6, y7, y8]) (fun P h => by walk_at "dd"; exact ⟨by decide, h⟩) ⟨none, none, none, none, none, none, none, rfl⟩ ?_ ?_
    · rintro i ρ' hi ⟨y2, y3, y4, y5, y6, y7, y8, rfl⟩
      walk_at "dd"
      refine ⟨2, rfl, by omega, by omega, fun ns nl hn _ => ?_⟩
      obtain ⟨a, b, rfl⟩ : ∃ a b, ns = [a, b] := by
        match ns, nl with
        | [a, b], _ => exact ⟨a, b, rfl⟩
      have ha := hn a (by simp)
      have hb := hn b (by simp)
      have pa := partP_n ha
      have pb := partP_n hb
      walk_at "dd"
      refine ⟨_, rfl, rfl, fun v1 c1 d1 => ⟨by decide, _, rfl, rfl, fun v2 c2 d2 => ⟨by decide, by decide, _, rfl, rfl, fun v3 c3 d3 => ⟨by decide, _, rfl, _, rfl, by decide, by decide, by decide, _, rfl, _, rfl, by decide, _, rfl, _, rfl, rfl, fun v4 c4 d4 => ⟨by decide, by decide, by decide, _, rfl, ?_⟩⟩⟩⟩⟩
      refine ⟨_, rfl, by decide, rfl, fun v5 c5 d5 => ⟨by decide, rfl, fun v6 c6 d6 => ⟨by decide, by decide, by decide, ?_⟩⟩⟩
      have s1 : (Str.ofString "nc").cps.toList = [110, 99] := by decide +kernel
      have s2 : (Str.ofString "nn").cps.toList = [110, 110] := by decide +kernel
      have s3 : (Str.ofString "nnc").cps.toList = [110, 110, 99] := by decide +kernel
      have s4 : (Str.ofString "c").cps.toList = [99] := by decide +kernel
      have good : ∀ d ∈ [PyData.tuple [.str "join", .str a, .int v1], .tuple [.str "pay", .str b, .int v2], .tuple [.str "draw", .str a, .int v3], .tuple [.str "tie", .str a, .str b], .tuple [.str "untie", .str b, .str a], .tuple [.str "bet", .str a, .str b, .int v4], .tuple [.str "drop", .str a, .str a], .tuple [.str "blanks", .int v5], .tuple [.str "strike", .int v6]], GoodD d := by
        intro d hd
        simp only [List.mem_cons, List.not_mem_nil, or_false] at hd
        rcases hd with rfl | rfl | rfl | rfl | rfl | rfl | rfl | rfl | rfl
        · exact good_of (sh := "nc") (by decide +kernel) (by rw [s1]; exact ⟨pa, partP_c c1 d1, trivial⟩) (by decide +kernel) (by decide +kernel) (by decide +kernel)
        · exact good_of (sh := "nc") (by decide +kernel) (by rw [s1]; exact ⟨pb, partP_c c2 d2, trivial⟩) (by decide +kernel) (by decide +kernel) (by decide +kernel)
        · exact good_of (sh := "nc") (by decide +kernel) (by rw [s1]; exact ⟨pa, partP_c c3 d3, trivial⟩) (by decide +kernel) (by decide +kernel) (by decide +kernel)
        · exact good_of (sh := "nn") (by decide +kernel) (by rw [s2]; exact ⟨pa, pb, trivial⟩) (by decide +kernel) (by decide +kernel) (by decide +kernel)
        · exact good_of (sh := "nn") (by decide +kernel) (by rw [s2]; exact ⟨pb, pa, trivial⟩) (by decide +kernel) (by decide +kernel) (by decide +kernel)
        · exact good_of (sh := "nnc") (by decide +kernel) (by rw [s3]; exact ⟨pa, pb, partP_c c4 d4, trivial⟩) (by decide +kernel) (by decide +kernel) (by decide +kernel)
        · exact good_of (sh := "nn") (by decide +kernel) (by rw [s2]; exact ⟨pa, pa, trivial⟩) (by decide +kernel) (by decide +kernel) (by decide +kernel)
        · exact good_of (sh := "c") (by decide +kernel) (by rw [s4]; exact ⟨partP_c c5 d5, trivial⟩) (by decide +kernel) (by decide +kernel) (by decide +kernel)
        · exact good_of (sh := "c") (by decide +kernel) (by rw [s4]; exact ⟨partP_c c6 d6, trivial⟩) (by decide +kernel) (by decide +kernel) (by decide +kernel)
      revert good
      generalize hDS : [PyData.tuple [.str "join", .str a, .int v1], .tuple [.str "pay", .str b, .int v2], .tuple [.str "draw", .str a, .int v3], .tuple [.str "tie", .str a, .str b], .tuple [.str "untie", .str b, .str a], .tuple [.str "bet", .str a, .str b, .int v4], .tuple [.str "drop", .str a, .str a], .tuple [.str "blanks", .int v5], .tuple [.str "strike", .int v6]] = DS
      intro good
      refine for_of DS (fun _ ρ' => ∃ y5 y6 y7 y8 : Option T, ρ' = [none, some (.leaf bx), some (.leaf (.int i)), some (.leaf (.list (strsD [a, b]))), some (.leaf (.list DS)), y5, y6, y7, y8]) (fun P h => ?_) ⟨y5, y6, y7, y8, ?_⟩ ?_ ?_
      · subst hDS
        exact ⟨_, rfl, h⟩
      · subst hDS
        rfl
      · rintro k d ρ' hd ⟨y5, y6, y7, y8, rfl⟩
        obtain ⟨ps, rfl, l1, l2, hw, hp⟩ := (good d (List.mem_of_getElem? hd)).ex
        have jn := join_small (ws := ps.map partT) (by rw [List.length_map]; omega) fun w hw => by
          obtain ⟨p, hp', rfl⟩ := List.mem_map.mp hw
          exact ⟨(hp p hp').2.2.2.1, (hp p hp').2.2.2.2⟩
        have hs : ((ps.map partT).map (·.length)).sum + ps.length ≤ 1000000 := by
          have : ∀ vs : List PyData, (∀ p ∈ vs, (partT p).length ≤ 10) → ((vs.map partT).map (·.length)).sum ≤ vs.length * 10 := fun vs => by
            induction vs with
            | nil => intro _; exact Nat.le_refl _
            | cons v vs ih =>
              intro h
              have h1 := h v (List.mem_cons_self ..)
              have h2 := ih fun w hw => h w (List.mem_cons_of_mem _ hw)
              rw [List.map_cons, List.map_cons, List.sum_cons, List.length_cons, Nat.succ_mul]
              omega
          have := this ps fun p h => (hp p h).2.2.2.1
          omega
        have smD : Sm 7 (.tuple ps) := ⟨by omega, fun x hx => (hp x hx).2.1⟩
        walk_at "dd"
        refine lc_map ps (fun d => .leaf (.str (partT d))) (fun P h => by walk_at "dd"; exact h) (lt_lim (by omega)) (fun i d Q R e hQ => ?_) ?_
        · have hd := (hp d (List.mem_of_getElem? e)).1
          walk_at "dd"
          cases d <;> first
            | exact ⟨hd, hQ⟩
            | exact hQ
            | exact hd.elim
        · rw [show ps.map (fun d => T.leaf (.str (partT d))) = (strsD (ps.map partT)).map .leaf by unfold strsD; rw [List.map_map, List.map_map]; rfl]
          refine asX_n.mpr ⟨?_, ?_⟩
          · rw [List.length_map, show (Str.ofString " ").length = 1 from rfl]
            omega
          walk_at "dd"
          refine for_rng 0 2 (fun _ ρ' => ∃ y7 y8 : Option T, ρ' = [none, some (.leaf bx), some (.leaf (.int i)), some (.leaf (.list (strsD [a, b]))), some (.leaf (.list DS)), some (.leaf (.tuple ps)), some (.leaf (.str (Txt.join " " (ps.map partT)))), y7, y8]) (fun P h => by walk_at "dd"; exact ⟨by decide, h⟩) ⟨_, _, rfl⟩ ?_ ?_
          · rintro j ρ' hj ⟨y7, y8, rfl⟩
            walk_at "dd"
            refine ⟨ps, rfl, by omega, fun x hx => (hp x hx).1, hs, ?_⟩
            walk_at "dd"
            refine ⟨_, rfl, sm_str jn.2, ?_⟩
            walk_at "dd"
            refine ⟨ps.map partT, rfl, fun z => ?_, by rw [List.length_map]; omega, fun w hw => ?_, jn.1, fun d h => ?_, fun h => ?_⟩
            · have := congrArg List.length z
              rw [List.length_map, List.length_nil] at this
              omega
            · obtain ⟨p, hp', rfl⟩ := List.mem_map.mp hw
              exact ⟨(hp p hp').2.2.1, Nat.le_trans (hp p hp').2.2.2.1 (by decide)⟩
            · rw [hw] at h
              cases h
              walk_at "dd"
              refine ⟨_, rfl, smD, ?_⟩
              walk_at "dd"
              exact ⟨_, _, rfl⟩
            · rw [hw] at h
              cases h
          · rintro ρ' ⟨y7, y8, rfl⟩
            exact ⟨_, _, _, _, rfl⟩
      · rintro ρ' ⟨y5, y6, y7, y8, rfl⟩
        exact ⟨_, _, _, _, _, _, _, rfl⟩
    · rintro ρ' ⟨y2, y3, y4, y5, y6, y7, y8, rfl⟩
      walk_at "dd"
end
theorem all_mk {l : PySem.W.OpenLaw} {w : World} {K : PySem.W.Frag} {h : Heap} {mg : Str → Option Value} {fa : Addr} (X : K.In h) (G : h.Ns mainGlobals mg) (hfa : mg "law" = some (.ref fa))
    {f1 : Addr} {od1 an1 : Option Addr} {sl1 : Array (Option Value)} {oc1 kV1 dc1 pm1 cd1 ct1 : Value}
    (a1 : PySem.W.nsIn K mainGlobals "is_name" = some (some (.ref f1))) (l1 : K.lookup f1 = some ⟨oc1, od1, .func (PySem.W.fnOf "is_name" "is_name" (defArgs st_p_is_name) (defBody st_p_is_name) (defScope st_p_is_name) .none kV1 dc1 pm1 an1 cd1 ct1), sl1⟩) (c1 : PySem.W.codeIn K cd1 "is_name" = true) (k1 : PySem.W.keepIn K (.ref f1) = true)
    {f2 : Addr} {od2 an2 : Option Addr} {sl2 : Array (Option Value)} {oc2 kV2 dc2 pm2 cd2 ct2 : Value}
    (a2 : PySem.W.nsIn K mainGlobals "is_number" = some (some (.ref f2))) (l2 : K.lookup f2 = some ⟨oc2, od2, .func (PySem.W.fnOf "is_number" "is_number" (defArgs st_p_is_number) (defBody st_p_is_number) (defScope st_p_is_number) .none kV2 dc2 pm2 an2 cd2 ct2), sl2⟩) (c2 : PySem.W.codeIn K cd2 "is_number" = true) (k2 : PySem.W.keepIn K (.ref f2) = true)
    {f3 : Addr} {od3 an3 : Option Addr} {sl3 : Array (Option Value)} {oc3 kV3 dc3 pm3 cd3 ct3 : Value}
    (a3 : PySem.W.nsIn K mainGlobals "number_in" = some (some (.ref f3))) (l3 : K.lookup f3 = some ⟨oc3, od3, .func (PySem.W.fnOf "number_in" "number_in" (defArgs st_p_number_in) (defBody st_p_number_in) (defScope st_p_number_in) .none kV3 dc3 pm3 an3 cd3 ct3), sl3⟩) (c3 : PySem.W.codeIn K cd3 "number_in" = true) (k3 : PySem.W.keepIn K (.ref f3) = true)
    {f4 : Addr} {od4 an4 : Option Addr} {sl4 : Array (Option Value)} {oc4 kV4 dc4 pm4 cd4 ct4 : Value}
    (a4 : PySem.W.nsIn K mainGlobals "deed_text" = some (some (.ref f4))) (l4 : K.lookup f4 = some ⟨oc4, od4, .func (PySem.W.fnOf "deed_text" "deed_text" (defArgs st_p_deed_text) (defBody st_p_deed_text) (defScope st_p_deed_text) .none kV4 dc4 pm4 an4 cd4 ct4), sl4⟩) (c4 : PySem.W.codeIn K cd4 "deed_text" = true) (k4 : PySem.W.keepIn K (.ref f4) = true)
    {f5 : Addr} {od5 an5 : Option Addr} {sl5 : Array (Option Value)} {oc5 kV5 dc5 pm5 cd5 ct5 : Value}
    (a5 : PySem.W.nsIn K mainGlobals "deed_of" = some (some (.ref f5))) (l5 : K.lookup f5 = some ⟨oc5, od5, .func (PySem.W.fnOf "deed_of" "deed_of" (defArgs st_p_deed_of) (defBody st_p_deed_of) (defScope st_p_deed_of) .none kV5 dc5 pm5 an5 cd5 ct5), sl5⟩) (c5 : PySem.W.codeIn K cd5 "deed_of" = true) (k5 : PySem.W.keepIn K (.ref f5) = true)
    {f6 : Addr} {od6 an6 : Option Addr} {sl6 : Array (Option Value)} {oc6 kV6 dc6 pm6 cd6 ct6 : Value}
    (a6 : PySem.W.nsIn K mainGlobals "_law_box" = some (some (.ref f6))) (l6 : K.lookup f6 = some ⟨oc6, od6, .func (PySem.W.fnOf "_law_box" "_law_box" (defArgs st_l_box) (defBody st_l_box) (defScope st_l_box) .none kV6 dc6 pm6 an6 cd6 ct6), sl6⟩) (c6 : PySem.W.codeIn K cd6 "_law_box" = true) (k6 : PySem.W.keepIn K (.ref f6) = true)
    {f7 : Addr} {od7 an7 : Option Addr} {sl7 : Array (Option Value)} {oc7 kV7 dc7 pm7 cd7 ct7 : Value}
    (a7 : PySem.W.nsIn K mainGlobals "_law_take" = some (some (.ref f7))) (l7 : K.lookup f7 = some ⟨oc7, od7, .func (PySem.W.fnOf "_law_take" "_law_take" (defArgs st_l_take) (defBody st_l_take) (defScope st_l_take) .none kV7 dc7 pm7 an7 cd7 ct7), sl7⟩) (c7 : PySem.W.codeIn K cd7 "_law_take" = true) (k7 : PySem.W.keepIn K (.ref f7) = true)
    {f8 : Addr} {od8 an8 : Option Addr} {sl8 : Array (Option Value)} {oc8 kV8 dc8 pm8 cd8 ct8 : Value}
    (a8 : PySem.W.nsIn K mainGlobals "_law_same" = some (some (.ref f8))) (l8 : K.lookup f8 = some ⟨oc8, od8, .func (PySem.W.fnOf "_law_same" "_law_same" (defArgs st_l_same) (defBody st_l_same) (defScope st_l_same) .none kV8 dc8 pm8 an8 cd8 ct8), sl8⟩) (c8 : PySem.W.codeIn K cd8 "_law_same" = true) (k8 : PySem.W.keepIn K (.ref f8) = true)
    {f9 : Addr} {od9 an9 : Option Addr} {sl9 : Array (Option Value)} {oc9 kV9 dc9 pm9 cd9 ct9 : Value}
    (a9 : PySem.W.nsIn K mainGlobals "_law_names" = some (some (.ref f9))) (l9 : K.lookup f9 = some ⟨oc9, od9, .func (PySem.W.fnOf "_law_names" "_law_names" (defArgs st_l_names) (defBody st_l_names) (defScope st_l_names) .none kV9 dc9 pm9 an9 cd9 ct9), sl9⟩) (c9 : PySem.W.codeIn K cd9 "_law_names" = true) (k9 : PySem.W.keepIn K (.ref f9) = true)
    {f10 : Addr} {od10 an10 : Option Addr} {sl10 : Array (Option Value)} {oc10 kV10 dc10 pm10 cd10 ct10 : Value}
    (a10 : PySem.W.nsIn K mainGlobals "_law_number" = some (some (.ref f10))) (l10 : K.lookup f10 = some ⟨oc10, od10, .func (PySem.W.fnOf "_law_number" "_law_number" (defArgs st_l_number) (defBody st_l_number) (defScope st_l_number) .none kV10 dc10 pm10 an10 cd10 ct10), sl10⟩) (c10 : PySem.W.codeIn K cd10 "_law_number" = true) (k10 : PySem.W.keepIn K (.ref f10) = true)
    {f11 : Addr} {od11 an11 : Option Addr} {sl11 : Array (Option Value)} {oc11 kV11 dc11 pm11 cd11 ct11 : Value}
    (a11 : PySem.W.nsIn K mainGlobals "law" = some (some (.ref f11))) (l11 : K.lookup f11 = some ⟨oc11, od11, .func (PySem.W.fnOf "law" "law" (defArgs st_law) (defBody st_law) (defScope st_law) .none kV11 dc11 pm11 an11 cd11 ct11), sl11⟩) (c11 : PySem.W.codeIn K cd11 "law" = true) (k11 : PySem.W.keepIn K (.ref f11) = true)
    (z0 : PySem.W.nsIn K mainGlobals "all" = some none)
    (z1 : PySem.W.nsIn K mainGlobals "bool" = some none)
    (z2 : PySem.W.nsIn K mainGlobals "int" = some none)
    (z3 : PySem.W.nsIn K mainGlobals "isinstance" = some none)
    (z4 : PySem.W.nsIn K mainGlobals "len" = some none)
    (z5 : PySem.W.nsIn K mainGlobals "list" = some none)
    (z6 : PySem.W.nsIn K mainGlobals "range" = some none)
    (z7 : PySem.W.nsIn K mainGlobals "str" = some none)
    (z8 : PySem.W.nsIn K mainGlobals "tuple" = some none)
    (z9 : PySem.W.nsIn K mainGlobals "zip" = some none)
    {t0 : Tok} (y0 : PySem.W.nsIn K mainGlobals "FIGURES" = some (some (.str "0123456789" t0)))
    {t1 : Tok} (y1 : PySem.W.nsIn K mainGlobals "LETTERS" = some (some (.str "abcdefghijklmnopqrstuvwxyz" t1)))
    {t2 : Tok} (y2 : PySem.W.nsIn K mainGlobals "LONGEST" = some (some (.int 8 t2)))
    {t3 : Tok} (y3 : PySem.W.nsIn K mainGlobals "MOST_FIGURES" = some (some (.int 10 t3)))
    {DSHAPES : Addr} {esSHAPES : Array DictEntry} {nnSHAPES : Nat} (y4 : PySem.W.nsIn K mainGlobals "SHAPES" = some (some (.ref DSHAPES))) (kLSHAPES : K.lookup DSHAPES = some ⟨.type "dict", none, .dict esSHAPES nnSHAPES, #[]⟩) (kKSHAPES : PySem.W.KeysLit w.params esSHAPES.toList) (klSHAPES : (DSHAPES == sysModules) = false) (kESHAPES : esSHAPES.toList.map entS = tab_SHAPES.map some)
    {XNoDeed : Addr} (aXNoDeed : PySem.W.nsIn K mainGlobals "NoDeed" = some (some (.ref XNoDeed)))
    {n1NoDeed n2NoDeed : Str} {NNoDeed BNoDeed INoDeed : Addr} {bsNoDeed subNoDeed : List Value} {snNoDeed : List Str} {abNoDeed : Bool} {coNoDeed : Option Bool} {ddNoDeed odNoDeed anNoDeed : Option Addr} {k0NoDeed k1NoDeed k2NoDeed k3NoDeed k5NoDeed : Option Value} {ocNoDeed kVNoDeed dcNoDeed pmNoDeed cdNoDeed ctNoDeed : Value} {slNoDeed : Array (Option Value)}
    (xLNoDeed : K.lookup XNoDeed = some (excClassObj n1NoDeed n2NoDeed XNoDeed NNoDeed bsNoDeed [.ref BNoDeed, .type "ValueError", .type "Exception", .type "BaseException", .type "object"] true snNoDeed subNoDeed abNoDeed coNoDeed ddNoDeed k0NoDeed k1NoDeed k2NoDeed k3NoDeed k5NoDeed "ValueError.__new__"))
    (saNoDeed : PySem.W.findIn K (.ref XNoDeed) "__setattr__" = some (some (.builtin "object.__setattr__")))
    (gaNoDeed : PySem.W.findIn K (.ref XNoDeed) "__getattribute__" = some (some (.builtin "BaseException.__getattribute__")))
    (ggNoDeed : PySem.W.findIn K (.ref XNoDeed) "__getattr__" = some none)
    (nwNoDeed : PySem.W.findIn K (.ref XNoDeed) "word" = some none)
    (iCNoDeed : PySem.W.findIn K (.ref XNoDeed) "__init__" = some (some (.ref INoDeed)))
    (tINoDeed : PySem.W.typeIn K (.ref INoDeed) = some (.type "function"))
    (lINoDeed : K.lookup INoDeed = some ⟨ocNoDeed, odNoDeed, .func (PySem.W.fnOf "__init__" "NoDeed.__init__" (defArgs st_XNoDeed) (defBody st_XNoDeed) (defScope st_XNoDeed) .none kVNoDeed dcNoDeed pmNoDeed anNoDeed cdNoDeed ctNoDeed), slNoDeed⟩)
    (cINoDeed : PySem.W.codeIn K cdNoDeed "NoDeed.__init__" = true)
    (kINoDeed : PySem.W.keepIn K (.ref INoDeed) = true)
    (kCNoDeed : PySem.W.keepIn K (.ref XNoDeed) = true)
    (eCNoDeed : PySem.W.subIn K (.ref XNoDeed) (.type "BaseException") = some true)
    (tCNoDeed : PySem.W.typeIn K (.ref XNoDeed) = some (.type "type"))
    (cCNoDeed : PySem.W.isClsIn K XNoDeed = true)
    (sDNoDeed : PySem.W.subIn K (.ref XNoDeed) (.ref XNoDeed) = some true)
    (haNoDeed : PySem.W.findIn K (.ref XNoDeed) "__class__" = some (some (.builtin "object.__class__")))
    (hmNoDeed : PySem.W.mroIn K XNoDeed (.type "object") = some true)
    (hnX : PySem.W.specialIn K (.builtin "object.__class__") "__get__" = some (some (.builtin "getset_descriptor.__get__"))) (htX : PySem.W.takesIn K (.builtin "object.__class__") = some true)
    : ∃ fd : FuncData, (∀ (s : Shared) (v : Value), BindsTo s fd ⟨[v], []⟩ [("_law_script", v)]) ∧ ∀ base : Heap, K.In base → base.Ns mainGlobals mg → FnOk l.prog w K mg base CX0 9 fa fd ["_law_script"] (spOf0 K) := by
  have e := hfa.symm.trans (PySem.W.mg_of X G a11)
  cases e
  have F1 := fun_mk (st := st_p_is_name) l1 c1 k1
  have F2 := fun_mk (st := st_p_is_number) l2 c2 k2
  have F3 := fun_mk (st := st_p_number_in) l3 c3 k3
  have F4 := fun_mk (st := st_p_deed_text) l4 c4 k4
  have F5 := fun_mk (st := st_p_deed_of) l5 c5 k5
  have F6 := fun_mk (st := st_l_box) l6 c6 k6
  have F7 := fun_mk (st := st_l_take) l7 c7 k7
  have F8 := fun_mk (st := st_l_same) l8 c8 k8
  have F9 := fun_mk (st := st_l_names) l9 c9 k9
  have F10 := fun_mk (st := st_l_number) l10 c10 k10
  have F11 := fun_mk (st := st_law) l11 c11 k11
  have b1 := F1.binds (ps := ["word"]) fun _ _ _ _ _ _ us hl => match us, hl with | [_], _ => rfl
  have b2 := F2.binds (ps := ["word"]) fun _ _ _ _ _ _ us hl => match us, hl with | [_], _ => rfl
  have b3 := F3.binds (ps := ["word"]) fun _ _ _ _ _ _ us hl => match us, hl with | [_], _ => rfl
  have b4 := F4.binds (ps := ["deed"]) fun _ _ _ _ _ _ us hl => match us, hl with | [_], _ => rfl
  have b5 := F5.binds (ps := ["text"]) fun _ _ _ _ _ _ us hl => match us, hl with | [_], _ => rfl
  have b6 := F6.binds (ps := ["_law_script"]) fun _ _ _ _ _ _ us hl => match us, hl with | [_], _ => rfl
  have b7 := F7.binds (ps := ["_law_box_here", "_law_many"]) fun _ _ _ _ _ _ us hl => match us, hl with | [_, _], _ => rfl
  have b8 := F8.binds (ps := ["_law_found", "_law_due"]) fun _ _ _ _ _ _ us hl => match us, hl with | [_, _], _ => rfl
  have b9 := F9.binds (ps := ["_law_box_here", "_law_many"]) fun _ _ _ _ _ _ us hl => match us, hl with | [_, _], _ => rfl
  have b10 := F10.binds (ps := ["_law_box_here"]) fun _ _ _ _ _ _ us hl => match us, hl with | [_], _ => rfl
  have m_all := PySem.W.mg_none_of X G z0
  have m_bool := PySem.W.mg_none_of X G z1
  have m_int := PySem.W.mg_none_of X G z2
  have m_isinstance := PySem.W.mg_none_of X G z3
  have m_len := PySem.W.mg_none_of X G z4
  have m_list := PySem.W.mg_none_of X G z5
  have m_range := PySem.W.mg_none_of X G z6
  have m_str := PySem.W.mg_none_of X G z7
  have m_tuple := PySem.W.mg_none_of X G z8
  have m_zip := PySem.W.mg_none_of X G z9
  have m_FIGURES : ConS mg "FIGURES" "0123456789" := ⟨_, PySem.W.mg_of X G y0⟩
  have m_LETTERS : ConS mg "LETTERS" "abcdefghijklmnopqrstuvwxyz" := ⟨_, PySem.W.mg_of X G y1⟩
  have m_LONGEST : ConI K mg "LONGEST" 8 := ⟨_, PySem.W.mg_of X G y2⟩
  have m_MOST_FIGURES : ConI K mg "MOST_FIGURES" 10 := ⟨_, PySem.W.mg_of X G y3⟩
  have m_SHAPES : ConD K w mg "SHAPES" tab_SHAPES := conD_of (PySem.W.mg_of X G y4) ⟨kLSHAPES, kKSHAPES, klSHAPES⟩ kESHAPES
  have FINoDeed := fun_mk (st := st_XNoDeed) lINoDeed cINoDeed kINoDeed
  have bINoDeed := FINoDeed.binds (ps := ["self"]) fun _ _ _ _ _ _ us hl => match us, hl with | [_], _ => rfl
  have ONoDeed : OexC K XNoDeed := ⟨⟨_, _, _, _, _, _, _, _, _, _, _, _, _, _, _, xLNoDeed, rfl⟩, saNoDeed, eCNoDeed, tCNoDeed, kCNoDeed⟩
  have TNoDeed : ExcT K XNoDeed := ⟨cCNoDeed, gaNoDeed, ggNoDeed, eCNoDeed, haNoDeed, hnX, htX, hmNoDeed⟩
  refine ⟨PySem.W.fnOf "law" "law" (defArgs st_law) (defBody st_law) (defScope st_law) .none kV11 dc11 pm11 an11 cd11 ct11, fun s v => .of_eq rfl, fun base _ _ => ?_⟩
  have X_NoDeed : ExcF l.prog w K mg base "NoDeed" := ⟨XNoDeed, INoDeed, _, PySem.W.mg_of X G aXNoDeed, ONoDeed, nwNoDeed, iCNoDeed, tINoDeed, exc_init FINoDeed sc_XNoDeed rfl rfl, bINoDeed⟩
  have C_p_is_name : Cal l.prog w K mg base "is_name" ["word"] 1 S_p_is_name := Cal.mk' F1 (ok_p_is_name F1 m_len m_LONGEST m_LETTERS) (PySem.W.mg_of X G a1) b1
  have C_p_is_number : Cal l.prog w K mg base "is_number" ["word"] 1 S_p_is_number := Cal.mk' F2 (ok_p_is_number F2 m_len m_MOST_FIGURES m_FIGURES) (PySem.W.mg_of X G a2) b2
  have C_p_number_in : CalX l.prog w K mg base "number_in" ["word"] 3 S_p_number_in := CalX.mk' F3 (ok_p_number_in F3 C_p_is_number X_NoDeed m_int) (PySem.W.mg_of X G a3) b3
  have C_p_deed_text : Cal l.prog w K mg base "deed_text" ["deed"] 1 S_p_deed_text := Cal.mk' F4 (ok_p_deed_text F4 m_str) (PySem.W.mg_of X G a4) b4
  have C_p_deed_of : CalX l.prog w K mg base "deed_of" ["text"] 4 S_p_deed_of := CalX.mk' F5 (ok_p_deed_of F5 C_p_is_name C_p_number_in X_NoDeed m_zip m_tuple m_len m_SHAPES) (PySem.W.mg_of X G a5) b5
  have B_box : FnOk l.prog w K mg base CX0 1 f6 _ ["_law_script"] (spBox K) := ok_l_box F6 m_list
  have C_l_take : Cal l.prog w K mg base "_law_take" ["_law_box_here", "_law_many"] 1 S_l_take := Cal.mk' F7 (ok_l_take F7 m_len) (PySem.W.mg_of X G a7) b7
  have C_l_same : Cal l.prog w K mg base "_law_same" ["_law_found", "_law_due"] 8 (S_same 8) := Cal.mk' F8 (ok_l_same b8 (PySem.W.mg_of X G a8) F8 m_isinstance m_list m_tuple m_all m_bool m_int m_str m_len m_zip) (PySem.W.mg_of X G a8) b8
  have C_l_names : Cal l.prog w K mg base "_law_names" ["_law_box_here", "_law_many"] 2 S_l_names := Cal.mk' F9 (ok_l_names F9 C_l_take m_range m_list) (PySem.W.mg_of X G a9) b9
  have C_l_number : Cal l.prog w K mg base "_law_number" ["_law_box_here"] 2 S_l_number := Cal.mk' F10 (ok_l_number F10 C_l_take) (PySem.W.mg_of X G a10) b10
  exact ok_law F11 B_box (PySem.W.mg_of X G a6) k6 b6 C_l_names C_l_number C_l_same C_p_deed_text C_p_deed_of m_range m_str
end Dd
open PySem PySem.W PyProof.Rows
set_option maxRecDepth 100000 in
set_option maxHeartbeats 0 in
theorem PySem.Challenge.cw_outlivers_k51_deeds_written_holds : PySem.Challenge.rw_outlivers_k51_deeds_written.Holds := by
  w_on; o_law; k_head; (case hw => w_witness2)
  k_fill
  refine L2.walk_of (l := PySem.Challenge.rw_outlivers_k51_deeds_written) (n := 63) (k := 9) (x := "_law_script") (CX := fun _ => L2.CX0) (sp := fun w => Dd.spOf0 _) rfl (by decide) rfl ⟨rfl, by decide, by decide⟩ (fun w h Y => PySem.W.kIn_of Y) ?F (fun _ _ a ns hl _ hS => ⟨a, ns, rfl, hS, hl, fun _ => rfl⟩) (fun _ _ _ _ _ h => h)
  case F =>
    intro w mg fa h KX G hmg
    refine' Dd.all_mk KX G hmg ?a1 ?l1 ?c1 ?k1 ?a2 ?l2 ?c2 ?k2 ?a3 ?l3 ?c3 ?k3 ?a4 ?l4 ?c4 ?k4 ?a5 ?l5 ?c5 ?k5 ?a6 ?l6 ?c6 ?k6 ?a7 ?l7 ?c7 ?k7 ?a8 ?l8 ?c8 ?k8 ?a9 ?l9 ?c9 ?k9 ?a10 ?l10 ?c10 ?k10 ?a11 ?l11 ?c11 ?k11 ?z0 ?z1 ?z2 ?z3 ?z4 ?z5 ?z6 ?z7 ?z8 ?z9 ?y0 ?y1 ?y2 ?y3 ?y4 ?kLSHAPES ?kKSHAPES ?klSHAPES ?kESHAPES ?aXNoDeed ?xLNoDeed ?saNoDeed ?gaNoDeed ?ggNoDeed ?nwNoDeed ?iCNoDeed ?tINoDeed ?lINoDeed ?cINoDeed ?kINoDeed ?kCNoDeed ?eCNoDeed ?tCNoDeed ?cCNoDeed ?sDNoDeed ?haNoDeed ?hmNoDeed ?hnX ?htX
    (case a1 => k_is)
    (case l1 => k_is)
    (case c1 => k_is)
    (case k1 => k_is)
    (case a2 => k_is)
    (case l2 => k_is)
    (case c2 => k_is)
    (case k2 => k_is)
    (case a3 => k_is)
    (case l3 => k_is)
    (case c3 => k_is)
    (case k3 => k_is)
    (case a4 => k_is)
    (case l4 => k_is)
    (case c4 => k_is)
    (case k4 => k_is)
    (case a5 => k_is)
    (case l5 => k_is)
    (case c5 => k_is)
    (case k5 => k_is)
    (case a6 => k_is)
    (case l6 => k_is)
    (case c6 => k_is)
    (case k6 => k_is)
    (case a7 => k_is)
    (case l7 => k_is)
    (case c7 => k_is)
    (case k7 => k_is)
    (case a8 => k_is)
    (case l8 => k_is)
    (case c8 => k_is)
    (case k8 => k_is)
    (case a9 => k_is)
    (case l9 => k_is)
    (case c9 => k_is)
    (case k9 => k_is)
    (case a10 => k_is)
    (case l10 => k_is)
    (case c10 => k_is)
    (case k10 => k_is)
    (case a11 => k_is)
    (case l11 => k_is)
    (case c11 => k_is)
    (case k11 => k_is)
    (case z0 => k_is)
    (case z1 => k_is)
    (case z2 => k_is)
    (case z3 => k_is)
    (case z4 => k_is)
    (case z5 => k_is)
    (case z6 => k_is)
    (case z7 => k_is)
    (case z8 => k_is)
    (case z9 => k_is)
    (case y0 => k_is)
    (case y1 => k_is)
    (case y2 => k_is)
    (case y3 => k_is)
    (case y4 => k_is)
    (case kLSHAPES => k_is)
    (case kKSHAPES => repeat (first | exact trivial | refine ⟨⟨_, _, rfl, rfl⟩, ?_⟩))
    (case klSHAPES => first | rfl | decide +kernel | k_is)
    (case kESHAPES => first | rfl | decide +kernel)
    (case aXNoDeed => k_is)
    (case xLNoDeed => k_is)
    (case saNoDeed => k_is)
    (case gaNoDeed => k_is)
    (case ggNoDeed => k_is)
    (case nwNoDeed => k_is)
    (case iCNoDeed => k_is)
    (case tINoDeed => k_is)
    (case lINoDeed => k_is)
    (case cINoDeed => k_is)
    (case kINoDeed => k_is)
    (case kCNoDeed => k_is)
    (case eCNoDeed => k_is)
    (case tCNoDeed => k_is)
    (case cCNoDeed => k_is)
    (case sDNoDeed => k_is)
    (case haNoDeed => k_is)
    (case hmNoDeed => k_is)
    (case hnX => k_is)
    (case htX => k_is)
#print axioms PySem.Challenge.cw_outlivers_k51_deeds_written_holds

