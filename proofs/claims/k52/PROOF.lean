import PyProof.Rows.All
import Wide.All
import OpenK.AllK
import Wide.FinOn
import HandS.ForMost
import HandS.Walk
import HandS.IsInst
import HandS.Wide
import HandS.Zip
import HandS.Codes
import HandS.Conv
import HandS.NoneIn
import HandS.More
import HandS.Deep
import HandS.Style
import HandS.Text
import HandS.ForExc
import HandS.ExcInit
import HandS.ExcIs
import KE.KExcIs
import HandS.RaiseMore
import KE.GoesMore
import KE.GoesZip
import HandS.TupSets
import PySem.Challenge.RW_outlivers_k52_rows_read_or_refused
set_option Elab.async false
set_option linter.all false
set_option maxRecDepth 100000
set_option maxHeartbeats 4000000
/-! Data-level readings: what an expression, a statement, a def does to plain data. -/
namespace Dd
open PySem L2

abbrev Ex (F H : Hp) : Prop := ∀ a o, F a = some o → H a = some o
theorem Ex.trans {A B C : Hp} (h : Ex A B) (k : Ex B C) : Ex A C := fun a o e => k a o (h a o e)
theorem Ex.rfl' (A : Hp) : Ex A A := fun _ _ e => e

/-! ### trees: a leaf is settled data, a node a list that nobody else holds, own p t the tree t whose root is known to stand at p -/
inductive T where
  | leaf (d : PyData)
  | node (ts : List T)
  | own (p : Addr) (t : T)
  | ins (C : Addr) (ks : List Str) (ts : List T)
  | dic (ks : List Key) (ts : List T)
  | diT (ks : List (List Key)) (ts : List T)
  | sto (m : Addr → Option T)
  | fro (m : Addr → Option PyData)
  | eff (m : Addr → Option T) (t : T)
/-- an object that stands in the store, by its address -/
abbrev objD (a : Addr) : PyData := .dict [(.bool false, .int (a : Nat))]
/-- an instance of the class at C, settled -/
abbrev insD (C : Addr) (fs : List (Str × PyData)) : PyData := .dict ((.bool true, .int (C : Nat)) :: fs.map fun p => (.str p.1, p.2))
def keyD : Key → PyData
  | .inl i => .int i
  | .inr x => .str x
/-- a dict, settled -/
abbrev dicD (fs : List (Key × PyData)) : PyData := .dict ((.none, .none) :: fs.map fun p => (keyD p.1, p.2))
abbrev diTD (fs : List (List Key × PyData)) : PyData := .dict ((.none, .bool true) :: fs.map fun p => (.tuple (p.1.map keyD), p.2))
mutual
def T.dat : T → PyData
  | .leaf d => d
  | .node ts => .list (T.dats ts)
  | .own _ t => t.dat
  | .ins C ks ts => insD C (ks.zip (T.dats ts))
  | .dic ks ts => dicD (ks.zip (T.dats ts))
  | .diT ks ts => diTD (ks.zip (T.dats ts))
  | .sto _ => .none
  | .fro _ => .none
  | .eff _ t => t.dat
def T.dats : List T → List PyData
  | [] => []
  | t :: ts => t.dat :: T.dats ts
end
theorem dats_eq : ∀ ts : List T, T.dats ts = ts.map T.dat
  | [] => rfl
  | t :: ts => by
    show t.dat :: T.dats ts = _
    rw [dats_eq ts] <;> rfl
theorem dats_leaf : ∀ ds : List PyData, T.dats (ds.map T.leaf) = ds
  | [] => rfl
  | d :: ds => by
    show d :: T.dats (ds.map T.leaf) = _
    rw [dats_leaf ds]
abbrev int (i : Int) : T := .leaf (.int i)
abbrev boo (b : Bool) : T := .leaf (.bool b)
abbrev non : T := .leaf .none
abbrev bx : PyData := .dict []
/-- an exception that a suite holds -/
abbrev excD (a d : Addr) (n : Str) (pl : PyData) : PyData := .dict [(.int (a : Nat), .str n), (.int (d : Nat), pl)]
/-- the fields of an exception -/
def exF (n : Str) : PyData → List (Str × V)
  | .int r => [("row", .int r), ("word", .str n)]
  | _ => [("word", .str n)]

mutual
inductive Rp (b : Option Addr) (G : Hp) : V → PyData → Prop
  | non : Rp b G .non .none
  | bl (k : Bool) : Rp b G (.bl k) (.bool k)
  | int (i : Int) : Rp b G (.int i) (.int i)
  | str (x : Str) : Rp b G (.str x) (.str x)
  | lst {a : Addr} {xs : List V} {ds : List PyData} : G a = some (.lst xs) → RpAll b G xs ds → Rp b G (.ref a) (.list ds)
  | tup {a : Addr} {xs : List V} {ds : List PyData} : G a = some (.tup xs) → RpAll b G xs ds → Rp b G (.ref a) (.tuple ds)
  | box {a : Addr} : b = some a → Rp b G (.ref a) (.dict [])
  | exc {a d : Addr} {n : Str} {pl : PyData} : G d = some (.xd (exF n pl)) → Rp b G (.ref a) (.dict [(.int (a : Nat), .str n), (.int (d : Nat), pl)])
  | obj (a : Addr) : Rp b G (.ref a) (objD a)
  | ins {a dx C : Addr} {us : List (Str × V)} {fs : List (Str × PyData)} : G a = some (.ins C dx us) → G dx = some (.own a) → us.map (·.1) = fs.map (·.1) → RpAll b G (us.map (·.2)) (fs.map (·.2)) → Rp b G (.ref a) (insD C fs)
  | dic {a : Addr} {us : List (Key × V)} {fs : List (Key × PyData)} : Rd G a (.dK us) → us.map (·.1) = fs.map (·.1) → RpAll b G (us.map (·.2)) (fs.map (·.2)) → Rp b G (.ref a) (dicD fs)
  | diT {a : Addr} {us : List (List Key × V)} {fs : List (List Key × PyData)} : Rd G a (.dT us) → us.map (·.1) = fs.map (·.1) → RpAll b G (us.map (·.2)) (fs.map (·.2)) → Rp b G (.ref a) (diTD fs)
inductive RpAll (b : Option Addr) (G : Hp) : List V → List PyData → Prop
  | nil : RpAll b G [] []
  | cons {v : V} {vs : List V} {d : PyData} {ds : List PyData} : Rp b G v d → RpAll b G vs ds → RpAll b G (v :: vs) (d :: ds)
end
theorem rd_mono {G G' : Hp} (e : Ex G G') {a : Addr} {u : HO} (h : Rd G a u) : Rd G' a u := h.elim (fun h => .inl (e _ _ h)) fun ⟨o, h⟩ => .inr ⟨o, e _ _ h⟩
mutual
theorem Rp.mono {b : Option Addr} {G G' : Hp} (e : Ex G G') : ∀ {v : V} {d : PyData}, Rp b G v d → Rp b G' v d
  | _, _, .non => .non
  | _, _, .bl k => .bl k
  | _, _, .int i => .int i
  | _, _, .str x => .str x
  | _, _, .lst h r => .lst (e _ _ h) (RpAll.mono e r)
  | _, _, .tup h r => .tup (e _ _ h) (RpAll.mono e r)
  | _, _, .box h => .box h
  | _, _, .exc h => .exc (e _ _ h)
  | _, _, .obj a => .obj a
  | _, _, .ins h h2 k r => .ins (e _ _ h) (e _ _ h2) k (RpAll.mono e r)
  | _, _, .dic h k r => .dic (rd_mono e h) k (RpAll.mono e r)
  | _, _, .diT h k r => .diT (rd_mono e h) k (RpAll.mono e r)
theorem RpAll.mono {b : Option Addr} {G G' : Hp} (e : Ex G G') : ∀ {vs : List V} {ds : List PyData}, RpAll b G vs ds → RpAll b G' vs ds
  | _, _, .nil => .nil
  | _, _, .cons h r => .cons (Rp.mono e h) (RpAll.mono e r)
end
theorem RpAll.len {b : Option Addr} {G : Hp} : ∀ {vs : List V} {ds : List PyData}, RpAll b G vs ds → vs.length = ds.length
  | _, _, .nil => rfl
  | _, _, .cons _ r => by simp [RpAll.len r]
theorem RpAll.get {b : Option Addr} {G : Hp} : ∀ {vs : List V} {ds : List PyData} {i : Nat} {d : PyData}, RpAll b G vs ds → ds[i]? = some d → ∃ v, vs[i]? = some v ∧ Rp b G v d
  | _, _, _, _, .nil, e => by simp at e
  | _, _, 0, _, .cons h _, e => by
    simp at e
    subst e
    exact ⟨_, rfl, h⟩
  | _, _, i + 1, d, .cons _ r, e => by
    obtain ⟨v, h1, h2⟩ := RpAll.get (i := i) (d := d) r (by simpa using e)
    exact ⟨v, by simpa using h1, h2⟩
theorem RpAll.get' {b : Option Addr} {G : Hp} {vs : List V} {ds : List PyData} {i : Nat} {v : V} (h : RpAll b G vs ds) (e : vs[i]? = some v) : ∃ d, ds[i]? = some d ∧ Rp b G v d := by
  have hl := h.len
  have hi := (List.getElem?_eq_some_iff.mp e).1
  obtain ⟨v', e', r⟩ := h.get (i := i) (d := ds[i]'(by omega)) (List.getElem?_eq_getElem _)
  rw [e] at e'
  cases e'
  exact ⟨_, List.getElem?_eq_getElem _, r⟩
theorem RpAll.append {b : Option Addr} {G : Hp} : ∀ {vs ws : List V} {ds es : List PyData}, RpAll b G vs ds → RpAll b G ws es → RpAll b G (vs ++ ws) (ds ++ es)
  | _, _, _, _, .nil, h => h
  | _, _, _, _, .cons h r, k => .cons h (RpAll.append r k)
theorem RpAll.take {b : Option Addr} {G : Hp} : ∀ {vs : List V} {ds : List PyData} (n : Nat), RpAll b G vs ds → RpAll b G (vs.take n) (ds.take n)
  | _, _, 0, _ => .nil
  | _, _, _ + 1, .nil => .nil
  | _, _, n + 1, .cons h r => .cons h (RpAll.take n r)
theorem RpAll.drop {b : Option Addr} {G : Hp} : ∀ {vs : List V} {ds : List PyData} (n : Nat), RpAll b G vs ds → RpAll b G (vs.drop n) (ds.drop n)
  | _, _, 0, r => r
  | _, _, _ + 1, .nil => .nil
  | _, _, n + 1, .cons _ r => RpAll.drop n r

/-! ### the draw box, what is good, a step -/
def BoxOk (K : PySem.W.Frag) (G H : Hp) (a : Addr) : Prop :=
  ∃ (c : Addr) (cells : List Int) (pos : Nat) (rest seed : Int), H a = some (.lst [.ref c, .int pos, .int rest, .int seed]) ∧ G c = some (.lst (cells.map V.int)) ∧ cells.length ≤ 63 ∧ pos ≤ 63 ∧ 0 ≤ rest ∧ 0 ≤ seed ∧ seed < 2147483629
structure Good (K : PySem.W.Frag) (b : Option Addr) (G H : Hp) : Prop where
  ex : Ex G H
  box : ∀ a, b = some a → G a = none ∧ BoxOk K G H a
/-- the cells' list of the box -/
def boxc (H : Hp) (a : Addr) : Option V := match H a with
  | some (.lst xs) => xs[0]?
  | _ => none
structure Stp (K : PySem.W.Frag) (b : Option Addr) (G H G' H' : Hp) : Prop where
  ex : Ex G G'
  good : Good K b G' H'
  keep : ∀ a o, b ≠ some a → H a = some o → H' a = some o
  out : ∀ a o, G a = none → H a = some o → G' a = none
  cel : ∀ a, b = some a → boxc H' a = boxc H a
theorem boxc_eq {H H' : Hp} {a : Addr} (h : H' a = H a) : boxc H' a = boxc H a := by unfold boxc; rw [h]
section
variable {K : PySem.W.Frag} {b : Option Addr} {G H G' H' G2 H2 : Hp}
theorem Good.stp (h : Good K b G H) : Stp K b G H G H := ⟨Ex.rfl' _, h, fun _ _ _ e => e, fun _ _ e _ => e, fun _ _ => rfl⟩
theorem Stp.there (h : Stp K b G H G' H') (g : Good K b G H) {a : Addr} {o : HO} (e : H a = some o) : ∃ o', H' a = some o' := by
  by_cases c : b = some a
  · obtain ⟨_, _, _, _, _, _, q, _⟩ := h.good.box a c
    exact ⟨_, q⟩
  · exact ⟨o, h.keep a o c e⟩
theorem Stp.trans (g : Good K b G H) (h : Stp K b G H G' H') (k : Stp K b G' H' G2 H2) : Stp K b G H G2 H2 :=
  ⟨h.ex.trans k.ex, k.good, fun a o c e => k.keep a o c (h.keep a o c e), fun a o n e => by
    obtain ⟨o', e'⟩ := h.there g e
    exact k.out a o' (h.out a o n e) e', fun a c => (k.cel a c).trans (h.cel a c)⟩
/-- what was fresh behind is fresh ahead -/
theorem Stp.free (h : Stp K b G H G' H') (g : Good K b G H) {a : Addr} (e : H' a = none) : H a = none := by
  cases q : H a with
  | none => rfl
  | some o =>
    obtain ⟨o', e'⟩ := h.there g q
    rw [e] at e'
    cases e'
/-- a new object, settled -/
theorem Good.new (g : Good K b G H) {p : Addr} (o : HO) (hp : H p = none) : Stp K b G H (upd G p o) (upd H p o) ∧ G p = none := by
  have gp : G p = none := by
    cases q : G p with
    | none => rfl
    | some u =>
      rw [g.ex p u q] at hp
      cases hp
  have nbp : ∀ a, b = some a → a ≠ p := fun a c => by
    obtain ⟨_, _, _, _, _, _, h1, _⟩ := g.box a c
    exact ne_of_none h1 hp
  refine ⟨⟨fun a u e => ?_, ⟨fun a u e => ?_, fun a c => ?_⟩, fun a u _ e => ?_, fun a u n e => ?_, fun a c => boxc_eq (upd_ne (nbp a c))⟩, gp⟩
  · rw [upd_ne (ne_of_none e gp)]
    exact e
  · by_cases c : a = p
    · subst c
      rw [upd_same] at e ⊢
      exact e
    · rw [upd_ne c] at e ⊢
      exact g.ex a u e
  · obtain ⟨n, cc, cells, pos, rest, seed, h1, h2, h3⟩ := g.box a c
    have na : a ≠ p := ne_of_none h1 hp
    exact ⟨by rw [upd_ne na]; exact n, cc, cells, pos, rest, seed, by rw [upd_ne na]; exact h1, by rw [upd_ne (ne_of_none h2 gp)]; exact h2, h3⟩
  · rw [upd_ne (ne_of_none e hp)]
    exact e
  · rw [upd_ne (ne_of_none e hp)]
    exact n
/-- a new object that is not settled -/
theorem Good.own (g : Good K b G H) {p : Addr} (o : HO) (hp : H p = none) : Stp K b G H G (upd H p o) := by
  have nbp : ∀ a, b = some a → a ≠ p := fun a c => by
    obtain ⟨_, _, _, _, _, _, h1, _⟩ := g.box a c
    exact ne_of_none h1 hp
  refine ⟨fun a u e => e, ⟨fun a u e => ?_, fun a c => ?_⟩, fun a u _ e => ?_, fun a u n e => n, fun a c => boxc_eq (upd_ne (nbp a c))⟩
  · rw [upd_ne (ne_of_none (g.ex a u e) hp)]
    exact g.ex a u e
  · obtain ⟨n, cc, cells, pos, rest, seed, h1, h2, h3⟩ := g.box a c
    exact ⟨n, cc, cells, pos, rest, seed, by rw [upd_ne (ne_of_none h1 hp)]; exact h1, h2, h3⟩
  · rw [upd_ne (ne_of_none e hp)]
    exact e
end

/-! ### how a tree lies -/
mutual
inductive Tr (b : Option Addr) (G H : Hp) : List Addr → V → T → Prop
  | leaf {v : V} {d : PyData} : Rp b G v d → Tr b G H [] v (.leaf d)
  | node {p : Addr} {fp : List Addr} {vs : List V} {ts : List T} : H p = some (.lst vs) → G p = none → b ≠ some p → TrAll b G H fp vs ts → p ∉ fp → Tr b G H (p :: fp) (.ref p) (.node ts)
  | own {p : Addr} {fp : List Addr} {t : T} : Tr b G H fp (.ref p) t → Tr b G H fp (.ref p) (.own p t)
  | ins {p dx C : Addr} {fp : List Addr} {us : List (Str × V)} {ks : List Str} {ts : List T} : H p = some (.ins C dx us) → H dx = some (.own p) → G p = none → G dx = none → b ≠ some p → b ≠ some dx → us.map (·.1) = ks → TrAll b G H fp (us.map (·.2)) ts → p ∉ fp → dx ∉ fp → dx ≠ p → Tr b G H (p :: dx :: fp) (.ref p) (.ins C ks ts)
  | dic {p : Addr} {fp : List Addr} {us : List (Key × V)} {ks : List Key} {ts : List T} : H p = some (.dK us) → G p = none → b ≠ some p → us.map (·.1) = ks → TrAll b G H fp (us.map (·.2)) ts → p ∉ fp → Tr b G H (p :: fp) (.ref p) (.dic ks ts)
  | diT {p : Addr} {fp : List Addr} {us : List (List Key × V)} {ks : List (List Key)} {ts : List T} : H p = some (.dT us) → G p = none → b ≠ some p → us.map (·.1) = ks → TrAll b G H fp (us.map (·.2)) ts → p ∉ fp → Tr b G H (p :: fp) (.ref p) (.diT ks ts)
  | sto {fp : List Addr} {m : Addr → Option T} {fps : Addr → List Addr} : (∀ p t, m p = some t → p ∈ fps p) → (∀ p t, m p = some t → Tr b G H (fps p) (.ref p) t) → (∀ p t a, m p = some t → a ∈ fps p → a ∈ fp) → (∀ p q t u a, p ≠ q → m p = some t → m q = some u → a ∈ fps p → a ∉ fps q) → (∀ a, a ∈ fp → ∃ p t, m p = some t ∧ a ∈ fps p) → Tr b G H fp .non (.sto m)
  | fro {m : Addr → Option PyData} : (∀ p d, m p = some d → Rp b G (.ref p) d) → Tr b G H [] .non (.fro m)
  | eff {fs fv : List Addr} {m : Addr → Option T} {v : V} {t : T} : Tr b G H fs .non (.sto m) → Tr b G H fv v t → (∀ a, a ∈ fs → a ∉ fv) → Tr b G H (fs ++ fv) v (.eff m t)
inductive TrAll (b : Option Addr) (G H : Hp) : List Addr → List V → List T → Prop
  | nil : TrAll b G H [] [] []
  | cons {fp fq : List Addr} {v : V} {vs : List V} {t : T} {ts : List T} : Tr b G H fp v t → TrAll b G H fq vs ts → (∀ a, a ∈ fp → a ∉ fq) → TrAll b G H (fp ++ fq) (v :: vs) (t :: ts)
end
mutual
theorem Tr.mem {b : Option Addr} {G H : Hp} : ∀ {fp : List Addr} {v : V} {t : T}, Tr b G H fp v t → ∀ a, a ∈ fp → G a = none ∧ b ≠ some a ∧ ∃ o, H a = some o
  | _, _, _, .leaf _, a, h => nomatch h
  | _, _, _, .node (fp := fp) hp gp bp r n, a, h => (List.mem_cons.mp h).elim (fun e => by subst e; exact ⟨gp, bp, _, hp⟩) fun h => TrAll.mem r a h
  | _, _, _, .own h, a, m => Tr.mem h a m
  | _, _, _, .ins hp hx gp gx bp bx _ r _ _ _, a, h => (List.mem_cons.mp h).elim (fun e => by subst e; exact ⟨gp, bp, _, hp⟩) fun h => (List.mem_cons.mp h).elim (fun e => by subst e; exact ⟨gx, bx, _, hx⟩) fun h => TrAll.mem r a h
  | _, _, _, .dic hp gp bp _ r n, a, h => (List.mem_cons.mp h).elim (fun e => by subst e; exact ⟨gp, bp, _, hp⟩) fun h => TrAll.mem r a h
  | _, _, _, .diT hp gp bp _ r n, a, h => (List.mem_cons.mp h).elim (fun e => by subst e; exact ⟨gp, bp, _, hp⟩) fun h => TrAll.mem r a h
  | _, _, _, .sto _ h1 _ _ h4, a, m => by
    obtain ⟨p, t, e, ha⟩ := h4 a m
    exact Tr.mem (h1 p t e) a ha
  | _, _, _, .fro _, a, h => nomatch h
  | _, _, _, .eff s r _, a, h => (List.mem_append.mp h).elim (fun h => Tr.mem s a h) fun h => Tr.mem r a h
theorem TrAll.mem {b : Option Addr} {G H : Hp} : ∀ {fp : List Addr} {vs : List V} {ts : List T}, TrAll b G H fp vs ts → ∀ a, a ∈ fp → G a = none ∧ b ≠ some a ∧ ∃ o, H a = some o
  | _, _, _, .nil, a, h => nomatch h
  | _, _, _, .cons q r d, a, h => (List.mem_append.mp h).elim (fun h => Tr.mem q a h) fun h => TrAll.mem r a h
end
mutual
theorem Tr.move {b : Option Addr} {G H G' H' : Hp} (e : Ex G G') : ∀ {fp : List Addr} {v : V} {t : T}, Tr b G H fp v t → (∀ a, a ∈ fp → G' a = none ∧ H' a = H a) → Tr b G' H' fp v t
  | _, _, _, .leaf h, _ => .leaf (h.mono e)
  | _, _, _, .node hp gp bp r n, k => .node (by rw [(k _ (List.mem_cons_self ..)).2]; exact hp) (k _ (List.mem_cons_self ..)).1 bp (TrAll.move e r fun a h => k a (List.mem_cons_of_mem _ h)) n
  | _, _, _, .own h, k => .own (Tr.move e h k)
  | _, _, _, .ins hp hx gp gx bp bx ks r n n2 ne, k => .ins (by rw [(k _ (List.mem_cons_self ..)).2]; exact hp) (by rw [(k _ (List.mem_cons_of_mem _ (List.mem_cons_self ..))).2]; exact hx) (k _ (List.mem_cons_self ..)).1 (k _ (List.mem_cons_of_mem _ (List.mem_cons_self ..))).1 bp bx ks (TrAll.move e r fun a h => k a (List.mem_cons_of_mem _ (List.mem_cons_of_mem _ h))) n n2 ne
  | _, _, _, .dic hp gp bp ks r n, k => .dic (by rw [(k _ (List.mem_cons_self ..)).2]; exact hp) (k _ (List.mem_cons_self ..)).1 bp ks (TrAll.move e r fun a h => k a (List.mem_cons_of_mem _ h)) n
  | _, _, _, .diT hp gp bp ks r n, k => .diT (by rw [(k _ (List.mem_cons_self ..)).2]; exact hp) (k _ (List.mem_cons_self ..)).1 bp ks (TrAll.move e r fun a h => k a (List.mem_cons_of_mem _ h)) n
  | _, _, _, .sto h0 h1 h2 h3 h4, k => .sto h0 (fun p t q => Tr.move e (h1 p t q) fun a h => k a (h2 p t a q h)) h2 h3 h4
  | _, _, _, .fro h, k => .fro fun p d q => (h p d q).mono e
  | _, _, _, .eff s r d, k => .eff (Tr.move e s fun a h => k a (List.mem_append_left _ h)) (Tr.move e r fun a h => k a (List.mem_append_right _ h)) d
theorem TrAll.move {b : Option Addr} {G H G' H' : Hp} (e : Ex G G') : ∀ {fp : List Addr} {vs : List V} {ts : List T}, TrAll b G H fp vs ts → (∀ a, a ∈ fp → G' a = none ∧ H' a = H a) → TrAll b G' H' fp vs ts
  | _, _, _, .nil, _ => .nil
  | _, _, _, .cons q r d, k => .cons (Tr.move e q fun a h => k a (List.mem_append_left _ h)) (TrAll.move e r fun a h => k a (List.mem_append_right _ h)) d
end
theorem TrAll.len {b : Option Addr} {G H : Hp} : ∀ {fp : List Addr} {vs : List V} {ts : List T}, TrAll b G H fp vs ts → vs.length = ts.length
  | _, _, _, .nil => rfl
  | _, _, _, .cons _ r _ => by simp [TrAll.len r]
theorem dats_len (ts : List T) : (T.dats ts).length = ts.length := by rw [dats_eq, List.length_map]
theorem zip_fst {α β : Type} : ∀ {ks : List α} {ds : List β}, ks.length = ds.length → (ks.zip ds).map (·.1) = ks
  | [], [], _ => rfl
  | _ :: _, _ :: _, h => by simp [zip_fst (ks := _) (ds := _) (by simpa using h)]
theorem zip_snd {α β : Type} : ∀ {ks : List α} {ds : List β}, ks.length = ds.length → (ks.zip ds).map (·.2) = ds
  | [], [], _ => rfl
  | _ :: _, _ :: _, h => by simp [zip_snd (ks := _) (ds := _) (by simpa using h)]
theorem TrAll.keys {b : Option Addr} {G H : Hp} {α : Type} {fp : List Addr} {us : List (α × V)} {ks : List α} {ts : List T} (hk : us.map (·.1) = ks) (r : TrAll b G H fp (us.map (·.2)) ts) : ks.length = (T.dats ts).length := by
  have := r.len
  rw [dats_len, ← this, ← hk, List.length_map, List.length_map]
mutual
theorem Tr.settle {b : Option Addr} {G H G' : Hp} (e : Ex G G') : ∀ {fp : List Addr} {v : V} {t : T}, Tr b G H fp v t → (∀ a, a ∈ fp → G' a = H a) → Rp b G' v t.dat
  | _, _, _, .leaf h, _ => h.mono e
  | _, _, _, .node hp gp bp r n, k => .lst (by rw [k _ (List.mem_cons_self ..)]; exact hp) (TrAll.settle e r fun a h => k a (List.mem_cons_of_mem _ h))
  | _, _, .own _ t, .own h, k => show Rp b G' _ (T.dat t) from Tr.settle e h k
  | _, _, .ins C ks ts, .ins hp hx gp gx bp bx hk r n n2 ne, k => show Rp b G' _ (insD C (ks.zip (T.dats ts))) from
    .ins (by rw [k _ (List.mem_cons_self ..)]; exact hp) (by rw [k _ (List.mem_cons_of_mem _ (List.mem_cons_self ..))]; exact hx) (by rw [zip_fst (r.keys hk)]; exact hk) (by rw [zip_snd (r.keys hk)]; exact TrAll.settle e r fun a h => k a (List.mem_cons_of_mem _ (List.mem_cons_of_mem _ h)))
  | _, _, .dic ks ts, .dic hp gp bp hk r n, k => show Rp b G' _ (dicD (ks.zip (T.dats ts))) from
    .dic (.inl (by rw [k _ (List.mem_cons_self ..)]; exact hp)) (by rw [zip_fst (r.keys hk)]; exact hk) (by rw [zip_snd (r.keys hk)]; exact TrAll.settle e r fun a h => k a (List.mem_cons_of_mem _ h))
  | _, _, .diT ks ts, .diT hp gp bp hk r n, k => show Rp b G' _ (diTD (ks.zip (T.dats ts))) from
    .diT (.inl (by rw [k _ (List.mem_cons_self ..)]; exact hp)) (by rw [zip_fst (r.keys hk)]; exact hk) (by rw [zip_snd (r.keys hk)]; exact TrAll.settle e r fun a h => k a (List.mem_cons_of_mem _ h))
  | _, _, .sto _, .sto _ _ _ _ _, _ => show Rp b G' _ .none from .non
  | _, _, .fro _, .fro _, _ => show Rp b G' _ .none from .non
  | _, _, .eff _ t, .eff s r d, k => show Rp b G' _ (T.dat t) from Tr.settle e r fun a h => k a (List.mem_append_right _ h)
theorem TrAll.settle {b : Option Addr} {G H G' : Hp} (e : Ex G G') : ∀ {fp : List Addr} {vs : List V} {ts : List T}, TrAll b G H fp vs ts → (∀ a, a ∈ fp → G' a = H a) → RpAll b G' vs (T.dats ts)
  | _, _, _, .nil, _ => .nil
  | _, _, _, .cons q r d, k => .cons (Tr.settle e q fun a h => k a (List.mem_append_left _ h)) (TrAll.settle e r fun a h => k a (List.mem_append_right _ h))
end
theorem TrAll.leaves {b : Option Addr} {G H : Hp} : ∀ {vs : List V} {ds : List PyData}, RpAll b G vs ds → TrAll b G H [] vs (ds.map T.leaf)
  | _, _, .nil => .nil
  | _, _, .cons h r => TrAll.cons (fp := []) (fq := []) (.leaf h) (TrAll.leaves r) fun _ z => nomatch z
theorem TrAll.snoc {b : Option Addr} {G H : Hp} {fq : List Addr} {v : V} {t : T} : ∀ {fp : List Addr} {vs : List V} {ts : List T}, TrAll b G H fp vs ts → Tr b G H fq v t → (∀ a, a ∈ fp → a ∉ fq) → ∃ fr, TrAll b G H fr (vs ++ [v]) (ts ++ [t]) ∧ ∀ a, a ∈ fr → a ∈ fp ∨ a ∈ fq
  | _, _, _, .nil, h, _ => ⟨fq ++ [], .cons h .nil (fun _ _ z => nomatch z), fun a z => .inr (by simpa using z)⟩
  | _, _, _, .cons (fp := f1) (fq := f2) q r d, h, k => by
    obtain ⟨fr, h1, h2⟩ := TrAll.snoc r h fun a z => k a (List.mem_append_right _ z)
    refine ⟨f1 ++ fr, .cons q h1 fun a z y => ?_, fun a z => ?_⟩
    · rcases h2 a y with y | y
      · exact d a z y
      · exact k a (List.mem_append_left _ z) y
    · rcases List.mem_append.mp z with z | z
      · exact .inl (List.mem_append_left _ z)
      · rcases h2 a z with y | y
        · exact .inl (List.mem_append_right _ y)
        · exact .inr y
theorem TrAll.setLeaf {b : Option Addr} {G H : Hp} {v : V} {d : PyData} (h : Rp b G v d) : ∀ {fp : List Addr} {vs : List V} {ts : List T} (i : Nat), TrAll b G H fp vs ts → ∃ fr, TrAll b G H fr (vs.set i v) (ts.set i (.leaf d)) ∧ ∀ a, a ∈ fr → a ∈ fp
  | _, _, _, _, .nil => ⟨[], .nil, fun _ z => z⟩
  | _, _, _, 0, .cons (fp := f1) (fq := f2) q r k => ⟨[] ++ f2, .cons (.leaf h) r (fun _ z => nomatch z), fun a z => List.mem_append_right _ (by simpa using z)⟩
  | _, _, _, i + 1, .cons (fp := f1) (fq := f2) q r k => by
    obtain ⟨fr, h1, h2⟩ := TrAll.setLeaf h i r
    exact ⟨f1 ++ fr, .cons q h1 fun a z y => k a z (h2 a y), fun a z => (List.mem_append.mp z).elim (fun z => List.mem_append_left _ z) fun z => List.mem_append_right _ (h2 a z)⟩

/-- settled -/
def addF (G H : Hp) (fp : List Addr) : Hp := fun a => if a ∈ fp then H a else G a
section
variable {K : PySem.W.Frag} {b : Option Addr} {G H G' H' : Hp} {fp : List Addr}
theorem addF_in {a : Addr} (h : a ∈ fp) : addF G H fp a = H a := if_pos h
theorem addF_out {a : Addr} (h : a ∉ fp) : addF G H fp a = G a := if_neg h
theorem addF_ex (k : ∀ a, a ∈ fp → G a = none) : Ex G (addF G H fp) := fun a o e => by
  by_cases h : a ∈ fp
  · rw [k a h] at e
    cases e
  · rw [addF_out h]
    exact e
theorem addF_good (g : Good K b G H) (k : ∀ a, a ∈ fp → G a = none ∧ b ≠ some a) : Good K b (addF G H fp) H := by
  refine ⟨fun a o e => ?_, fun a c => ?_⟩
  · by_cases h : a ∈ fp
    · rw [addF_in h] at e
      exact e
    · rw [addF_out h] at e
      exact g.ex a o e
  · obtain ⟨n, cc, cells, pos, rest, seed, h1, h2, h3⟩ := g.box a c
    have na : a ∉ fp := fun h => (k a h).2 c
    exact ⟨by rw [addF_out na]; exact n, cc, cells, pos, rest, seed, h1, addF_ex (fun a h => (k a h).1) _ _ h2, h3⟩
end
end Dd
namespace Dd
open PySem L2
/-! ### slots -/
abbrev Rho := List (Option T)
structure Env (b : Option Addr) (B G H : Hp) (σ : L2.St) (ρ : Rho) : Prop where
  len : σ.length = ρ.length
  ex : ∃ fps : Nat → List Addr, (∀ (i : Nat) t, ρ[i]? = some (some t) → ∃ v, σ[i]? = some (some v) ∧ Tr b G H (fps i) v t) ∧
    (∀ i a, a ∈ fps i → B a = none ∧ G a = none ∧ b ≠ some a ∧ ∃ o, H a = some o) ∧ ∀ i j a, i ≠ j → a ∈ fps i → a ∉ fps j
section
variable {K : PySem.W.Frag} {b : Option Addr} {B G H G' H' : Hp} {σ : L2.St} {ρ : Rho}
theorem Env.stp (E : Env b B G H σ ρ) (h : Stp K b G H G' H') : Env b B G' H' σ ρ := by
  obtain ⟨hl, fps, h1, h2, h3⟩ := E
  have kk : ∀ i a, a ∈ fps i → G' a = none ∧ H' a = H a := fun i a m => by
    obtain ⟨_, g, c, o, e⟩ := h2 i a m
    exact ⟨h.out a o g e, by rw [e]; exact h.keep a o c e⟩
  refine ⟨hl, fps, fun i t e => ?_, fun i a m => ?_, h3⟩
  · obtain ⟨v, e1, tr⟩ := h1 i t e
    exact ⟨v, e1, tr.move h.ex fun a m => kk i a m⟩
  · obtain ⟨z, g, c, o, e⟩ := h2 i a m
    exact ⟨z, (kk i a m).1, c, o, by rw [(kk i a m).2]; exact e⟩

/-- a new tree at a slot: its addresses were free in Hb, where all trees of the slots stood -/
theorem Env.put {Hb : Hp} {fp : List Addr} {v : V} {t : T} (E : Env b B G Hb σ ρ) (k : ∀ a o, b ≠ some a → Hb a = some o → H a = some o) (i : Nat) (tr : Tr b G H fp v t) (fr : ∀ a, a ∈ fp → Hb a = none) (sub : ∀ a, Hb a = none → B a = none) : Env b B G H (σ.set i (some v)) (ρ.set i (some t)) := by
  obtain ⟨hl, fps, h1, h2, h3⟩ := E
  refine ⟨by rw [List.length_set, List.length_set]; exact hl, fun j => if j = i then fp else fps j, fun j u e => ?_, fun j a m => ?_, fun j j' a n m => ?_⟩
  · by_cases c : j = i
    · subst c
      have hi : j < ρ.length := by
        have := (List.getElem?_eq_some_iff.mp e).1
        rw [List.length_set] at this
        exact this
      rw [List.getElem?_set_self hi] at e
      cases e
      exact ⟨v, by rw [List.getElem?_set_self (by rw [hl]; exact hi)], by simp only [if_pos]; exact tr⟩
    · rw [List.getElem?_set_ne (Ne.symm c)] at e ⊢
      obtain ⟨w, e1, q⟩ := h1 j u e
      refine ⟨w, e1, ?_⟩
      simp only [if_neg c]
      exact q.move (Ex.rfl' _) fun a m => by
        obtain ⟨_, g, cc, o, e⟩ := h2 j a m
        exact ⟨g, by rw [e]; exact k a o cc e⟩
  · by_cases c : j = i
    · simp only [if_pos c] at m
      obtain ⟨g, cc, o⟩ := tr.mem a m
      exact ⟨sub a (fr a m), g, cc, o⟩
    · simp only [if_neg c] at m
      obtain ⟨z, g, cc, o, e⟩ := h2 j a m
      exact ⟨z, g, cc, o, k a o cc e⟩
  · by_cases c : j = i
    · simp only [if_pos c] at m
      have c' : j' ≠ i := fun q => n (c.trans q.symm)
      simp only [if_neg c']
      intro q
      obtain ⟨_, _, _, o, e⟩ := h2 j' a q
      rw [fr a m] at e
      cases e
    · simp only [if_neg c] at m
      by_cases c' : j' = i
      · simp only [if_pos c']
        intro q
        obtain ⟨_, _, _, o, e⟩ := h2 j a m
        rw [fr a q] at e
        cases e
      · simp only [if_neg c']
        exact h3 j j' a n m
theorem Env.leaf {v : V} {d : PyData} (E : Env b B G H σ ρ) (i : Nat) (r : Rp b G v d) : Env b B G H (σ.set i (some v)) (ρ.set i (some (.leaf d))) := by
  obtain ⟨hl, fps, h1, h2, h3⟩ := E
  refine ⟨by rw [List.length_set, List.length_set]; exact hl, fun j => if j = i then [] else fps j, fun j u e => ?_, fun j a m => ?_, fun j j' a n m => ?_⟩
  · by_cases c : j = i
    · subst c
      have hi : j < ρ.length := by
        have := (List.getElem?_eq_some_iff.mp e).1
        rw [List.length_set] at this
        exact this
      rw [List.getElem?_set_self hi] at e
      cases e
      exact ⟨v, by rw [List.getElem?_set_self (by rw [hl]; exact hi)], by simp only [if_pos]; exact .leaf r⟩
    · rw [List.getElem?_set_ne (Ne.symm c)] at e ⊢
      obtain ⟨w, e1, q⟩ := h1 j u e
      exact ⟨w, e1, by simp only [if_neg c]; exact q⟩
  · by_cases c : j = i
    · simp only [if_pos c] at m
      cases m
    · simp only [if_neg c] at m
      exact h2 j a m
  · by_cases c : j = i
    · simp only [if_pos c] at m
      cases m
    · simp only [if_neg c] at m
      by_cases c' : j' = i
      · simp only [if_pos c']
        exact fun q => nomatch q
      · simp only [if_neg c']
        exact h3 j j' a n m
/-- a slot's tree, taken out of its slot: settled -/
theorem Env.settle {i : Nat} {t : T} (E : Env b B G H σ ρ) (g : Good K b G H) (e : ρ[i]? = some (some t)) : ∃ fp v, σ[i]? = some (some v) ∧ Tr b G H fp v t ∧ (∀ a, a ∈ fp → B a = none) ∧ Rp b (addF G H fp) v t.dat ∧ Good K b (addF G H fp) H ∧ Ex G (addF G H fp) ∧ Env b B (addF G H fp) H σ (ρ.set i (some (.leaf t.dat))) := by
  obtain ⟨hl, fps, h1, h2, h3⟩ := E
  obtain ⟨v, e1, tr⟩ := h1 i t e
  have ex : Ex G (addF G H (fps i)) := addF_ex fun a m => (h2 i a m).2.1
  have rp : Rp b (addF G H (fps i)) v t.dat := tr.settle ex fun a m => addF_in m
  refine ⟨fps i, v, e1, tr, fun a m => (h2 i a m).1, rp, addF_good g (fun a m => ⟨(h2 i a m).2.1, (h2 i a m).2.2.1⟩), ex, ?_⟩
  refine ⟨by rw [List.length_set]; exact hl, fun j => if j = i then [] else fps j, fun j u q => ?_, fun j a m => ?_, fun j j' a n m => ?_⟩
  · by_cases c : j = i
    · subst c
      have hi : j < ρ.length := (List.getElem?_eq_some_iff.mp e).1
      rw [List.getElem?_set_self hi] at q
      cases q
      exact ⟨v, e1, by simp only [if_pos]; exact .leaf rp⟩
    · rw [List.getElem?_set_ne (Ne.symm c)] at q
      obtain ⟨w, e2, tr2⟩ := h1 j u q
      refine ⟨w, e2, ?_⟩
      simp only [if_neg c]
      exact tr2.move ex fun a m => ⟨by rw [addF_out (h3 j i a c m)]; exact (h2 j a m).2.1, rfl⟩
  · by_cases c : j = i
    · simp only [if_pos c] at m
      cases m
    · simp only [if_neg c] at m
      obtain ⟨z, g', cc, o⟩ := h2 j a m
      exact ⟨z, by rw [addF_out (h3 j i a c m)]; exact g', cc, o⟩
  · by_cases c : j = i
    · simp only [if_pos c] at m
      cases m
    · simp only [if_neg c] at m
      by_cases c' : j' = i
      · simp only [if_pos c']
        exact fun q => nomatch q
      · simp only [if_neg c']
        exact h3 j j' a n m
end

/-! ### readings of data -/
/-- what is told of an exception: its class's name, what it bears -/
abbrev XP := Str → PyData → Prop
abbrev WE := XP → Rho → (T → Prop) → Prop
abbrev WA := XP → Rho → (List PyData → Prop) → Prop
abbrev WT := XP → Rho → (Bool → Prop) → Prop
structure Ctl where
  nx : Rho → Prop
  rt : T → Prop
  bk : Rho → Prop := fun _ => False
  ct : Rho → Prop := fun _ => False
  xc : Rho → XP := fun _ _ _ => False
abbrev WS := Ctl → Rho → Prop
abbrev SX := L2.St → XK

/-- where an expression stands -/
structure Here (K : PySem.W.Frag) (b : Option Addr) (B G H : Hp) (σ : L2.St) (ρ : Rho) : Prop where
  good : Good K b G H
  env : Env b B G H σ ρ
  sub : ∀ a, H a = none → B a = none
/-- what an exception comes to -/
def XC (K : PySem.W.Frag) (mg : Str → Option Value) (E : XK) (b : Option Addr) (G H : Hp) (xp : XP) : Prop :=
  ∀ (n : Str) (pl : PyData) (C d : Addr) (G' H' : Hp), xp n pl → mg n = some (.ref C) → G' d = some (.xd (exF n pl)) → Stp K b G H G' H' → E (.ref C) (some d) H'
structure Site (K : PySem.W.Frag) (mg : Str → Option Value) (E : XK) (b : Option Addr) (B G H : Hp) (σ : L2.St) (ρ : Rho) (xp : XP) : Prop extends Here K b B G H σ ρ where
  xc : XC K mg E b G H xp
def Ktn (K : PySem.W.Frag) (b : Option Addr) (G H : Hp) (P : T → Prop) (Q : VK) : Prop := ∀ (G' H' : Hp) (v : V) (t : T) (fp : List Addr), P t → Stp K b G H G' H' → Tr b G' H' fp v t → (∀ a, a ∈ fp → H a = none) → Q v H'
def tOf (K : PySem.W.Frag) (mg : Str → Option Value) (E : SX) (w : WE) : TE := fun σ H Q => ∃ (b : Option Addr) (B G : Hp) (ρ : Rho) (xp : XP) (P : T → Prop), w xp ρ P ∧ Site K mg (E σ) b B G H σ ρ xp ∧ Ktn K b G H P Q
def aOf (K : PySem.W.Frag) (mg : Str → Option Value) (E : SX) (w : WA) : TA := fun σ H Q => ∃ (b : Option Addr) (B G : Hp) (ρ : Rho) (xp : XP) (P : List PyData → Prop), w xp ρ P ∧ Site K mg (E σ) b B G H σ ρ xp ∧ ∀ (G' H' : Hp) (vs : List V) (ds : List PyData), P ds → Stp K b G H G' H' → RpAll b G' vs ds → Q vs H'
def ttOf (K : PySem.W.Frag) (mg : Str → Option Value) (E : SX) (w : WT) : TT := fun σ H Q => ∃ (b : Option Addr) (B G : Hp) (ρ : Rho) (xp : XP) (P : Bool → Prop), w xp ρ P ∧ Site K mg (E σ) b B G H σ ρ xp ∧ ∀ (G' H' : Hp) (k : Bool), P k → Stp K b G H G' H' → Q k H'
/-- settled values -/
def tOfD (K : PySem.W.Frag) (mg : Str → Option Value) (E : SX) (w : WE) : TE := fun σ H Q => ∃ (b : Option Addr) (B G : Hp) (ρ : Rho) (xp : XP) (P : PyData → Prop), w xp ρ (fun t => P t.dat) ∧ Site K mg (E σ) b B G H σ ρ xp ∧
  ∀ (G' H' : Hp) (v : V) (d : PyData), P d → Stp K b G H G' H' → Site K mg (E σ) b B G' H' σ ρ xp → Rp b G' v d → Q v H'
section
variable {K : PySem.W.Frag} {mg : Str → Option Value} {E : SX} {b : Option Addr} {B G H G' H' : Hp} {σ : L2.St} {ρ : Rho} {xp : XP}
theorem Here.stp (h : Here K b B G H σ ρ) (s : Stp K b G H G' H') : Here K b B G' H' σ ρ := ⟨s.good, h.env.stp s, fun a e => h.sub a (s.free h.good e)⟩
theorem XC.stp {E : XK} (h : XC K mg E b G H xp) (g : Good K b G H) (s : Stp K b G H G' H') : XC K mg E b G' H' xp := fun n pl C d G2 H2 x m e s2 => h n pl C d G2 H2 x m e (s.trans g s2)
theorem Site.stp {E : XK} (h : Site K mg E b B G H σ ρ xp) (s : Stp K b G H G' H') : Site K mg E b B G' H' σ ρ xp := ⟨h.toHere.stp s, h.xc.stp h.good s⟩
/-- a result settles -/
theorem Stp.settle {fp : List Addr} {v : V} {t : T} (g : Good K b G H) (s : Stp K b G H G' H') (tr : Tr b G' H' fp v t) (fr : ∀ a, a ∈ fp → H a = none) : Stp K b G H (addF G' H' fp) H' ∧ Rp b (addF G' H' fp) v t.dat := by
  have m := tr.mem
  have ex : Ex G' (addF G' H' fp) := addF_ex fun a z => (m a z).1
  refine ⟨⟨s.ex.trans ex, addF_good s.good fun a z => ⟨(m a z).1, (m a z).2.1⟩, s.keep, fun a o n e => ?_, s.cel⟩, tr.settle ex fun a z => addF_in z⟩
  have na : a ∉ fp := fun z => by
    rw [fr a z] at e
    cases e
  rw [addF_out na]
  exact s.out a o n e
theorem tOfD_of {w : WE} {Q : VK} (h : tOfD K mg E w σ H Q) : tOf K mg E w σ H Q := by
  obtain ⟨b, B, G, ρ, xp, P, hw, hr, k⟩ := h
  refine ⟨b, B, G, ρ, xp, _, hw, hr, fun G' H' v t fp hP s tr fr => ?_⟩
  obtain ⟨s', rp⟩ := s.settle hr.good tr fr
  exact k _ _ _ _ hP s' (hr.stp s') rp
theorem Ktn.leaf {P : T → Prop} {Q : VK} (k : Ktn K b G H P Q) (g : Good K b G H) {v : V} {d : PyData} (p : P (.leaf d)) (r : Rp b G v d) : Q v H := k G H v _ [] p g.stp (.leaf r) fun _ z => nomatch z
theorem Ktn.stp {P : T → Prop} {Q : VK} (k : Ktn K b G H P Q) (g : Good K b G H) (s : Stp K b G H G' H') : Ktn K b G' H' P Q := fun G2 H2 v t fp hp s2 tr fr => k G2 H2 v t fp hp (s.trans g s2) tr fun a m => s.free g (fr a m)
end
/-! ### all slots settled for a while -/
def T.frz : T → T
  | .sto m => .fro fun p => (m p).map T.dat
  | .fro m => .fro m
  | .leaf d => .leaf d
  | .node ts => .leaf (T.node ts).dat
  | .own _ t => .leaf t.dat
  | .ins C ks ts => .leaf (T.ins C ks ts).dat
  | .dic ks ts => .leaf (T.dic ks ts).dat
  | .diT ks ts => .leaf (T.diT ks ts).dat
  | .eff _ t => .leaf t.dat
theorem frz_tr {b : Option Addr} {G H G' H' : Hp} (e : Ex G G') {fp : List Addr} {v : V} {t : T} (tr : Tr b G H fp v t) (k : ∀ a, a ∈ fp → G' a = H a) : Tr b G' H' [] v t.frz := by
  have r := tr.settle e k
  cases tr with
  | @sto _ m fps h0 h1 h2 h3 h4 =>
    refine .fro fun p d q => ?_
    cases em : m p with
    | none =>
      rw [em] at q
      cases q
    | some t =>
      rw [em] at q
      cases q
      exact (h1 p t em).settle e fun a m => k a (h2 p t a em m)
  | fro h => exact .fro fun p d q => (h p d q).mono e
  | _ => exact .leaf r
theorem frz_rp {b : Option Addr} {G H : Hp} {fp : List Addr} {v : V} {t : T} (h : Tr b G H fp v t.frz) : Rp b G v t.dat := by
  cases t <;> cases h <;> first | assumption | exact .non
def frzR (ρ : Rho) : Rho := ρ.map (Option.map T.frz)
open Classical in
noncomputable def addA (G H : Hp) (fps : Nat → List Addr) : Hp := fun a => if ∃ i, a ∈ fps i then H a else G a
theorem addA_in {G H : Hp} {fps : Nat → List Addr} {a : Addr} (h : ∃ i, a ∈ fps i) : addA G H fps a = H a := if_pos h
theorem addA_out {G H : Hp} {fps : Nat → List Addr} {a : Addr} (h : ¬ ∃ i, a ∈ fps i) : addA G H fps a = G a := if_neg h
theorem Here.borrow {K : PySem.W.Frag} {b : Option Addr} {B G H : Hp} {σ : L2.St} {ρ : Rho} (h : Here K b B G H σ ρ) : ∃ G1, Ex G G1 ∧ Here K b B G1 H σ (frzR ρ) := by
  obtain ⟨hl, fps, h1, h2, h3⟩ := h.env
  have ex : Ex G (addA G H fps) := fun a o e => by
    by_cases c : ∃ i, a ∈ fps i
    · obtain ⟨i, m⟩ := c
      rw [(h2 i a m).2.1] at e
      cases e
    · rw [addA_out c]
      exact e
  refine ⟨addA G H fps, ex, ⟨fun a o e => ?_, fun a c => ?_⟩, ⟨by unfold frzR; rw [List.length_map]; exact hl, fun _ => [], fun i t e => ?_, (fun i a m => by cases m), fun i j a n m => by cases m⟩, h.sub⟩
  · by_cases c : ∃ i, a ∈ fps i
    · rw [addA_in c] at e
      exact e
    · rw [addA_out c] at e
      exact h.good.ex a o e
  · obtain ⟨n, cc, cells, pos, rest, seed, q1, q2, q3⟩ := h.good.box a c
    have na : ¬ ∃ i, a ∈ fps i := fun ⟨i, m⟩ => (h2 i a m).2.2.1 c
    exact ⟨by rw [addA_out na]; exact n, cc, cells, pos, rest, seed, q1, ex _ _ q2, q3⟩
  · unfold frzR at e
    rw [List.getElem?_map] at e
    cases q : ρ[i]? with
    | none =>
      rw [q] at e
      cases e
    | some u =>
      rw [q] at e
      cases u with
      | none => cases e
      | some u =>
        cases e
        obtain ⟨v, ev, tr⟩ := h1 i u q
        exact ⟨v, ev, frz_tr ex tr fun a m => addA_in ⟨i, m⟩⟩
/-- back out of it: nothing but the heap has grown -/
theorem Stp.back {K : PySem.W.Frag} {b : Option Addr} {G G1 G2 H H2 : Hp} (g : Good K b G H) (ex : Ex G G1) (s : Stp K b G1 H G2 H2) : Stp K b G H G H2 := by
  refine ⟨Ex.rfl' _, ⟨fun a o e => s.good.ex a o (s.ex a o (ex a o e)), fun a c => ?_⟩, s.keep, fun a o n _ => n, s.cel⟩
  obtain ⟨n, cc, cells, pos, rest, seed, q1, q2, q3⟩ := g.box a c
  obtain ⟨n', cc', cells', pos', rest', seed', q1', q2', _, q3'⟩ := s.good.box a c
  have e := s.cel a c
  unfold boxc at e
  rw [q1, q1'] at e
  have e' : cc' = cc := by simpa using e
  subst e'
  exact ⟨n, cc', cells, pos', rest', seed', q1', q2, q3.1, q3'⟩
end Dd
namespace Dd
open PySem L2
section
variable {X : Cx} {E : SX} {e e2 : Expr} {es : List Expr} {w wa wb : WE} {pos : Pos}
theorem PE.of {t : TE} (h : PE X e t) (k : ∀ σ H Q, tOf X.K X.mg E w σ H Q → t σ H Q) : PE X e (tOf X.K X.mg E w) := ⟨fun pins s σ H Q I q => h.run pins s σ H Q I (k σ H Q q)⟩
theorem PT.of {t : TT} {w : WT} (h : PT X e t) (k : ∀ σ H Q, ttOf X.K X.mg E w σ H Q → t σ H Q) : PT X e (ttOf X.K X.mg E w) := ⟨fun pins s σ H Q I q => h.run pins s σ H Q I (k σ H Q q)⟩
theorem PW.of {t : TT} {w : WT} (h : PW X e t) (k : ∀ σ H Q, ttOf X.K X.mg E w σ H Q → t σ H Q) : PW X e (ttOf X.K X.mg E w) := ⟨fun wh pins s σ H Q I q => h.run wh pins s σ H Q I (k σ H Q q)⟩
theorem PA.of {t : TA} {w : WA} (h : PA X es t) (k : ∀ σ H Q, aOf X.K X.mg E w σ H Q → t σ H Q) : PA X es (aOf X.K X.mg E w) := ⟨fun ps pins s σ H Q I q => h.run ps pins s σ H Q I (k σ H Q q)⟩

/-! ### names, constants, settling -/
def dVar (i : Nat) : WE := fun x ρ P => ∃ d, ρ[i]? = some (some (.leaf d)) ∧ P (.leaf d)
def dC (d : PyData) : WE := fun _ _ P => P (.leaf d)
def dFr (w : WE) : WE := fun x ρ P => w x ρ fun t => P (.leaf t.dat)
theorem d_var (i : Nat) {x : Str} (hN : X.N[i]? = some x := by rfl) (hv : Vis X.env.scope x := by first | exact Or.inl rfl | exact Or.inr (Or.inl rfl) | exact Or.inr (Or.inr rfl)) (hd : (x == ("__debug__" : Str)) = false := by decide) (hcd : (x == ("__classdict__" : Str)) = false := by decide) :
    PE X (.Name x pos) (tOf X.K X.mg E (dVar i)) := PE.of (pe_var hN hv hd hcd) fun σ H Q h => by
  obtain ⟨b, B, G, ρ, xp, P, ⟨d, e, p⟩, hr, k⟩ := h
  obtain ⟨fps, h1, h2, h3⟩ := hr.env.ex
  obtain ⟨v, ev, tr⟩ := h1 i _ e
  refine ⟨v, ev, ?_⟩
  generalize fps i = fp at tr
  cases tr with
  | leaf r => exact k.leaf hr.good p r
theorem d_int {i j} : PE X (.Constant (.int i) j pos) (tOf X.K X.mg E (dC (.int i))) := PE.of pe_int fun σ H Q ⟨b, B, G, ρ, xp, P, p, hr, k⟩ => k.leaf hr.good p (.int i)
theorem d_bl {i j} : PE X (.Constant (.bool i) j pos) (tOf X.K X.mg E (dC (.bool i))) := PE.of pe_bl fun σ H Q ⟨b, B, G, ρ, xp, P, p, hr, k⟩ => k.leaf hr.good p (.bl i)
theorem d_non {j} : PE X (.Constant .none j pos) (tOf X.K X.mg E (dC .none)) := PE.of pe_non fun σ H Q ⟨b, B, G, ρ, xp, P, p, hr, k⟩ => k.leaf hr.good p .non
theorem d_str {i j} : PE X (.Constant (.str i) j pos) (tOf X.K X.mg E (dC (.str i))) := PE.of pe_str fun σ H Q ⟨b, B, G, ρ, xp, P, p, hr, k⟩ => k.leaf hr.good p (.str i)
theorem d_fr (h : PE X e (tOf X.K X.mg E w)) : PE X e (tOf X.K X.mg E (dFr w)) := PE.of h fun σ H Q ⟨b, B, G, ρ, xp, P, p, hr, k⟩ => tOfD_of ⟨b, B, G, ρ, xp, fun d => P (.leaf d), p, hr, fun G' H' v d hp s _ r => k G' H' v _ [] hp s (.leaf r) fun _ z => nomatch z⟩

/-! ### operations on settled values -/
abbrev R2D := PyData → PyData → (T → Prop) → Prop
def RdOk (K : PySem.W.Frag) (r : R2) (rd : R2D) : Prop := ∀ (b : Option Addr) (G H : Hp) (x y : V) (d e : PyData) (P : T → Prop) (Q : VK), Good K b G H → Rp b G x d → Rp b G y e → rd d e P →
  Ktn K b G H P Q → r x y H Q
def dOp (rd : R2D) (wa wb : WE) : WE := fun x ρ P => wa x ρ fun t => wb x ρ fun u => rd t.dat u.dat P
theorem dop_core {K : PySem.W.Frag} {mg : Str → Option Value} {r : R2} {rd : R2D} (h : RdOk K r rd) {σ : L2.St} {H : Hp} {Q : VK} (q : tOf K mg E (dOp rd wa wb) σ H Q) : tOp r (tOf K mg E wa) (tOf K mg E wb) σ H Q := by
  obtain ⟨b, B, G, ρ, xp, P, p, hr, k⟩ := q
  refine tOfD_of ⟨b, B, G, ρ, xp, fun d => wb xp ρ fun u => rd d u.dat P, p, hr, fun G1 H1 x d p1 s1 hr1 rx => ?_⟩
  refine tOfD_of ⟨b, B, G1, ρ, xp, fun u => rd d u P, p1, hr1, fun G2 H2 y u p2 s2 hr2 ry => ?_⟩
  exact h b G2 H2 x y d u P Q s2.good (rx.mono s2.ex) ry p2 ((k.stp hr.good s1).stp hr1.good s2)
theorem d_bin {op : Operator} {r : R2} {rd : R2D} (ho : OpR X (binaryOp op) r) (h : RdOk X.K r rd) (ha : PE X e (tOf X.K X.mg E wa)) (hb : PE X e2 (tOf X.K X.mg E wb)) : PE X (.BinOp e op e2 pos) (tOf X.K X.mg E (dOp rd wa wb)) := PE.of (pe_op ho ha hb) fun _ _ _ q => dop_core h q
theorem d_cmp {op : CmpOp} {r : R2} {rd : R2D} (ho : OpR X (compareOp op) r) (h : RdOk X.K r rd) (ha : PE X e (tOf X.K X.mg E wa)) (hb : PE X e2 (tOf X.K X.mg E wb)) (hm : behindInMarks op e2 = false := by rfl) : PE X (.Compare e [op] [e2] pos) (tOf X.K X.mg E (dOp rd wa wb)) := PE.of (pe_cmpR ho ha hb hm) fun _ _ _ q => dop_core h q
theorem d_ix {r : R2} {rd : R2D} (ho : IxR X r) (h : RdOk X.K r rd) (ha : PE X e (tOf X.K X.mg E wa)) (hb : PE X e2 (tOf X.K X.mg E wb)) (hs : PlainIx e2 := by exact fun _ _ => rfl) : PE X (.Subscript e e2 pos) (tOf X.K X.mg E (dOp rd wa wb)) := PE.of (pe_ix ho ha hb hs) fun _ _ _ q => dop_core h q
theorem opr_or {f : Value → Value → Sem Value} {r1 r2 : R2} (h1 : OpR X f r1) (h2 : OpR X f r2) : OpR X f (fun x y H Q => r1 x y H Q ∨ r2 x y H Q) := fun pins s σ H x y v u Q I rx ry h => h.elim (h1 pins s σ H x y v u Q I rx ry) (h2 pins s σ H x y v u Q I rx ry)
theorem ixr_or {r1 r2 : R2} (h1 : IxR X r1) (h2 : IxR X r2) : IxR X (fun x y H Q => r1 x y H Q ∨ r2 x y H Q) := fun a c pins s σ H x y v u Q I rx ry h hs => h.elim (fun h => h1 a c pins s σ H x y v u Q I rx ry h hs) fun h => h2 a c pins s σ H x y v u Q I rx ry h hs

/-- two whole numbers -/
def rdI (C : Int → Int → Prop) (g : Int → Int → PyData) : R2D := fun d e P => match d, e with
  | .int i, .int j => C i j ∧ P (.leaf (g i j))
  | _, _ => False
def rdI0 (g : Int → Int → PyData) : R2D := fun d e P => match d, e with
  | .int i, .int j => P (.leaf (g i j))
  | _, _ => False
def pyV : PyData → V
  | .none => .non
  | .bool b => .bl b
  | .int i => .int i
  | .str x => .str x
  | _ => .non
def flatD : PyData → Bool
  | .none | .bool _ | .int _ | .str _ => true
  | _ => false
theorem rp_flat {b : Option Addr} {G : Hp} : ∀ {d : PyData}, flatD d = true → Rp b G (pyV d) d
  | .none, _ => .non
  | .bool k, _ => .bl k
  | .int i, _ => .int i
  | .str x, _ => .str x
theorem ok_I {K : PySem.W.Frag} {C : Int → Int → Prop} {g : Int → Int → PyData} (hg : ∀ i j, flatD (g i j) = true) : RdOk K (rI C fun i j => pyV (g i j)) (rdI C g) := fun b G H x y d e P Q g1 rx ry h k => by
  unfold rdI at h
  split at h
  · obtain ⟨c, p⟩ := h
    cases rx
    cases ry
    exact ⟨_, _, rfl, rfl, c, k G H _ _ [] p g1.stp (.leaf (rp_flat (hg _ _))) fun _ z => nomatch z⟩
  · exact h.elim
theorem ok_I0 {K : PySem.W.Frag} {g : Int → Int → PyData} (hg : ∀ i j, flatD (g i j) = true) : RdOk K (rI0 fun i j => pyV (g i j)) (rdI0 g) := fun b G H x y d e P Q g1 rx ry h k => by
  unfold rdI0 at h
  split at h
  · cases rx
    cases ry
    exact ⟨_, _, rfl, rfl, k G H _ _ [] h g1.stp (.leaf (rp_flat (hg _ _))) fun _ z => nomatch z⟩
  · exact h.elim
theorem RdOk.or {K : PySem.W.Frag} {r1 r2 : R2} {d1 d2 : R2D} (h1 : RdOk K r1 d1) (h2 : RdOk K r2 d2) : RdOk K (fun x y H Q => r1 x y H Q ∨ r2 x y H Q) (fun d e P => d1 d e P ∨ d2 d e P) := fun b G H x y d e P Q g rx ry h k => h.elim (fun h => .inl (h1 b G H x y d e P Q g rx ry h k)) fun h => .inr (h2 b G H x y d e P Q g rx ry h k)
/-- a new list of settled items -/
theorem new_lst {K : PySem.W.Frag} {b : Option Addr} {G H : Hp} {P : T → Prop} {Q : VK} {xs : List V} {ds : List PyData} (g : Good K b G H) (r : RpAll b G xs ds) (p : P (.node (ds.map .leaf)))
    (k : Ktn K b G H P Q) {a : Addr} (ha : H a = none) : Q (.ref a) (upd H a (.lst xs)) := by
  have ga := (g.new (.lst xs) ha).2
  have nb : b ≠ some a := fun c => by
    obtain ⟨_, _, _, _, _, _, q, _⟩ := g.box a c
    rw [ha] at q
    cases q
  refine k G _ _ _ [a] p (g.own _ ha) (.node upd_same ga nb (TrAll.leaves r) (fun z => nomatch z)) fun c m => ?_
  rw [show c = a by simpa using m]
  exact ha
theorem new_tup {K : PySem.W.Frag} {b : Option Addr} {G H : Hp} {P : T → Prop} {Q : VK} {xs : List V} {ds : List PyData} (g : Good K b G H) (r : RpAll b G xs ds) (p : P (.leaf (.tuple ds)))
    (k : Ktn K b G H P Q) {a : Addr} (ha : H a = none) : Q (.ref a) (upd H a (.tup xs)) := by
  have st := (g.new (.tup xs) ha).1
  exact k _ _ _ _ [] p st (.leaf (.tup upd_same (r.mono st.ex))) fun _ z => nomatch z
def lim : Nat := 100000
theorem lim_le {n : Nat} (h : n ≤ lim) : n ≤ sizeLine := Nat.le_trans h (by decide)
theorem lim_lt {n : Nat} (h : n < lim) : n < sizeLine := Nat.lt_of_lt_of_le h (by decide)
/-- list + list -/
def rdCat : R2D := fun d e P => ∃ xs ys, d = .list xs ∧ e = .list ys ∧ xs.length + ys.length ≤ lim ∧ P (.node ((xs ++ ys).map .leaf))
theorem ok_cat {K : PySem.W.Frag} : RdOk K rCat rdCat := fun b G H x y d e P Q g rx ry h k => by
  obtain ⟨xs, ys, rfl, rfl, hl, p⟩ := h
  cases rx with
  | lst h1 r1 =>
    cases ry with
    | lst h2 r2 =>
      refine ⟨_, _, _, _, rfl, rfl, g.ex _ _ h1, g.ex _ _ h2, ?_, fun a ha => new_lst g (r1.append r2) p k ha⟩
      rw [r1.len, r2.len]
      exact lim_le hl
/-- tuple + tuple, the left one not empty -/
def rdCatT : R2D := fun d e P => ∃ xs ys, d = .tuple xs ∧ e = .tuple ys ∧ xs ≠ [] ∧ xs.length + ys.length ≤ lim ∧ P (.leaf (.tuple (xs ++ ys)))
theorem ok_catT {K : PySem.W.Frag} : RdOk K (rCatT K) rdCatT := fun b G H x y d e P Q g rx ry h k => by
  obtain ⟨xs, ys, rfl, rfl, hne, hl, p⟩ := h
  cases rx with
  | @tup a vs _ h1 r1 =>
    cases ry with
    | @tup c us _ h2 r2 =>
      have n1 : vs ≠ [] := fun z => by
        subst z
        have := r1.len
        cases xs with
        | nil => exact hne rfl
        | cons _ _ => simp at this
      refine ⟨_, _, _, _, rfl, rfl, .inl (.inl (g.ex _ _ h1)), .inl (.inl (g.ex _ _ h2)), n1, ?_, ?_⟩
      · rw [r1.len, r2.len]
        exact lim_le hl
      · refine ⟨fun e => ?_, fun _ a ha => new_tup g (r1.append r2) p k ha⟩
        subst e
        cases r2
        rw [List.append_nil] at p
        exact k G H _ _ [] p g.stp (.leaf (.tup h1 r1)) fun _ z => nomatch z
theorem RpAll.rep {b : Option Addr} {G : Hp} {vs : List V} {ds : List PyData} (h : RpAll b G vs ds) : ∀ n : Nat, RpAll b G (List.replicate n vs).flatten (List.replicate n ds).flatten
  | 0 => .nil
  | n + 1 => by
    rw [List.replicate_succ, List.replicate_succ, List.flatten_cons, List.flatten_cons]
    exact h.append (RpAll.rep h n)
/-- list * number -/
def rdRep : R2D := fun d e P => ∃ xs i, d = .list xs ∧ e = .int i ∧ 0 ≤ i ∧ i ≤ 1000 ∧ xs.length ≤ 10 ∧ P (.node ((List.replicate i.toNat xs).flatten.map .leaf))
theorem ok_rep {K : PySem.W.Frag} : RdOk K rRep rdRep := fun b G H x y d e P Q g rx ry h k => by
  obtain ⟨xs, i, rfl, rfl, h0, h1, hl, p⟩ := h
  cases rx with
  | @lst _ vs _ h1' r1 =>
    cases ry
    have hz : vs.length * i.toNat ≤ sizeLine := by
      rw [r1.len]
      exact Nat.le_trans (Nat.mul_le_mul hl (show i.toNat ≤ 1000 by omega)) (by decide)
    exact ⟨_, _, _, rfl, rfl, g.ex _ _ h1', by omega, by omega, hz, fun a ha => new_lst g (r1.rep _) p k ha⟩
/-- text + text -/
def rdCatS : R2D := fun d e P => ∃ xs ys, d = .str xs ∧ e = .str ys ∧ xs.length + ys.length ≤ lim ∧ P (.leaf (.str (xs ++ ys)))
/-- == of data -/
def rdEq : R2D := fun d e P => match d, e with
  | .int i, .int j => P (boo (decide (i = j)))
  | .str i, .str j => P (boo (decide (i = j)))
  | .bool i, .bool j => P (boo (decide (i = j)))
  | d, e => SeqAt.shaped d = true ∧ SeqAt.shaped e = true ∧ P (boo (PyData.eqv d e))
def rdNe : R2D := fun d e P => match d, e with
  | .int i, .int j => P (boo (decide (i ≠ j)))
  | .str i, .str j => P (boo (decide (i ≠ j)))
  | .bool i, .bool j => P (boo (decide (i ≠ j)))
  | d, e => SeqAt.shaped d = true ∧ SeqAt.shaped e = true ∧ P (boo (!PyData.eqv d e))
mutual
theorem rp_dp {K : PySem.W.Frag} {b : Option Addr} {G H : Hp} (e : Ex G H) : ∀ {v : V} {d : PyData}, Rp b G v d → d.canLay0 = true → Dp K H v d
  | _, _, .non, _ => .non
  | _, _, .bl k, _ => .bl k
  | _, _, .int i, _ => .int i
  | _, _, .str i, _ => .str i
  | _, _, .lst h r, c => .lst (.inl (.inl (e _ _ h))) (rp_dpAll e r (by simpa [PyData.canLay0] using c))
  | _, _, .tup h r, c => .tup (.inl (.inl (e _ _ h))) (rp_dpAll e r (by simpa [PyData.canLay0] using c))
  | _, _, .box _, c => by simp [PyData.canLay0] at c
  | _, _, .exc _, c => by simp [PyData.canLay0] at c
  | _, _, .obj _, c => by simp [PyData.canLay0] at c
  | _, _, .ins _ _ _ _, c => by simp [PyData.canLay0] at c
  | _, _, .dic _ _ _, c => by simp [PyData.canLay0] at c
  | _, _, .diT _ _ _, c => by simp [PyData.canLay0] at c
theorem rp_dpAll {K : PySem.W.Frag} {b : Option Addr} {G H : Hp} (e : Ex G H) : ∀ {vs : List V} {ds : List PyData}, RpAll b G vs ds → PyData.canLayAll0 ds = true → DpAll K H vs ds
  | _, _, .nil, _ => .nil
  | _, _, .cons h r, c => by
    rw [PyData.canLayAll0, Bool.and_eq_true] at c
    exact .cons (rp_dp e h c.1) (rp_dpAll e r c.2)
end
theorem shaped_lay {d : PyData} (h : SeqAt.shaped d = true) : d.canLay0 = true := by
  unfold SeqAt.shaped at h
  rw [Bool.and_eq_true] at h
  exact h.1
theorem eqv_eq {d : PyData} (h : SeqAt.shaped d = true) : PyData.eqv d d = true := SeqAt.eqv_refl d (shaped_lay h)
theorem ok_eq {K : PySem.W.Frag} : RdOk K (fun x y H Q => rEq x y H Q ∨ rEqD K x y H Q) rdEq := fun b G H x y d e P Q g rx ry h k => by
  unfold rdEq at h
  split at h
  · cases rx
    cases ry
    refine .inl ⟨rfl, ?_⟩
    have q := k G H (.bl _) _ [] h g.stp (.leaf (.bl _)) fun _ z => nomatch z
    simpa using q
  · cases rx
    cases ry
    refine .inl ⟨rfl, ?_⟩
    have q := k G H (.bl _) _ [] h g.stp (.leaf (.bl _)) fun _ z => nomatch z
    simpa using q
  · cases rx
    cases ry
    refine .inl ⟨rfl, ?_⟩
    have q := k G H (.bl _) _ [] h g.stp (.leaf (.bl _)) fun _ z => nomatch z
    simpa using q
  · obtain ⟨s1, s2, p⟩ := h
    exact .inr ⟨_, _, rp_dp g.ex rx (shaped_lay s1), rp_dp g.ex ry (shaped_lay s2), s1, s2, k G H _ _ [] p g.stp (.leaf (.bl _)) fun _ z => nomatch z⟩
theorem ok_ne {K : PySem.W.Frag} : RdOk K (fun x y H Q => rNe x y H Q ∨ rNeD K x y H Q) rdNe := fun b G H x y d e P Q g rx ry h k => by
  unfold rdNe at h
  split at h
  · cases rx
    cases ry
    refine .inl ⟨rfl, ?_⟩
    have q := k G H (.bl _) _ [] h g.stp (.leaf (.bl _)) fun _ z => nomatch z
    simpa using q
  · cases rx
    cases ry
    refine .inl ⟨rfl, ?_⟩
    have q := k G H (.bl _) _ [] h g.stp (.leaf (.bl _)) fun _ z => nomatch z
    simpa using q
  · cases rx
    cases ry
    refine .inl ⟨rfl, ?_⟩
    have q := k G H (.bl _) _ [] h g.stp (.leaf (.bl _)) fun _ z => nomatch z
    simpa using q
  · obtain ⟨s1, s2, p⟩ := h
    exact .inr ⟨_, _, rp_dp g.ex rx (shaped_lay s1), rp_dp g.ex ry (shaped_lay s2), s1, s2, k G H _ _ [] p g.stp (.leaf (.bl _)) fun _ z => nomatch z⟩
/-- x in a list or a tuple of flat things -/
def inD (x : PyData) (xs : List PyData) : Bool := xs.any fun y => PyData.eqv y x
/-- items by place -/
def rdIx : R2D := fun d e P => match d, e with
  | .list xs, .int i => ∃ x, atI xs i = some x ∧ P (.leaf x)
  | .tuple xs, .int i => ∃ x, atI xs i = some x ∧ P (.leaf x)
  | _, _ => False
theorem RpAll.atI {b : Option Addr} {G : Hp} {vs : List V} {ds : List PyData} (h : RpAll b G vs ds) {i : Int} {d : PyData} (e : L2.atI ds i = some d) : ∃ v, L2.atI vs i = some v ∧ Rp b G v d := by
  unfold L2.atI at e ⊢
  rw [h.len]
  cases q : ixN ds.length i with
  | none =>
    rw [q] at e
    cases e
  | some j =>
    rw [q] at e
    exact h.get (i := j) e
theorem ok_ix {K : PySem.W.Frag} : RdOk K (fun x y H Q => rIxL K x y H Q ∨ rIxT K x y H Q) rdIx := fun b G H x y d e P Q g rx ry h k => by
  unfold rdIx at h
  split at h
  · obtain ⟨z, ez, p⟩ := h
    cases rx with
    | lst h1 r1 =>
      cases ry
      obtain ⟨v, ev, rv⟩ := r1.atI ez
      exact .inl ⟨_, _, _, v, rfl, rfl, .inl (.inl (g.ex _ _ h1)), ev, k G H _ _ [] p g.stp (.leaf rv) fun _ z => nomatch z⟩
  · obtain ⟨z, ez, p⟩ := h
    cases rx with
    | tup h1 r1 =>
      cases ry
      obtain ⟨v, ev, rv⟩ := r1.atI ez
      exact .inr ⟨_, _, _, v, rfl, rfl, .inl (.inl (g.ex _ _ h1)), ev, k G H _ _ [] p g.stp (.leaf rv) fun _ z => nomatch z⟩
  · exact h.elim
/-- is None, is not None -/
def rdIsN : R2D := fun d e P => e = .none ∧ P (boo (match d with | .none => true | _ => false))
def rdNotN : R2D := fun d e P => e = .none ∧ P (boo (match d with | .none => false | _ => true))
theorem ok_isN {K : PySem.W.Frag} : RdOk K (fun x y H Q => y = .non ∧ Q (.bl (decide (x = .non))) H) rdIsN := fun b G H x y d e P Q g rx ry h k => by
  obtain ⟨rfl, p⟩ := h
  cases ry
  refine ⟨rfl, ?_⟩
  cases rx <;> exact k G H _ _ [] p g.stp (.leaf (.bl _)) fun _ z => nomatch z
theorem ok_notN {K : PySem.W.Frag} : RdOk K (fun x y H Q => y = .non ∧ Q (.bl (!decide (x = .non))) H) rdNotN := fun b G H x y d e P Q g rx ry h k => by
  obtain ⟨rfl, p⟩ := h
  cases ry
  refine ⟨rfl, ?_⟩
  cases rx <;> exact k G H _ _ [] p g.stp (.leaf (.bl _)) fun _ z => nomatch z

/-! ### the operators -/
variable {op : Operator}
def rdAdd : R2D := fun d e P => match d, e with
  | .int i, .int j => P (int (i + j))
  | d, e => rdCat d e P ∨ rdCatT d e P
theorem ok_add {K : PySem.W.Frag} : RdOk K (fun x y H Q => (rI0 fun i j => .int (i + j)) x y H Q ∨ (rCat x y H Q ∨ rCatT K x y H Q)) rdAdd := fun b G H x y d e P Q g rx ry h k => by
  unfold rdAdd at h
  split at h
  · exact .inl (ok_I0 (K := K) (g := fun i j => .int (i + j)) (fun _ _ => rfl) b G H x y _ _ P Q g rx ry h k)
  · exact h.elim (fun h => .inr (.inl (ok_cat (K := K) b G H x y _ _ P Q g rx ry h k))) fun h => .inr (.inr (ok_catT b G H x y _ _ P Q g rx ry h k))
theorem d_add (ha : PE X e (tOf X.K X.mg E wa)) (hb : PE X e2 (tOf X.K X.mg E wb)) : PE X (.BinOp e .Add e2 pos) (tOf X.K X.mg E (dOp rdAdd wa wb)) := d_bin (opr_or op_add (opr_or op_cat op_catT)) ok_add ha hb
abbrev rdSub : R2D := rdI0 fun i j => .int (i - j)
theorem d_sub (ha : PE X e (tOf X.K X.mg E wa)) (hb : PE X e2 (tOf X.K X.mg E wb)) : PE X (.BinOp e .Sub e2 pos) (tOf X.K X.mg E (dOp rdSub wa wb)) := d_bin op_sub (ok_I0 fun _ _ => rfl) ha hb
def rdMul : R2D := fun d e P => match d, e with
  | .int i, .int j => CMulW i j ∧ P (int (i * j))
  | d, e => rdRep d e P
theorem d_mul (ha : PE X e (tOf X.K X.mg E wa)) (hb : PE X e2 (tOf X.K X.mg E wb)) : PE X (.BinOp e .Mult e2 pos) (tOf X.K X.mg E (dOp rdMul wa wb)) := d_bin (opr_or op_mulW op_rep) (fun b G H x y d e P Q g rx ry h k => by
  unfold rdMul at h
  split at h
  · exact .inl (ok_I (K := X.K) (g := fun i j => .int (i * j)) (fun _ _ => rfl) b G H x y _ _ P Q g rx ry h k)
  · exact .inr (ok_rep (K := X.K) b G H x y _ _ P Q g rx ry h k)) ha hb
abbrev rdDiv : R2D := rdI CDivW fun i j => .int (i / j)
theorem d_div (ha : PE X e (tOf X.K X.mg E wa)) (hb : PE X e2 (tOf X.K X.mg E wb)) : PE X (.BinOp e .FloorDiv e2 pos) (tOf X.K X.mg E (dOp rdDiv wa wb)) := d_bin op_fdivW (ok_I fun _ _ => rfl) ha hb
abbrev rdMod : R2D := rdI (fun _ j => 0 < j) fun i j => .int (i % j)
theorem d_mod (ha : PE X e (tOf X.K X.mg E wa)) (hb : PE X e2 (tOf X.K X.mg E wb)) : PE X (.BinOp e .Mod e2 pos) (tOf X.K X.mg E (dOp rdMod wa wb)) := d_bin op_mod (ok_I fun _ _ => rfl) ha hb
abbrev rdPow : R2D := rdI CPow fun i j => .int (i ^ j.toNat)
theorem d_pow (ha : PE X e (tOf X.K X.mg E wa)) (hb : PE X e2 (tOf X.K X.mg E wb)) : PE X (.BinOp e .Pow e2 pos) (tOf X.K X.mg E (dOp rdPow wa wb)) := d_bin op_pow (ok_I fun _ _ => rfl) ha hb
abbrev rdLt : R2D := rdI0 fun i j => .bool (decide (i < j))
abbrev rdLe : R2D := rdI0 fun i j => .bool (decide (i ≤ j))
abbrev rdGt : R2D := rdI0 fun i j => .bool (decide (j < i))
abbrev rdGe : R2D := rdI0 fun i j => .bool (decide (j ≤ i))
theorem d_lt (ha : PE X e (tOf X.K X.mg E wa)) (hb : PE X e2 (tOf X.K X.mg E wb)) : PE X (.Compare e [.Lt] [e2] pos) (tOf X.K X.mg E (dOp rdLt wa wb)) := d_cmp op_lt (ok_I0 fun _ _ => rfl) ha hb (nomark _)
theorem d_le (ha : PE X e (tOf X.K X.mg E wa)) (hb : PE X e2 (tOf X.K X.mg E wb)) : PE X (.Compare e [.LtE] [e2] pos) (tOf X.K X.mg E (dOp rdLe wa wb)) := d_cmp op_le (ok_I0 fun _ _ => rfl) ha hb (nomark _)
theorem d_gt (ha : PE X e (tOf X.K X.mg E wa)) (hb : PE X e2 (tOf X.K X.mg E wb)) : PE X (.Compare e [.Gt] [e2] pos) (tOf X.K X.mg E (dOp rdGt wa wb)) := d_cmp op_gt (ok_I0 fun _ _ => rfl) ha hb (nomark _)
theorem d_ge (ha : PE X e (tOf X.K X.mg E wa)) (hb : PE X e2 (tOf X.K X.mg E wb)) : PE X (.Compare e [.GtE] [e2] pos) (tOf X.K X.mg E (dOp rdGe wa wb)) := d_cmp op_ge (ok_I0 fun _ _ => rfl) ha hb (nomark _)
theorem d_eq (hu : X.A.units + 64 < cLine) (ha : PE X e (tOf X.K X.mg E wa)) (hb : PE X e2 (tOf X.K X.mg E wb)) : PE X (.Compare e [.Eq] [e2] pos) (tOf X.K X.mg E (dOp rdEq wa wb)) := d_cmp (opr_or op_eq (op_eqD hu)) ok_eq ha hb (nomark _)
theorem d_ne (hu : X.A.units + 64 < cLine) (ha : PE X e (tOf X.K X.mg E wa)) (hb : PE X e2 (tOf X.K X.mg E wb)) : PE X (.Compare e [.NotEq] [e2] pos) (tOf X.K X.mg E (dOp rdNe wa wb)) := d_cmp (opr_or op_ne (op_neD hu)) ok_ne ha hb (nomark _)
theorem d_isN (ha : PE X e (tOf X.K X.mg E wa)) (hb : PE X e2 (tOf X.K X.mg E wb)) : PE X (.Compare e [.Is] [e2] pos) (tOf X.K X.mg E (dOp rdIsN wa wb)) := d_cmp op_isN ok_isN ha hb (nomark _)
theorem d_notN (ha : PE X e (tOf X.K X.mg E wa)) (hb : PE X e2 (tOf X.K X.mg E wb)) : PE X (.Compare e [.IsNot] [e2] pos) (tOf X.K X.mg E (dOp rdNotN wa wb)) := d_cmp op_notN ok_notN ha hb (nomark _)
theorem d_at (ha : PE X e (tOf X.K X.mg E wa)) (hb : PE X e2 (tOf X.K X.mg E wb)) (hs : PlainIx e2 := by exact fun _ _ => rfl) : PE X (.Subscript e e2 pos) (tOf X.K X.mg E (dOp rdIx wa wb)) := d_ix (ixr_or ix_list ix_tup) ok_ix ha hb hs
end
end Dd
namespace Dd
open PySem L2
/-! ### arguments, calls -/
/-- a promise at data's level: arguments, what is wanted of the value, of an exception -/
abbrev Spec := List PyData → (T → Prop) → XP → Prop
def spOf (K : PySem.W.Frag) (mg : Str → Option Value) (S : Spec) : Sp := fun vs H Q E => ∃ (b : Option Addr) (G : Hp) (ds : List PyData) (P : T → Prop) (xp : XP), S ds P xp ∧ Good K b G H ∧ RpAll b G vs ds ∧ Ktn K b G H P Q ∧ XC K mg E b G H xp
section
variable {X : Cx} {E : SX} {e e2 : Expr} {es : List Expr} {w wa wb : WE} {ws : WA} {wt wu : WT} {pos p apos : Pos} {x : Str}
def aNil : WA := fun _ _ P => P []
def aCons (w : WE) (ws : WA) : WA := fun x ρ P => w x ρ fun t => ws x ρ fun ds => P (t.dat :: ds)
theorem a_nil : PA X [] (aOf X.K X.mg E aNil) := PA.of pa_nil fun σ H Q ⟨b, B, G, ρ, xp, P, p, hr, k⟩ => k G H [] [] p hr.good.stp .nil
theorem a_cons (ha : PE X e (tOf X.K X.mg E w)) (hb : PA X es (aOf X.K X.mg E ws)) (hs : starEach (e :: es) X.env = (false, eval e X.env) :: starEach es X.env := by rfl) : PA X (e :: es) (aOf X.K X.mg E (aCons w ws)) := PA.of (pa_cons ha hb hs) fun σ H Q ⟨b, B, G, ρ, xp, P, p, hr, k⟩ => by
  refine tOfD_of ⟨b, B, G, ρ, xp, fun d => ws xp ρ fun ds => P (d :: ds), p, hr, fun G1 H1 x d p1 s1 hr1 rx => ?_⟩
  exact ⟨b, B, G1, ρ, xp, fun ds => P (d :: ds), p1, hr1, fun G2 H2 vs ds p2 s2 r2 => k G2 H2 _ _ p2 (s1.trans hr.good s2) (.cons (rx.mono s2.ex) r2)⟩
def dCall (S : Spec) (ws : WA) : WE := fun x ρ P => ws x ρ fun ds => S ds P x
section
variable {CX : CXT} {k : Nat} {f : Addr} {fd : FuncData} {ps : List Str} {S : Spec}
theorem dcall_core {K : PySem.W.Frag} {mg : Str → Option Value} {σ : L2.St} {H : Hp} {Q : VK} (q : tOf K mg E (dCall S ws) σ H Q) : aOf K mg E ws σ H fun vs H1 => spOf K mg S (vs ++ []) H1 Q (E σ) := by
  obtain ⟨b, B, G, ρ, xp, P, p, hr, k⟩ := q
  refine ⟨b, B, G, ρ, xp, fun ds => S ds P xp, p, hr, fun G1 H1 vs ds p1 s1 r1 => ?_⟩
  show spOf K mg S (vs ++ []) H1 Q (E σ)
  rw [List.append_nil]
  exact ⟨b, G1, ds, P, xp, p1, s1.good, r1, k.stp hr.good s1, hr.xc.stp hr.good s1⟩
/-- a call where nothing is raised -/
theorem d_call {j : Nat} (F : FnOk X.prog X.w X.K X.mg X.base CX0 k f fd ps (spOf X.K X.mg S)) (hr : Room j X.A) (hg : Gl X x) (hm : X.mg x = some (.ref f)) (hk : PySem.W.keepIn X.K (.ref f) = true) (hb : Binds X.K fd ps [])
    (ha : PA X (e :: es) (aOf X.K X.mg E ws)) (hj : k ≤ j := by decide) (hdb : (x == ("__debug__" : Str)) = false := by decide) (he : starEach (e :: es) X.env = (false, eval e X.env) :: starEach es X.env := by rfl) (hpl : (backTo pos (starEach es X.env)).any (·.1) = false := by rfl) :
    PE X (.Call (.Name x p) (e :: es) [] pos) (tOf X.K X.mg E (dCall S ws)) := ⟨fun pins s σ H Q I q => (pe_call (E := E σ) F (hr.mono hj) hg hm hk hb .nil pass0 ha hdb he hpl).run pins s σ H Q I (dcall_core q)⟩
theorem d_call0 {j : Nat} (F : FnOk X.prog X.w X.K X.mg X.base CX0 k f fd ps (spOf X.K X.mg S)) (hr : Room j X.A) (hg : Gl X x) (hm : X.mg x = some (.ref f)) (hk : PySem.W.keepIn X.K (.ref f) = true) (hb : Binds X.K fd ps [])
    (hj : k ≤ j := by decide) (hdb : (x == ("__debug__" : Str)) = false := by decide) :
    PE X (.Call (.Name x p) [] [] pos) (tOf X.K X.mg E (dCall S aNil)) := ⟨fun pins s σ H Q I q => (pe_call0 (E := E σ) F (hr.mono hj) hg hm hk hb .nil pass0 hdb).run pins s σ H Q I (by
  obtain ⟨b, B, G, ρ, xp, P, p, hr, k⟩ := q
  exact ⟨b, G, [], P, xp, p, hr.good, .nil, k, hr.xc⟩)⟩
end

/-! ### displays -/
def dLst (ws : WA) : WE := fun x ρ P => ws x ρ fun ds => ds.length ≤ lim ∧ P (.node (ds.map .leaf))
def dTup (ws : WA) : WE := fun x ρ P => ws x ρ fun ds => ds.length ≤ lim ∧ P (.leaf (.tuple ds))
theorem d_lst (h : PA X es (aOf X.K X.mg E ws)) : PE X (.List es pos) (tOf X.K X.mg E (dLst ws)) := PE.of (pe_lst h) fun σ H Q ⟨b, B, G, ρ, xp, P, p, hr, k⟩ =>
  ⟨b, B, G, ρ, xp, fun ds => ds.length ≤ lim ∧ P (.node (ds.map .leaf)), p, hr, fun G1 H1 vs ds p1 s1 r1 => ⟨by rw [r1.len]; exact lim_le p1.1, fun a ha => new_lst s1.good r1 p1.2 (k.stp hr.good s1) ha⟩⟩
theorem d_tup {j : Nat} (h : PA X es (aOf X.K X.mg E ws)) : PE X (.Tuple es j pos) (tOf X.K X.mg E (dTup ws)) := PE.of (pe_tup h) fun σ H Q ⟨b, B, G, ρ, xp, P, p, hr, k⟩ =>
  ⟨b, B, G, ρ, xp, fun ds => ds.length ≤ lim ∧ P (.leaf (.tuple ds)), p, hr, fun G1 H1 vs ds p1 s1 r1 => ⟨by rw [r1.len]; exact lim_le p1.1, fun a ha => new_tup s1.good r1 p1.2 (k.stp hr.good s1) ha⟩⟩

/-! ### built-ins by their settled arguments -/
abbrev CD := List PyData → (T → Prop) → Prop
def CdOk (K : PySem.W.Frag) (r : List V → Hp → VK → Prop) (c : CD) : Prop := ∀ (b : Option Addr) (G H : Hp) (vs : List V) (ds : List PyData) (P : T → Prop) (Q : VK), Good K b G H → RpAll b G vs ds → c ds P → Ktn K b G H P Q → r vs H Q
def dBlt (c : CD) (ws : WA) : WE := fun x ρ P => ws x ρ fun ds => c ds P
theorem dblt_core {K : PySem.W.Frag} {mg : Str → Option Value} {r : List V → Hp → VK → Prop} {c : CD} (h : CdOk K r c) {σ : L2.St} {H : Hp} {Q : VK} (q : tOf K mg E (dBlt c ws) σ H Q) : tCB r (aOf K mg E ws) σ H Q := by
  obtain ⟨b, B, G, ρ, xp, P, p, hr, k⟩ := q
  exact ⟨b, B, G, ρ, xp, fun ds => c ds P, p, hr, fun G1 H1 vs ds p1 s1 r1 => h b G1 H1 vs ds P Q s1.good r1 p1 (k.stp hr.good s1)⟩
theorem d_blt {id : String} {r : List V → Hp → VK → Prop} {c : CD} (hc : CallR X (.builtin id) r) (h : CdOk X.K r c) (hg : Gl X x) (hm : X.mg x = none) (hv : bootBuiltins x = some (.builtin id)) (ha : PA X (e :: es) (aOf X.K X.mg E ws)) (hn : x ≠ "__name__" := by decide) (hdb : (x == ("__debug__" : Str)) = false := by decide)
    (he : starEach (e :: es) X.env = (false, eval e X.env) :: starEach es X.env := by rfl) (hpl : (backTo pos (starEach es X.env)).any (·.1) = false := by rfl) : PE X (.Call (.Name x p) (e :: es) [] pos) (tOf X.K X.mg E (dBlt c ws)) := PE.of (pe_callB hc hg hm hv ha hn hdb he hpl) fun σ H Q q => dblt_core h q
theorem d_ty {id : String} {r : List V → Hp → VK → Prop} {c : CD} (hc : CallR X (.type id) r) (h : CdOk X.K r c) (hg : Gl X x) (hm : X.mg x = none) (hv : bootBuiltins x = some (.type id)) (ha : PA X (e :: es) (aOf X.K X.mg E ws)) (hn : x ≠ "__name__" := by decide) (hdb : (x == ("__debug__" : Str)) = false := by decide)
    (he : starEach (e :: es) X.env = (false, eval e X.env) :: starEach es X.env := by rfl) (hpl : (backTo pos (starEach es X.env)).any (·.1) = false := by rfl) : PE X (.Call (.Name x p) (e :: es) [] pos) (tOf X.K X.mg E (dBlt c ws)) := PE.of (pe_callTy hc hg hm hv ha hn hdb he hpl) fun σ H Q q => dblt_core h q
/-- len -/
def cLen : CD := fun ds P => match ds with
  | [.list xs] => P (int xs.length)
  | [.tuple xs] => P (int xs.length)
  | [.str z] => z.length ≤ lim ∧ P (int z.length)
  | _ => False
theorem ok_len {K : PySem.W.Frag} : CdOk K (fun xs H Q => ∃ x n, xs = [x] ∧ LenV K x H n ∧ Q (.int n) H) cLen := fun b G H vs ds P Q g r h k => by
  unfold cLen at h
  split at h
  · cases r with
    | cons r1 r2 =>
      cases r2
      cases r1 with
      | lst h1 h2 => exact ⟨_, _, rfl, .inl ⟨_, .inl (.inl (g.ex _ _ h1)), rfl⟩, by rw [h2.len]; exact k.leaf g h (.int _)⟩
  · cases r with
    | cons r1 r2 =>
      cases r2
      cases r1 with
      | tup h1 h2 => exact ⟨_, _, rfl, .inr ⟨_, .inl (.inl (g.ex _ _ h1)), rfl⟩, by rw [h2.len]; exact k.leaf g h (.int _)⟩
  · cases r with
    | cons r1 r2 =>
      cases r2
      cases r1
      exact ⟨_, _, rfl, ⟨lim_le h.1, rfl⟩, k.leaf g h.2 (.int _)⟩
  · exact h.elim
theorem d_len (hm : X.mg "len" = none) (ha : PA X [e] (aOf X.K X.mg E ws)) (hg : Gl X "len" := by rfl) (he : starEach [e] X.env = (false, eval e X.env) :: starEach [] X.env := by rfl) (hpl : (backTo pos (starEach [] X.env)).any (·.1) = false := by rfl) : PE X (.Call (.Name "len" p) [e] [] pos) (tOf X.K X.mg E (dBlt cLen ws)) :=
  d_blt call_len ok_len hg hm PySem.boot_len ha (by decide) (by decide) he hpl
/-- ints as data -/
def intsD (ns : List Int) : List PyData := ns.map .int
theorem rp_ints {b : Option Addr} {G : Hp} : ∀ {ns : List Int} {vs : List V}, RpAll b G vs (intsD ns) → vs = ns.map V.int
  | [], _, .nil => rfl
  | n :: ns, _, .cons (.int _) r => by
    rw [rp_ints (ns := ns) r] <;> rfl
theorem rp_ints' {b : Option Addr} {G : Hp} : ∀ (ns : List Int), RpAll b G (ns.map V.int) (intsD ns)
  | [] => .nil
  | n :: ns => .cons (.int n) (rp_ints' ns)
theorem rp_bools {b : Option Addr} {G : Hp} : ∀ {ns : List Bool} {vs : List V}, RpAll b G vs (ns.map .bool) → vs = ns.map V.bl
  | [], _, .nil => rfl
  | n :: ns, _, .cons (.bl _) r => by
    rw [rp_bools (ns := ns) r] <;> rfl
/-- sum of a list of whole numbers -/
def cSum : CD := fun ds P => ∃ ns : List Int, ds = [.list (intsD ns)] ∧ P (int ns.sum)
theorem ok_sum {K : PySem.W.Frag} : CdOk K (rSum K) cSum := fun b G H vs ds P Q g r h k => by
  obtain ⟨ns, rfl, p⟩ := h
  cases r with
  | cons r1 r2 =>
    cases r2
    cases r1 with
    | lst h1 h2 =>
      have e := rp_ints h2
      subst e
      exact ⟨_, ns, rfl, .inl (.inl (g.ex _ _ h1)), k.leaf g p (.int _)⟩
def cAny : CD := fun ds P => ∃ ns : List Bool, ds = [.list (ns.map .bool)] ∧ P (boo (ns.any id))
theorem ok_any {K : PySem.W.Frag} : CdOk K (rAny K) cAny := fun b G H vs ds P Q g r h k => by
  obtain ⟨ns, rfl, p⟩ := h
  cases r with
  | cons r1 r2 =>
    cases r2
    cases r1 with
    | lst h1 h2 =>
      have e := rp_bools h2
      subst e
      exact ⟨_, ns, rfl, .inl (.inl (g.ex _ _ h1)), k.leaf g p (.bl _)⟩
def cAll : CD := fun ds P => ∃ ns : List Bool, ds = [.list (ns.map .bool)] ∧ P (boo (ns.all id))
theorem ok_all {K : PySem.W.Frag} : CdOk K (rAll K) cAll := fun b G H vs ds P Q g r h k => by
  obtain ⟨ns, rfl, p⟩ := h
  cases r with
  | cons r1 r2 =>
    cases r2
    cases r1 with
    | lst h1 h2 =>
      have e := rp_bools h2
      subst e
      exact ⟨_, ns, rfl, .inl (.inl (g.ex _ _ h1)), k.leaf g p (.bl _)⟩
def cMax2 : CD := fun ds P => match ds with
  | [.int i, .int j] => P (int (if j > i then j else i))
  | _ => False
def cMin2 : CD := fun ds P => match ds with
  | [.int i, .int j] => P (int (if j < i then j else i))
  | _ => False
theorem ok_max2 {K : PySem.W.Frag} : CdOk K (fun xs H Q => ∃ i j, xs = [.int i, .int j] ∧ Q (.int (if j > i then j else i)) H) cMax2 := fun b G H vs ds P Q g r h k => by
  unfold cMax2 at h
  split at h
  · cases r with
    | cons r1 r2 => cases r1; cases r2 with
      | cons r3 r4 => cases r3; cases r4; exact ⟨_, _, rfl, k.leaf g h (.int _)⟩
  · exact h.elim
theorem ok_min2 {K : PySem.W.Frag} : CdOk K (fun xs H Q => ∃ i j, xs = [.int i, .int j] ∧ Q (.int (if j < i then j else i)) H) cMin2 := fun b G H vs ds P Q g r h k => by
  unfold cMin2 at h
  split at h
  · cases r with
    | cons r1 r2 => cases r1; cases r2 with
      | cons r3 r4 => cases r3; cases r4; exact ⟨_, _, rfl, k.leaf g h (.int _)⟩
  · exact h.elim
/-- list(xs) -/
def cList : CD := fun ds P => match ds with
  | [.list xs] => P (.node (xs.map .leaf))
  | [.tuple xs] => P (.node (xs.map .leaf))
  | _ => False
theorem ok_list {K : PySem.W.Frag} : CdOk K (fun xs H Q => ∃ p ys, xs = [.ref p] ∧ (SqL K H p ys ∨ SqT K H p ys) ∧ ∀ l, H l = none → Q (.ref l) (upd H l (.lst ys))) cList := fun b G H vs ds P Q g r h k => by
  unfold cList at h
  split at h
  · cases r with
    | cons r1 r2 =>
      cases r2
      cases r1 with
      | lst h1 h2 => exact ⟨_, _, rfl, .inl (.inl (.inl (g.ex _ _ h1))), fun a ha => new_lst g h2 h k ha⟩
  · cases r with
    | cons r1 r2 =>
      cases r2
      cases r1 with
      | tup h1 h2 => exact ⟨_, _, rfl, .inr (.inl (.inl (g.ex _ _ h1))), fun a ha => new_lst g h2 h k ha⟩
  · exact h.elim
theorem d_list (hm : X.mg "list" = none) (ha : PA X [e] (aOf X.K X.mg E ws)) (hg : Gl X "list" := by rfl) (he : starEach [e] X.env = (false, eval e X.env) :: starEach [] X.env := by rfl) (hpl : (backTo pos (starEach [] X.env)).any (·.1) = false := by rfl) : PE X (.Call (.Name "list" p) [e] [] pos) (tOf X.K X.mg E (dBlt cList ws)) :=
  d_ty call_list_of ok_list hg hm (by decide +kernel) ha (by decide) (by decide) he hpl
theorem d_sum (hc : X.calm = true) (hm : X.mg "sum" = none) (ha : PA X [e] (aOf X.K X.mg E ws)) (hg : Gl X "sum" := by rfl) (he : starEach [e] X.env = (false, eval e X.env) :: starEach [] X.env := by rfl) (hpl : (backTo pos (starEach [] X.env)).any (·.1) = false := by rfl) : PE X (.Call (.Name "sum" p) [e] [] pos) (tOf X.K X.mg E (dBlt cSum ws)) :=
  d_blt (cr_sum hc) ok_sum hg hm (by decide +kernel) ha (by decide) (by decide) he hpl
theorem d_any (hc : X.calm = true) (hm : X.mg "any" = none) (ha : PA X [e] (aOf X.K X.mg E ws)) (hg : Gl X "any" := by rfl) (he : starEach [e] X.env = (false, eval e X.env) :: starEach [] X.env := by rfl) (hpl : (backTo pos (starEach [] X.env)).any (·.1) = false := by rfl) : PE X (.Call (.Name "any" p) [e] [] pos) (tOf X.K X.mg E (dBlt cAny ws)) :=
  d_blt (cr_any hc) ok_any hg hm (by decide +kernel) ha (by decide) (by decide) he hpl
theorem d_all (hc : X.calm = true) (hm : X.mg "all" = none) (ha : PA X [e] (aOf X.K X.mg E ws)) (hg : Gl X "all" := by rfl) (he : starEach [e] X.env = (false, eval e X.env) :: starEach [] X.env := by rfl) (hpl : (backTo pos (starEach [] X.env)).any (·.1) = false := by rfl) : PE X (.Call (.Name "all" p) [e] [] pos) (tOf X.K X.mg E (dBlt cAll ws)) :=
  d_blt (cr_all hc) ok_all hg hm (by decide +kernel) ha (by decide) (by decide) he hpl

/-! ### tests -/
def dTst (w : WE) : WT := fun x ρ P => w x ρ fun t => match t with
  | .leaf (.bool k) => P k
  | _ => False
theorem dtst_core {K : PySem.W.Frag} {mg : Str → Option Value} {σ : L2.St} {H : Hp} {Q : Bool → Hp → Prop} (q : ttOf K mg E (dTst w) σ H Q) : tOf K mg E w σ H fun x H1 => ∃ c, x = .bl c ∧ Q c H1 := by
  obtain ⟨b, B, G, ρ, xp, P, p, hr, k⟩ := q
  refine ⟨b, B, G, ρ, xp, _, p, hr, fun G' H' v t fp hp s tr fr => ?_⟩
  dsimp only at hp
  split at hp
  · cases tr with
    | leaf r =>
      cases r
      exact ⟨_, rfl, k G' H' _ hp s⟩
  · exact hp.elim
theorem t_cmp {op : CmpOp} {r : R2} {rd : R2D} (ho : OpR X (compareOp op) r) (h : RdOk X.K r rd) (ha : PE X e (tOf X.K X.mg E wa)) (hb : PE X e2 (tOf X.K X.mg E wb)) (hm : behindInMarks op e2 = false := by rfl) : PT X (.Compare e [op] [e2] pos) (ttOf X.K X.mg E (dTst (dOp rd wa wb))) := PT.of (pt_cmpR ho ha hb hm) fun σ H Q q => dop_core h (dtst_core q)
theorem t_val (h : PE X e (tOf X.K X.mg E w)) (he : ∀ whole, isTrue e X.env whole = (do let v ← whole; standAt e.pos; holding [v] (truthy v)) := by intro _; rfl) : PT X e (ttOf X.K X.mg E (dTst w)) := PT.of (pt_val h he) fun σ H Q q => dtst_core q
def dNot (w : WT) : WT := fun x ρ P => w x ρ fun k => P (!k)
def dAnd (w u : WT) : WT := fun x ρ P => w x ρ fun k => (k = true → u x ρ P) ∧ (k = false → P false)
def dOr (w u : WT) : WT := fun x ρ P => w x ρ fun k => (k = true → P true) ∧ (k = false → u x ρ P)
theorem t_not (ha : PT X e (ttOf X.K X.mg E wt)) : PT X (.UnaryOp .Not e pos) (ttOf X.K X.mg E (dNot wt)) := PT.of (pt_not ha) fun σ H Q ⟨b, B, G, ρ, xp, P, p, hr, k⟩ => ⟨b, B, G, ρ, xp, fun c => P (!c), p, hr, fun G' H' c hp s => k G' H' _ hp s⟩
theorem w_and1 (ha : PT X e (ttOf X.K X.mg E wt)) : PW X (.BoolOp .And [e] pos) (ttOf X.K X.mg E wt) := pw_and1 ha
theorem w_or1 (ha : PT X e (ttOf X.K X.mg E wt)) : PW X (.BoolOp .Or [e] pos) (ttOf X.K X.mg E wt) := pw_or1 ha
theorem w_and (ha : PT X e (ttOf X.K X.mg E wt)) (hb : PW X (.BoolOp .And (e2 :: es) pos) (ttOf X.K X.mg E wu)) : PW X (.BoolOp .And (e :: e2 :: es) pos) (ttOf X.K X.mg E (dAnd wt wu)) := PW.of (pw_and ha hb) fun σ H Q ⟨b, B, G, ρ, xp, P, p, hr, k⟩ =>
  ⟨b, B, G, ρ, xp, _, p, hr, fun G' H' c hp s => by
    cases c with
    | true =>
      show ttOf X.K X.mg E wu σ H' Q
      exact ⟨b, B, G', ρ, xp, P, hp.1 rfl, hr.stp s, fun G2 H2 c2 p2 s2 => k G2 H2 c2 p2 (s.trans hr.good s2)⟩
    | false => exact k G' H' false (hp.2 rfl) s⟩
theorem w_or (ha : PT X e (ttOf X.K X.mg E wt)) (hb : PW X (.BoolOp .Or (e2 :: es) pos) (ttOf X.K X.mg E wu)) : PW X (.BoolOp .Or (e :: e2 :: es) pos) (ttOf X.K X.mg E (dOr wt wu)) := PW.of (pw_or ha hb) fun σ H Q ⟨b, B, G, ρ, xp, P, p, hr, k⟩ =>
  ⟨b, B, G, ρ, xp, _, p, hr, fun G' H' c hp s => by
    cases c with
    | false =>
      show ttOf X.K X.mg E wu σ H' Q
      exact ⟨b, B, G', ρ, xp, P, hp.2 rfl, hr.stp s, fun G2 H2 c2 p2 s2 => k G2 H2 c2 p2 (s.trans hr.good s2)⟩
    | true => exact k G' H' true (hp.1 rfl) s⟩
def dIfE (wt : WT) (wa wb : WE) : WE := fun x ρ P => wt x ρ fun k => (k = true → wa x ρ P) ∧ (k = false → wb x ρ P)
theorem d_ife {c : Expr} (hc : PT X c (ttOf X.K X.mg E wt)) (ha : PE X e (tOf X.K X.mg E wa)) (hb : PE X e2 (tOf X.K X.mg E wb)) : PE X (.IfExp c e e2 pos) (tOf X.K X.mg E (dIfE wt wa wb)) := PE.of (pe_ifExp hc ha hb) fun σ H Q ⟨b, B, G, ρ, xp, P, p, hr, k⟩ =>
  ⟨b, B, G, ρ, xp, _, p, hr, fun G' H' c hp s => by
    cases c with
    | true =>
      show tOf X.K X.mg E wa σ H' Q
      exact ⟨b, B, G', ρ, xp, P, hp.1 rfl, hr.stp s, k.stp hr.good s⟩
    | false =>
      show tOf X.K X.mg E wb σ H' Q
      exact ⟨b, B, G', ρ, xp, P, hp.2 rfl, hr.stp s, k.stp hr.good s⟩⟩
/-- and, or, not as values -/
def dAndV (wa wb : WE) : WE := fun x ρ P => wa x ρ fun t => match t with
  | .leaf (.bool k) => (k = true → wb x ρ P) ∧ (k = false → P (boo false))
  | _ => False
def dOrV (wa wb : WE) : WE := fun x ρ P => wa x ρ fun t => match t with
  | .leaf (.bool k) => (k = true → P (boo true)) ∧ (k = false → wb x ρ P)
  | _ => False
def dNotV (wa : WE) : WE := fun x ρ P => wa x ρ fun t => match t with
  | .leaf (.bool k) => P (boo (!k))
  | _ => False
theorem d_one {op : BoolOp} (h : PE X e (tOf X.K X.mg E w)) : PE X (.BoolOp op [e] pos) (tOf X.K X.mg E w) := pe_one h
theorem d_and (ha : PE X e (tOf X.K X.mg E wa)) (hb : PE X (.BoolOp .And (e2 :: es) pos) (tOf X.K X.mg E wb)) : PE X (.BoolOp .And (e :: e2 :: es) pos) (tOf X.K X.mg E (dAndV wa wb)) := PE.of (pe_and ha hb) fun σ H Q ⟨b, B, G, ρ, xp, P, p, hr, k⟩ =>
  ⟨b, B, G, ρ, xp, _, p, hr, fun G' H' v t fp hp s tr fr => by
    dsimp only at hp
    split at hp
    · cases tr with
      | leaf r =>
        cases r
        rename_i c
        refine ⟨_, rfl, ?_⟩
        cases c with
        | true =>
          show tOf X.K X.mg E wb σ H' Q
          exact ⟨b, B, G', ρ, xp, P, hp.1 rfl, hr.stp s, k.stp hr.good s⟩
        | false => exact (k.stp hr.good s).leaf s.good (hp.2 rfl) (.bl _)
    · exact hp.elim⟩
theorem d_or (ha : PE X e (tOf X.K X.mg E wa)) (hb : PE X (.BoolOp .Or (e2 :: es) pos) (tOf X.K X.mg E wb)) : PE X (.BoolOp .Or (e :: e2 :: es) pos) (tOf X.K X.mg E (dOrV wa wb)) := PE.of (pe_or ha hb) fun σ H Q ⟨b, B, G, ρ, xp, P, p, hr, k⟩ =>
  ⟨b, B, G, ρ, xp, _, p, hr, fun G' H' v t fp hp s tr fr => by
    dsimp only at hp
    split at hp
    · cases tr with
      | leaf r =>
        cases r
        rename_i c
        refine ⟨_, rfl, ?_⟩
        cases c with
        | false =>
          show tOf X.K X.mg E wb σ H' Q
          exact ⟨b, B, G', ρ, xp, P, hp.2 rfl, hr.stp s, k.stp hr.good s⟩
        | true => exact (k.stp hr.good s).leaf s.good (hp.1 rfl) (.bl _)
    · exact hp.elim⟩
theorem d_not (ha : PE X e (tOf X.K X.mg E wa)) : PE X (.UnaryOp .Not e pos) (tOf X.K X.mg E (dNotV wa)) := PE.of (pe_not ha) fun σ H Q ⟨b, B, G, ρ, xp, P, p, hr, k⟩ =>
  ⟨b, B, G, ρ, xp, _, p, hr, fun G' H' v t fp hp s tr fr => by
    dsimp only at hp
    split at hp
    · cases tr with
      | leaf r =>
        cases r
        exact ⟨_, rfl, (k.stp hr.good s).leaf s.good hp (.bl _)⟩
    · exact hp.elim⟩
def dNeg (wa : WE) : WE := fun x ρ P => wa x ρ fun t => match t with
  | .leaf (.int i) => P (int (-i))
  | _ => False
theorem d_neg (ha : PE X e (tOf X.K X.mg E wa)) : PE X (.UnaryOp .USub e pos) (tOf X.K X.mg E (dNeg wa)) := PE.of (pe_un un_neg ha) fun σ H Q ⟨b, B, G, ρ, xp, P, p, hr, k⟩ =>
  ⟨b, B, G, ρ, xp, _, p, hr, fun G' H' v t fp hp s tr fr => by
    dsimp only at hp
    split at hp
    · cases tr with
      | leaf r =>
        cases r
        exact ⟨_, rfl, (k.stp hr.good s).leaf s.good hp (.int _)⟩
    · exact hp.elim⟩
end
end Dd
namespace Dd
open PySem L2
/-! ### what is walked -/
abbrev WI := XP → Rho → (List PyData → Prop) → Prop
structure WalkD (K : PySem.W.Frag) (b : Option Addr) (F : Hp) (J : It) (ds : List PyData) : Prop where
  goes : ∀ i G H, i < ds.length → Ex F G → Good K b G H → J.go i H
  stops : ∀ G H, Ex F G → Good K b G H → J.stop ds.length H
  yields : ∀ i G H x H', i < ds.length → Ex F G → Good K b G H → J.yld i H x H' → ∃ G' d, ds[i]? = some d ∧ Stp K b G H G' H' ∧ Rp b G' x d
def iOf (K : PySem.W.Frag) (mg : Str → Option Value) (E : SX) (w : WI) : TI := fun σ H R => ∃ (b : Option Addr) (B G : Hp) (ρ : Rho) (xp : XP) (P : List PyData → Prop), w xp ρ P ∧ Site K mg (E σ) b B G H σ ρ xp ∧
  ∀ (G' H' : Hp) (ds : List PyData) (J : It), P ds → Stp K b G H G' H' → WalkD K b G' J ds → R J H'
section
variable {K : PySem.W.Frag} {b : Option Addr} {F : Hp}
theorem walkD_list {a : Addr} {xs : List V} {ds : List PyData} (h : F a = some (.lst xs)) (r : RpAll b F xs ds) : WalkD K b F (Itl K a) ds := by
  have hl := r.len
  refine ⟨fun i G H hi e g => ⟨xs, xs[i]'(by omega), .inl (.inl (g.ex _ _ (e _ _ h))), List.getElem?_eq_getElem _⟩, fun G H e g => ⟨xs, .inl (.inl (g.ex _ _ (e _ _ h))), by omega⟩, fun i G H x H' hi e g y => ?_⟩
  obtain ⟨e1, y2⟩ := y
  subst e1
  obtain ⟨d, e2, rd⟩ := r.get' (y2 xs (.inl (.inl (g.ex _ _ (e _ _ h)))))
  exact ⟨G, d, e2, g.stp, rd.mono e⟩
theorem walkD_tup {a : Addr} {xs : List V} {ds : List PyData} (h : F a = some (.tup xs)) (r : RpAll b F xs ds) : WalkD K b F (Itt K a) ds := by
  have hl := r.len
  refine ⟨fun i G H hi e g => ⟨xs, xs[i]'(by omega), .inl (.inl (g.ex _ _ (e _ _ h))), List.getElem?_eq_getElem _⟩, fun G H e g => ⟨xs, .inl (.inl (g.ex _ _ (e _ _ h))), by omega⟩, fun i G H x H' hi e g y => ?_⟩
  obtain ⟨e1, y2⟩ := y
  subst e1
  obtain ⟨d, e2, rd⟩ := r.get' (y2 xs (.inl (.inl (g.ex _ _ (e _ _ h)))))
  exact ⟨G, d, e2, g.stp, rd.mono e⟩
def rngD (lo : Int) (n : Nat) : List PyData := (List.range n).map fun i => .int (lo + (i : Nat))
theorem rngD_len {lo : Int} {n : Nat} : (rngD lo n).length = n := by simp [rngD]
theorem rngD_get {lo : Int} {n i : Nat} (h : i < n) : (rngD lo n)[i]? = some (.int (lo + (i : Nat))) := by simp [rngD, h]
theorem walkD_rng {lo : Int} {n : Nat} : WalkD K b F (Itr lo n) (rngD lo n) := by
  refine ⟨fun i G H hi e g => ?_, fun G H e g => ?_, fun i G H x H' hi e g y => ?_⟩
  · rw [rngD_len] at hi
    exact hi
  · show n ≤ (rngD lo n).length
    rw [rngD_len]
    all_goals exact Nat.le_refl _
  · rw [rngD_len] at hi
    obtain ⟨e1, e2⟩ := y
    subst e1 e2
    exact ⟨G, _, rngD_get hi, g.stp, .int _⟩
/-- pairs made on the way -/
theorem pair_new {G H : Hp} (g : Good K b G H) {T : Addr} {x y : V} {d e : PyData} (hT : H T = none) (rx : Rp b G x d) (ry : Rp b G y e) : ∃ G', Stp K b G H G' (upd H T (.tup [x, y])) ∧ Rp b G' (.ref T) (.tuple [d, e]) := by
  have st := (g.new (.tup [x, y]) hT).1
  exact ⟨_, st, .tup upd_same (.cons (rx.mono st.ex) (.cons (ry.mono st.ex) .nil))⟩
def zipD : List PyData → List PyData → List PyData
  | x :: xs, y :: ys => .tuple [x, y] :: zipD xs ys
  | _, _ => []
theorem zipD_len : ∀ xs ys, (zipD xs ys).length = min xs.length ys.length
  | [], _ => by simp [zipD]
  | _ :: _, [] => by simp [zipD]
  | x :: xs, y :: ys => by
    have := zipD_len xs ys
    simp [zipD, this]
    all_goals omega
theorem zipD_get : ∀ (xs ys : List PyData) (i : Nat) (x y : PyData), xs[i]? = some x → ys[i]? = some y → (zipD xs ys)[i]? = some (.tuple [x, y])
  | [], _, _, _, _, h, _ => by simp at h
  | _ :: _, [], _, _, _, _, h => by simp at h
  | x :: xs, y :: ys, 0, _, _, h, k => by
    simp at h k
    subst h k
    rfl
  | x :: xs, y :: ys, i + 1, u, v, h, k => by
    show (zipD xs ys)[i]? = _
    exact zipD_get xs ys i u v (by simpa using h) (by simpa using k)
theorem walkD_zip {a c : Addr} {xs ys : List V} {ds es : List PyData} (h : F a = some (.lst xs)) (r : RpAll b F xs ds) (h' : F c = some (.lst ys)) (r' : RpAll b F ys es) : WalkD K b F (Itz K a c) (zipD ds es) := by
  have l1 := r.len
  have l2 := r'.len
  have W := walk_zip (K := K) (a := a) (b := c) (xs := xs) (ys := ys) (n := (zipD ds es).length) (by rw [zipD_len, l1, l2])
  have at1 : ∀ {G H : Hp}, Ex F G → Good K b G H → SqL K H a xs ∧ SqL K H c ys := fun e g => ⟨.inl (.inl (g.ex _ _ (e _ _ h))), .inl (.inl (g.ex _ _ (e _ _ h')))⟩
  refine ⟨fun i G H hi e g => W.goes i H hi (at1 e g), fun G H e g => W.stops H (at1 e g), fun i G H x H' hi e g y => ?_⟩
  obtain ⟨T, u, v, rfl, hT, rfl, e1, e2⟩ := W.yields i H x H' hi (at1 e g) y
  obtain ⟨d, q1, r1⟩ := r.get' e1
  obtain ⟨d', q2, r2⟩ := r'.get' e2
  obtain ⟨G', s, rr⟩ := pair_new g hT (r1.mono e) (r2.mono e)
  exact ⟨G', _, zipD_get _ _ i _ _ q1 q2, s, rr⟩
theorem walkD_zipT {a c : Addr} {xs ys : List V} {ds es : List PyData} (h : F a = some (.tup xs)) (r : RpAll b F xs ds) (h' : F c = some (.tup ys)) (r' : RpAll b F ys es) : WalkD K b F (RZ.ItzT K a c) (zipD ds es) := by
  have l1 := r.len
  have l2 := r'.len
  have le := zipD_len ds es
  have at1 : ∀ {G H : Hp}, Ex F G → Good K b G H → SqT K H a xs ∧ SqT K H c ys := fun e g => ⟨.inl (.inl (g.ex _ _ (e _ _ h))), .inl (.inl (g.ex _ _ (e _ _ h')))⟩
  refine ⟨fun i G H hi e g => ?_, fun G H e g => ?_, fun i G H x H' hi e g y => ?_⟩
  · have k1 : i < xs.length := by omega
    have k2 : i < ys.length := by omega
    exact ⟨xs, ys, xs[i], ys[i], (at1 e g).1, (at1 e g).2, List.getElem?_eq_getElem k1, List.getElem?_eq_getElem k2⟩
  · exact ⟨xs, ys, (at1 e g).1, (at1 e g).2, by omega⟩
  · obtain ⟨T, u, v, rfl, hT, rfl, f1, f2⟩ := y
    obtain ⟨d, q1, r1⟩ := r.get' (f1 _ (at1 e g).1)
    obtain ⟨d', q2, r2⟩ := r'.get' (f2 _ (at1 e g).2)
    obtain ⟨G', s, rr⟩ := pair_new g hT (r1.mono e) (r2.mono e)
    exact ⟨G', _, zipD_get _ _ i _ _ q1 q2, s, rr⟩
def enumD : Nat → List PyData → List PyData
  | _, [] => []
  | n, x :: xs => .tuple [.int (n : Nat), x] :: enumD (n + 1) xs
theorem enumD_len : ∀ n xs, (enumD n xs).length = xs.length
  | _, [] => rfl
  | n, x :: xs => by simp [enumD, enumD_len (n + 1) xs]
theorem enumD_get : ∀ (n : Nat) (xs : List PyData) (i : Nat) (x : PyData), xs[i]? = some x → (enumD n xs)[i]? = some (.tuple [.int ((n + i : Nat) : Int), x])
  | _, [], _, _, h => by simp at h
  | n, x :: xs, 0, _, h => by
    simp at h
    subst h
    rfl
  | n, x :: xs, i + 1, u, h => by
    show (enumD (n + 1) xs)[i]? = _
    rw [enumD_get (n + 1) xs i u (by simpa using h)]
    rw [show n + 1 + i = n + (i + 1) by omega]
theorem walkD_enum {a : Addr} {xs : List V} {ds : List PyData} (h : F a = some (.lst xs)) (r : RpAll b F xs ds) : WalkD K b F (Ite K a) (enumD 0 ds) := by
  have l1 := r.len
  have W := walk_enum (K := K) (a := a) (xs := xs)
  have le : (enumD 0 ds).length = xs.length := by rw [enumD_len, l1]
  have at1 : ∀ {G H : Hp}, Ex F G → Good K b G H → SqL K H a xs := fun e g => .inl (.inl (g.ex _ _ (e _ _ h)))
  refine ⟨fun i G H hi e g => W.goes i H (by omega) (at1 e g), fun G H e g => by rw [le]; exact W.stops H (at1 e g), fun i G H x H' hi e g y => ?_⟩
  obtain ⟨T, u, v, rfl, hT, rfl, e1, e2⟩ := W.yields i H x H' (by omega) (at1 e g) y
  obtain ⟨d, q1, r1⟩ := r.get' e2
  cases e1
  obtain ⟨G', s, rr⟩ := pair_new g hT (.int (i : Nat)) (r1.mono e)
  refine ⟨G', _, ?_, s, rr⟩
  rw [enumD_get 0 ds i _ q1]
  rw [Nat.zero_add]
theorem strD_walk {z : Str} : WalkD K b F (Its z) (z.cps.toList.map fun c => .str ⟨#[c]⟩) := by
  have W := walk_str (z := z)
  have le : (z.cps.toList.map fun c => PyData.str ⟨#[c]⟩).length = z.cps.size := by simp
  refine ⟨fun i G H hi e g => W.goes i H (by omega) trivial, fun G H e g => by rw [le]; exact W.stops H trivial, fun i G H x H' hi e g y => ?_⟩
  obtain ⟨rfl, c, e1, rfl⟩ := W.yields i H x H' (by omega) trivial y
  refine ⟨G, _, ?_, g.stp, .str _⟩
  rw [List.getElem?_map, Array.getElem?_toList, e1] <;> rfl
end
section
variable {X : Cx} {E : SX} {e e2 tg : Expr} {es : List Expr} {w wa wb : WE} {ws : WA} {wt wu : WT} {pos p apos tpos : Pos} {x : Str}
theorem PI.of {t : TI} {w : WI} (h : PI X tg e t) (k : ∀ σ H Q, iOf X.K X.mg E w σ H Q → t σ H Q) : PI X tg e (iOf X.K X.mg E w) := ⟨fun pins s σ H Q I q => h.run pins s σ H Q I (k σ H Q q)⟩
/-- over a list (settled) -/
def iL (w : WE) : WI := fun x ρ P => w x ρ fun t => match t.dat with
  | .list ds => P ds
  | _ => False
def iT (w : WE) : WI := fun x ρ P => w x ρ fun t => match t.dat with
  | .tuple ds => P ds
  | _ => False
theorem i_list (h : PE X e (tOf X.K X.mg E w)) : PI X tg e (iOf X.K X.mg E (iL w)) := PI.of (pi_list h) fun σ H Q ⟨b, B, G, ρ, xp, P, p, hr, k⟩ => tOfD_of ⟨b, B, G, ρ, xp, fun d => match d with
  | .list ds => P ds
  | _ => False, p, hr, fun G1 H1 v d hp s hr1 r => by
    try dsimp only at hp
    split at hp
    · cases r with
      | lst h1 r1 => exact ⟨_, rfl, ⟨_, .inl (.inl (hr1.good.ex _ _ h1))⟩, k G1 H1 _ _ hp s (walkD_list h1 r1)⟩
    · exact hp.elim⟩
theorem i_tup (h : PE X e (tOf X.K X.mg E w)) : PI X tg e (iOf X.K X.mg E (iT w)) := PI.of (pi_tup h) fun σ H Q ⟨b, B, G, ρ, xp, P, p, hr, k⟩ => tOfD_of ⟨b, B, G, ρ, xp, fun d => match d with
  | .tuple ds => P ds
  | _ => False, p, hr, fun G1 H1 v d hp s hr1 r => by
    try dsimp only at hp
    split at hp
    · cases r with
      | tup h1 r1 => exact ⟨_, rfl, ⟨_, .inl (.inl (hr1.good.ex _ _ h1))⟩, k G1 H1 _ _ hp s (walkD_tup h1 r1)⟩
    · exact hp.elim⟩
def iStrD (w : WE) : WI := fun x ρ P => w x ρ fun t => match t.dat with
  | .str z => P (z.cps.toList.map fun c => .str ⟨#[c]⟩)
  | _ => False
/-- range(n), range(a, b) -/
def iR1 (ws : WA) : WI := fun x ρ P => ws x ρ fun ds => match ds with
  | [.int j] => (-(2 ^ 62) ≤ j ∧ j < 2 ^ 62) ∧ P (rngD 0 j.toNat)
  | _ => False
def iR2 (ws : WA) : WI := fun x ρ P => ws x ρ fun ds => match ds with
  | [.int i, .int j] => (-(2 ^ 62) ≤ i ∧ i < 2 ^ 62 ∧ -(2 ^ 62) ≤ j ∧ j < 2 ^ 62) ∧ P (rngD i (j - i).toNat)
  | _ => False
theorem i_rng1 (hm : X.mg "range" = none) (ha : PA X [e] (aOf X.K X.mg E ws)) (hg : Gl X "range" := by rfl) (hs : starEach [e] X.env = [(false, eval e X.env)] := by rfl) : PI X tg (.Call (.Name "range" p) [e] [] pos) (iOf X.K X.mg E (iR1 ws)) := PI.of (pi_range1 hg hm ha hs) fun σ H Q ⟨b, B, G, ρ, xp, P, p, hr, k⟩ =>
  ⟨b, B, G, ρ, xp, _, p, hr, fun G1 H1 vs ds hp s r => by
    try dsimp only at hp
    split at hp
    · cases r with
      | cons r1 r2 =>
        cases r1
        cases r2
        exact ⟨_, rfl, hp.1.1, hp.1.2, k G1 H1 _ _ hp.2 s walkD_rng⟩
    · exact hp.elim⟩
theorem i_rng2 (hm : X.mg "range" = none) (ha : PA X [e, e2] (aOf X.K X.mg E ws)) (hg : Gl X "range" := by rfl) (hs : starEach [e, e2] X.env = [(false, eval e X.env), (false, eval e2 X.env)] := by rfl) (hs2 : starEach [e2] X.env = [(false, eval e2 X.env)] := by rfl) : PI X tg (.Call (.Name "range" p) [e, e2] [] pos) (iOf X.K X.mg E (iR2 ws)) := PI.of (pi_range2 hg hm ha hs hs2) fun σ H Q ⟨b, B, G, ρ, xp, P, p, hr, k⟩ =>
  ⟨b, B, G, ρ, xp, _, p, hr, fun G1 H1 vs ds hp s r => by
    try dsimp only at hp
    split at hp
    · cases r with
      | cons r1 r2 =>
        cases r1
        cases r2 with
        | cons r3 r4 =>
          cases r3
          cases r4
          exact ⟨_, _, rfl, hp.1, k G1 H1 _ _ hp.2 s walkD_rng⟩
    · exact hp.elim⟩
def iEn (ws : WA) : WI := fun x ρ P => ws x ρ fun ds => match ds with
  | [.list xs] => P (enumD 0 xs)
  | _ => False
def iZi (ws : WA) : WI := fun x ρ P => ws x ρ fun ds => match ds with
  | [.list xs, .list ys] => P (zipD xs ys)
  | [.tuple xs, .tuple ys] => P (zipD xs ys)
  | _ => False
theorem i_enum {elts : List Expr} {kk : Nat} (hm : X.mg "enumerate" = none) (ha : PA X [e] (aOf X.K X.mg E ws)) (hg : Gl X "enumerate" := by rfl) (hs : starEach [e] X.env = [(false, eval e X.env)] := by rfl) : PI X (.Tuple elts kk tpos) (.Call (.Name "enumerate" p) [e] [] pos) (iOf X.K X.mg E (iEn ws)) := PI.of (pi_enum hg hm ha hs) fun σ H Q ⟨b, B, G, ρ, xp, P, p, hr, k⟩ =>
  ⟨b, B, G, ρ, xp, _, p, hr, fun G1 H1 vs ds hp s r => by
    try dsimp only at hp
    split at hp
    · cases r with
      | cons r1 r2 =>
        cases r2
        cases r1 with
        | lst h1 q1 => exact ⟨_, _, rfl, .inl (.inl (s.good.ex _ _ h1)), k G1 H1 _ _ hp s (walkD_enum h1 q1)⟩
    · exact hp.elim⟩
theorem i_zip {elts : List Expr} {kk : Nat} (hm : X.mg "zip" = none) (ha : PA X [e, e2] (aOf X.K X.mg E ws)) (hg : Gl X "zip" := by rfl) (hs : starEach [e, e2] X.env = (false, eval e X.env) :: starEach [e2] X.env := by rfl) (hpl : (backTo pos (starEach [e2] X.env)).any (·.1) = false := by rfl) : PI X (.Tuple elts kk tpos) (.Call (.Name "zip" p) [e, e2] [] pos) (iOf X.K X.mg E (iZi ws)) := PI.of (RZ.pi_zipA hg hm ha hs hpl) fun σ H Q ⟨b, B, G, ρ, xp, P, p, hr, k⟩ =>
  ⟨b, B, G, ρ, xp, _, p, hr, fun G1 H1 vs ds hp s r => by
    try dsimp only at hp
    split at hp
    · cases r with
      | cons r1 r2 =>
        cases r2 with
        | cons r3 r4 =>
          cases r4
          cases r1 with
          | lst h1 q1 =>
            cases r3 with
            | lst h2 q2 => exact ⟨_, _, _, _, rfl, .inl ⟨.inl (.inl (s.good.ex _ _ h1)), .inl (.inl (s.good.ex _ _ h2)), k G1 H1 _ _ hp s (walkD_zip h1 q1 h2 q2)⟩⟩
    · cases r with
      | cons r1 r2 =>
        cases r2 with
        | cons r3 r4 =>
          cases r4
          cases r1 with
          | tup h1 q1 =>
            cases r3 with
            | tup h2 q2 => exact ⟨_, _, _, _, rfl, .inr ⟨.inl (.inl (s.good.ex _ _ h1)), .inl (.inl (s.good.ex _ _ h2)), k G1 H1 _ _ hp s (walkD_zipT h1 q1 h2 q2)⟩⟩
    · exact hp.elim⟩
end

/-! ### targets: ts the slots that may change -/
abbrev WG := PyData → Rho → (Rho → Prop) → Prop
abbrev WGs := List PyData → Rho → (Rho → Prop) → Prop
structure But (ts : List Nat) (σ σ' : L2.St) : Prop where
  len : σ'.length = σ.length
  get : ∀ j : Nat, j ∉ ts → σ'[j]? = σ[j]?
theorem But.rfl' (ts : List Nat) (σ : L2.St) : But ts σ σ := ⟨rfl, fun _ _ => rfl⟩
theorem But.set {ts : List Nat} {σ : L2.St} {i : Nat} {v : Option V} (h : i ∈ ts) : But ts σ (σ.set i v) := ⟨List.length_set, fun j hj => by
  rw [List.getElem?_set_ne]
  intro e
  subst e
  exact hj h⟩
theorem But.trans {ts : List Nat} {σ σ' σ2 : L2.St} (h : But ts σ σ') (k : But ts σ' σ2) : But ts σ σ2 := ⟨k.len.trans h.len, fun j hj => (k.get j hj).trans (h.get j hj)⟩
theorem wipe_in {σ : L2.St} {i : Nat} (hi : i < σ.length) : ∀ {vs : List Nat}, i ∈ vs → (wipe σ vs)[i]? = some none
  | v :: vs, h => by
    unfold wipe
    by_cases c : i = v
    · subst c
      rw [List.getElem?_set_self]
      rw [wipe_length]
      exact hi
    · rw [List.getElem?_set_ne (Ne.symm c)]
      exact wipe_in hi ((List.mem_cons.mp h).resolve_left c)
theorem wipe_out {σ : L2.St} {i : Nat} : ∀ {vs : List Nat}, i ∉ vs → (wipe σ vs)[i]? = σ[i]?
  | [], _ => rfl
  | v :: vs, h => by
    unfold wipe
    rw [List.getElem?_set_ne (fun e => h (by rw [e]; exact List.mem_cons_self ..))]
    exact wipe_out fun m => h (List.mem_cons_of_mem _ m)
theorem But.wipe {vs : List Nat} {σ σ' : L2.St} (h : But vs (wipe σ vs) σ') : wipe σ' vs = wipe σ vs := by
  have hl := h.len
  rw [wipe_length] at hl
  refine List.ext_getElem? fun i => ?_
  by_cases c : i ∈ vs
  · by_cases hi : i < σ.length
    · rw [wipe_in (by omega) c, wipe_in hi c]
    · rw [List.getElem?_eq_none (by rw [wipe_length]; omega), List.getElem?_eq_none (by rw [wipe_length]; omega)]
  · rw [wipe_out c, h.get i c]
def gOf (K : PySem.W.Frag) (ts : List Nat) (w : WG) : TG := fun v σ H Q => ∃ (b : Option Addr) (B G : Hp) (ρ : Rho) (d : PyData) (R : Rho → Prop), w d ρ R ∧ Here K b B G H σ ρ ∧ Rp b G v d ∧ ∀ σ' ρ', R ρ' → Here K b B G H σ' ρ' → But ts σ σ' → Q σ' H
def gsOf (K : PySem.W.Frag) (ts : List Nat) (w : WGs) : TGs := fun vs σ H Q => ∃ (b : Option Addr) (B G : Hp) (ρ : Rho) (ds : List PyData) (R : Rho → Prop), w ds ρ R ∧ Here K b B G H σ ρ ∧ RpAll b G vs ds ∧ ∀ σ' ρ', R ρ' → Here K b B G H σ' ρ' → But ts σ σ' → Q σ' H
def gN (i : Nat) : WG := fun d ρ R => R (ρ.set i (some (.leaf d)))
def gs0 : WGs := fun ds ρ R => match ds with
  | [] => R ρ
  | _ => False
def gsC (w : WG) (u : WGs) : WGs := fun ds ρ R => match ds with
  | d :: ds => w d ρ fun ρ' => u ds ρ' R
  | _ => False
def gT (n : Nat) (w : WGs) : WG := fun d ρ R => match d with
  | .tuple ds => ds.length = n ∧ w ds ρ R
  | _ => False
section
variable {X : Cx} {pos : Pos} {ts : List Nat}
theorem PG.of {tg : Expr} {t : TG} {w : WG} (h : PG X tg t) (k : ∀ v σ H Q, gOf X.K ts w v σ H Q → t v σ H Q) : PG X tg (gOf X.K ts w) := ⟨fun pins s σ H v u Q I r q => h.run pins s σ H v u Q I r (k v σ H Q q)⟩
theorem PGs.of {tg : List Expr} {t : TGs} {w : WGs} (h : PGs X tg t) (k : ∀ v σ H Q, gsOf X.K ts w v σ H Q → t v σ H Q) : PGs X tg (gsOf X.K ts w) := ⟨fun pins s σ H v u Q I r q => h.run pins s σ H v u Q I r (k v σ H Q q)⟩
theorem Here.leaf {K : PySem.W.Frag} {b : Option Addr} {B G H : Hp} {σ : L2.St} {ρ : Rho} {v : V} {d : PyData} (h : Here K b B G H σ ρ) (i : Nat) (r : Rp b G v d) : Here K b B G H (σ.set i (some v)) (ρ.set i (some (.leaf d))) := ⟨h.good, h.env.leaf i r, h.sub⟩
theorem g_name (i : Nat) {x : Str} (hN : X.N.Nodup) (hts : i ∈ ts := by decide) (hi : X.N[i]? = some x := by rfl) (hx : Loc X.env.scope x := by first | exact Or.inl rfl | exact Or.inr rfl) (hf : X.fn x = true ∨ X.env.scope.names.lookup x = some .local := by first | exact .inl rfl | exact .inr rfl | assumption) : PG X (.Name x pos) (gOf X.K ts (gN i)) :=
  PG.of (pg_name hN hi hx hf) fun v σ H Q ⟨b, B, G, ρ, d, R, q, hr, r, k⟩ => k _ _ q (hr.leaf i r) (But.set hts)
theorem gs_nil : PGs X [] (gsOf X.K ts gs0) := PGs.of pgs_nil fun v σ H Q ⟨b, B, G, ρ, ds, R, q, hr, r, k⟩ => by
  unfold gs0 at q
  split at q
  · cases r
    exact ⟨rfl, k _ _ q hr (But.rfl' _ _)⟩
  · exact q.elim
theorem gs_cons {e : Expr} {es : List Expr} {w : WG} {u : WGs} (h1 : PG X e (gOf X.K ts w)) (h2 : PGs X es (gsOf X.K ts u)) (hs : (assignEach (e :: es) X.env).map (·.2) = assign e X.env :: (assignEach es X.env).map (·.2) := by rfl) : PGs X (e :: es) (gsOf X.K ts (gsC w u)) := PGs.of (pgs_cons h1 h2 hs) fun v σ H Q ⟨b, B, G, ρ, ds, R, q, hr, r, k⟩ => by
  unfold gsC at q
  split at q
  · cases r with
    | cons r1 r2 => exact ⟨_, _, rfl, b, B, G, ρ, _, _, q, hr, r1, fun σ' ρ' hR hr' bu => ⟨b, B, G, ρ', _, R, hR, hr', r2, fun σ2 ρ2 p2 h2 b2 => k σ2 ρ2 p2 h2 (bu.trans b2)⟩⟩
  · exact q.elim
theorem g_tup {es : List Expr} {kk : Nat} {w : WGs} {n : Nat} (hc : X.calm = true) (h : PGs X es (gsOf X.K ts w)) (hn : (assignEach es X.env).length = n := by rfl) (hst : (assignEach es X.env).findIdx? (·.1) = none := by rfl) : PG X (.Tuple es kk pos) (gOf X.K ts (gT n w)) := PG.of (pg_tup hc h hn hst) fun v σ H Q ⟨b, B, G, ρ, d, R, q, hr, r, k⟩ => by
  unfold gT at q
  split at q
  · cases r with
    | tup h1 r1 => exact ⟨_, _, rfl, .inl (.inl (hr.good.ex _ _ h1)), by rw [r1.len]; exact q.1, b, B, G, ρ, _, R, q.2, hr, r1, k⟩
  · exact q.elim
end

/-! ### comprehensions -/
def wipeR (ρ : Rho) : List Nat → Rho
  | [] => ρ
  | v :: vs => (wipeR ρ vs).set v none
theorem env_wipe {b : Option Addr} {B G H : Hp} {σ : L2.St} {ρ : Rho} (E : Env b B G H σ ρ) : ∀ vs : List Nat, Env b B G H (wipe σ vs) (wipeR ρ vs)
  | [] => E
  | v :: vs => by
    obtain ⟨hl, fps, h1, h2, h3⟩ := env_wipe E vs
    refine ⟨by unfold wipe wipeR; rw [List.length_set, List.length_set]; exact hl, fps, fun i t e => ?_, h2, h3⟩
    unfold wipeR at e
    by_cases c : i = v
    · subst c
      by_cases hi : i < (wipeR ρ vs).length
      · rw [List.getElem?_set_self hi] at e
        cases e
      · rw [List.getElem?_eq_none (by rw [List.length_set]; omega)] at e
        cases e
    · rw [List.getElem?_set_ne (Ne.symm c)] at e
      obtain ⟨w, e1, tr⟩ := h1 i t e
      exact ⟨w, by unfold wipe; rw [List.getElem?_set_ne (Ne.symm c)]; exact e1, tr⟩
abbrev noX : XP := fun _ _ => False
abbrev noE : SX := fun _ _ _ _ => False
/-- [e for g in i if t]: Inv tells what is made behind each turn -/
def dLc (wi : WI) (g : WG) (wt : WT) (we : WE) (vs : List Nat) : WE := fun x ρ P => wi x ρ fun ds => ds.length < lim ∧ ∃ Inv : Nat → List T → Prop, Inv 0 [] ∧
  (∀ i d acc, ds[i]? = some d → Inv i acc → g d (wipeR ρ vs) fun ρ2 => wt noX ρ2 fun k => (k = true → we noX ρ2 fun t => Inv (i + 1) (acc ++ [t])) ∧ (k = false → Inv (i + 1) acc)) ∧ ∀ acc, Inv ds.length acc → P (.node acc)
def dYes : WT := fun _ _ P => P true
theorem noXC {K : PySem.W.Frag} {mg : Str → Option Value} {E : XK} {b : Option Addr} {G H : Hp} : XC K mg E b G H noX := fun _ _ _ _ _ _ h => h.elim
theorem dlc_core {K : PySem.W.Frag} {mg : Str → Option Value} {E : SX} {wi : WI} {g : WG} {wt : WT} {we : WE} {vs : List Nat} {σ : L2.St} {H : Hp} {Q : VK} (q : tOf K mg E (dLc wi g wt we vs) σ H Q) : tLc (iOf K mg E wi) (gOf K vs g) (ttOf K mg noE wt) (tOf K mg noE we) vs σ H Q := by
  obtain ⟨b, B, G, ρ, xp, P, p, hr, k⟩ := q
  refine ⟨b, B, G, ρ, xp, _, p, hr, fun G1 H1 ds J hp s1 wk => ?_⟩
  obtain ⟨hlim, Inv, i0, it, ie⟩ := hp
  have hr1 : Here K b B G1 H1 σ ρ := hr.toHere.stp s1
  intro D hD
  have gD := s1.good
  have nb : b ≠ some D := fun c => by
    obtain ⟨_, _, _, _, _, _, q, _⟩ := gD.box D c
    rw [hD] at q
    cases q
  have gDn : G1 D = none := by
    cases q : G1 D with
    | none => rfl
    | some u =>
      rw [gD.ex D u q] at hD
      cases hD
  -- the word: behind i turns
  refine ⟨fun i m H2 => m = ds.length - i ∧ i ≤ ds.length ∧ ∃ G2 acc vsl fp, Stp K b G1 H1 G2 H2 ∧ G2 D = none ∧ H2 D = some (.lst vsl) ∧ TrAll b G2 H2 fp vsl acc ∧ (∀ a, a ∈ fp → H1 a = none) ∧ D ∉ fp ∧ acc.length ≤ i ∧ Inv i acc,
    ⟨ds.length, by simp, Nat.zero_le _, G1, [], [], [], gD.own _ hD, gDn, upd_same, .nil, fun _ z => (nomatch z), fun z => (nomatch z), Nat.le_refl _, i0⟩, ?_⟩
  rintro i m H2 ⟨rfl, hi, G2, acc, vsl, fp, s2, g2D, h2D, tr, fr, nD, hla, inv⟩
  by_cases hlt : i < ds.length
  · refine .inr ⟨wk.goes i G2 H2 hlt s2.ex s2.good, fun H' => i + 1 ≤ ds.length ∧ ∃ G2 acc vsl fp, Stp K b G1 H1 G2 H' ∧ G2 D = none ∧ H' D = some (.lst vsl) ∧ TrAll b G2 H' fp vsl acc ∧ (∀ a, a ∈ fp → H1 a = none) ∧ D ∉ fp ∧ acc.length ≤ i + 1 ∧ Inv (i + 1) acc,
      fun H' h => ⟨ds.length - (i + 1), by omega, rfl, h⟩, fun v H3 y => ?_⟩
    obtain ⟨G3, d, ed, s3, rd⟩ := wk.yields i G2 H2 v H3 hlt s2.ex s2.good y
    have s13 := s2.trans gD s3
    have h3 : Here K b B G3 H3 (wipe σ vs) (wipeR ρ vs) := ⟨s3.good, env_wipe ((hr1.stp s13).env) vs, fun a e => hr1.sub a (s13.free gD e)⟩
    refine ⟨b, B, G3, wipeR ρ vs, d, _, it i d acc ed inv, h3, rd, fun σ' ρ' hR hr' bu => ⟨bu.wipe, ?_⟩⟩
    refine ⟨b, B, G3, ρ', noX, _, hR, ⟨hr', noXC⟩, fun G4 H4 c hc s4 => ?_⟩
    -- what is made so far, as it lies behind a step
    have carry : ∀ {G5 H5 : Hp}, Stp K b G3 H3 G5 H5 → G5 D = none ∧ H5 D = some (.lst vsl) ∧ TrAll b G5 H5 fp vsl acc ∧ Stp K b G1 H1 G5 H5 := fun {G5 H5} s5 => by
      have s25 := s3.trans s2.good s5
      refine ⟨s25.out D _ g2D h2D, s25.keep D _ nb h2D, tr.move s25.ex fun a z => ?_, s2.trans gD s25⟩
      obtain ⟨q1, q2, o, q3⟩ := tr.mem a z
      exact ⟨s25.out a o q1 q3, by rw [q3]; exact s25.keep a o q2 q3⟩
    cases c with
    | false =>
      obtain ⟨c1, c2, c3, c4⟩ := carry s4
      show i + 1 ≤ ds.length ∧ _
      exact ⟨hlt, G4, acc, vsl, fp, c4, c1, c2, c3, fr, nD, Nat.le_succ_of_le hla, hc.2 rfl⟩
    | true =>
      show tOf K mg noE we σ' H4 _
      refine ⟨b, B, G4, ρ', noX, _, hc.1 rfl, ⟨hr'.stp s4, noXC⟩, fun G5 H5 y t fq ht s5 tr5 fr5 => ?_⟩
      have s35 := s4.trans s3.good s5
      obtain ⟨c1, c2, c3, c4⟩ := carry s35
      have lv : vsl.length = acc.length := tr.len
      refine ⟨vsl, c2, by rw [lv]; exact lim_lt (by omega), hlt, ?_⟩
      have fqH1 : ∀ a, a ∈ fq → H1 a = none := fun a z => (s13.trans gD s4).free gD (fr5 a z)
      have nDq : D ∉ fq := fun z => by
        have e4 := (carry s4).2.1
        rw [fr5 D z] at e4
        cases e4
      have dj : ∀ a, a ∈ fp → a ∉ fq := fun a z y => by
        obtain ⟨_, _, o, q⟩ := ((carry s4).2.2.1).mem a z
        rw [fr5 a y] at q
        cases q
      obtain ⟨fr', tr', sub'⟩ := TrAll.snoc c3 tr5 dj
      have nDr : D ∉ fr' := fun z => (sub' D z).elim nD nDq
      refine ⟨G5, acc ++ [t], vsl ++ [y], fr', ⟨c4.ex, ⟨fun a u e => ?_, fun a c => ?_⟩, fun a u n e => ?_, c4.out, fun a c => (boxc_eq (upd_ne fun q => nb (by rw [← q]; exact c))).trans (c4.cel a c)⟩, c1, upd_same, tr'.move (Ex.rfl' _) fun a z => ⟨(tr'.mem a z).1, upd_ne fun q => nDr (by rw [← q]; exact z)⟩, fun a z => (sub' a z).elim (fr a) (fqH1 a), nDr, by simp; omega, ht⟩
      · have na : a ≠ D := fun q => by
          rw [q, c1] at e
          cases e
        rw [upd_ne na]
        exact s5.good.ex a u e
      · obtain ⟨n, cc, cells, pos, rest, seed, q1, q2, q3⟩ := s5.good.box a c
        have na : a ≠ D := fun q => nb (by rw [← q]; exact c)
        exact ⟨n, cc, cells, pos, rest, seed, by rw [upd_ne na]; exact q1, q2, q3⟩
      · have na : a ≠ D := fun q => by
          rw [q, hD] at e
          cases e
        rw [upd_ne na]
        exact c4.keep a u n e
  · have e : i = ds.length := by omega
    subst e
    refine .inl ⟨wk.stops G2 H2 s2.ex s2.good, ?_⟩
    refine k G2 H2 (.ref D) (.node acc) (D :: fp) (ie acc inv) (s1.trans hr.good s2) (.node h2D g2D nb tr nD) fun a z => ?_
    rcases List.mem_cons.mp z with z | z
    · rw [z]
      exact s1.free hr.good hD
    · exact s1.free hr.good (fr a z)
section
variable {X : Cx} {E : SX}
theorem ts_nil : PTs X [] (ttOf X.K X.mg noE dYes) := ⟨fun pins s σ H Q I q => pts_nil.run pins s σ H Q I (by
  obtain ⟨b, B, G, ρ, xp, P, p, hr, k⟩ := q
  exact k G H true p hr.good.stp)⟩
theorem ts_one {c : Expr} {w : WT} (h : PT X c (ttOf X.K X.mg noE w)) : PTs X [c] (ttOf X.K X.mg noE w) := pts_one h
theorem d_lc {elt tg iter : Expr} {ifs : List Expr} {scope : Scope} {own : List (Str × Nat)} {pos : Pos} {wi : WI} {g : WG} {wt : WT} {we : WE} (hc : X.calm = true) (hN : X.N.Nodup) (hi : PI X tg iter (iOf X.K X.mg E wi)) (ok : BlkOk X.N X.env.scope scope own)
    (hg : ∀ (s : Shared) (H : Hp) (C : Addr) (cl : List (Str × Addr)) (fp : List Addr), PG (X.blk s H scope (compEnvC scope cl C X.env) fp) tg (gOf X.K (own.map (·.2)) g)) (ht : ∀ (s : Shared) (H : Hp) (C : Addr) (cl : List (Str × Addr)) (fp : List Addr), PTs (X.blk s H scope (compEnvC scope cl C X.env) fp) ifs (ttOf X.K X.mg noE wt))
    (he : ∀ (s : Shared) (H : Hp) (C : Addr) (cl : List (Str × Addr)) (fp : List Addr), PE (X.blk s H scope (compEnvC scope cl C X.env) fp) elt (tOf X.K X.mg noE we)) (hs : ∀ x, foldedSetIterable iter X.env x = pure x := by intro _; rfl) :
    PE X (.ListComp elt [⟨tg, iter, ifs, 0⟩] scope pos) (tOf X.K X.mg E (dLc wi g wt we (own.map (·.2)))) := PE.of (pe_lc hc hN hi ok hg ht he hs) fun σ H Q q => dlc_core q
end
end Dd
namespace Dd
open PySem L2
/-! ### a slot's tree taken out and put back -/
structure EnvX (b : Option Addr) (B Hb G H : Hp) (σ : L2.St) (ρ : Rho) (i : Nat) (fp : List Addr) : Prop where
  len : σ.length = ρ.length
  ex : ∃ fps : Nat → List Addr, (∀ (j : Nat) t, j ≠ i → ρ[j]? = some (some t) → ∃ v, σ[j]? = some (some v) ∧ Tr b G H (fps j) v t) ∧
    (∀ j a, j ≠ i → a ∈ fps j → B a = none ∧ G a = none ∧ b ≠ some a ∧ (∃ o, Hb a = some o ∧ H a = some o) ∧ a ∉ fp) ∧ ∀ j j' a, j ≠ i → j' ≠ i → j ≠ j' → a ∈ fps j → a ∉ fps j'
section
variable {K : PySem.W.Frag} {b : Option Addr} {B Hb G H G' H' : Hp} {σ : L2.St} {ρ : Rho} {i : Nat} {fp : List Addr}
theorem Env.take {t : T} (E : Env b B G H σ ρ) (e : ρ[i]? = some (some t)) : ∃ fp v, σ[i]? = some (some v) ∧ Tr b G H fp v t ∧ (∀ a, a ∈ fp → B a = none) ∧ EnvX b B H G H σ ρ i fp := by
  obtain ⟨hl, fps, h1, h2, h3⟩ := E
  obtain ⟨v, e1, tr⟩ := h1 i t e
  refine ⟨fps i, v, e1, tr, fun a m => (h2 i a m).1, hl, fps, fun j u _ q => h1 j u q, fun j a n m => ?_, fun j j' a _ _ n m => h3 j j' a n m⟩
  obtain ⟨q1, q2, q3, o, q4⟩ := h2 j a m
  exact ⟨q1, q2, q3, ⟨o, q4, q4⟩, h3 j i a n m⟩
/-- a slot that will be written -/
theorem Env.drop (E : Env b B G H σ ρ) (i : Nat) : EnvX b B H G H σ ρ i [] := by
  obtain ⟨hl, fps, h1, h2, h3⟩ := E
  refine ⟨hl, fps, fun j u _ q => h1 j u q, fun j a n m => ?_, fun j j' a _ _ n m => h3 j j' a n m⟩
  obtain ⟨q1, q2, q3, o, q4⟩ := h2 j a m
  exact ⟨q1, q2, q3, ⟨o, q4, q4⟩, fun z => nomatch z⟩
theorem EnvX.stp (E : EnvX b B Hb G H σ ρ i fp) (s : Stp K b G H G' H') : EnvX b B Hb G' H' σ ρ i fp := by
  obtain ⟨hl, fps, h1, h2, h3⟩ := E
  have kk : ∀ j a, j ≠ i → a ∈ fps j → G' a = none ∧ H' a = H a := fun j a n m => by
    obtain ⟨_, g, c, ⟨o, _, e⟩, _⟩ := h2 j a n m
    exact ⟨s.out a o g e, by rw [e]; exact s.keep a o c e⟩
  refine ⟨hl, fps, fun j u n q => ?_, fun j a n m => ?_, h3⟩
  · obtain ⟨v, e1, tr⟩ := h1 j u n q
    exact ⟨v, e1, tr.move s.ex fun a m => kk j a n m⟩
  · obtain ⟨q1, g, c, ⟨o, e⟩, q5⟩ := h2 j a n m
    exact ⟨q1, (kk j a n m).1, c, ⟨o, by rw [(kk j a n m).2]; exact e⟩, q5⟩
theorem EnvX.back {H2 : Hp} {fp' : List Addr} {v : V} {t : T} (E : EnvX b B Hb G H σ ρ i fp) (k : ∀ a o, a ∉ fp → b ≠ some a → H a = some o → H2 a = some o) (tr : Tr b G H2 fp' v t) (sub : ∀ a, a ∈ fp' → B a = none ∧ (a ∈ fp ∨ Hb a = none)) :
    Env b B G H2 (σ.set i (some v)) (ρ.set i (some t)) := by
  obtain ⟨hl, fps, h1, h2, h3⟩ := E
  have off : ∀ j a, j ≠ i → a ∈ fps j → a ∉ fp' := fun j a n m z => by
    obtain ⟨_, _, _, ⟨o, e, _⟩, q5⟩ := h2 j a n m
    rcases (sub a z).2 with y | y
    · exact q5 y
    · rw [y] at e
      cases e
  refine ⟨by rw [List.length_set, List.length_set]; exact hl, fun j => if j = i then fp' else fps j, fun j u e => ?_, fun j a m => ?_, fun j j' a n m => ?_⟩
  · by_cases c : j = i
    · subst c
      have hi : j < ρ.length := by
        have := (List.getElem?_eq_some_iff.mp e).1
        rw [List.length_set] at this
        exact this
      rw [List.getElem?_set_self hi] at e
      cases e
      exact ⟨v, by rw [List.getElem?_set_self (by rw [hl]; exact hi)], by simp only [if_pos]; exact tr⟩
    · rw [List.getElem?_set_ne (Ne.symm c)] at e ⊢
      obtain ⟨w, e1, q⟩ := h1 j u c e
      refine ⟨w, e1, ?_⟩
      simp only [if_neg c]
      exact q.move (Ex.rfl' _) fun a m => by
        obtain ⟨_, g, cc, ⟨o, _, e⟩, q5⟩ := h2 j a c m
        exact ⟨g, by rw [e]; exact k a o q5 cc e⟩
  · by_cases c : j = i
    · simp only [if_pos c] at m
      obtain ⟨g, cc, o⟩ := tr.mem a m
      exact ⟨(sub a m).1, g, cc, o⟩
    · simp only [if_neg c] at m
      obtain ⟨z, g, cc, ⟨o, _, e⟩, q5⟩ := h2 j a c m
      exact ⟨z, g, cc, o, k a o q5 cc e⟩
  · by_cases c : j = i
    · simp only [if_pos c] at m
      have c' : j' ≠ i := fun q => n (c.trans q.symm)
      simp only [if_neg c']
      exact fun q => off j' a c' q m
    · simp only [if_neg c] at m
      by_cases c' : j' = i
      · simp only [if_pos c']
        exact off j a c m
      · simp only [if_neg c']
        exact h3 j j' a c c' n m
end
theorem set_same {σ : L2.St} {i : Nat} {v : V} (e : σ[i]? = some (some v)) : σ.set i (some v) = σ := by
  refine List.ext_getElem? fun j => ?_
  by_cases c : j = i
  · subst c
    have hi := (List.getElem?_eq_some_iff.mp e).1
    rw [List.getElem?_set_self hi, e]
  · rw [List.getElem?_set_ne (Ne.symm c)]

/-! ### statements -/
structure At (K : PySem.W.Frag) (b : Option Addr) (F G0 H0 : Hp) (ρ : Rho) (σ : L2.St) (H : Hp) : Prop where
  ex : ∃ G, Ex F G ∧ Stp K b G0 H0 G H ∧ Env b H0 G H σ ρ
structure EndsOk (K : PySem.W.Frag) (mg : Str → Option Value) (E : SX) (b : Option Addr) (F G0 H0 : Hp) (C : Ctl) (D : Ends) : Prop where
  nx : ∀ ρ σ H, C.nx ρ → At K b F G0 H0 ρ σ H → D.nx σ H
  bk : ∀ ρ σ H, C.bk ρ → At K b F G0 H0 ρ σ H → D.bk σ H
  ct : ∀ ρ σ H, C.ct ρ → At K b F G0 H0 ρ σ H → D.ct σ H
  rt : ∀ (t : T) (v : V) (fp : List Addr) (G H : Hp), C.rt t → Stp K b G0 H0 G H → Tr b G H fp v t → (∀ a, a ∈ fp → H0 a = none) → D.rt v H
  xc : ∀ (ρ : Rho) (σ : L2.St) (n : Str) (pl : PyData) (c d : Addr) (G H : Hp), C.xc ρ n pl → Ex F G → Stp K b G0 H0 G H → Env b H0 G H σ ρ → mg n = some (.ref c) → G d = some (.xd (exF n pl)) → E σ (.ref c) (some d) H
def sOf (K : PySem.W.Frag) (mg : Str → Option Value) (E : SX) (w : WS) : TS := fun D σ H => ∃ (b : Option Addr) (F G0 H0 : Hp) (ρ : Rho) (C : Ctl), w C ρ ∧ Good K b G0 H0 ∧ At K b F G0 H0 ρ σ H ∧ EndsOk K mg E b F G0 H0 C D
section
variable {K : PySem.W.Frag} {mg : Str → Option Value} {E : SX} {b : Option Addr} {F G0 H0 G H G' H' : Hp} {σ : L2.St} {ρ : Rho} {C : Ctl} {D : Ends}
theorem At.site (g0 : Good K b G0 H0) (h : At K b F G0 H0 ρ σ H) (eo : EndsOk K mg E b F G0 H0 C D) : ∃ G, Ex F G ∧ Stp K b G0 H0 G H ∧ Site K mg (E σ) b H0 G H σ ρ (C.xc ρ) := by
  obtain ⟨G, e1, s, E1⟩ := h
  refine ⟨G, e1, s, ⟨⟨s.good, E1, fun a e => s.free g0 e⟩, fun n pl c d G' H' x m e s2 => ?_⟩⟩
  exact eo.xc ρ σ n pl c d G' H' x (e1.trans s2.ex) (s.trans g0 s2) (E1.stp s2) m e
/-- what was fresh at a step is fresh at the start -/
theorem Stp.fresh0 (g0 : Good K b G0 H0) (s : Stp K b G0 H0 G H) {a : Addr} (e : H a = none) : H0 a = none := s.free g0 e
/-- the slot i takes a new tree -/
theorem At.put {fp : List Addr} {v : V} {t : T} (i : Nat) (g0 : Good K b G0 H0) (e1 : Ex F G) (s : Stp K b G0 H0 G H) (E1 : Env b H0 G H σ ρ) (s2 : Stp K b G H G' H') (tr : Tr b G' H' fp v t) (fr : ∀ a, a ∈ fp → H a = none) : At K b F G0 H0 (ρ.set i (some t)) (σ.set i (some v)) H' := by
  have EX := (E1.drop i)
  obtain ⟨hl, fps, h1, h2, h3⟩ := EX
  have EX' : EnvX b H0 H G' H σ ρ i [] := by
    refine ⟨hl, fps, fun j u n q => ?_, fun j a n m => ?_, h3⟩
    · obtain ⟨v, e1, tr⟩ := h1 j u n q
      exact ⟨v, e1, tr.move s2.ex fun a m => by
        obtain ⟨_, g, c, ⟨o, _, e⟩, _⟩ := h2 j a n m
        exact ⟨s2.out a o g e, rfl⟩⟩
    · obtain ⟨q1, g, c, ⟨o, eb, e⟩, q5⟩ := h2 j a n m
      exact ⟨q1, s2.out a o g e, c, ⟨o, eb, e⟩, q5⟩
  exact ⟨G', e1.trans s2.ex, s.trans g0 s2, EX'.back (fun a o _ c e => s2.keep a o c e) tr fun a m => ⟨s.free g0 (fr a m), .inr (fr a m)⟩⟩
/-- an own list is written in place -/
theorem At.mut {Hb : Hp} {fp fp' : List Addr} {p : Addr} {xs : List V} {t : T} {i : Nat} (g0 : Good K b G0 H0) (e1 : Ex F G) (s : Stp K b G0 H0 G H) (EX : EnvX b H0 Hb G H σ ρ i fp) (ei : σ[i]? = some (some (.ref p))) (hp : p ∈ fp) (hB : ∀ a, a ∈ fp → H0 a = none) (gp : G p = none) (bp : b ≠ some p)
    (tr : Tr b G (upd H p (.lst xs)) fp' (.ref p) t) (sub : ∀ a, a ∈ fp' → H0 a = none ∧ (a ∈ fp ∨ Hb a = none)) : At K b F G0 H0 (ρ.set i (some t)) σ (upd H p (.lst xs)) := by
  have st : Stp K b G0 H0 G (upd H p (.lst xs)) := by
    refine ⟨s.ex, ⟨fun a u e => ?_, fun a c => ?_⟩, fun a u n e => ?_, s.out, fun a c => (boxc_eq (upd_ne fun q => bp (by rw [← q]; exact c))).trans (s.cel a c)⟩
    · have na : a ≠ p := fun q => by
        rw [q, gp] at e
        cases e
      rw [upd_ne na]
      exact s.good.ex a u e
    · obtain ⟨n, cc, cells, pos, rest, seed, q1, q2, q3⟩ := s.good.box a c
      have na : a ≠ p := fun q => bp (by rw [← q]; exact c)
      exact ⟨n, cc, cells, pos, rest, seed, by rw [upd_ne na]; exact q1, q2, q3⟩
    · have na : a ≠ p := fun q => by
        rw [q, hB p hp] at e
        cases e
      rw [upd_ne na]
      exact s.keep a u n e
  have E2 := EX.back (H2 := upd H p (.lst xs)) (fun a o n _ e => by
    rw [upd_ne fun q => n (by rw [q]; exact hp)]
    exact e) tr sub
  rw [set_same ei] at E2
  exact ⟨G, e1, st, E2⟩
end
section
variable {X : Cx} {E : SX} {st : Stmt} {rest : List Stmt} {e e2 : Expr} {we wa wb : WE} {wt : WT} {w u : WS} {pos p : Pos}
theorem PS.of {t : TS} (h : PS X st t) (k : ∀ D σ H, sOf X.K X.mg E w D σ H → t D σ H) : PS X st (sOf X.K X.mg E w) := ⟨fun pins s σ H D I q => h.run pins s σ H D I (k D σ H q)⟩
theorem PSs.of {t : TS} (h : PSs X rest t) (k : ∀ D σ H, sOf X.K X.mg E w D σ H → t D σ H) : PSs X rest (sOf X.K X.mg E w) := ⟨fun pins s σ H D I q => h.run pins s σ H D I (k D σ H q)⟩
def dNext : WS := fun C ρ => C.nx ρ
def dSeq (w u : WS) : WS := fun C ρ => w { C with nx := u C } ρ
def dBreak : WS := fun C ρ => C.bk ρ
def dCont : WS := fun C ρ => C.ct ρ
theorem s_nil : PSs X [] (sOf X.K X.mg E dNext) := PSs.of pss_nil fun D σ H ⟨b, F, G0, H0, ρ, C, q, g0, a, eo⟩ => eo.nx ρ σ H q a
theorem s_one (h : PS X st (sOf X.K X.mg E w)) : PSs X [st] (sOf X.K X.mg E w) := pss_one h
theorem s_cons (h1 : PS X st (sOf X.K X.mg E w)) (h2 : PSs X rest (sOf X.K X.mg E u)) : PSs X (st :: rest) (sOf X.K X.mg E (dSeq w u)) := PSs.of (pss_cons h1 h2) fun D σ H ⟨b, F, G0, H0, ρ, C, q, g0, a, eo⟩ =>
  ⟨b, F, G0, H0, ρ, _, q, g0, a, ⟨fun ρ σ H q a => ⟨b, F, G0, H0, ρ, C, q, g0, a, eo⟩, eo.bk, eo.ct, eo.rt, eo.xc⟩⟩
/-- a row, then the rest, with a word between them -/
def dCut (w u : WS) : WS := fun C ρ => ∃ Mid : Rho → Prop, w { C with nx := Mid } ρ ∧ ∀ ρ', Mid ρ' → u C ρ'
theorem s_cut (h1 : PS X st (sOf X.K X.mg E w)) (h2 : PSs X rest (sOf X.K X.mg E u)) : PSs X (st :: rest) (sOf X.K X.mg E (dCut w u)) := PSs.of (pss_cons h1 h2) fun D σ H ⟨b, F, G0, H0, ρ, C, ⟨Mid, q, m⟩, g0, a, eo⟩ =>
  ⟨b, F, G0, H0, ρ, _, q, g0, a, ⟨fun ρ σ H q a => ⟨b, F, G0, H0, ρ, C, m ρ q, g0, a, eo⟩, eo.bk, eo.ct, eo.rt, eo.xc⟩⟩
theorem s_pass : PS X (.Pass pos) (sOf X.K X.mg E dNext) := PS.of ps_pass fun D σ H ⟨b, F, G0, H0, ρ, C, q, g0, a, eo⟩ => eo.nx ρ σ H q a
theorem s_break : PS X (.Break pos) (sOf X.K X.mg E dBreak) := PS.of ps_break fun D σ H ⟨b, F, G0, H0, ρ, C, q, g0, a, eo⟩ => eo.bk ρ σ H q a
theorem s_cont : PS X (.Continue pos) (sOf X.K X.mg E dCont) := PS.of ps_continue fun D σ H ⟨b, F, G0, H0, ρ, C, q, g0, a, eo⟩ => eo.ct ρ σ H q a
/-- name = e -/
def dAsg (i : Nat) (we : WE) : WS := fun C ρ => we (C.xc ρ) ρ fun t => C.nx (ρ.set i (some t))
theorem s_asg (i : Nat) {x : Str} {pos' : Pos} (hN : X.N.Nodup) (he : PE X e (tOf X.K X.mg E we)) (hi : X.N[i]? = some x := by rfl) (hx : Loc X.env.scope x := by first | exact Or.inl rfl | exact Or.inr rfl) (hs : swapsWith e (some (.Name x pos')) pos.line X.env = pure false := by rfl) (hf : X.fn x = true ∨ X.env.scope.names.lookup x = some .local := by first | exact .inl rfl | exact .inr rfl | assumption) :
    PS X (.Assign [.Name x pos'] e pos) (sOf X.K X.mg E (dAsg i we)) := PS.of (ps_set hN hi hx he hs hf) fun D σ H ⟨b, F, G0, H0, ρ, C, q, g0, a, eo⟩ => by
  obtain ⟨G, e1, s, hr⟩ := a.site g0 eo
  exact ⟨b, H0, G, ρ, C.xc ρ, _, q, hr, fun G' H' v t fp hp s2 tr fr => eo.nx _ _ _ hp (At.put i g0 e1 s hr.env s2 tr fr)⟩
/-- .. a comprehension to a local name -/
theorem s_setLc {i : Nat} {y : Str} {py : Pos} {elt tg iter : Expr} {ifs : List Expr} {scope : Scope} {own : List (Str × Nat)} {pos spos : Pos} {wi : WI} {g : WG} {wt : WT} {we : WE} (hc : X.calm = true) (hN : X.N.Nodup) (hy : X.N[i]? = some y) (hyl : X.env.scope.names.lookup y = some .local)
    (hsw : swapsWith (.ListComp elt [⟨tg, iter, ifs, 0⟩] scope pos) (some (.Name y py)) spos.line X.env = pure true) (hi : PI X tg iter (iOf X.K X.mg E wi)) (ok : BlkOk X.N X.env.scope scope own)
    (hg : ∀ (s : Shared) (H : Hp) (C : Addr) (cl : List (Str × Addr)) (fp : List Addr), PG (X.blk s H scope (compEnvC scope cl C X.env) fp) tg (gOf X.K (own.map (·.2)) g)) (ht : ∀ (s : Shared) (H : Hp) (C : Addr) (cl : List (Str × Addr)) (fp : List Addr), PTs (X.blk s H scope (compEnvC scope cl C X.env) fp) ifs (ttOf X.K X.mg noE wt))
    (he : ∀ (s : Shared) (H : Hp) (C : Addr) (cl : List (Str × Addr)) (fp : List Addr), PE (X.blk s H scope (compEnvC scope cl C X.env) fp) elt (tOf X.K X.mg noE we)) (hs : ∀ x, foldedSetIterable iter X.env x = pure x := by intro _; rfl) :
    PS X (.Assign [.Name y py] (.ListComp elt [⟨tg, iter, ifs, 0⟩] scope pos) spos) (sOf X.K X.mg E (dAsg i (dLc wi g wt we (own.map (·.2))))) := PS.of (ps_setLc hc hN hy hyl hsw hi ok hg ht he hs) fun D σ H ⟨b, F, G0, H0, ρ, C, q, g0, a, eo⟩ => by
  obtain ⟨G, e1, s, hr⟩ := a.site g0 eo
  exact dlc_core ⟨b, H0, G, ρ, C.xc ρ, _, q, hr, fun G' H' v t fp hp s2 tr fr => eo.nx _ _ _ hp (At.put i g0 e1 s hr.env s2 tr fr)⟩
/-- target = e, settled -/
def dAsgG (wg : WG) (we : WE) : WS := fun C ρ => we (C.xc ρ) ρ fun t => wg t.dat ρ C.nx
theorem s_asgG {tg : Expr} {ts : List Nat} {wg : WG} (he : PE X e (tOf X.K X.mg E we)) (hg : PG X tg (gOf X.K ts wg)) (hs : swapsWithSole [tg] e pos.line X.env = pure false := by rfl) (hw : swappedStores [tg] e X.env = pure none := by rfl) (h1 : (assignEach [tg] X.env).map (·.2) = [assign tg X.env] := by rfl) :
    PS X (.Assign [tg] e pos) (sOf X.K X.mg E (dAsgG wg we)) := PS.of (ps_asg he hg hs hw h1) fun D σ H ⟨b, F, G0, H0, ρ, C, q, g0, a, eo⟩ => by
  obtain ⟨G, e1, s, hr⟩ := a.site g0 eo
  exact tOfD_of ⟨b, H0, G, ρ, C.xc ρ, fun d => wg d ρ C.nx, q, hr, fun G' H' v d hp s2 hr2 r => ⟨b, H0, G', ρ, d, _, hp, hr2.toHere, r, fun σ' ρ' h1 h2 _ => eo.nx _ _ _ h1 ⟨G', e1.trans s2.ex, s.trans g0 s2, h2.env⟩⟩⟩
/-- a, b = e1, e2 -/
def dPar (i j : Nat) (ws : WA) : WS := fun C ρ => ws (C.xc ρ) ρ fun ds => match ds with
  | [d, e] => C.nx ((ρ.set i (some (.leaf d))).set j (some (.leaf e)))
  | _ => False
theorem s_par {i j : Nat} {x y : Str} {a b : Expr} {ws : WA} {px py pt : Pos} {kt k2 pt2} (hc : X.calm = true) (hN : X.N.Nodup) (ha : PA X [a, b] (aOf X.K X.mg E ws)) (hi : X.N[i]? = some x := by rfl) (hj : X.N[j]? = some y := by rfl) (hij : i ≠ j := by decide)
    (hx : X.env.scope.names.lookup x = some .local := by rfl) (hy : X.env.scope.names.lookup y = some .local := by rfl)
    (hw : swappedStores [.Tuple [.Name x px, .Name y py] kt pt] (.Tuple [a, b] k2 pt2) X.env = pure (some [x, y]) := by rfl)
    (hs : swapsWithSole [.Tuple [.Name x px, .Name y py] kt pt] (.Tuple [a, b] k2 pt2) pos.line X.env = pure false := by rfl) :
    PS X (.Assign [.Tuple [.Name x px, .Name y py] kt pt] (.Tuple [a, b] k2 pt2) pos) (sOf X.K X.mg E (dPar i j ws)) := PS.of (ps_par hc hN hi hj hij hx hy ha hw hs) fun D σ H ⟨b, F, G0, H0, ρ, C, q, g0, a, eo⟩ => by
  obtain ⟨G, e1, s, hr⟩ := a.site g0 eo
  refine ⟨b, H0, G, ρ, C.xc ρ, _, q, hr, fun G' H' vs ds hp s2 r => ?_⟩
  try dsimp only at hp
  split at hp
  · cases r with
    | cons r1 r2 =>
      cases r2 with
      | cons r3 r4 =>
        cases r4
        have hr2 := ((hr.toHere.stp s2).leaf i r1).leaf j r3
        exact ⟨_, _, rfl, eo.nx _ _ _ hp ⟨G', e1.trans s2.ex, s.trans g0 s2, hr2.env⟩⟩
  · exact hp.elim
/-- name += e -/
def dAug (f : Int → Int → Int) (i : Nat) (we : WE) : WS := fun C ρ => ∃ a, ρ[i]? = some (some (int a)) ∧ we (C.xc ρ) ρ fun t => match t with
  | .leaf (.int c) => C.nx (ρ.set i (some (int (f a c))))
  | _ => False
theorem s_aug {op : Operator} {f : Int → Int → Int} (ho : PIp X op (ipI f)) (i : Nat) {x : Str} {pos' : Pos} (hN : X.N.Nodup) (he : PE X e (tOf X.K X.mg E we)) (hi : X.N[i]? = some x := by rfl) (hx : Loc X.env.scope x := by first | exact Or.inl rfl | exact Or.inr rfl) (hf : X.fn x = true ∨ X.env.scope.names.lookup x = some .local := by first | exact .inl rfl | exact .inr rfl | assumption) :
    PS X (.AugAssign (.Name x pos') op e pos) (sOf X.K X.mg E (dAug f i we)) := PS.of (ps_aug hN hi hx he ho hf) fun D σ H ⟨b, F, G0, H0, ρ, C, ⟨a0, ea, q⟩, g0, a, eo⟩ => by
  obtain ⟨G, e1, s, hr⟩ := a.site g0 eo
  obtain ⟨fps, h1, h2, h3⟩ := hr.env.ex
  obtain ⟨v, ev, tr⟩ := h1 i _ ea
  generalize fps i = fp at tr
  cases tr with
  | leaf r =>
    cases r
    refine ⟨_, ev, b, H0, G, ρ, C.xc ρ, _, q, hr, fun G' H' v t fp hp s2 tr fr => ?_⟩
    try dsimp only at hp
    split at hp
    · cases tr with
      | leaf r =>
        cases r
        exact ⟨_, _, rfl, rfl, eo.nx _ _ _ hp (At.put i g0 e1 s hr.env s2 (.leaf (.int _)) (fun _ z => nomatch z))⟩
    · exact hp.elim
/-- return e -/
def dRet (we : WE) : WS := fun C ρ => we (C.xc ρ) ρ C.rt
theorem s_ret (he : PE X e (tOf X.K X.mg E we)) : PS X (.Return (some e) pos) (sOf X.K X.mg E (dRet we)) := PS.of (ps_ret he) fun D σ H ⟨b, F, G0, H0, ρ, C, q, g0, a, eo⟩ => by
  obtain ⟨G, e1, s, hr⟩ := a.site g0 eo
  exact ⟨b, H0, G, ρ, C.xc ρ, _, q, hr, fun G' H' v t fp hp s2 tr fr => eo.rt t v fp G' H' hp (s.trans g0 s2) tr fun a m => s.free g0 (fr a m)⟩
def dRetV (i : Nat) : WS := fun C ρ => ∃ t, ρ[i]? = some (some t) ∧ C.rt t
theorem s_retV (i : Nat) {x : Str} {p : Pos} (hN : X.N[i]? = some x := by rfl) (hv : Vis X.env.scope x := by first | exact Or.inl rfl | exact Or.inr (Or.inl rfl) | exact Or.inr (Or.inr rfl)) (hd : (x == ("__debug__" : Str)) = false := by decide) (hcd : (x == ("__classdict__" : Str)) = false := by decide) :
    PS X (.Return (some (.Name x p)) pos) (sOf X.K X.mg E (dRetV i)) := PS.of (ps_ret (pe_var hN hv hd hcd)) fun D σ H ⟨b, F, G0, H0, ρ, C, ⟨t, et, q⟩, g0, a, eo⟩ => by
  obtain ⟨G, e1, s, hr⟩ := a.site g0 eo
  obtain ⟨fp, v, ev, tr, hB, _⟩ := hr.env.take et
  exact ⟨v, ev, eo.rt t v fp G H q s tr hB⟩
/-- an expression for its own sake -/
def dDrop (we : WE) : WS := fun C ρ => we (C.xc ρ) ρ fun _ => C.nx ρ
theorem s_drop (he : PE X e (tOf X.K X.mg E we)) (hs : swapsWith e none pos.line X.env = pure false := by rfl) : PS X (.Expr e pos) (sOf X.K X.mg E (dDrop we)) := PS.of (ps_expr he hs) fun D σ H ⟨b, F, G0, H0, ρ, C, q, g0, a, eo⟩ => by
  obtain ⟨G, e1, s, hr⟩ := a.site g0 eo
  exact ⟨b, H0, G, ρ, C.xc ρ, _, q, hr, fun G' H' v t fp hp s2 tr fr => eo.nx _ _ _ hp ⟨G', e1.trans s2.ex, s.trans g0 s2, hr.env.stp s2⟩⟩
/-- if -/
def dIf (wt : WT) (w u : WS) : WS := fun C ρ => wt (C.xc ρ) ρ fun k => (k = true → w C ρ) ∧ (k = false → u C ρ)
theorem s_if {c : Expr} {a b : List Stmt} (hc : PT X c (ttOf X.K X.mg E wt)) (ha : PSs X a (sOf X.K X.mg E w)) (hb : PSs X b (sOf X.K X.mg E u)) : PS X (.If c a b pos) (sOf X.K X.mg E (dIf wt w u)) := PS.of (ps_if hc ha hb) fun D σ H ⟨b, F, G0, H0, ρ, C, q, g0, a, eo⟩ => by
  obtain ⟨G, e1, s, hr⟩ := a.site g0 eo
  refine ⟨b, H0, G, ρ, C.xc ρ, _, q, hr, fun G' H' k hp s2 => ?_⟩
  have at2 : At X.K b F G0 H0 ρ σ H' := ⟨G', e1.trans s2.ex, s.trans g0 s2, hr.env.stp s2⟩
  cases k with
  | true =>
    show sOf X.K X.mg E w D σ H'
    exact ⟨b, F, G0, H0, ρ, C, hp.1 rfl, g0, at2, eo⟩
  | false =>
    show sOf X.K X.mg E u D σ H'
    exact ⟨b, F, G0, H0, ρ, C, hp.2 rfl, g0, at2, eo⟩
/-- settle a slot -/
def dFrz (i : Nat) (w : WS) : WS := fun C ρ => ∃ t, ρ[i]? = some (some t) ∧ w C (ρ.set i (some (.leaf t.dat)))
theorem s_frz (i : Nat) (h : PSs X rest (sOf X.K X.mg E w)) : PSs X rest (sOf X.K X.mg E (dFrz i w)) := PSs.of h fun D σ H ⟨b, F, G0, H0, ρ, C, ⟨t, et, q⟩, g0, a, eo⟩ => by
  obtain ⟨G, e1, s, hr⟩ := a.site g0 eo
  obtain ⟨fp, v, ev, tr, hB, rp, g2, ex, E2⟩ := hr.env.settle hr.good et
  refine ⟨b, F, G0, H0, _, C, q, g0, ⟨addF G H fp, e1.trans ex, ⟨s.ex.trans ex, g2, s.keep, fun a o n e => ?_, s.cel⟩, E2⟩, eo⟩
  have na : a ∉ fp := fun z => by
    rw [hB a z] at e
    cases e
  rw [addF_out na]
  exact s.out a o n e
/-- xs.append(e) -/
def dApp (i : Nat) (we : WE) : WS := fun C ρ => ∃ ts, ρ[i]? = some (some (.node ts)) ∧ ts.length < lim ∧ we (C.xc ρ) ρ fun t => C.nx (ρ.set i (some (.node (ts ++ [t]))))
theorem s_app (i : Nat) {x : Str} {p apos cpos : Pos} (he : PE X e (tOf X.K X.mg E we)) (hN : X.N[i]? = some x := by rfl) (hv : Vis X.env.scope x := by first | exact Or.inl rfl | exact Or.inr (Or.inl rfl) | exact Or.inr (Or.inr rfl)) (hd : (x == ("__debug__" : Str)) = false := by decide) (hcd : (x == ("__classdict__" : Str)) = false := by decide)
    (hsw : swapsWith (.Call (.Attribute (.Name x p) "append" apos) [e] [] cpos) none pos.line X.env = pure false := by rfl)
    (hbase : attributeBase (.Name x p) "append" X.env (eval (.Name x p) X.env) = eval (.Name x p) X.env := by rfl)
    (hfew : ((backTo cpos (starEach [e] X.env)).all (fun x => !x.1) && (backToKw cpos (keywordEach [] X.env)).all (fun x => x.1.isSome)
      && decide (([e] : List Expr).length + ([] : List Keyword).length + (if ([] : List Keyword).isEmpty then 0 else 1) < 30)) = true := by rfl)
    (hline : (apos.endLine == cpos.line) = true := by rfl) (hs : starEach [e] X.env = (false, eval e X.env) :: starEach [] X.env := by rfl) (hplain : (backTo cpos (starEach [] X.env)).any (·.1) = false := by rfl) :
    PS X (.Expr (.Call (.Attribute (.Name x p) "append" apos) [e] [] cpos) pos) (sOf X.K X.mg E (dApp i we)) :=
  PS.of (ps_expr (pe_bm PySem.F.plainAttrs_list PySem.F.slot_list_append PySem.F.type_list_append mt_append (pe_var hN hv hd hcd) (pa_cons he pa_nil hs) hbase hfew hline hs hplain) hsw) fun D σ H ⟨b, F, G0, H0, ρ, C, ⟨ts, et, hl, q⟩, g0, a, eo⟩ => by
  obtain ⟨G, e1, s, hr⟩ := a.site g0 eo
  obtain ⟨fp, v, ev, tr, hB, EX⟩ := hr.env.take et
  cases tr with
  | node hp gp bp rr np =>
    rename_i pp fq vs
    refine ⟨_, ev, .inl ⟨rfl, _, .inl (.inl hp)⟩, b, H0, G, ρ, C.xc ρ, _, q, hr, fun G' H' v t fv ht s2 tr2 fr => ?_⟩
    have hp' : H' pp = some (.lst vs) := s2.keep _ _ bp hp
    have gp' : G' pp = none := s2.out _ _ gp hp
    have rr' := rr.move (G' := G') (H' := H') s2.ex fun a m => by
      obtain ⟨q1, q2, o, q3⟩ := rr.mem a m
      exact ⟨s2.out a o q1 q3, by rw [q3]; exact s2.keep a o q2 q3⟩
    have dj : ∀ a, a ∈ fq → a ∉ fv := fun a m z => by
      obtain ⟨q1, q2, o, q3⟩ := rr.mem a m
      rw [fr a z] at q3
      cases q3
    have npv : pp ∉ fv := fun z => by
      rw [fr _ z] at hp
      cases hp
    obtain ⟨fn, tr3, sub⟩ := TrAll.snoc rr' tr2 dj
    have npn : pp ∉ fn := fun z => (sub _ z).elim np npv
    refine ⟨pp, vs, v, rfl, rfl, hp', by rw [rr.len]; exact lim_lt hl, eo.nx _ _ _ ht ?_⟩
    refine At.mut (fp' := pp :: fn) g0 (e1.trans s2.ex) (s.trans g0 s2) (EX.stp s2) ev (List.mem_cons_self ..) hB gp' bp (.node upd_same gp' bp (tr3.move (Ex.rfl' _) fun a m => ⟨(tr3.mem a m).1, upd_ne fun z => npn (by rw [← z]; exact m)⟩) npn) fun a m => ?_
    rcases List.mem_cons.mp m with m | m
    · rw [m]
      exact ⟨hB _ (List.mem_cons_self ..), .inl (List.mem_cons_self ..)⟩
    · rcases sub a m with z | z
      · exact ⟨hB _ (List.mem_cons_of_mem _ z), .inl (List.mem_cons_of_mem _ z)⟩
      · exact ⟨s.free g0 (fr a z), .inr (fr a z)⟩
end
end Dd
namespace Dd
open PySem L2
theorem ixN_at {n : Nat} {k : Int} {j : Nat} (h : ixN n k = some j) : j < n := (ixN_seq h).2.1
theorem ixN_of {n : Nat} {k : Int} (h0 : 0 ≤ k) (h1 : k < n) : ixN n k = some k.toNat := by
  unfold ixN
  rw [if_pos h0, if_pos h1]
theorem TrAll.at {b : Option Addr} {G H : Hp} : ∀ {fp : List Addr} {vs : List V} {ts : List T} {j : Nat} {d : PyData}, TrAll b G H fp vs ts → ts[j]? = some (.leaf d) → ∃ v, vs[j]? = some v ∧ Rp b G v d
  | _, _, _, _, _, .nil, e => by simp at e
  | _, _, _, 0, d, .cons q r k, e => by
    simp at e
    subst e
    cases q with
    | leaf h => exact ⟨_, rfl, h⟩
  | _, _, _, j + 1, d, .cons q r k, e => by
    obtain ⟨v, h1, h2⟩ := TrAll.at (j := j) (d := d) r (by simpa using e)
    exact ⟨v, by simpa using h1, h2⟩
section
variable {X : Cx} {E : SX} {st : Stmt} {rest : List Stmt} {e e2 : Expr} {we wa wj wb : WE} {wt : WT} {w u : WS} {pos p tpos : Pos}
/-- x[j] = e, x a list of one's own -/
def dSetI (i : Nat) (wj we : WE) : WS := fun C ρ => we (C.xc ρ) ρ fun t => ∃ ts, ρ[i]? = some (some (.node ts)) ∧ wj (C.xc ρ) ρ fun v => match v with
  | .leaf (.int k) => ∃ n, ixN ts.length k = some n ∧ C.nx (ρ.set i (some (.node (ts.set n (.leaf t.dat)))))
  | _ => False
/-- an own flat place written -/
theorem own_set {K : PySem.W.Frag} {b : Option Addr} {F G0 H0 G H : Hp} {σ : L2.St} {ρ : Rho} {i : Nat} {ts : List T} {n : Nat} {v : V} {d : PyData} (g0 : Good K b G0 H0) (e1 : Ex F G) (s : Stp K b G0 H0 G H) (E1 : Env b H0 G H σ ρ) (et : ρ[i]? = some (some (.node ts))) (r : Rp b G v d) :
    ∃ q vs, σ[i]? = some (some (.ref q)) ∧ H q = some (.lst vs) ∧ vs.length = ts.length ∧ (∀ (j : Nat) d', ts[j]? = some (.leaf d') → ∃ u, vs[j]? = some u ∧ Rp b G u d') ∧ At K b F G0 H0 (ρ.set i (some (.node (ts.set n (.leaf d))))) σ (upd H q (.lst (vs.set n v))) := by
  obtain ⟨fp, v, ev, tr, hB, EX⟩ := E1.take et
  cases tr with
  | node hp gp bp rr np =>
    rename_i pp fq vs
    refine ⟨pp, vs, ev, hp, rr.len, fun j d' h => rr.at h, ?_⟩
    obtain ⟨fn, tr3, sub⟩ := TrAll.setLeaf r n rr
    have npn : pp ∉ fn := fun z => np (sub _ z)
    refine At.mut (fp' := pp :: fn) g0 e1 s EX ev (List.mem_cons_self ..) hB gp bp (.node upd_same gp bp (tr3.move (Ex.rfl' _) fun a m => ⟨(tr3.mem a m).1, upd_ne fun z => npn (by rw [← z]; exact m)⟩) npn) fun a m => ?_
    rcases List.mem_cons.mp m with m | m
    · rw [m]
      exact ⟨hB _ (List.mem_cons_self ..), .inl (List.mem_cons_self ..)⟩
    · exact ⟨hB _ (List.mem_cons_of_mem _ (sub a m)), .inl (List.mem_cons_of_mem _ (sub a m))⟩
theorem env_node {K : PySem.W.Frag} {b : Option Addr} {B G H : Hp} {σ : L2.St} {ρ : Rho} {i : Nat} {ts : List T} (E1 : Env b B G H σ ρ) (et : ρ[i]? = some (some (.node ts))) :
    ∃ q vs, σ[i]? = some (some (.ref q)) ∧ H q = some (.lst vs) ∧ vs.length = ts.length ∧ b ≠ some q ∧ ∀ (j : Nat) d', ts[j]? = some (.leaf d') → ∃ u, vs[j]? = some u ∧ Rp b G u d' := by
  obtain ⟨fp, v, ev, tr, hB, EX⟩ := E1.take et
  cases tr with
  | node hp gp bp rr np => exact ⟨_, _, ev, hp, rr.len, bp, fun j d' h => rr.at h⟩
theorem s_setI (i : Nat) {x : Str} {kp : Pos} (hN : X.N[i]? = some x := by rfl) (hv : Vis X.env.scope x := by first | exact Or.inl rfl | exact Or.inr (Or.inl rfl) | exact Or.inr (Or.inr rfl)) (hd : (x == ("__debug__" : Str)) = false := by decide) (hcd : (x == ("__classdict__" : Str)) = false := by decide)
    (hj : PE X e2 (tOf X.K X.mg E wj)) (he : PE X e (tOf X.K X.mg E we))
    (ha : ∀ v, assign (.Subscript (.Name x kp) e2 tpos) X.env v = (do
      let ov ← holding [v] (eval (.Name x kp) X.env)
      let iv ← holding [v, ov] (eval e2 X.env)
      standAt tpos
      holding [v, ov, iv] (setItem ov iv v)
      release [v, ov, iv] []) := by intro _; rfl)
    (hs : swapsWithSole [.Subscript (.Name x kp) e2 tpos] e pos.line X.env = pure false := by rfl) (hw : swappedStores [.Subscript (.Name x kp) e2 tpos] e X.env = pure none := by rfl) (h1 : (assignEach [.Subscript (.Name x kp) e2 tpos] X.env).map (·.2) = [assign (.Subscript (.Name x kp) e2 tpos) X.env] := by rfl) :
    PS X (.Assign [.Subscript (.Name x kp) e2 tpos] e pos) (sOf X.K X.mg E (dSetI i wj we)) := PS.of (ps_asg he (pg_sub (pe_var hN hv hd hcd) hj set_list ha) hs hw h1) fun D σ H ⟨b, F, G0, H0, ρ, C, q, g0, a, eo⟩ => by
  obtain ⟨G, e1, s, hr⟩ := a.site g0 eo
  refine tOfD_of ⟨b, H0, G, ρ, C.xc ρ, fun d => ∃ ts, ρ[i]? = some (some (.node ts)) ∧ wj (C.xc ρ) ρ fun v => match v with
    | .leaf (.int k) => ∃ n, ixN ts.length k = some n ∧ C.nx (ρ.set i (some (.node (ts.set n (.leaf d)))))
    | _ => False, q, hr, fun G1 H1 v d hp s1 hr1 rd => ?_⟩
  obtain ⟨ts, et, hp⟩ := hp
  obtain ⟨q0, vs0, ev, hq0, _, bq, _⟩ := env_node (K := X.K) hr1.env et
  refine ⟨_, ev, b, H0, G1, ρ, C.xc ρ, _, hp, hr1, fun G2 H2 u t fp ht s2 tr fr => ?_⟩
  try dsimp only at ht
  split at ht
  · obtain ⟨n, hn, q⟩ := ht
    cases tr with
    | leaf r =>
      cases r
      have s12 := s1.trans hr.good s2
      obtain ⟨q1, vs, ev1, hq1, hl, _, at2⟩ := own_set (n := n) g0 (e1.trans s12.ex) (s.trans g0 s12) (hr1.env.stp s2) et (rd.mono s2.ex)
      rw [ev] at ev1
      cases ev1
      exact ⟨_, vs, _, n, rfl, rfl, hq1, by rw [hl]; exact hn, eo.nx _ _ _ q at2⟩
  · exact ht.elim
/-- x[j] += e -/
def rGetI : V → V → Hp → VK → Prop := fun o i H Q => ∃ p xs k v, o = .ref p ∧ i = .int k ∧ H p = some (.lst xs) ∧ 0 ≤ k ∧ xs[k.toNat]? = some v ∧ Q v H
theorem get_list : PGet X rGetI := by
  intro pins s σ H o i ov iv Q I ro ri h
  obtain ⟨p, xs, k, v, rfl, rfl, hp, h0, hv, q⟩ := h
  cases ro
  obtain ⟨t, rfl⟩ := ri
  obtain ⟨its, r, pl, hz⟩ := I.list (.inl (.inl hp))
  obtain ⟨w, ew, rw'⟩ := r.get hv
  have hl := r.length
  have hi := (List.getElem?_eq_some_iff.mp hv).1
  have hn := line63
  exact PySem.wpAny_getItem_list pl.isList h0 (by omega) (by simpa using ew) ⟨v, H, I, rw', q⟩
def dAugI (f : Int → Int → Int) (i : Nat) (wj we : WE) : WS := fun C ρ => ∃ ts, ρ[i]? = some (some (.node ts)) ∧ wj (C.xc ρ) ρ fun v => match v with
  | .leaf (.int k) => ∃ a, 0 ≤ k ∧ ts[k.toNat]? = some (int a) ∧ we (C.xc ρ) ρ fun t => match t with
    | .leaf (.int c) => C.nx (ρ.set i (some (.node (ts.set k.toNat (int (f a c))))))
    | _ => False
  | _ => False
theorem s_augI {op : Operator} {f : Int → Int → Int} (ho : PIp X op (ipI f)) (i : Nat) {x : Str} {kp : Pos} (hj : PE X e2 (tOf X.K X.mg E wj)) (he : PE X e (tOf X.K X.mg E we)) (hN : X.N[i]? = some x := by rfl) (hv : Vis X.env.scope x := by first | exact Or.inl rfl | exact Or.inr (Or.inl rfl) | exact Or.inr (Or.inr rfl)) (hd : (x == ("__debug__" : Str)) = false := by decide) (hcd : (x == ("__classdict__" : Str)) = false := by decide)
    (ha : ∀ ov iv new, augStore e2 ov iv new = (do holding [new, ov, iv] (setItem ov iv new); release [new, ov, iv] []; pure .next) := by intros; rfl) :
    PS X (.AugAssign (.Subscript (.Name x kp) e2 tpos) op e pos) (sOf X.K X.mg E (dAugI f i wj we)) := PS.of (ps_augS (pe_var hN hv hd hcd) hj get_list he ho set_list ha) fun D σ H ⟨b, F, G0, H0, ρ, C, ⟨ts, et, q⟩, g0, a, eo⟩ => by
  obtain ⟨G, e1, s, hr⟩ := a.site g0 eo
  obtain ⟨q0, vs0, ev, hq0, _, bq, _⟩ := env_node (K := X.K) hr.env et
  refine ⟨_, ev, b, H0, G, ρ, C.xc ρ, _, q, hr, fun G1 H1 u t fp ht s1 tr fr => ?_⟩
  try dsimp only at ht
  split at ht
  · obtain ⟨a0, h0, ea, ht⟩ := ht
    cases tr with
    | leaf r =>
      cases r
      have hr1 := hr.stp s1
      obtain ⟨q1, vs1, ev1, hq1, hl1, _, at1⟩ := env_node (K := X.K) hr1.env et
      rw [ev] at ev1
      cases ev1
      obtain ⟨u1, hu1, ru1⟩ := at1 _ _ ea
      cases ru1
      refine ⟨_, _, _, _, rfl, rfl, hq1, h0, hu1, b, H0, G1, ρ, C.xc ρ, _, ht, hr1, fun G2 H2 u t fp ht s2 tr fr => ?_⟩
      try dsimp only at ht
      split at ht
      · cases tr with
        | leaf r =>
          cases r
          have s12 := s1.trans hr.good s2
          obtain ⟨q2, vs, ev2, hq2, hl, _, at2⟩ := own_set (n := _) g0 (e1.trans s12.ex) (s.trans g0 s12) (hr1.env.stp s2) et (.int _)
          rw [ev] at ev2
          cases ev2
          have hlt := (List.getElem?_eq_some_iff.mp ea).1
          exact ⟨_, _, rfl, rfl, _, vs, _, _, rfl, rfl, hq2, ixN_of h0 (by omega), eo.nx _ _ _ ht at2⟩
      · exact ht.elim
  · exact ht.elim

/-! ### loops -/
def dFor (wi : WI) (wg : WG) (wb : WS) : WS := fun C ρ => wi (C.xc ρ) ρ fun ds => ∃ Inv : Nat → Rho → Prop, Inv 0 ρ ∧
  (∀ i d ρ', ds[i]? = some d → Inv i ρ' → wg d ρ' fun ρ2 => wb { C with nx := Inv (i + 1), ct := Inv (i + 1), bk := C.nx } ρ2) ∧ ∀ ρ', Inv ds.length ρ' → C.nx ρ'
theorem s_for {iter tg : Expr} {body : List Stmt} {ts : List Nat} {wi : WI} {wg : WG} {wb : WS} (hp : PassesOwn (model X.prog X.w) X.A X.env X.xe) (hc : X.calm = true) (hi : PI X tg iter (iOf X.K X.mg E wi)) (hg : PG X tg (gOf X.K ts wg)) (hb : PSs X body (sOf X.K X.mg E wb))
    (hs : ∀ x, foldedSetIterable iter X.env x = pure x := by intro _; rfl) : PS X (.For tg iter body [] pos) (sOf X.K X.mg E (dFor wi wg wb)) := PS.of (ps_for hp hc hi hg hb hs) fun D σ H ⟨b, F, G0, H0, ρ, C, q, g0, a, eo⟩ => by
  obtain ⟨G, e1, s, hr⟩ := a.site g0 eo
  refine ⟨b, H0, G, ρ, C.xc ρ, _, q, hr, fun G1 H1 ds J hp s1 wk => ?_⟩
  obtain ⟨Inv, i0, it, ie⟩ := hp
  refine ⟨fun i m σ' H' => m = ds.length - i ∧ i ≤ ds.length ∧ ∃ ρ', Inv i ρ' ∧ At X.K b G1 G0 H0 ρ' σ' H', ⟨ds.length, by simp, Nat.zero_le _, ρ, i0, G1, Ex.rfl' _, s.trans g0 s1, hr.env.stp s1⟩, ?_⟩
  rintro i m σ' H' ⟨rfl, hi, ρ', inv, at1⟩
  obtain ⟨G2, e2, s2, E2⟩ := id at1
  by_cases hlt : i < ds.length
  · refine .inr ⟨wk.goes i G2 H' hlt e2 s2.good, fun σ2 H2 => i + 1 ≤ ds.length ∧ ∃ ρ2, Inv (i + 1) ρ2 ∧ At X.K b G1 G0 H0 ρ2 σ2 H2, fun σ2 H2 h => ⟨ds.length - (i + 1), by omega, rfl, h⟩, fun x H3 y => ?_⟩
    obtain ⟨G3, d, ed, s3, rd⟩ := wk.yields i G2 H' x H3 hlt e2 s2.good y
    have s23 := s2.trans g0 s3
    refine ⟨b, H0, G3, ρ', d, _, it i d ρ' ed inv, ⟨s3.good, E2.stp s3, fun a e => s23.free g0 e⟩, rd, fun σ4 ρ4 h4 hr4 _ => ?_⟩
    refine ⟨b, G1, G0, H0, ρ4, _, h4, g0, ⟨G3, e2.trans s3.ex, s23, hr4.env⟩, ⟨fun ρ5 σ5 H5 q5 a5 => ⟨hlt, ρ5, q5, a5⟩, fun ρ5 σ5 H5 q5 a5 => ?_, fun ρ5 σ5 H5 q5 a5 => ⟨hlt, ρ5, q5, a5⟩, eo.rt, fun ρ5 σ5 n pl c d G5 H5 q5 f5 s5 E5 => eo.xc _ _ _ _ _ _ _ _ q5 (e1.trans (s1.ex.trans f5)) s5 E5⟩⟩
    · obtain ⟨G5, f5, s5, E5⟩ := a5
      exact eo.nx _ _ _ q5 ⟨G5, e1.trans (s1.ex.trans f5), s5, E5⟩
  · have e : i = ds.length := by omega
    subst e
    exact .inl ⟨wk.stops G2 H' e2 s2.good, eo.nx _ _ _ (ie ρ' inv) ⟨G2, e1.trans (s1.ex.trans e2), s2, E2⟩⟩
def dWhile (wt : WT) (wb : WS) : WS := fun C ρ => ∃ Inv : Nat → Rho → Prop, (∃ m, Inv m ρ) ∧ ∀ m ρ', Inv m ρ' → wt (C.xc ρ') ρ' fun k => (k = true → wb { C with nx := fun ρ2 => ∃ m', m' < m ∧ Inv m' ρ2, ct := fun ρ2 => ∃ m', m' < m ∧ Inv m' ρ2, bk := C.nx } ρ') ∧ (k = false → C.nx ρ')
theorem s_while {c : Expr} {body : List Stmt} {wb : WS} (hp : PassesOwn (model X.prog X.w) X.A X.env X.xe) (hc : PT X c (ttOf X.K X.mg E wt)) (hb : PSs X body (sOf X.K X.mg E wb)) : PS X (.While c body [] pos) (sOf X.K X.mg E (dWhile wt wb)) := PS.of (ps_while hp hc hb) fun D σ H ⟨b, F, G0, H0, ρ, C, q, g0, a, eo⟩ => by
  obtain ⟨Inv, ⟨m0, i0⟩, it⟩ := q
  refine ⟨fun m σ' H' => ∃ ρ', Inv m ρ' ∧ At X.K b F G0 H0 ρ' σ' H', ⟨m0, ρ, i0, a⟩, ?_⟩
  rintro m σ' H' ⟨ρ', inv, at1⟩
  obtain ⟨G, e1, s, hr⟩ := at1.site g0 eo
  refine ⟨b, H0, G, ρ', C.xc ρ', _, it m ρ' inv, hr, fun G1 H1 k hk s1 => ?_⟩
  have at2 : At X.K b F G0 H0 ρ' σ' H1 := ⟨G1, e1.trans s1.ex, s.trans g0 s1, hr.env.stp s1⟩
  cases k with
  | true =>
    refine iteT ⟨fun σ2 H2 => ∃ m', m' < m ∧ ∃ ρ2, Inv m' ρ2 ∧ At X.K b F G0 H0 ρ2 σ2 H2, fun σ2 H2 h => h, ?_⟩
    refine ⟨b, F, G0, H0, ρ', _, hk.1 rfl, g0, at2, ⟨fun ρ5 σ5 H5 q5 a5 => ?_, eo.nx, fun ρ5 σ5 H5 q5 a5 => ?_, eo.rt, eo.xc⟩⟩
    · obtain ⟨m', h1, h2⟩ := q5
      exact ⟨m', h1, ρ5, h2, a5⟩
    · obtain ⟨m', h1, h2⟩ := q5
      exact ⟨m', h1, ρ5, h2, a5⟩
  | false =>
    exact iteF (eo.nx _ _ _ (hk.2 rfl) at2)
end

/-! ### a def -/
def startR (N : List Str) (ds : List PyData) : Rho := ds.map (fun d => some (.leaf d)) ++ List.replicate (N.length - ds.length) none
theorem env_start {b : Option Addr} {B G H : Hp} {N : List Str} {vs : List V} {ds : List PyData} (r : RpAll b G vs ds) : Env b B G H (L2.start N vs) (startR N ds) := by
  have hl := r.len
  refine ⟨by unfold L2.start startR; simp [hl], fun _ => [], fun i t e => ?_, (fun i a m => by cases m), fun i j a n m => by cases m⟩
  unfold startR at e
  by_cases c : i < ds.length
  · rw [List.getElem?_append_left (by simpa using c), List.getElem?_map, List.getElem?_eq_getElem c] at e
    cases e
    obtain ⟨v, ev, rv⟩ := r.get (List.getElem?_eq_getElem c)
    refine ⟨v, ?_, .leaf rv⟩
    unfold L2.start
    rw [List.getElem?_append_left (by simp; omega), List.getElem?_map, ev] <;> rfl
  · rw [List.getElem?_append_right (by simp; omega)] at e
    rw [List.getElem?_replicate] at e
    split at e <;> cases e
section
variable {P : Program} {w : World} {K : PySem.W.Frag} {mg : Str → Option Value} {base : Heap}
theorem sp_len {S : Spec} {n : Nat} (h : ∀ ds P xp, S ds P xp → ds.length = n) : ∀ vs H Q E, spOf K mg S vs H Q E → vs.length = n := fun vs H Q E ⟨b, G, ds, P, xp, q, g, r, _⟩ => by rw [r.len, h _ _ _ q]
/-- a body's reading gives the promise -/
theorem body_core {ws : WS} {N : List Str} {E : SX} {b : Option Addr} {G : Hp} {ds : List PyData} {P : T → Prop} {xp : XP} (q : ws { nx := fun _ => P non, rt := P, xc := fun _ => xp } (startR N ds)) {vs : List V} {H : Hp} {Q : VK} {E0 : XK} (hE : ∀ σ, E σ = E0)
    (g : Good K b G H) (r : RpAll b G vs ds) (k : Ktn K b G H P Q) (x : XC K mg E0 b G H xp) : sOf K mg E ws { nx := fun _ H' => Q .non H', rt := Q } (L2.start N vs) H := by
  refine ⟨b, G, G, H, _, _, q, g, ⟨G, Ex.rfl' _, g.stp, env_start r⟩, ⟨fun ρ σ H' hp a => ?_, fun _ _ _ z => z.elim, fun _ _ _ z => z.elim, fun t v fp G' H' hp s tr fr => k G' H' v t fp hp s tr fr, fun ρ σ n pl c d G' H' hx _ s _ m e => by rw [hE]; exact x n pl c d G' H' hx m e s⟩⟩
  · obtain ⟨G', _, s, _⟩ := a
    exact k G' H' .non non [] hp s (.leaf .non) fun _ z => nomatch z
/-- a def that raises nothing -/
theorem fn_ok {x qual : Str} {st : Stmt} {f : Addr} {fd : FuncData} {N ps : List Str} {k : Nat} {S : Spec} {ws : WS} (F : Fun K x qual st f fd) (sc : FnScope N ps (defScope st)) (len : ∀ ds P xp, S ds P xp → ds.length = ps.length)
    (body : ∀ (cdv : Value) (A : Around) (outer : List PySem.Env) (s : Shared) (H : Hp) (E : XK), Room k (A.deeper (PyProof.Rows.envOfC qual (defScope st) s.heap.objs.size f cdv)) → PSs (cxOf CX0 P w K mg base N qual (defScope st) f cdv A outer s H E).nox (defBody st) (sOf K mg noE ws))
    (spec : ∀ ds P, S ds P noX → ws { nx := fun _ => P non, rt := P } (startR N ds)) (nx : ∀ ds P xp, S ds P xp → S ds P noX) : FnOk P w K mg base CX0 (k + 1) f fd ps (spOf K mg S) := by
  refine F.ok sc (sp_len len) fun cdv A outer s H vs Q E hr h => ⟨_, body cdv A outer s H E hr, ?_⟩
  obtain ⟨b, G, ds, P, xp, q, g, r, k, x⟩ := h
  exact body_core (spec ds P (nx _ _ _ q)) (E0 := fun _ _ _ => False) (fun _ => rfl) g r k noXC
end
end Dd
namespace Dd
open PySem L2
/-- a def that may be called by its name -/
structure Cal (P : Program) (w : World) (K : PySem.W.Frag) (mg : Str → Option Value) (base : Heap) (x : Str) (ps : List Str) (k : Nat) (S : Spec) : Prop where
  ex : ∃ f fd, FnOk P w K mg base CX0 k f fd ps (spOf K mg S) ∧ mg x = some (.ref f) ∧ PySem.W.keepIn K (.ref f) = true ∧ Binds K fd ps []
theorem Cal.mk' {P : Program} {w : World} {K : PySem.W.Frag} {mg : Str → Option Value} {base : Heap} {x qual : Str} {ps : List Str} {k : Nat} {S : Spec} {st : Stmt} {f : Addr} {fd : FuncData} (F : Fun K x qual st f fd) (h : FnOk P w K mg base CX0 k f fd ps (spOf K mg S)) (m : mg x = some (.ref f)) (b : Binds K fd ps []) : Cal P w K mg base x ps k S := ⟨f, fd, h, m, F.kp, b⟩
section
variable {X : Cx} {E : SX} {e e2 : Expr} {es : List Expr} {w wa wb : WE} {ws : WA} {pos p p2 apos : Pos} {x : Str}
theorem d_callC {j k : Nat} {ps : List Str} {S : Spec} (C : Cal X.prog X.w X.K X.mg X.base x ps k S) (hr : Room j X.A) (ha : PA X (e :: es) (aOf X.K X.mg E ws)) (hg : Gl X x := by rfl) (hj : k ≤ j := by decide) (hdb : (x == ("__debug__" : Str)) = false := by decide) (he : starEach (e :: es) X.env = (false, eval e X.env) :: starEach es X.env := by rfl) (hpl : (backTo pos (starEach es X.env)).any (·.1) = false := by rfl) :
    PE X (.Call (.Name x p) (e :: es) [] pos) (tOf X.K X.mg E (dCall S ws)) := by
  obtain ⟨f, fd, h, m, kp, b⟩ := C.ex
  exact d_call h hr hg m kp b ha hj hdb he hpl
theorem d_callC0 {j k : Nat} {ps : List Str} {S : Spec} (C : Cal X.prog X.w X.K X.mg X.base x ps k S) (hr : Room j X.A) (hg : Gl X x := by rfl) (hj : k ≤ j := by decide) (hdb : (x == ("__debug__" : Str)) = false := by decide) :
    PE X (.Call (.Name x p) [] [] pos) (tOf X.K X.mg E (dCall S aNil)) := by
  obtain ⟨f, fd, h, m, kp, b⟩ := C.ex
  exact d_call0 h hr hg m kp b hj hdb
/-! ### tests of comparisons -/
theorem t_lt (ha : PE X e (tOf X.K X.mg E wa)) (hb : PE X e2 (tOf X.K X.mg E wb)) : PT X (.Compare e [.Lt] [e2] pos) (ttOf X.K X.mg E (dTst (dOp rdLt wa wb))) := t_cmp op_lt (ok_I0 fun _ _ => rfl) ha hb (nomark _)
theorem t_le (ha : PE X e (tOf X.K X.mg E wa)) (hb : PE X e2 (tOf X.K X.mg E wb)) : PT X (.Compare e [.LtE] [e2] pos) (ttOf X.K X.mg E (dTst (dOp rdLe wa wb))) := t_cmp op_le (ok_I0 fun _ _ => rfl) ha hb (nomark _)
theorem t_gt (ha : PE X e (tOf X.K X.mg E wa)) (hb : PE X e2 (tOf X.K X.mg E wb)) : PT X (.Compare e [.Gt] [e2] pos) (ttOf X.K X.mg E (dTst (dOp rdGt wa wb))) := t_cmp op_gt (ok_I0 fun _ _ => rfl) ha hb (nomark _)
theorem t_ge (ha : PE X e (tOf X.K X.mg E wa)) (hb : PE X e2 (tOf X.K X.mg E wb)) : PT X (.Compare e [.GtE] [e2] pos) (ttOf X.K X.mg E (dTst (dOp rdGe wa wb))) := t_cmp op_ge (ok_I0 fun _ _ => rfl) ha hb (nomark _)
theorem t_eq (hu : X.A.units + 64 < cLine) (ha : PE X e (tOf X.K X.mg E wa)) (hb : PE X e2 (tOf X.K X.mg E wb)) : PT X (.Compare e [.Eq] [e2] pos) (ttOf X.K X.mg E (dTst (dOp rdEq wa wb))) := t_cmp (opr_or op_eq (op_eqD hu)) ok_eq ha hb (nomark _)
theorem t_ne (hu : X.A.units + 64 < cLine) (ha : PE X e (tOf X.K X.mg E wa)) (hb : PE X e2 (tOf X.K X.mg E wb)) : PT X (.Compare e [.NotEq] [e2] pos) (ttOf X.K X.mg E (dTst (dOp rdNe wa wb))) := t_cmp (opr_or op_ne (op_neD hu)) ok_ne ha hb (nomark _)
theorem t_isN (ha : PE X e (tOf X.K X.mg E wa)) (hb : PE X e2 (tOf X.K X.mg E wb)) : PT X (.Compare e [.Is] [e2] pos) (ttOf X.K X.mg E (dTst (dOp rdIsN wa wb))) := t_cmp op_isN ok_isN ha hb (nomark _)
theorem t_notN (ha : PE X e (tOf X.K X.mg E wa)) (hb : PE X e2 (tOf X.K X.mg E wb)) : PT X (.Compare e [.IsNot] [e2] pos) (ttOf X.K X.mg E (dTst (dOp rdNotN wa wb))) := t_cmp op_notN ok_notN ha hb (nomark _)
/-- a < b < c -/
def dChain (rd rd' : R2D) (wa wb wc : WE) : WE := fun x ρ P => wa x ρ fun t => wb x ρ fun u => rd t.dat u.dat fun z => match z with
  | .leaf (.bool k) => (k = true → wc x ρ fun v => rd' u.dat v.dat P) ∧ (k = false → P (boo false))
  | _ => False
theorem dchain_core {K : PySem.W.Frag} {mg : Str → Option Value} {r r' : R2} {rd rd' : R2D} {wc : WE} (h : RdOk K r rd) (h' : RdOk K r' rd') {σ : L2.St} {H : Hp} {Q : VK} (q : tOf K mg E (dChain rd rd' wa wb wc) σ H Q) :
    tChain r r' (tOf K mg E wa) (tOf K mg E wb) (tOf K mg E wc) σ H Q := by
  obtain ⟨b, B, G, ρ, xp, P, p, hr, k⟩ := q
  refine tOfD_of ⟨b, B, G, ρ, xp, fun d => wb xp ρ fun u => rd d u.dat fun z => match z with
    | .leaf (.bool k) => (k = true → wc xp ρ fun v => rd' u.dat v.dat P) ∧ (k = false → P (boo false))
    | _ => False, p, hr, fun G1 H1 x d p1 s1 hr1 rx => ?_⟩
  refine tOfD_of ⟨b, B, G1, ρ, xp, fun u => rd d u fun z => match z with
    | .leaf (.bool k) => (k = true → wc xp ρ fun v => rd' u v.dat P) ∧ (k = false → P (boo false))
    | _ => False, p1, hr1, fun G2 H2 y u p2 s2 hr2 ry => ?_⟩
  refine h b G2 H2 x y d u _ _ s2.good (rx.mono s2.ex) ry p2 fun G3 H3 z t fp hz s3 tr fr => ?_
  have hr3 := hr2.stp s3
  have kk := ((k.stp hr.good s1).stp hr1.good s2).stp hr2.good s3
  try dsimp only at hz
  split at hz
  · cases tr with
    | leaf rz =>
      cases rz
      rename_i c
      refine ⟨_, rfl, ?_⟩
      cases c with
      | true =>
        refine iteT ?_
        refine tOfD_of ⟨b, B, G3, ρ, xp, fun v => rd' u v P, hz.1 rfl, hr3, fun G4 H4 y4 v p4 s4 hr4 r4 => ?_⟩
        exact h' b G4 H4 y y4 u v P Q s4.good (ry.mono (s3.ex.trans s4.ex)) r4 p4 (kk.stp hr3.good s4)
      | false =>
        refine iteF ?_
        exact kk.leaf s3.good (hz.2 rfl) (.bl _)
  · exact hz.elim
theorem d_chain {e3 : Expr} {op op' : CmpOp} {r r' : R2} {rd rd' : R2D} {wc : WE} (ho : OpR X (compareOp op) r) (ho' : OpR X (compareOp op') r') (h : RdOk X.K r rd) (h' : RdOk X.K r' rd') (ha : PE X e (tOf X.K X.mg E wa)) (hb : PE X e2 (tOf X.K X.mg E wb)) (hc : PE X e3 (tOf X.K X.mg E wc))
    (hm : lastMarks [op, op'] [e2, e3] = false := by with_unfolding_all rfl) : PE X (.Compare e [op, op'] [e2, e3] pos) (tOf X.K X.mg E (dChain rd rd' wa wb wc)) := PE.of (pe_chain ho ho' ha hb hc hm) fun σ H Q q => dchain_core h h' q
theorem t_chain {e3 : Expr} {op op' : CmpOp} {r r' : R2} {rd rd' : R2D} {wc : WE} (ho : OpR X (compareOp op) r) (ho' : OpR X (compareOp op') r') (h : RdOk X.K r rd) (h' : RdOk X.K r' rd') (ha : PE X e (tOf X.K X.mg E wa)) (hb : PE X e2 (tOf X.K X.mg E wb)) (hc : PE X e3 (tOf X.K X.mg E wc))
    (hm : lastMarks [op, op'] [e2, e3] = false := by with_unfolding_all rfl) : PT X (.Compare e [op, op'] [e2, e3] pos) (ttOf X.K X.mg E (dTst (dChain rd rd' wa wb wc))) := PT.of (pt_chain ho ho' ha hb hc hm) fun σ H Q q => dchain_core h h' (dtst_core q)
/-! ### isinstance of data -/
def tyN : PyData → String
  | .none => "NoneType" | .bool _ => "bool" | .int _ => "int" | .str _ => "str" | .list _ => "list" | .tuple _ => "tuple" | .dict [] => "list" | .dict _ => ""
theorem rp_ty {K : PySem.W.Frag} {b : Option Addr} {G H : Hp} {v : V} {d : PyData} (g : Good K b G H) (r : Rp b G v d) (ne : tyN d ≠ "") : TyX K H v (.type (tyN d)) := by
  cases r with
  | non => exact .base .non
  | bl k => exact .base (.bl k)
  | int i => exact .base (.int i)
  | str x => exact .base (.str x)
  | lst h _ => exact .base (.lst (g.ex _ _ h))
  | tup h _ => exact .base (.tup (g.ex _ _ h))
  | box h =>
    obtain ⟨_, _, _, _, _, _, q, _⟩ := g.box _ h
    exact .base (.lst q)
  | exc _ => exact absurd rfl ne
  | obj _ => exact absurd rfl ne
  | ins _ _ _ _ => exact absurd rfl ne
  | dic _ _ _ => exact absurd rfl ne
  | diT _ _ _ => exact absurd rfl ne
def dIsi (T : String) (w : WE) : WE := fun x ρ P => w x ρ fun t => ∃ r, kitB (tyN t.dat) T = some r ∧ P (boo r)
theorem d_isi {T : Str} {n : String} (hm : X.mg "isinstance" = none) (hmT : X.mg T = none) (hv : bootBuiltins T = some (.type n)) (ha : PE X e (tOf X.K X.mg E w)) (hg : Gl X "isinstance" := by rfl) (hgT : Gl X T := by rfl) (hn : T ≠ "__name__" := by decide) (hdb : (T == ("__debug__" : Str)) = false := by decide) (hz : kitB "" n = none := by decide)
    (he : starEach [e, .Name T p2] X.env = (false, eval e X.env) :: starEach [.Name T p2] X.env := by rfl) (hpl : (backTo pos (starEach [.Name T p2] X.env)).any (·.1) = false := by rfl) (he2 : starEach [.Name T p2] X.env = (false, eval (.Name T p2) X.env) :: starEach [] X.env := by rfl) :
    PE X (.Call (.Name "isinstance" p) [e, .Name T p2] [] pos) (tOf X.K X.mg E (dIsi n w)) :=
  PE.of (pe_callB call_isi hg hm (by decide +kernel) (pa_cons ha (pa_cons (pe_bltn (v := .ty n) hgT hmT hv rfl hn hdb) pa_nil he2) he) (by decide) (by decide) he hpl) fun σ H Q ⟨b, B, G, ρ, xp, P, p, hr, k⟩ =>
    tOfD_of ⟨b, B, G, ρ, xp, fun d => ∃ r, kitB (tyN d) n = some r ∧ P (boo r), p, hr, fun G1 H1 v d hp s1 hr1 r => by
      obtain ⟨c, hc, hp⟩ := hp
      exact ⟨v, .ty n, _, _, c, rfl, .ty n, rp_ty s1.good r (fun z => by
        rw [z, hz] at hc
        cases hc), kit_ty hc, (k.stp hr.good s1).leaf s1.good hp (.bl _)⟩⟩
/-! ### slices of lists, tuples -/
abbrev WO := XP → Rho → (Option Int → Prop) → Prop
def oOf (K : PySem.W.Frag) (mg : Str → Option Value) (E : SX) (w : WO) : TO := fun σ H Q => ∃ (b : Option Addr) (B G : Hp) (ρ : Rho) (xp : XP) (P : Option Int → Prop), w xp ρ P ∧ Site K mg (E σ) b B G H σ ρ xp ∧ ∀ (G' H' : Hp) (o : Option Int), P o → Stp K b G H G' H' → Q o H'
theorem PO.of {o : Option Expr} {t : TO} {w : WO} (h : PO X o t) (k : ∀ σ H Q, oOf X.K X.mg E w σ H Q → t σ H Q) : PO X o (oOf X.K X.mg E w) := ⟨fun pins s σ H Q I q => h.run pins s σ H Q I (k σ H Q q)⟩
def oN : WO := fun _ _ P => P none
def oS (w : WE) : WO := fun x ρ P => w x ρ fun t => match t with
  | .leaf (.int i) => P (some i)
  | _ => False
theorem o_none : PO X none (oOf X.K X.mg E oN) := PO.of po_none fun σ H Q ⟨b, B, G, ρ, xp, P, p, hr, k⟩ => k G H none p hr.good.stp
theorem o_some (h : PE X e (tOf X.K X.mg E w)) : PO X (some e) (oOf X.K X.mg E (oS w)) := PO.of (po_some h) fun σ H Q ⟨b, B, G, ρ, xp, P, p, hr, k⟩ => ⟨b, B, G, ρ, xp, _, p, hr, fun G' H' v t fp hp s tr fr => by
  try dsimp only at hp
  split at hp
  · cases tr with
    | leaf r =>
      cases r
      exact ⟨_, rfl, k G' H' _ hp s⟩
  · exact hp.elim⟩
def cutD (xs : List PyData) (lo hi : Option Int) : List PyData := (xs.drop (HT.sIx xs.length 0 lo)).take (HT.sIx xs.length xs.length hi - HT.sIx xs.length 0 lo)
def dSl (w : WE) (wl wh : WO) : WE := fun x ρ P => w x ρ fun t => wl x ρ fun l => wh x ρ fun u => match t.dat with
  | .list xs => P (.node ((cutD xs l u).map .leaf))
  | _ => False
theorem d_sl {lo hi : Option Expr} {wl wh : WO} (he : PE X e (tOf X.K X.mg E w)) (hl : PO X lo (oOf X.K X.mg E wl)) (hu : PO X hi (oOf X.K X.mg E wh)) : PE X (.Subscript e (.Slice lo hi none p2) pos) (tOf X.K X.mg E (dSl w wl wh)) := PE.of (pe_slice sl_list he hl hu) fun σ H Q ⟨b, B, G, ρ, xp, P, p, hr, k⟩ => by
  refine tOfD_of ⟨b, B, G, ρ, xp, fun d => wl xp ρ fun l => wh xp ρ fun u => match d with
    | .list xs => P (.node ((cutD xs l u).map .leaf))
    | _ => False, p, hr, fun G1 H1 x d p1 s1 hr1 rx => ?_⟩
  refine ⟨b, B, G1, ρ, xp, _, p1, hr1, fun G2 H2 l p2 s2 => ⟨b, B, G2, ρ, xp, _, p2, hr1.stp s2, fun G3 H3 u p3 s3 => ?_⟩⟩
  try dsimp only at p3
  split at p3
  · cases rx with
    | lst h1 r1 =>
      refine ⟨_, _, rfl, .inl (.inl (s3.good.ex _ _ (s3.ex _ _ (s2.ex _ _ h1)))), fun q hq => ?_⟩
      have r3 := (r1.mono (s2.ex.trans s3.ex))
      refine new_lst s3.good ?_ p3 (((k.stp hr.good s1).stp hr1.good s2).stp s2.good s3) hq
      unfold cutV cutD
      rw [r1.len]
      exact (r3.drop _).take _
  · exact p3.elim
end
end Dd
namespace Dd
open PySem L2
/-- a module's whole number -/
structure ConI (K : PySem.W.Frag) (mg : Str → Option Value) (x : Str) (i : Int) : Prop where
  ex : ∃ t, mg x = some (.int i t)
section
variable {X : Cx} {E : SX} {e e2 : Expr} {es : List Expr} {w wa wb : WE} {ws : WA} {pos p p2 apos : Pos} {x : Str}
theorem d_con {i : Int} (C : ConI X.K X.mg x i) (hg : Gl X x := by rfl) (hd : (x == ("__debug__" : Str)) = false := by decide) : PE X (.Name x pos) (tOf X.K X.mg E (dC (.int i))) := by
  obtain ⟨t, h⟩ := C.ex
  exact PE.of (pe_glob (v := .int i) hg h ⟨t, rfl⟩ hd) fun σ H Q ⟨b, B, G, ρ, xp, P, p, hr, k⟩ => k.leaf hr.good p (.int i)
theorem d_max2 (hc : X.calm = true) (hm : X.mg "max" = none) (ha : PA X [e, e2] (aOf X.K X.mg E ws)) (hg : Gl X "max" := by rfl) (he : starEach [e, e2] X.env = (false, eval e X.env) :: starEach [e2] X.env := by rfl) (hpl : (backTo pos (starEach [e2] X.env)).any (·.1) = false := by rfl) : PE X (.Call (.Name "max" p) [e, e2] [] pos) (tOf X.K X.mg E (dBlt cMax2 ws)) :=
  d_blt (call_max2 hc) ok_max2 hg hm (by decide +kernel) ha (by decide) (by decide) he hpl
theorem d_min2 (hc : X.calm = true) (hm : X.mg "min" = none) (ha : PA X [e, e2] (aOf X.K X.mg E ws)) (hg : Gl X "min" := by rfl) (he : starEach [e, e2] X.env = (false, eval e X.env) :: starEach [e2] X.env := by rfl) (hpl : (backTo pos (starEach [e2] X.env)).any (·.1) = false := by rfl) : PE X (.Call (.Name "min" p) [e, e2] [] pos) (tOf X.K X.mg E (dBlt cMin2 ws)) :=
  d_blt (call_min2 hc) ok_min2 hg hm (by decide +kernel) ha (by decide) (by decide) he hpl
end
/-! ### the law's first row: the box -/
def spBox (K : PySem.W.Frag) : Sp := fun vs H Q _ => ∃ (a : Addr) (ns : List Int), vs = [.ref a] ∧ SqL K H a (ns.map V.int) ∧
  ∀ (p c : Addr) (H' : Hp) (cells : List Int), H' p = some (.lst [.ref c, .int 0, .int 0, .int 17]) → H' c = some (.lst (cells.map V.int)) → p ≠ c → cells.length ≤ 63 → Q (.ref p) H'
def spOf0 (K : PySem.W.Frag) : Sp := fun vs H Q _ => ∃ (a : Addr) (ns : List Int), vs = [.ref a] ∧ SqL K H a (ns.map V.int) ∧ ns.length ≤ 63 ∧ ∀ H', Q (.bl true) H'
section
variable {P : Program} {w : World} {K : PySem.W.Frag} {mg : Str → Option Value} {base : Heap}
/-- the box is made, the rest is read as data -/
theorem law_ok {st : Stmt} {rest : List Stmt} {f fb : Addr} {fd fdb : FuncData} {N : List Str} {k : Nat} {ws : WS} {q1 q2 q3 q4 q5 : Pos} {kb : Nat} (F : Fun K "law" "law" st f fd) (sc : FnScope ("_law_script" :: "_law_box_here" :: N) ["_law_script"] (defScope st))
    (hb : defBody st = .Assign [.Name "_law_box_here" q1] (.Call (.Name "_law_box" q2) [.Name "_law_script" q3] [] q4) q5 :: rest)
    (B : FnOk P w K mg base CX0 kb fb fdb ["_law_script"] (spBox K)) (mB : mg "_law_box" = some (.ref fb)) (kB : PySem.W.keepIn K (.ref fb) = true) (bB : Binds K fdb ["_law_script"] []) (hk : kb ≤ k)
    (hs1 : ∀ (cdv : Value) (A : Around) (outer : List PySem.Env) (s : Shared) (H : Hp) (E : XK), Room k (A.deeper (PyProof.Rows.envOfC "law" (defScope st) s.heap.objs.size f cdv)) →
      PS (cxOf CX0 P w K mg base ("_law_script" :: "_law_box_here" :: N) "law" (defScope st) f cdv A outer s H E).nox (.Assign [.Name "_law_box_here" q1] (.Call (.Name "_law_box" q2) [.Name "_law_script" q3] [] q4) q5) (tAsg (tCall (spBox K) [] (fun _ _ _ => False) (tCons (tVar 0) tNil)) (gName 1)))
    (body : ∀ (cdv : Value) (A : Around) (outer : List PySem.Env) (s : Shared) (H : Hp) (E : XK), Room k (A.deeper (PyProof.Rows.envOfC "law" (defScope st) s.heap.objs.size f cdv)) →
      PSs (cxOf CX0 P w K mg base ("_law_script" :: "_law_box_here" :: N) "law" (defScope st) f cdv A outer s H E).nox rest (sOf K mg noE ws))
    (spec : ws { nx := fun _ => False, rt := fun t => t = boo true } (none :: some (.leaf bx) :: List.replicate N.length none)) : FnOk P w K mg base CX0 (k + 1) f fd ["_law_script"] (spOf0 K) := by
  refine F.ok sc (fun vs H Q E h => ?_) (fun cdv A outer s H vs Q E hr h => ?_)
  · obtain ⟨a, ns, rfl, _⟩ := h
    rfl
  · obtain ⟨a, ns, rfl, hS, hl, q⟩ := h
    rw [hb]
    refine ⟨_, pss_cons (hs1 cdv A outer s H E hr) (body cdv A outer s H E hr), ?_⟩
    refine ⟨.ref a, rfl, a, ns, rfl, hS, fun p c H' cells hp hc pc hcl => ?_⟩
    let G0 : Hp := fun x => if x = c then some (.lst (cells.map V.int)) else none
    have g0p : G0 p = none := if_neg pc
    have g0c : G0 c = some (.lst (cells.map V.int)) := if_pos rfl
    have good : Good K (some p) G0 H' := by
      refine ⟨fun x u e => ?_, fun x e => ?_⟩
      · by_cases z : x = c
        · rw [z, g0c] at e
          cases e
          rw [z]
          exact hc
        · rw [show G0 x = none from if_neg z] at e
          cases e
      · cases e
        exact ⟨g0p, c, cells, 0, 0, 17, hp, g0c, hcl, by omega, by omega, by omega, by omega⟩
    refine ⟨some p, G0, G0, H', _, _, spec, good, ⟨G0, Ex.rfl' _, good.stp, ?_⟩, ⟨fun _ _ _ z => z.elim, fun _ _ _ z => z.elim, fun _ _ _ z => z.elim, fun t v fp G' H2 ht s tr fr => ?_, fun _ _ _ _ _ _ _ _ z => z.elim⟩⟩
    · refine ⟨by simp [L2.start], fun _ => [], fun i t e => ?_, (fun i a m => by cases m), fun i j a n m => by cases m⟩
      match i, e with
      | 0, e => simp at e
      | 1, e =>
        have e' : T.leaf bx = t := by simpa using e
        subst e'
        exact ⟨.ref p, rfl, .leaf (.box rfl)⟩
      | i + 2, e =>
        exfalso
        have e' : (List.replicate N.length (none : Option T))[i]? = some (some t) := by simpa using e
        rw [List.getElem?_replicate] at e'
        split at e' <;> cases e'
    · subst ht
      cases tr with
      | leaf r =>
        cases r
        exact q _
end
/-! ### small facts for readings -/
theorem ex_leaf {d : PyData} {Q : PyData → Prop} : (∃ d', (some (some (T.leaf d)) : Option (Option T)) = some (some (.leaf d')) ∧ Q d') ↔ Q d := ⟨fun ⟨d', e, q⟩ => by cases e; exact q, fun q => ⟨d, rfl, q⟩⟩
theorem sum_nn {ns : List Int} (h : ∀ x ∈ ns, 0 ≤ x) : 0 ≤ ns.sum := by
  induction ns with
  | nil => exact Int.le_refl 0
  | cons x r ih =>
    rw [List.sum_cons]
    have h1 := h x (List.mem_cons_self ..)
    have h2 := ih fun y hy => h y (List.mem_cons_of_mem _ hy)
    omega
end Dd
namespace Dd
open PySem L2
theorem dat_leaf (d : PyData) : (T.leaf d).dat = d := rfl
theorem dat_n0 : (T.node []).dat = .list [] := rfl
theorem dat_n1 {a : PyData} : (T.node [.leaf a]).dat = .list [a] := rfl
theorem dat_n2 {a b : PyData} : (T.node [.leaf a, .leaf b]).dat = .list [a, b] := rfl
theorem dat_n3 {a b c : PyData} : (T.node [.leaf a, .leaf b, .leaf c]).dat = .list [a, b, c] := rfl
theorem dat_n4 {a b c d : PyData} : (T.node [.leaf a, .leaf b, .leaf c, .leaf d]).dat = .list [a, b, c, d] := rfl
theorem dat_n5 {a b c d e : PyData} : (T.node [.leaf a, .leaf b, .leaf c, .leaf d, .leaf e]).dat = .list [a, b, c, d, e] := rfl
theorem dat_n6 {a b c d e f : PyData} : (T.node [.leaf a, .leaf b, .leaf c, .leaf d, .leaf e, .leaf f]).dat = .list [a, b, c, d, e, f] := rfl
theorem dat_n7 {a b c d e f g : PyData} : (T.node [.leaf a, .leaf b, .leaf c, .leaf d, .leaf e, .leaf f, .leaf g]).dat = .list [a, b, c, d, e, f, g] := rfl
theorem dat_n8 {a b c d e f g h : PyData} : (T.node [.leaf a, .leaf b, .leaf c, .leaf d, .leaf e, .leaf f, .leaf g, .leaf h]).dat = .list [a, b, c, d, e, f, g, h] := rfl
theorem dat_leaves0 (ds : List PyData) : (T.node (ds.map .leaf)).dat = .list ds := by
  show PyData.list (T.dats _) = _
  rw [dats_leaf]
/-! ### one step at a time: equations for simp -/
def asB (P : Bool → Prop) (t : T) : Prop := match t with
  | .leaf (.bool k) => P k
  | _ => False
def asI (P : Int → Prop) (t : T) : Prop := match t with
  | .leaf (.int k) => P k
  | _ => False
def asL (P : List PyData → Prop) (t : T) : Prop := match t.dat with
  | .list ds => P ds
  | _ => False
def asU (P : List PyData → Prop) (t : T) : Prop := match t.dat with
  | .tuple ds => P ds
  | _ => False
section
variable {P : T → Prop} {PB : Bool → Prop} {PI : Int → Prop} {PL : List PyData → Prop} {x : XP} {ρ : Rho} {w wa wb wc we wj : WE} {wt wu : WT} {wo wl wh : WO} {ws : WA} {C : Ctl} {i j : Int} {n m : Nat} {k l : Bool} {xs ys : List PyData} {a b : Str} {C' : Int → Int → Prop} {g : Int → Int → PyData} {f : Int → Int → Int} {rd rd' : R2D} {ts : List T}
theorem asB_b : asB PB (.leaf (.bool k)) = PB k := rfl
theorem asI_i : asI PI (.leaf (.int i)) = PI i := rfl
theorem asL_l : asL PL (.leaf (.list xs)) = PL xs := rfl
theorem asL_n : asL PL (.node (xs.map .leaf)) = PL xs := by
  unfold asL
  rw [dat_leaves0]
theorem asU_u : asU PL (.leaf (.tuple xs)) = PL xs := rfl
theorem asL_c {d : PyData} : asL PL (.node (.leaf d :: xs.map .leaf)) = PL (d :: xs) := asL_n (xs := d :: xs)
theorem e_tst : dTst w x ρ PB = w x ρ (asB PB) := rfl
theorem e_andV : dAndV wa wb x ρ P = wa x ρ (asB fun k => (k = true → wb x ρ P) ∧ (k = false → P (boo false))) := rfl
theorem e_orV : dOrV wa wb x ρ P = wa x ρ (asB fun k => (k = true → P (boo true)) ∧ (k = false → wb x ρ P)) := rfl
theorem e_notV : dNotV wa x ρ P = wa x ρ (asB fun k => P (boo (!k))) := rfl
theorem e_neg : dNeg wa x ρ P = wa x ρ (asI fun i => P (int (-i))) := rfl
theorem e_chain : dChain rd rd' wa wb wc x ρ P = wa x ρ fun t => wb x ρ fun u => rd t.dat u.dat (asB fun k => (k = true → wc x ρ fun v => rd' u.dat v.dat P) ∧ (k = false → P (boo false))) := rfl
theorem e_aug : dAug f n we C ρ = ∃ a, ρ[n]? = some (some (int a)) ∧ we (C.xc ρ) ρ (asI fun c => C.nx (ρ.set n (some (int (f a c))))) := rfl
theorem e_setI : dSetI n wj we C ρ = we (C.xc ρ) ρ fun t => ∃ ts, ρ[n]? = some (some (.node ts)) ∧ wj (C.xc ρ) ρ (asI fun k => ∃ m, ixN ts.length k = some m ∧ C.nx (ρ.set n (some (.node (ts.set m (.leaf t.dat)))))) := rfl
theorem e_augI : dAugI f n wj we C ρ = ∃ ts, ρ[n]? = some (some (.node ts)) ∧ wj (C.xc ρ) ρ (asI fun k => ∃ a, 0 ≤ k ∧ ts[k.toNat]? = some (int a) ∧ we (C.xc ρ) ρ (asI fun c => C.nx (ρ.set n (some (.node (ts.set k.toNat (int (f a c)))))))) := rfl
theorem e_oS {PO : Option Int → Prop} : oS w x ρ PO = w x ρ (asI fun i => PO (some i)) := rfl
theorem e_iL : iL w x ρ PL = w x ρ (asL PL) := rfl
theorem e_iT : iT w x ρ PL = w x ρ (asU PL) := rfl
theorem e_I : rdI C' g (.int i) (.int j) P = (C' i j ∧ P (.leaf (g i j))) := rfl
theorem e_I0 : rdI0 g (.int i) (.int j) P = P (.leaf (g i j)) := rfl
theorem e_add : rdAdd (.int i) (.int j) P = P (int (i + j)) := rfl
theorem e_mul : rdMul (.int i) (.int j) P = (CMulW i j ∧ P (int (i * j))) := rfl
theorem e_ixl : rdIx (.list xs) (.int i) P = ∃ x, atI xs i = some x ∧ P (.leaf x) := rfl
theorem e_ixt : rdIx (.tuple xs) (.int i) P = ∃ x, atI xs i = some x ∧ P (.leaf x) := rfl
theorem e_eqi : rdEq (.int i) (.int j) P = P (boo (decide (i = j))) := rfl
theorem e_eqs : rdEq (.str a) (.str b) P = P (boo (decide (a = b))) := rfl
theorem e_eqb : rdEq (.bool k) (.bool l) P = P (boo (decide (k = l))) := rfl
theorem e_eql : rdEq (.list xs) (.list ys) P = (SeqAt.shaped (.list xs) = true ∧ SeqAt.shaped (.list ys) = true ∧ P (boo (PyData.eqv (.list xs) (.list ys)))) := rfl
theorem e_eqt : rdEq (.tuple xs) (.tuple ys) P = (SeqAt.shaped (.tuple xs) = true ∧ SeqAt.shaped (.tuple ys) = true ∧ P (boo (PyData.eqv (.tuple xs) (.tuple ys)))) := rfl
theorem e_nei : rdNe (.int i) (.int j) P = P (boo (decide (i ≠ j))) := rfl
theorem e_nes : rdNe (.str a) (.str b) P = P (boo (decide (a ≠ b))) := rfl
theorem e_neb : rdNe (.bool k) (.bool l) P = P (boo (decide (k ≠ l))) := rfl
theorem e_nel : rdNe (.list xs) (.list ys) P = (SeqAt.shaped (.list xs) = true ∧ SeqAt.shaped (.list ys) = true ∧ P (boo (!PyData.eqv (.list xs) (.list ys)))) := rfl
theorem e_net : rdNe (.tuple xs) (.tuple ys) P = (SeqAt.shaped (.tuple xs) = true ∧ SeqAt.shaped (.tuple ys) = true ∧ P (boo (!PyData.eqv (.tuple xs) (.tuple ys)))) := rfl
theorem e_isNn : rdIsN .none .none P = P (boo true) := by simp [rdIsN]
theorem e_isNi : rdIsN (.int i) .none P = P (boo false) := by simp [rdIsN]
theorem e_isNl : rdIsN (.list xs) .none P = P (boo false) := by simp [rdIsN]
theorem e_isNt : rdIsN (.tuple xs) .none P = P (boo false) := by simp [rdIsN]
theorem e_isNb : rdIsN (.bool k) .none P = P (boo false) := by simp [rdIsN]
theorem e_isNs : rdIsN (.str a) .none P = P (boo false) := by simp [rdIsN]
theorem e_notNn : rdNotN .none .none P = P (boo false) := by simp [rdNotN]
theorem e_notNi : rdNotN (.int i) .none P = P (boo true) := by simp [rdNotN]
theorem e_notNl : rdNotN (.list xs) .none P = P (boo true) := by simp [rdNotN]
theorem e_notNt : rdNotN (.tuple xs) .none P = P (boo true) := by simp [rdNotN]
theorem e_lenl : cLen [.list xs] P = P (int xs.length) := rfl
theorem e_lent : cLen [.tuple xs] P = P (int xs.length) := rfl
theorem e_lens : cLen [.str a] P = (a.length ≤ lim ∧ P (int a.length)) := rfl
theorem e_max2 : cMax2 [.int i, .int j] P = P (int (if j > i then j else i)) := rfl
theorem e_min2 : cMin2 [.int i, .int j] P = P (int (if j < i then j else i)) := rfl
theorem e_listl : cList [.list xs] P = P (.node (xs.map .leaf)) := rfl
theorem e_listt : cList [.tuple xs] P = P (.node (xs.map .leaf)) := rfl
theorem e_iR1 : iR1 ws x ρ PL = ws x ρ fun ds => match ds with
  | [.int j] => (-(2 ^ 62) ≤ j ∧ j < 2 ^ 62) ∧ PL (rngD 0 j.toNat)
  | _ => False := rfl
end
/-! ### the draw's promise -/
def S_l_take : Spec := fun ds P _ => ∃ n : Int, ds = [.dict [], .int n] ∧ 0 < n ∧ n < 1000000000000000000000000000000 ∧ ∀ r, 0 ≤ r → r < n → P (int r)
theorem e_take {n : Int} {P : T → Prop} {x : XP} : S_l_take [.dict [], .int n] P x = (0 < n ∧ n < 1000000000000000000000000000000 ∧ ∀ r : Int, 0 ≤ r → r < n → P (int r)) := propext ⟨fun ⟨m, e, h⟩ => by
  cases e
  exact h, fun h => ⟨n, rfl, h⟩⟩
section
variable {wi : WI} {wg : WG} {wb : WS} {wt : WT} {we : WE} {C : Ctl} {ρ : Rho} {vs : List Nat} {x : XP}
/-- a for over what is known -/
theorem for_of (ds : List PyData) (Inv : Nat → Rho → Prop) (hi : ∀ P : List PyData → Prop, P ds → wi (C.xc ρ) ρ P) (h0 : Inv 0 ρ)
    (hs : ∀ (i : Nat) d ρ', ds[i]? = some d → Inv i ρ' → wg d ρ' fun ρ2 => wb { C with nx := Inv (i + 1), ct := Inv (i + 1), bk := C.nx } ρ2) (hd : ∀ ρ', Inv ds.length ρ' → C.nx ρ') : dFor wi wg wb C ρ := hi _ ⟨Inv, h0, hs, hd⟩
theorem for_rng (lo : Int) (n : Nat) (Inv : Nat → Rho → Prop) (hi : ∀ P : List PyData → Prop, P (rngD lo n) → wi (C.xc ρ) ρ P) (h0 : Inv 0 ρ)
    (hs : ∀ (i : Nat) ρ', i < n → Inv i ρ' → wg (.int (lo + (i : Nat))) ρ' fun ρ2 => wb { C with nx := Inv (i + 1), ct := Inv (i + 1), bk := C.nx } ρ2) (hd : ∀ ρ', Inv n ρ' → C.nx ρ') : dFor wi wg wb C ρ :=
  for_of (rngD lo n) Inv hi h0 (fun i d ρ' e inv => by
    have hlt : i < n := by
      have := (List.getElem?_eq_some_iff.mp e).1
      rw [rngD_len] at this
      exact this
    rw [rngD_get hlt] at e
    cases e
    exact hs i ρ' hlt inv) fun ρ' h => hd ρ' (by rw [rngD_len] at h; exact h)
/-- [f d for d in ds if p d] -/
theorem lc_filter {P : T → Prop} (ds : List PyData) (p : PyData → Bool) (f : PyData → T) (hi : ∀ P : List PyData → Prop, P ds → wi x ρ P) (hl : ds.length < lim)
    (he : ∀ (i : Nat) d (Q : T → Prop) (R : Prop), ds[i]? = some d → (p d = true → Q (f d)) → (p d = false → R) → wg d (wipeR ρ vs) fun ρ2 => wt noX ρ2 fun k => (k = true → we noX ρ2 Q) ∧ (k = false → R)) (h : P (.node ((ds.filter p).map f))) : dLc wi wg wt we vs x ρ P :=
  hi _ ⟨hl, fun i acc => acc = ((ds.take i).filter p).map f, rfl, fun i d acc e inv => he i d (fun t => acc ++ [t] = ((ds.take (i + 1)).filter p).map f) (acc = ((ds.take (i + 1)).filter p).map f) e (fun q => by
      rw [inv, List.take_add_one, e, List.filter_append, List.map_append]
      simp [q]) (fun q => by
      rw [inv, List.take_add_one, e, List.filter_append, List.map_append]
      simp [q]), fun acc inv => by
    rw [inv, List.take_length]
    exact h⟩
/-- [f d for d in ds] -/
theorem lc_map {P : T → Prop} (ds : List PyData) (f : PyData → T) (hi : ∀ P : List PyData → Prop, P ds → wi x ρ P) (hl : ds.length < lim)
    (he : ∀ (i : Nat) d (Q : T → Prop) (R : Prop), ds[i]? = some d → Q (f d) → wg d (wipeR ρ vs) fun ρ2 => (true = true → we noX ρ2 Q) ∧ (true = false → R)) (h : P (.node (ds.map f))) : dLc wi wg dYes we vs x ρ P :=
  lc_filter ds (fun _ => true) f hi hl (fun i d Q R e q _ => he i d Q R e (q rfl)) (by
    rw [List.filter_eq_self.mpr fun _ _ => rfl]
    exact h)
/-- one by one, with draws -/
theorem lc_inv {P : T → Prop} (ds : List PyData) (Inv : Nat → List T → Prop) (hi : ∀ P : List PyData → Prop, P ds → wi x ρ P) (hl : ds.length < lim) (h0 : Inv 0 [])
    (he : ∀ (i : Nat) d acc, ds[i]? = some d → Inv i acc → wg d (wipeR ρ vs) fun ρ2 => wt noX ρ2 fun k => (k = true → we noX ρ2 fun t => Inv (i + 1) (acc ++ [t])) ∧ (k = false → Inv (i + 1) acc)) (h : ∀ acc, Inv ds.length acc → P (.node acc)) : dLc wi wg wt we vs x ρ P :=
  hi _ ⟨hl, Inv, h0, he, h⟩
end
theorem len_intsD (ns : List Int) : (intsD ns).length = ns.length := List.length_map _
theorem get_intsD {ns : List Int} {i : Nat} {d : PyData} (h : (intsD ns)[i]? = some d) : ∃ hi : i < ns.length, d = .int ns[i] := by
  unfold intsD at h
  rw [List.getElem?_map] at h
  have hi : i < ns.length := by
    cases q : ns[i]? with
    | none =>
      rw [q] at h
      cases h
    | some z => exact (List.getElem?_eq_some_iff.mp q).1
  rw [List.getElem?_eq_getElem hi] at h
  exact ⟨hi, (Option.some.inj h).symm⟩
theorem atI_ints {ns : List Int} {k : Int} (h0 : 0 ≤ k) (h : k < ns.length) : atI (intsD ns) k = some (.int (ns.getD k.toNat 0)) := by
  have hk : k.toNat < ns.length := by omega
  have e : atI (intsD ns) ((k.toNat : Nat) : Int) = some (.int (ns.getD k.toNat 0)) := atI_nat (by
    unfold intsD
    rw [List.getElem?_map, List.getElem?_eq_getElem hk, List.getD_eq_getElem?_getD, List.getElem?_eq_getElem hk] <;> rfl)
  rw [show ((k.toNat : Nat) : Int) = k by omega] at e
  exact e
theorem atI_ints_last {ns : List Int} (h : ns ≠ []) : atI (intsD ns) (-1) = some (.int (ns.getD (ns.length - 1) 0)) := by
  have hl : 0 < ns.length := List.length_pos_iff.mpr h
  unfold atI ixN
  have e : (intsD ns).length = ns.length := List.length_map _
  rw [e, if_neg (by decide), if_pos (by omega)]
  show (intsD ns)[(-1 + (ns.length : Int)).toNat]? = _
  rw [show (-1 + (ns.length : Int)).toNat = ns.length - 1 by omega]
  unfold intsD
  rw [List.getElem?_map, List.getD_eq_getElem?_getD, List.getElem?_eq_getElem (by omega)] <;> rfl
/-- an own list of whole numbers -/
def nodeI (ns : List Int) : T := .node (ns.map fun i => .leaf (.int i))
theorem nodeI_eq (ns : List Int) : nodeI ns = .node ((intsD ns).map .leaf) := by
  unfold nodeI intsD
  rw [List.map_map] <;> rfl
theorem nodeI_dat (ns : List Int) : (nodeI ns).dat = .list (intsD ns) := by
  rw [nodeI_eq]
  show PyData.list (T.dats _) = _
  rw [dats_leaf]
theorem dat_leaves (ds : List PyData) : (T.node (ds.map .leaf)).dat = .list ds := by
  show PyData.list (T.dats _) = _
  rw [dats_leaf]
theorem nodeI_snoc (ns : List Int) (x : Int) : T.node ((ns.map fun i => T.leaf (.int i)) ++ [.leaf (.int x)]) = nodeI (ns ++ [x]) := by
  unfold nodeI
  rw [List.map_append] <;> rfl
/-- data that == tells alike -/
theorem shaped_ints (ns : List Int) : SeqAt.shaped (.list (intsD ns)) = true := by
  have h1 : ∀ ns : List Int, PyData.canLayAll0 (intsD ns) = true := fun ns => by
    induction ns with
    | nil => rfl
    | cons n r ih =>
      show (PyData.canLay0 (.int n) && PyData.canLayAll0 (intsD r)) = true
      rw [ih]
      rfl
  have h2 : ∀ ns : List Int, PyData.depthAll (intsD ns) = 0 := fun ns => by
    induction ns with
    | nil => rfl
    | cons n r ih =>
      show max (PyData.depth (.int n)) (PyData.depthAll (intsD r)) = 0
      rw [ih]
      rfl
  unfold SeqAt.shaped
  have e1 : PyData.canLay0 (.list (intsD ns)) = PyData.canLayAll0 (intsD ns) := by simp only [PyData.canLay0]
  have e2 : PyData.depth (.list (intsD ns)) = PyData.depthAll (intsD ns) + 1 := by simp only [PyData.depth]
  rw [e1, e2, h1, h2]
  rfl
theorem eqv_ints (ns : List Int) : PyData.eqv (.list (intsD ns)) (.list (intsD ns)) = true := eqv_eq (shaped_ints ns)
theorem dat_eq (ts : List T) : (T.node ts).dat = .list (ts.map T.dat) := by
  show PyData.list (T.dats _) = _
  rw [dats_eq]
/-- data of a depth, of short lists -/
def Sm : Nat → PyData → Prop
  | n, .none => True
  | n, .bool _ => True
  | n, .int _ => True
  | n, .str x => PySem.PyData.strOk x = true
  | n + 1, .list xs => xs.length < 1000 ∧ ∀ x ∈ xs, Sm n x
  | n + 1, .tuple xs => xs.length < 1000 ∧ ∀ x ∈ xs, Sm n x
  | _, _ => False
theorem sm_int {n : Nat} {i : Int} : Sm n (.int i) := by cases n <;> trivial
theorem sm_bool {n : Nat} {i : Bool} : Sm n (.bool i) := by cases n <;> trivial
theorem sm_none {n : Nat} : Sm n .none := by cases n <;> trivial
theorem layAll_of : ∀ {xs : List PyData}, (∀ x ∈ xs, x.canLay0 = true) → PyData.canLayAll0 xs = true
  | [], _ => rfl
  | x :: xs, h => by
    rw [PyData.canLayAll0, h x (List.mem_cons_self ..), layAll_of fun y hy => h y (List.mem_cons_of_mem _ hy)]
    rfl
theorem depthAll_of {n : Nat} : ∀ {xs : List PyData}, (∀ x ∈ xs, x.depth ≤ n) → PyData.depthAll xs ≤ n
  | [], _ => Nat.zero_le _
  | x :: xs, h => by
    show max x.depth (PyData.depthAll xs) ≤ n
    exact Nat.max_le.mpr ⟨h x (List.mem_cons_self ..), depthAll_of fun y hy => h y (List.mem_cons_of_mem _ hy)⟩
theorem Sm.lay : ∀ (n : Nat) (d : PyData), Sm n d → d.canLay0 = true ∧ d.depth ≤ n
  | n, .none, _ => ⟨rfl, Nat.zero_le _⟩
  | n, .bool _, _ => ⟨rfl, Nat.zero_le _⟩
  | n, .int _, _ => ⟨rfl, Nat.zero_le _⟩
  | n, .str x, h => ⟨by simpa [PyData.canLay0, Sm] using h, Nat.zero_le _⟩
  | n + 1, .list xs, h => by
    obtain ⟨_, h⟩ := h
    refine ⟨by simp only [PyData.canLay0]; exact layAll_of fun x hx => (Sm.lay n x (h x hx)).1, ?_⟩
    simp only [PyData.depth]
    have := depthAll_of (n := n) fun x hx => (Sm.lay n x (h x hx)).2
    omega
  | n + 1, .tuple xs, h => by
    obtain ⟨_, h⟩ := h
    refine ⟨by simp only [PyData.canLay0]; exact layAll_of fun x hx => (Sm.lay n x (h x hx)).1, ?_⟩
    simp only [PyData.depth]
    have := depthAll_of (n := n) fun x hx => (Sm.lay n x (h x hx)).2
    omega
  | 0, .list _, h => h.elim
  | 0, .tuple _, h => h.elim
  | 0, .dict _, h => h.elim
  | n + 1, .dict _, h => h.elim
theorem Sm.shaped {n : Nat} {d : PyData} (h : Sm n d) (hn : n ≤ 64) : SeqAt.shaped d = true := by
  obtain ⟨h1, h2⟩ := Sm.lay n d h
  unfold SeqAt.shaped
  rw [h1, decide_eq_true (show d.depth ≤ 64 by omega)]
  rfl
theorem Sm.eqv {n : Nat} {d : PyData} (h : Sm n d) (hn : n ≤ 64) : PyData.eqv d d = true := eqv_eq (h.shaped hn)
theorem sm_ints {n : Nat} {ns : List Int} (h : ns.length < 1000) : Sm (n + 1) (.list (intsD ns)) := ⟨by rw [len_intsD]; exact h, fun x hx => by
  obtain ⟨i, _, rfl⟩ := List.mem_map.mp hx
  exact sm_int⟩
theorem lt_lim {n : Nat} (h : n < 1000) : n < lim := Nat.lt_of_lt_of_le h (by decide)
end Dd
namespace Dd
open PySem L2
theorem pyV_rp {b : Option Addr} {G : Hp} {v : V} {d : PyData} (h : Rp b G v d) (f : flatD d = true) : ∀ G', Rp b G' v d := fun G' => by
  cases h with
  | non => exact .non
  | bl k => exact .bl k
  | int i => exact .int i
  | str x => exact .str x
  | lst _ _ => cases f
  | tup _ _ => cases f
  | box _ => cases f
  | exc _ => cases f
  | obj _ => cases f
  | ins _ _ _ _ => cases f
  | dic _ _ _ => cases f
  | diT _ _ _ => cases f
/-- a flat value read while all slots are settled -/
def flatT (P : T → Prop) (t : T) : Prop := match t with
  | .leaf d => flatD d = true ∧ P (.leaf d)
  | _ => False
def dBor (w : WE) : WE := fun _ ρ P => w noX (frzR ρ) (flatT P)
def dBorT (w : WT) : WT := fun _ ρ P => w noX (frzR ρ) P
section
variable {X : Cx} {E : SX} {e e2 e3 : Expr} {w we w1 w2 : WE} {wt : WT} {pos tpos p : Pos}
theorem d_bor (h : PE X e (tOf X.K X.mg E w)) : PE X e (tOf X.K X.mg E (dBor w)) := PE.of h fun σ H Q ⟨b, B, G, ρ, xp, P, p, hr, k⟩ => by
  obtain ⟨G1, ex, h1⟩ := hr.toHere.borrow
  refine ⟨b, B, G1, frzR ρ, noX, _, p, ⟨h1, noXC⟩, fun G' H' v t fp hp s tr fr => ?_⟩
  have st := Stp.back hr.good ex s
  cases tr with
  | leaf r => exact k G H' v _ [] hp.2 st (.leaf (pyV_rp r hp.1 G)) fun _ z => nomatch z
  | node _ _ _ _ _ => exact hp.elim
  | own _ => exact hp.elim
  | _ => exact hp.elim
theorem t_bor (h : PT X e (ttOf X.K X.mg E wt)) : PT X e (ttOf X.K X.mg E (dBorT wt)) := PT.of h fun σ H Q ⟨b, B, G, ρ, xp, P, p, hr, k⟩ => by
  obtain ⟨G1, ex, h1⟩ := hr.toHere.borrow
  exact ⟨b, B, G1, frzR ρ, noX, _, p, ⟨h1, noXC⟩, fun G' H' c hp s => k G H' c hp (Stp.back hr.good ex s)⟩
end
/-! ### list(range(n)) -/
theorem rp_rng {b : Option Addr} {G : Hp} (lo : Int) : ∀ n : Nat, RpAll b G ((List.range n).map fun i => V.int (lo + (i : Nat))) (rngD lo n)
  | 0 => .nil
  | n + 1 => by
    unfold rngD
    rw [List.range_succ, List.map_append, List.map_append]
    exact (rp_rng lo n).append (.cons (.int _) .nil)
def dLR1 (w : WE) : WE := fun x ρ P => w x ρ (asI fun n => 0 ≤ n ∧ n ≤ 1000 ∧ P (.node ((rngD 0 n.toNat).map .leaf)))
theorem d_listRg1 {X : Cx} {E : SX} {e : Expr} {w : WE} {p p2 pos pos2 : Pos} (hc : X.calm = true) (hm : X.mg "list" = none) (hm2 : X.mg "range" = none) (ha : PE X e (tOf X.K X.mg E w)) (hg : Gl X "list" := by rfl) (hg2 : Gl X "range" := by rfl) (na : starEach [e] X.env = (false, eval e X.env) :: starEach [] X.env := by rfl)
    (na2 : starEach [.Call (.Name "range" p2) [e] [] pos2] X.env = (false, eval (.Call (.Name "range" p2) [e] [] pos2) X.env) :: starEach [] X.env := by rfl) : PE X (.Call (.Name "list" p) [.Call (.Name "range" p2) [e] [] pos2] [] pos) (tOf X.K X.mg E (dLR1 w)) :=
  PE.of (pe_listRg hc hg hm (prg_1 hg2 hm2 ha na) na2) fun σ H Q ⟨b, B, G, ρ, xp, P, p, hr, k⟩ => ⟨b, B, G, ρ, xp, _, p, hr, fun G1 H1 v t fp hp s tr fr => by
    unfold asI at hp
    try dsimp only at hp
    split at hp
    · obtain ⟨h0, h1, hp⟩ := hp
      cases tr with
      | leaf r =>
        cases r
        refine ⟨_, rfl, RgOk.of_le (by omega) (by omega) (by omega) (by omega), fun q hq => ?_⟩
        refine new_lst s.good ?_ hp (k.stp hr.good s) hq
        unfold rgV
        rw [Int.sub_zero]
        exact rp_rng 0 _
    · exact hp.elim⟩
/-! ### a place of an own list of own lists -/
theorem TrAll.inner {b : Option Addr} {G H : Hp} : ∀ {fp : List Addr} {vs : List V} {ts us : List T} {n : Nat}, TrAll b G H fp vs ts → ts[n]? = some (.node us) →
    ∃ q fq ws, vs[n]? = some (.ref q) ∧ H q = some (.lst ws) ∧ G q = none ∧ b ≠ some q ∧ TrAll b G H fq ws us ∧ q ∉ fq ∧ q ∈ fp ∧
      ∀ (H' : Hp) (us' : List T) (fq' : List Addr) (ws' : List V), (∀ a, a ≠ q → H' a = H a) → H' q = some (.lst ws') → TrAll b G H' fq' ws' us' → (∀ a, a ∈ fq' → a ∈ fq) → ∃ fp', TrAll b G H' fp' vs (ts.set n (.node us')) ∧ ∀ a, a ∈ fp' → a ∈ fp
  | _, _, _, _, _, .nil, e => by simp at e
  | _, _, _, us, 0, .cons (fp := f1) (fq := f2) tr r dj, e => by
    simp at e
    subst e
    cases tr with
    | node hp gp bp rr np =>
      rename_i q fq ws
      refine ⟨q, fq, ws, rfl, hp, gp, bp, rr, np, List.mem_append_left _ (List.mem_cons_self ..), fun H' us' fq' ws' ho hq rr' sub => ?_⟩
      have nq : q ∉ fq' := fun z => np (sub q z)
      have r2 := r.move (G' := G) (H' := H') (Ex.rfl' _) fun a m => ⟨(r.mem a m).1, ho a fun z => dj q (List.mem_cons_self ..) (by rw [← z]; exact m)⟩
      refine ⟨(q :: fq') ++ f2, .cons (.node hq gp bp rr' nq) r2 fun a z y => ?_, fun a z => ?_⟩
      · rcases List.mem_cons.mp z with z | z
        · subst z
          exact dj _ (List.mem_cons_self ..) y
        · exact dj a (List.mem_cons_of_mem _ (sub a z)) y
      · rcases List.mem_append.mp z with z | z
        · rcases List.mem_cons.mp z with z | z
          · subst z
            exact List.mem_append_left _ (List.mem_cons_self ..)
          · exact List.mem_append_left _ (List.mem_cons_of_mem _ (sub a z))
        · exact List.mem_append_right _ z
  | _, _, _, us, n + 1, .cons (fp := f1) (fq := f2) tr r dj, e => by
    obtain ⟨q, fq, ws, h1, h2, h3, h4, h5, h6, h7, h8⟩ := TrAll.inner (n := n) r (by simpa using e)
    refine ⟨q, fq, ws, by simpa using h1, h2, h3, h4, h5, h6, List.mem_append_right _ h7, fun H' us' fq' ws' ho hq rr' sub => ?_⟩
    obtain ⟨fp', g1, g2⟩ := h8 H' us' fq' ws' ho hq rr' sub
    have t2 := tr.move (G' := G) (H' := H') (Ex.rfl' _) fun a m => ⟨(tr.mem a m).1, ho a fun z => dj q (by rw [← z]; exact m) h7⟩
    exact ⟨f1 ++ fp', .cons t2 g1 fun a z y => dj a z (g2 a y), fun a z => (List.mem_append.mp z).elim (fun z => List.mem_append_left _ z) fun z => List.mem_append_right _ (g2 a z)⟩
theorem own_set2 {K : PySem.W.Frag} {b : Option Addr} {F G0 H0 G H : Hp} {σ : L2.St} {ρ : Rho} {i : Nat} {ts us : List T} {n m : Nat} {v : V} {d : PyData} (g0 : Good K b G0 H0) (e1 : Ex F G) (s : Stp K b G0 H0 G H) (E1 : Env b H0 G H σ ρ) (et : ρ[i]? = some (some (.node ts))) (en : ts[n]? = some (.node us)) (r : Rp b G v d) :
    ∃ q vs p ws, σ[i]? = some (some (.ref q)) ∧ H q = some (.lst vs) ∧ vs.length = ts.length ∧ vs[n]? = some (.ref p) ∧ H p = some (.lst ws) ∧ ws.length = us.length ∧ (∀ (j : Nat) d', us[j]? = some (.leaf d') → ∃ u, ws[j]? = some u ∧ Rp b G u d') ∧
      At K b F G0 H0 (ρ.set i (some (.node (ts.set n (.node (us.set m (.leaf d))))))) σ (upd H p (.lst (ws.set m v))) := by
  obtain ⟨fp, v0, ev, tr, hB, EX⟩ := E1.take et
  cases tr with
  | node hp gp bp rr np =>
    rename_i q fq vs
    obtain ⟨p, fw, ws, h1, h2, h3, h4, h5, h6, h7, h8⟩ := rr.inner en
    refine ⟨q, vs, p, ws, ev, hp, rr.len, h1, h2, h5.len, fun j d' h => h5.at h, ?_⟩
    obtain ⟨fn, tr3, sub⟩ := TrAll.setLeaf r m h5
    have npn : p ∉ fn := fun z => h6 (sub _ z)
    have pq : q ≠ p := fun z => np (by rw [z]; exact h7)
    obtain ⟨fp', g1, g2⟩ := h8 (upd H p (.lst (ws.set m v))) (us.set m (.leaf d)) fn (ws.set m v) (fun a na => upd_ne na) upd_same (tr3.move (Ex.rfl' _) fun a z => ⟨(tr3.mem a z).1, upd_ne fun y => npn (by rw [← y]; exact z)⟩) sub
    have npq : q ∉ fp' := fun z => np (g2 q z)
    -- the heap changes at p, which is ours
    have st : Stp K b G0 H0 G (upd H p (.lst (ws.set m v))) := by
      refine ⟨s.ex, ⟨fun a u e => ?_, fun a c => ?_⟩, fun a u n e => ?_, s.out, fun a c => (boxc_eq (upd_ne fun q => h4 (by rw [← q]; exact c))).trans (s.cel a c)⟩
      · have na : a ≠ p := fun q => by
          rw [q, h3] at e
          cases e
        rw [upd_ne na]
        exact s.good.ex a u e
      · obtain ⟨n, cc, cells, pos, rest, seed, q1, q2, q3⟩ := s.good.box a c
        have na : a ≠ p := fun q => h4 (by rw [← q]; exact c)
        exact ⟨n, cc, cells, pos, rest, seed, by rw [upd_ne na]; exact q1, q2, q3⟩
      · have na : a ≠ p := fun z => by
          rw [z, hB p (List.mem_cons_of_mem _ h7)] at e
          cases e
        rw [upd_ne na]
        exact s.keep a u n e
    have E2 := EX.back (H2 := upd H p (.lst (ws.set m v))) (fun a o n _ e => by
      rw [upd_ne fun z => n (by rw [z]; exact List.mem_cons_of_mem _ h7)]
      exact e) (.node (by rw [upd_ne pq]; exact hp) gp bp g1 npq) (fun a z => by
      rcases List.mem_cons.mp z with z | z
      · subst z
        exact ⟨hB _ (List.mem_cons_self ..), .inl (List.mem_cons_self ..)⟩
      · exact ⟨hB _ (List.mem_cons_of_mem _ (g2 a z)), .inl (List.mem_cons_of_mem _ (g2 a z))⟩)
    rw [set_same ev] at E2
    exact ⟨G, e1, st, E2⟩
theorem env_node2 {K : PySem.W.Frag} {b : Option Addr} {B G H : Hp} {σ : L2.St} {ρ : Rho} {i : Nat} {ts us : List T} {n : Nat} (E1 : Env b B G H σ ρ) (et : ρ[i]? = some (some (.node ts))) (en : ts[n]? = some (.node us)) :
    ∃ q vs p ws, σ[i]? = some (some (.ref q)) ∧ H q = some (.lst vs) ∧ vs.length = ts.length ∧ vs[n]? = some (.ref p) ∧ H p = some (.lst ws) ∧ b ≠ some q ∧ b ≠ some p := by
  obtain ⟨fp, v0, ev, tr, hB, EX⟩ := E1.take et
  cases tr with
  | node hp gp bp rr np =>
    rename_i q fq vs
    obtain ⟨p, fw, ws, h1, h2, h3, h4, h5, h6, h7, h8⟩ := rr.inner en
    exact ⟨q, vs, p, ws, ev, hp, rr.len, h1, h2, bp, h4⟩
/-- x[a][b] = e -/
def dSet2 (i : Nat) (w1 w2 we : WE) : WS := fun C ρ => we (C.xc ρ) ρ fun t => ∃ ts, ρ[i]? = some (some (.node ts)) ∧ w1 (C.xc ρ) ρ (asI fun k => ∃ n us, ixN ts.length k = some n ∧ ts[n]? = some (.node us) ∧ w2 (C.xc ρ) ρ (asI fun l => ∃ m, ixN us.length l = some m ∧
  C.nx (ρ.set i (some (.node (ts.set n (.node (us.set m (.leaf t.dat)))))))))
section
variable {X : Cx} {E : SX} {e e2 e3 : Expr} {w we w1 w2 : WE} {wt : WT} {pos tpos ipos p : Pos}
theorem set2_core {i : Nat} {D : Ends} {σ : L2.St} {H : Hp} : sOf X.K X.mg E (dSet2 i w1 w2 we) D σ H → tAsg (tOf X.K X.mg E we) (gSub (tOp (rIxL X.K) (tVar i) (tOf X.K X.mg E w1)) (tOf X.K X.mg E w2) rSetL) D σ H := fun ⟨b, F, G0, H0, ρ, C, q, g0, a, eo⟩ => by
  obtain ⟨G, e1, s, hr⟩ := a.site g0 eo
  refine tOfD_of ⟨b, H0, G, ρ, C.xc ρ, fun d => ∃ ts, ρ[i]? = some (some (.node ts)) ∧ w1 (C.xc ρ) ρ (asI fun k => ∃ n us, ixN ts.length k = some n ∧ ts[n]? = some (.node us) ∧ w2 (C.xc ρ) ρ (asI fun l => ∃ m, ixN us.length l = some m ∧
    C.nx (ρ.set i (some (.node (ts.set n (.node (us.set m (.leaf d))))))))), q, hr, fun G1 H1 v d hp s1 hr1 rd => ?_⟩
  obtain ⟨ts, et, hp⟩ := hp
  obtain ⟨q0, vs0, ev, hq0, _, bq, _⟩ := env_node (K := X.K) hr1.env et
  refine ⟨_, ev, b, H0, G1, ρ, C.xc ρ, _, hp, hr1, fun G2 H2 u t fp ht s2 tr fr => ?_⟩
  unfold asI at ht
  try dsimp only at ht
  split at ht
  · obtain ⟨n, us, hn, en, ht⟩ := ht
    cases tr with
    | leaf r =>
      cases r
      have hr2 := hr1.stp s2
      obtain ⟨q1, vs1, p1, ws1, ev1, hq1, hl1, hn1, hp1, _, bp1⟩ := env_node2 (K := X.K) hr2.env et en
      rw [ev] at ev1
      cases ev1
      refine ⟨_, vs1, _, .ref p1, rfl, rfl, .inl (.inl hq1), ?_, b, H0, G2, ρ, C.xc ρ, _, ht, hr2, fun G3 H3 u t fp ht s3 tr fr => ?_⟩
      · unfold L2.atI
        rw [hl1, hn]
        exact hn1
      try unfold asI at ht
      try dsimp only at ht
      split at ht
      · obtain ⟨m, hm, q⟩ := ht
        cases tr with
        | leaf r =>
          cases r
          have s123 := (s1.trans hr.good s2).trans hr.good s3
          obtain ⟨q2, vs2, p2, ws2, ev2, hq2, hl2, hn2, hp2, hlw, _, at2⟩ := own_set2 (m := m) g0 (e1.trans s123.ex) (s.trans g0 s123) (hr2.env.stp s3) et en (rd.mono (s2.ex.trans s3.ex))
          rw [ev] at ev2
          cases ev2
          have hv : vs2 = vs1 := by
            have := s3.keep _ _ (by
              intro z
              exact bq z) hq1
            rw [this] at hq2
            cases hq2
            rfl
          subst hv
          rw [hn1] at hn2
          cases hn2
          exact ⟨_, ws2, _, m, rfl, rfl, hp2, by rw [hlw]; exact hm, eo.nx _ _ _ q at2⟩
      · exact ht.elim
  · exact ht.elim
theorem s_set2 (i : Nat) {x : Str} {kp : Pos} (h1 : PE X e2 (tOf X.K X.mg E w1)) (h2 : PE X e3 (tOf X.K X.mg E w2)) (he : PE X e (tOf X.K X.mg E we)) (hN : X.N[i]? = some x := by rfl) (hv : Vis X.env.scope x := by first | exact Or.inl rfl | exact Or.inr (Or.inl rfl) | exact Or.inr (Or.inr rfl)) (hd : (x == ("__debug__" : Str)) = false := by decide) (hcd : (x == ("__classdict__" : Str)) = false := by decide)
    (hpl : PlainIx e2 := by exact fun _ _ => rfl)
    (ha : ∀ v, assign (.Subscript (.Subscript (.Name x kp) e2 ipos) e3 tpos) X.env v = (do
      let ov ← holding [v] (eval (.Subscript (.Name x kp) e2 ipos) X.env)
      let iv ← holding [v, ov] (eval e3 X.env)
      standAt tpos
      holding [v, ov, iv] (setItem ov iv v)
      release [v, ov, iv] []) := by intro _; rfl)
    (hs : swapsWithSole [.Subscript (.Subscript (.Name x kp) e2 ipos) e3 tpos] e pos.line X.env = pure false := by rfl) (hw : swappedStores [.Subscript (.Subscript (.Name x kp) e2 ipos) e3 tpos] e X.env = pure none := by rfl) (h1' : (assignEach [.Subscript (.Subscript (.Name x kp) e2 ipos) e3 tpos] X.env).map (·.2) = [assign (.Subscript (.Subscript (.Name x kp) e2 ipos) e3 tpos) X.env] := by rfl) :
    PS X (.Assign [.Subscript (.Subscript (.Name x kp) e2 ipos) e3 tpos] e pos) (sOf X.K X.mg E (dSet2 i w1 w2 we)) := PS.of (ps_asg he (pg_sub (pe_ix ix_list (pe_var hN hv hd hcd) h1 hpl) h2 set_list ha) hs hw h1') fun D σ H h => set2_core h
end
theorem rep1 {α : Type} (x : α) : ∀ n : Nat, (List.replicate n [x]).flatten = List.replicate n x
  | 0 => rfl
  | n + 1 => by
    rw [List.replicate_succ, List.flatten_cons, rep1 x n, List.replicate_succ] <;> rfl
theorem e_mulL {x : PyData} {i : Int} {P : T → Prop} : rdMul (.list [x]) (.int i) P = (0 ≤ i ∧ i ≤ 1000 ∧ P (.node (List.replicate i.toNat (.leaf x)))) := propext ⟨fun ⟨xs, j, e1, e2, h0, h1, _, p⟩ => by
  cases e1
  cases e2
  rw [rep1, List.map_replicate] at p
  exact ⟨h0, h1, p⟩, fun ⟨h0, h1, p⟩ => ⟨[x], i, rfl, rfl, h0, h1, by show 1 ≤ 10; decide, by
  rw [rep1, List.map_replicate]
  exact p⟩⟩
theorem e_addL {xs ys : List PyData} {P : T → Prop} : rdAdd (.list xs) (.list ys) P = (xs.length + ys.length ≤ lim ∧ P (.node ((xs ++ ys).map .leaf))) := propext ⟨fun h => h.elim (fun ⟨a, b, e1, e2, hl, p⟩ => by
  cases e1
  cases e2
  exact ⟨hl, p⟩) fun ⟨a, b, e1, _⟩ => (by cases e1), fun ⟨hl, p⟩ => .inl ⟨xs, ys, rfl, rfl, hl, p⟩⟩
theorem e_addT {xs ys : List PyData} {P : T → Prop} : rdAdd (.tuple xs) (.tuple ys) P = (xs ≠ [] ∧ xs.length + ys.length ≤ lim ∧ P (.leaf (.tuple (xs ++ ys)))) := propext ⟨fun h => h.elim (fun ⟨a, b, e1, _⟩ => (by cases e1)) fun ⟨a, b, e1, e2, h0, hl, p⟩ => by
  cases e1
  cases e2
  exact ⟨h0, hl, p⟩, fun ⟨h0, hl, p⟩ => .inr ⟨xs, ys, rfl, rfl, h0, hl, p⟩⟩
theorem intsD_inj : ∀ {a b : List Int}, intsD a = intsD b → a = b := fun {a} => by
  induction a with
  | nil =>
    intro b hb
    cases b with
    | nil => rfl
    | cons y b => cases hb
  | cons x a ih =>
    intro b hb
    cases b with
    | nil => cases hb
    | cons y b =>
      have h1 : PyData.int x = .int y ∧ intsD a = intsD b := by simpa [intsD] using hb
      cases h1.1
      rw [ih h1.2]
theorem e_sumI {ns : List Int} {P : T → Prop} : cSum [.list (intsD ns)] P = P (int ns.sum) := propext ⟨fun ⟨ms, e, p⟩ => by
  have h : intsD ns = intsD ms := by
    injection e with e1 _
    injection e1
  rw [intsD_inj h]
  exact p, fun p => ⟨ns, rfl, p⟩⟩
theorem zerosI (n : Nat) (x : Int) : T.node (List.replicate n (.leaf (.int x))) = nodeI (List.replicate n x) := by
  unfold nodeI
  rw [List.map_replicate]
theorem e_flat {P : T → Prop} {d : PyData} : flatT P (.leaf d) = (flatD d = true ∧ P (.leaf d)) := rfl
theorem frz_nil : frzR [] = [] := rfl
theorem frz_none {ρ : Rho} : frzR (none :: ρ) = none :: frzR ρ := rfl
theorem frz_some {ρ : Rho} {t : T} : frzR (some t :: ρ) = some t.frz :: frzR ρ := rfl
theorem frz_cons {ρ : Rho} {o : Option T} : frzR (o :: ρ) = Option.map T.frz o :: frzR ρ := rfl
theorem frz_leaf {d : PyData} : (T.leaf d).frz = .leaf d := rfl
theorem frz_node {ts : List T} : (T.node ts).frz = .leaf (T.node ts).dat := rfl
theorem frz_own {p : Addr} {t : T} : (T.own p t).frz = .leaf t.dat := rfl
theorem frz_ins {C : Addr} {ks : List Str} {ts : List T} : (T.ins C ks ts).frz = .leaf (T.ins C ks ts).dat := rfl
theorem frz_dic {ks : List Key} {ts : List T} : (T.dic ks ts).frz = .leaf (T.dic ks ts).dat := rfl
theorem frz_diT {ks : List (List Key)} {ts : List T} : (T.diT ks ts).frz = .leaf (T.diT ks ts).dat := rfl
theorem frz_sto {m : Addr → Option T} : (T.sto m).frz = .fro fun p => (m p).map T.dat := rfl
theorem flat_i {i : Int} : flatD (.int i) = true := rfl
theorem flat_b {i : Bool} : flatD (.bool i) = true := rfl
theorem flat_n : flatD .none = true := rfl
theorem flat_s {i : Str} : flatD (.str i) = true := rfl
/-- own tables -/
def nodeT (rows : List (List Int)) : T := .node (rows.map nodeI)
def tabD (rows : List (List Int)) : List PyData := rows.map fun r => .list (intsD r)
theorem nodeT_dat (rows : List (List Int)) : (nodeT rows).dat = .list (tabD rows) := by
  unfold nodeT tabD
  rw [dat_eq, List.map_map]
  congr 2
  funext r
  exact nodeI_dat r
theorem sm_tab {n : Nat} {rows : List (List Int)} (h : rows.length < 1000) (hr : ∀ r ∈ rows, r.length < 1000) : Sm (n + 2) (.list (tabD rows)) := ⟨by unfold tabD; rw [List.length_map]; exact h, fun x hx => by
  obtain ⟨r, hm, rfl⟩ := List.mem_map.mp hx
  exact sm_ints (hr r hm)⟩
end Dd
namespace Dd
open PySem L2
section
variable {X : Cx} {E : SX} {e e2 e3 : Expr} {w we w1 w2 : WE} {ws : WA} {pos tpos ipos p : Pos}
/-- xs.clear() -/
def dClr (i : Nat) : WS := fun C ρ => ∃ ts, ρ[i]? = some (some (.node ts)) ∧ C.nx (ρ.set i (some (.node [])))
theorem s_clr (i : Nat) {x : Str} {p apos cpos : Pos} (hN : X.N[i]? = some x := by rfl) (hv : Vis X.env.scope x := by first | exact Or.inl rfl | exact Or.inr (Or.inl rfl) | exact Or.inr (Or.inr rfl)) (hd : (x == ("__debug__" : Str)) = false := by decide) (hcd : (x == ("__classdict__" : Str)) = false := by decide)
    (hsw : swapsWith (.Call (.Attribute (.Name x p) "clear" apos) [] [] cpos) none pos.line X.env = pure false := by rfl)
    (hbase : attributeBase (.Name x p) "clear" X.env (eval (.Name x p) X.env) = eval (.Name x p) X.env := by rfl)
    (hline : (apos.endLine == cpos.line) = true := by rfl) :
    PS X (.Expr (.Call (.Attribute (.Name x p) "clear" apos) [] [] cpos) pos) (sOf X.K X.mg E (dClr i)) :=
  PS.of (ps_expr (pe_bm0 PySem.F.plainAttrs_list PySem.F.slot_list_clear PySem.F.type_list_clear mt_clear (pe_var hN hv hd hcd) hbase hline) hsw) fun D σ H ⟨b, F, G0, H0, ρ, C, ⟨ts, et, q⟩, g0, a, eo⟩ => by
  obtain ⟨G, e1, s, hr⟩ := a.site g0 eo
  obtain ⟨fp, v, ev, tr, hB, EX⟩ := hr.env.take et
  cases tr with
  | node hp gp bp rr np =>
    rename_i pp fq vs
    refine ⟨_, ev, .inl ⟨rfl, _, .inl (.inl hp)⟩, pp, vs, rfl, rfl, hp, eo.nx _ _ _ q ?_⟩
    refine At.mut (fp' := [pp]) g0 e1 s EX ev (List.mem_cons_self ..) hB gp bp (.node upd_same gp bp .nil (fun z => nomatch z)) fun a m => ?_
    rw [List.mem_singleton.mp m]
    exact ⟨hB _ (List.mem_cons_self ..), .inl (List.mem_cons_self ..)⟩
/-- an own tree moved into an own list -/
theorem Env.move2 {b : Option Addr} {B G H : Hp} {σ : L2.St} {ρ : Rho} {i j : Nat} {t u : T} (E : Env b B G H σ ρ) (hij : i ≠ j) (ei : ρ[i]? = some (some t)) (ej : ρ[j]? = some (some u)) :
    ∃ fp fq v y, σ[i]? = some (some v) ∧ σ[j]? = some (some y) ∧ Tr b G H fp v t ∧ Tr b G H fq y u ∧ (∀ a, a ∈ fp → B a = none) ∧ (∀ a, a ∈ fq → B a = none) ∧ (∀ a, a ∈ fp → a ∉ fq) ∧ EnvX b B H G H σ (ρ.set j none) i (fp ++ fq) := by
  obtain ⟨hl, fps, h1, h2, h3⟩ := E
  obtain ⟨v, e1, tr⟩ := h1 i t ei
  obtain ⟨y, e2, tr2⟩ := h1 j u ej
  refine ⟨fps i, fps j, v, y, e1, e2, tr, tr2, fun a m => (h2 i a m).1, fun a m => (h2 j a m).1, fun a m => h3 i j a hij m, by rw [List.length_set]; exact hl, fun k => if k = j then [] else fps k, fun k w n q => ?_, fun k a n m => ?_, fun k k' a _ _ n m => ?_⟩
  · have nk : k ≠ j := fun z => by
      subst z
      rw [List.getElem?_set_self (List.getElem?_eq_some_iff.mp ej).1] at q
      cases q
    rw [List.getElem?_set_ne (Ne.symm nk)] at q
    obtain ⟨z, e, tr⟩ := h1 k w q
    exact ⟨z, e, by simp only [if_neg nk]; exact tr⟩
  · by_cases c : k = j
    · simp only [if_pos c] at m
      cases m
    · simp only [if_neg c] at m
      obtain ⟨q1, q2, q3, o, q4⟩ := h2 k a m
      exact ⟨q1, q2, q3, ⟨o, q4, q4⟩, fun z => (List.mem_append.mp z).elim (h3 k i a n m) (h3 k j a c m)⟩
  · by_cases c : k = j
    · simp only [if_pos c] at m
      cases m
    · simp only [if_neg c] at m
      by_cases c' : k' = j
      · simp only [if_pos c']
        exact fun z => nomatch z
      · simp only [if_neg c']
        exact h3 k k' a n m
/-- xs.append(y): y's own tree moves in -/
def dAppV (i j : Nat) : WS := fun C ρ => ∃ ts u, ρ[i]? = some (some (.node ts)) ∧ ρ[j]? = some (some u) ∧ ts.length < lim ∧ C.nx ((ρ.set j none).set i (some (.node (ts ++ [u]))))
theorem s_appV (i j : Nat) {x y : Str} {p p2 apos cpos : Pos} (hij : i ≠ j := by decide) (hN : X.N[i]? = some x := by rfl) (hM : X.N[j]? = some y := by rfl) (hv : Vis X.env.scope x := by first | exact Or.inl rfl | exact Or.inr (Or.inl rfl) | exact Or.inr (Or.inr rfl)) (hv2 : Vis X.env.scope y := by first | exact Or.inl rfl | exact Or.inr (Or.inl rfl) | exact Or.inr (Or.inr rfl)) (hd : (x == ("__debug__" : Str)) = false := by decide) (hcd : (x == ("__classdict__" : Str)) = false := by decide) (hd2 : (y == ("__debug__" : Str)) = false := by decide) (hcd2 : (y == ("__classdict__" : Str)) = false := by decide)
    (hsw : swapsWith (.Call (.Attribute (.Name x p) "append" apos) [.Name y p2] [] cpos) none pos.line X.env = pure false := by rfl)
    (hbase : attributeBase (.Name x p) "append" X.env (eval (.Name x p) X.env) = eval (.Name x p) X.env := by rfl)
    (hfew : ((backTo cpos (starEach [.Name y p2] X.env)).all (fun x => !x.1) && (backToKw cpos (keywordEach [] X.env)).all (fun x => x.1.isSome)
      && decide (([.Name y p2] : List Expr).length + ([] : List Keyword).length + (if ([] : List Keyword).isEmpty then 0 else 1) < 30)) = true := by rfl)
    (hline : (apos.endLine == cpos.line) = true := by rfl) (hs : starEach [.Name y p2] X.env = (false, eval (.Name y p2) X.env) :: starEach [] X.env := by rfl) (hplain : (backTo cpos (starEach [] X.env)).any (·.1) = false := by rfl) :
    PS X (.Expr (.Call (.Attribute (.Name x p) "append" apos) [.Name y p2] [] cpos) pos) (sOf X.K X.mg E (dAppV i j)) :=
  PS.of (ps_expr (pe_bm PySem.F.plainAttrs_list PySem.F.slot_list_append PySem.F.type_list_append mt_append (pe_var hN hv hd hcd) (pa_cons (pe_var hM hv2 hd2 hcd2) pa_nil hs) hbase hfew hline hs hplain) hsw) fun D σ H ⟨b, F, G0, H0, ρ, C, ⟨ts, u, et, eu, hl, q⟩, g0, a, eo⟩ => by
  obtain ⟨G, e1, s, hr⟩ := a.site g0 eo
  obtain ⟨fp, fv, v, y, ev, ey, tr, tr2, hB, hB2, dj, EX⟩ := hr.env.move2 hij et eu
  cases tr with
  | node hp gp bp rr np =>
    rename_i pp fq vs
    refine ⟨_, ev, .inl ⟨rfl, _, .inl (.inl hp)⟩, _, ey, pp, vs, y, rfl, rfl, hp, by rw [rr.len]; exact lim_lt hl, eo.nx _ _ _ q ?_⟩
    obtain ⟨fn, tr3, sub⟩ := TrAll.snoc rr tr2 fun a m => dj a (List.mem_cons_of_mem _ m)
    have npn : pp ∉ fn := fun z => (sub _ z).elim np (dj _ (List.mem_cons_self ..))
    refine At.mut (fp' := pp :: fn) g0 e1 s EX ev (List.mem_append_left _ (List.mem_cons_self ..)) (fun a m => (List.mem_append.mp m).elim (hB a) (hB2 a)) gp bp (.node upd_same gp bp (tr3.move (Ex.rfl' _) fun a m => ⟨(tr3.mem a m).1, upd_ne fun z => npn (by rw [← z]; exact m)⟩) npn) fun a m => ?_
    rcases List.mem_cons.mp m with m | m
    · rw [m]
      exact ⟨hB _ (List.mem_cons_self ..), .inl (List.mem_append_left _ (List.mem_cons_self ..))⟩
    · rcases sub a m with z | z
      · exact ⟨hB _ (List.mem_cons_of_mem _ z), .inl (List.mem_append_left _ (List.mem_cons_of_mem _ z))⟩
      · exact ⟨hB2 _ z, .inl (List.mem_append_right _ z)⟩
/-- x[a][b] += e -/
def dAug2 (f : Int → Int → Int) (i : Nat) (w1 w2 we : WE) : WS := fun C ρ => ∃ ts, ρ[i]? = some (some (.node ts)) ∧ w1 (C.xc ρ) ρ (asI fun k => ∃ n us, ixN ts.length k = some n ∧ ts[n]? = some (.node us) ∧ w2 (C.xc ρ) ρ (asI fun l => ∃ a, 0 ≤ l ∧ us[l.toNat]? = some (int a) ∧
  we (C.xc ρ) ρ (asI fun c => C.nx (ρ.set i (some (.node (ts.set n (.node (us.set l.toNat (int (f a c)))))))))))
theorem env_node2' {K : PySem.W.Frag} {b : Option Addr} {B G H : Hp} {σ : L2.St} {ρ : Rho} {i : Nat} {ts us : List T} {n : Nat} (E1 : Env b B G H σ ρ) (et : ρ[i]? = some (some (.node ts))) (en : ts[n]? = some (.node us)) :
    ∃ q vs p ws, σ[i]? = some (some (.ref q)) ∧ H q = some (.lst vs) ∧ vs.length = ts.length ∧ vs[n]? = some (.ref p) ∧ H p = some (.lst ws) ∧ b ≠ some q ∧ b ≠ some p ∧ ws.length = us.length ∧ ∀ (j : Nat) d', us[j]? = some (.leaf d') → ∃ u, ws[j]? = some u ∧ Rp b G u d' := by
  obtain ⟨fp, v0, ev, tr, hB, EX⟩ := E1.take et
  cases tr with
  | node hp gp bp rr np =>
    rename_i q fq vs
    obtain ⟨p, fw, ws, h1, h2, h3, h4, h5, h6, h7, h8⟩ := rr.inner en
    exact ⟨q, vs, p, ws, ev, hp, rr.len, h1, h2, bp, h4, h5.len, fun j d' h => h5.at h⟩
theorem s_aug2 {op : Operator} {f : Int → Int → Int} (ho : PIp X op (ipI f)) (i : Nat) {x : Str} {kp : Pos} (h1 : PE X e2 (tOf X.K X.mg E w1)) (h2 : PE X e3 (tOf X.K X.mg E w2)) (he : PE X e (tOf X.K X.mg E we)) (hN : X.N[i]? = some x := by rfl) (hv : Vis X.env.scope x := by first | exact Or.inl rfl | exact Or.inr (Or.inl rfl) | exact Or.inr (Or.inr rfl)) (hd : (x == ("__debug__" : Str)) = false := by decide) (hcd : (x == ("__classdict__" : Str)) = false := by decide)
    (hpl : PlainIx e2 := by exact fun _ _ => rfl)
    (ha : ∀ ov iv new, augStore e3 ov iv new = (do holding [new, ov, iv] (setItem ov iv new); release [new, ov, iv] []; pure .next) := by intros; rfl) :
    PS X (.AugAssign (.Subscript (.Subscript (.Name x kp) e2 ipos) e3 tpos) op e pos) (sOf X.K X.mg E (dAug2 f i w1 w2 we)) := PS.of (ps_augS (pe_ix ix_list (pe_var hN hv hd hcd) h1 hpl) h2 get_list he ho set_list ha) fun D σ H ⟨b, F, G0, H0, ρ, C, ⟨ts, et, q⟩, g0, a, eo⟩ => by
  obtain ⟨G, e1, s, hr⟩ := a.site g0 eo
  obtain ⟨q0, vs0, ev, hq0, _, bq, _⟩ := env_node (K := X.K) hr.env et
  refine ⟨_, ev, b, H0, G, ρ, C.xc ρ, _, q, hr, fun G1 H1 u t fp ht s1 tr fr => ?_⟩
  try unfold asI at ht
  try dsimp only at ht
  split at ht
  · obtain ⟨n, us, hn, en, ht⟩ := ht
    cases tr with
    | leaf r =>
      cases r
      have hr1 := hr.stp s1
      obtain ⟨q1, vs1, p1, ws1, ev1, hq1, hl1, hn1, hp1, _, bp1, _, _⟩ := env_node2' (K := X.K) hr1.env et en
      rw [ev] at ev1
      cases ev1
      refine ⟨_, vs1, _, .ref p1, rfl, rfl, .inl (.inl hq1), ?_, b, H0, G1, ρ, C.xc ρ, _, ht, hr1, fun G2 H2 u t fp ht s2 tr fr => ?_⟩
      · unfold L2.atI
        rw [hl1, hn]
        exact hn1
      try unfold asI at ht
      try dsimp only at ht
      split at ht
      · obtain ⟨a0, h0, ea, ht⟩ := ht
        cases tr with
        | leaf r =>
          cases r
          have hr2 := hr1.stp s2
          obtain ⟨q2, vs2, p2, ws2, ev2, hq2, hl2, hn2, hp2, _, bp2, hlw, at2⟩ := env_node2' (K := X.K) hr2.env et en
          rw [ev] at ev2
          cases ev2
          have hv : vs2 = vs1 := by
            have := s2.keep _ _ (by
              intro z
              exact bq z) hq1
            rw [this] at hq2
            cases hq2
            rfl
          subst hv
          rw [hn1] at hn2
          cases hn2
          obtain ⟨u1, hu1, ru1⟩ := at2 _ _ ea
          cases ru1
          refine ⟨_, _, _, _, rfl, rfl, hp2, h0, hu1, b, H0, G2, ρ, C.xc ρ, _, ht, hr2, fun G3 H3 u t fp ht s3 tr fr => ?_⟩
          try unfold asI at ht
          try dsimp only at ht
          split at ht
          · cases tr with
            | leaf r =>
              cases r
              have s123 := (s1.trans hr.good s2).trans hr.good s3
              obtain ⟨q3, vs3, p3, ws3, ev3, hq3, hl3, hn3, hp3, hlw3, _, at3⟩ := own_set2 (m := _) g0 (e1.trans s123.ex) (s.trans g0 s123) (hr2.env.stp s3) et en (.int _)
              rw [ev] at ev3
              cases ev3
              have hv : vs3 = vs2 := by
                have := s3.keep _ _ (by
                  intro z
                  exact bq z) hq2
                rw [this] at hq3
                cases hq3
                rfl
              subst hv
              rw [hn1] at hn3
              cases hn3
              have hlt := (List.getElem?_eq_some_iff.mp ea).1
              exact ⟨_, _, rfl, rfl, _, ws3, _, _, rfl, rfl, hp3, ixN_of h0 (by omega), eo.nx _ _ _ ht at3⟩
          · exact ht.elim
      · exact ht.elim
  · exact ht.elim
/-- min, max of a list of whole numbers -/
def cMin1 : CD := fun ds P => ∃ ns : List Int, ds = [.list (intsD ns)] ∧ 0 < ns.length ∧ ∀ m, m ∈ ns → (∀ y, y ∈ ns → m ≤ y) → P (int m)
def cMax1 : CD := fun ds P => ∃ ns : List Int, ds = [.list (intsD ns)] ∧ 0 < ns.length ∧ ∀ m, m ∈ ns → (∀ y, y ∈ ns → y ≤ m) → P (int m)
theorem ok_min1 {K : PySem.W.Frag} : CdOk K (rMin K) cMin1 := fun b G H vs ds P Q g r h k => by
  obtain ⟨ns, rfl, h0, p⟩ := h
  cases r with
  | cons r1 r2 =>
    cases r2
    cases r1 with
    | lst h1 h2 =>
      have e := rp_ints h2
      subst e
      exact ⟨_, ns, rfl, .inl (.inl (g.ex _ _ h1)), h0, fun m m0 m1 => k.leaf g (p m m0 m1) (.int _)⟩
theorem ok_max1 {K : PySem.W.Frag} : CdOk K (rMax K) cMax1 := fun b G H vs ds P Q g r h k => by
  obtain ⟨ns, rfl, h0, p⟩ := h
  cases r with
  | cons r1 r2 =>
    cases r2
    cases r1 with
    | lst h1 h2 =>
      have e := rp_ints h2
      subst e
      exact ⟨_, ns, rfl, .inl (.inl (g.ex _ _ h1)), h0, fun m m0 m1 => k.leaf g (p m m0 m1) (.int _)⟩
theorem d_min1 (hc : X.calm = true) (hm : X.mg "min" = none) (ha : PA X [e] (aOf X.K X.mg E ws)) (hg : Gl X "min" := by rfl) (he : starEach [e] X.env = (false, eval e X.env) :: starEach [] X.env := by rfl) (hpl : (backTo pos (starEach [] X.env)).any (·.1) = false := by rfl) : PE X (.Call (.Name "min" p) [e] [] pos) (tOf X.K X.mg E (dBlt cMin1 ws)) :=
  d_blt (cr_min hc) ok_min1 hg hm (by decide +kernel) ha (by decide) (by decide) he hpl
theorem d_max1 (hc : X.calm = true) (hm : X.mg "max" = none) (ha : PA X [e] (aOf X.K X.mg E ws)) (hg : Gl X "max" := by rfl) (he : starEach [e] X.env = (false, eval e X.env) :: starEach [] X.env := by rfl) (hpl : (backTo pos (starEach [] X.env)).any (·.1) = false := by rfl) : PE X (.Call (.Name "max" p) [e] [] pos) (tOf X.K X.mg E (dBlt cMax1 ws)) :=
  d_blt (cr_max hc) ok_max1 hg hm (by decide +kernel) ha (by decide) (by decide) he hpl
end
theorem e_min1 {ns : List Int} {P : T → Prop} : cMin1 [.list (intsD ns)] P = (0 < ns.length ∧ ∀ m, m ∈ ns → (∀ y, y ∈ ns → m ≤ y) → P (int m)) := propext ⟨fun ⟨ms, e, p⟩ => by
  have h : intsD ns = intsD ms := by
    injection e with e1 _
    injection e1
  rw [intsD_inj h]
  exact p, fun p => ⟨ns, rfl, p⟩⟩
theorem e_max1 {ns : List Int} {P : T → Prop} : cMax1 [.list (intsD ns)] P = (0 < ns.length ∧ ∀ m, m ∈ ns → (∀ y, y ∈ ns → y ≤ m) → P (int m)) := propext ⟨fun ⟨ms, e, p⟩ => by
  have h : intsD ns = intsD ms := by
    injection e with e1 _
    injection e1
  rw [intsD_inj h]
  exact p, fun p => ⟨ns, rfl, p⟩⟩
end Dd
/-! Promises and mathematics that several laws use. -/
namespace Dd
open PySem L2
def tkOk (x : Int) : Prop := 1 ≤ x ∧ x ≤ 1000
def S_l_great : Spec := fun ds P _ => ds = [.dict []] ∧ ∀ r : Int, 0 ≤ r → r < 1000000000000000000 → P (int r)
theorem e_great {P : T → Prop} {x : XP} : S_l_great [.dict []] P x = ∀ r : Int, 0 ≤ r → r < 1000000000000000000 → P (int r) := propext ⟨fun h => h.2, fun h => ⟨rfl, h⟩⟩
/-! ### the greatest number that divides both -/
theorem gcd_step (a b : Int) : Int.gcd b (a % b) = Int.gcd a b := by
  have h : a % b = a + b * (-(a / b)) := by
    have := Int.emod_add_mul_ediv a b
    rw [Int.mul_neg]
    omega
  rw [h, Int.gcd_comm a b]
  exact Int.gcd_add_mul_left_right ..
theorem gcd_ok {a b : Int} (ha : tkOk a) (hb : tkOk b) : 0 < (Int.gcd a b : Int) ∧ (Int.gcd a b : Int) ≤ 1000 := by
  have h1 : 0 < Int.gcd a b := Int.gcd_pos_of_ne_zero_left _ (by have := ha.1; omega)
  have h2 : (Int.gcd a b : Int) ≤ a := Int.le_of_dvd (by have := ha.1; omega) (Int.gcd_dvd_left ..)
  have := ha.2
  omega
def unitD (a b : Int) : PyData := .tuple [.int (b / (Int.gcd a b : Int)), .int (a / (Int.gcd a b : Int))]
def uw (a b : Int) : Int := a * (b / (Int.gcd a b : Int))
theorem div_ok {i j : Int} (h0 : 0 < j) (h1 : j ≤ 1000) : CDivW i j := wide_div (b := 10) h0 (by omega) (by decide) (by decide)
theorem small_mul {i j : Int} (hi : i.natAbs < 2 ^ 200) (hj : j.natAbs < 2 ^ 200) : CMulW i j := wide_mul hi hj (by decide) (by decide) (by decide)
theorem small_lt {i : Int} (h0 : 0 ≤ i) (h : i < 1000000000000000000000000000000) : i.natAbs < 2 ^ 200 := Nat.lt_of_lt_of_le (show i.natAbs < 1000000000000000000000000000000 by omega) (by decide)
theorem div_le {a b : Int} (ha : tkOk a) (hb : tkOk b) : 0 ≤ b / (Int.gcd a b : Int) ∧ b / (Int.gcd a b : Int) ≤ 1000 := by
  obtain ⟨g0, g1⟩ := gcd_ok ha hb
  have h1 := hb.1
  have h2 := hb.2
  exact ⟨Int.ediv_nonneg (by omega) (by omega), Int.le_trans (Int.ediv_le_self _ (by omega)) h2⟩
end Dd
/-! Tables of whole numbers. -/
namespace Dd
open PySem L2
theorem Sm.mono : ∀ {n m : Nat} {d : PyData}, Sm n d → n ≤ m → Sm m d
  | _, _, .none, _, _ => sm_none
  | _, _, .bool _, _, _ => sm_bool
  | _, _, .int _, _, _ => sm_int
  | n, m, .str x, h, _ => by
    cases n <;> cases m <;> exact h
  | n + 1, m + 1, .list xs, h, k => ⟨h.1, fun x hx => Sm.mono (h.2 x hx) (by omega)⟩
  | n + 1, m + 1, .tuple xs, h, k => ⟨h.1, fun x hx => Sm.mono (h.2 x hx) (by omega)⟩
  | 0, _, .list _, h, _ => h.elim
  | 0, _, .tuple _, h, _ => h.elim
  | 0, _, .dict _, h, _ => h.elim
  | n + 1, _, .dict _, h, _ => h.elim
  | n + 1, 0, .list _, h, k => by omega
  | n + 1, 0, .tuple _, h, k => by omega
def at2 (rows : List (List Int)) (i j : Nat) : Int := (rows.getD i []).getD j 0
def set2 (rows : List (List Int)) (i j : Nat) (v : Int) : List (List Int) := rows.set i ((rows.getD i []).set j v)
structure TabOk (n : Nat) (M : Int) (rows : List (List Int)) : Prop where
  len : rows.length = n
  row : ∀ r ∈ rows, r.length = n
  val : ∀ i j, 0 ≤ at2 rows i j ∧ at2 rows i j < M
  dia : ∀ i, at2 rows i i = 0
def Sym (rows : List (List Int)) : Prop := ∀ i j, at2 rows i j = at2 rows j i
theorem getD_len {n : Nat} {rows : List (List Int)} (h : ∀ r ∈ rows, r.length = n) {i : Nat} (hi : i < rows.length) : (rows.getD i []).length = n := by
  rw [List.getD_eq_getElem?_getD, List.getElem?_eq_getElem hi]
  exact h _ (List.getElem_mem _)
theorem at2_set2 {n : Nat} {rows : List (List Int)} (hl : rows.length = n) (hr : ∀ r ∈ rows, r.length = n) {i j : Nat} (hi : i < n) (hj : j < n) (v : Int) (a b : Nat) : at2 (set2 rows i j v) a b = if a = i ∧ b = j then v else at2 rows a b := by
  unfold at2 set2
  have hli := getD_len hr (show i < rows.length by omega)
  by_cases ha : a = i
  · subst ha
    rw [show (rows.set a ((rows.getD a []).set j v)).getD a [] = (rows.getD a []).set j v by
      rw [List.getD_eq_getElem?_getD, List.getElem?_set_self (by omega)] <;> rfl]
    by_cases hb : b = j
    · subst hb
      rw [if_pos ⟨rfl, rfl⟩, List.getD_eq_getElem?_getD, List.getElem?_set_self (by omega)] <;> rfl
    · rw [if_neg (fun z => hb z.2), List.getD_eq_getElem?_getD, List.getElem?_set_ne (Ne.symm hb), ← List.getD_eq_getElem?_getD]
  · rw [if_neg (fun z => ha z.1)]
    rw [show (rows.set i ((rows.getD i []).set j v)).getD a [] = rows.getD a [] by
      rw [List.getD_eq_getElem?_getD, List.getElem?_set_ne (Ne.symm ha), ← List.getD_eq_getElem?_getD]]
theorem set2_len (rows : List (List Int)) (i j : Nat) (v : Int) : (set2 rows i j v).length = rows.length := by unfold set2; rw [List.length_set]
theorem set2_row {n : Nat} {rows : List (List Int)} (hl : rows.length = n) (hr : ∀ r ∈ rows, r.length = n) {i j : Nat} (hi : i < n) (v : Int) : ∀ r ∈ set2 rows i j v, r.length = n := fun r h => by
  unfold set2 at h
  rcases List.mem_or_eq_of_mem_set h with h | h
  · exact hr r h
  · rw [h, List.length_set]
    exact getD_len hr (by omega)
theorem TabOk.set {n : Nat} {M : Int} {rows : List (List Int)} (h : TabOk n M rows) {i j : Nat} {v : Int} (hi : i < n) (hj : j < n) (hij : i ≠ j) (h0 : 0 ≤ v) (h1 : v < M) : TabOk n M (set2 rows i j v) := by
  refine ⟨by rw [set2_len]; exact h.len, set2_row h.len h.row hi v, fun a b => ?_, fun a => ?_⟩
  · rw [at2_set2 h.len h.row hi hj]
    split
    · exact ⟨h0, h1⟩
    · exact h.val a b
  · rw [at2_set2 h.len h.row hi hj, if_neg (fun z => hij (z.1.symm.trans z.2))]
    exact h.dia a
/-- a place and its mirror are written with the same number -/
theorem Sym.set {n : Nat} {rows : List (List Int)} (s : Sym rows) (hl : rows.length = n) (hr : ∀ r ∈ rows, r.length = n) {i j : Nat} {v : Int} (hi : i < n) (hj : j < n) (hij : i ≠ j) : Sym (set2 (set2 rows i j v) j i v) := fun a b => by
  have e1 := at2_set2 (show (set2 rows i j v).length = n by rw [set2_len]; exact hl) (set2_row hl hr hi v) hj hi v
  have e2 := at2_set2 hl hr hi hj v
  rw [e1, e1, e2, e2]
  by_cases c1 : a = j ∧ b = i
  · rw [if_pos c1]
    by_cases c2 : b = j ∧ a = i
    · rw [if_pos c2]
    · rw [if_neg c2, if_pos ⟨c1.2, c1.1⟩]
  · rw [if_neg c1]
    by_cases c2 : a = i ∧ b = j
    · rw [if_pos c2, if_pos ⟨c2.2, c2.1⟩]
    · rw [if_neg c2, if_neg (fun z => c2 ⟨z.2, z.1⟩), if_neg (fun z => c1 ⟨z.2, z.1⟩)]
      exact s a b
/-- writing twice at one place -/
theorem set2_set2 {n : Nat} {rows : List (List Int)} (hl : rows.length = n) {i j : Nat} (hi : i < n) (u v : Int) : set2 (set2 rows i j u) i j v = set2 rows i j v := by
  unfold set2
  rw [show (rows.set i ((rows.getD i []).set j u)).getD i [] = (rows.getD i []).set j u by
    rw [List.getD_eq_getElem?_getD, List.getElem?_set_self (by omega)] <;> rfl]
  rw [List.set_set, List.set_set]
theorem nodeT_set {n : Nat} {rows : List (List Int)} (hl : rows.length = n) {i j : Nat} (hi : i < n) (v : Int) : T.node ((rows.map nodeI).set i (.node ((((rows.getD i []).map fun x => T.leaf (.int x))).set j (.leaf (.int v))))) = nodeT (set2 rows i j v) := by
  unfold nodeT set2
  rw [List.map_set]
  unfold nodeI
  rw [List.map_set]
theorem mapI_set {rows : List (List Int)} {i j : Nat} (v : Int) : (rows.map nodeI).set i (.node ((((rows.getD i []).map fun x => T.leaf (.int x))).set j (.leaf (.int v)))) = (set2 rows i j v).map nodeI := by
  unfold set2
  rw [List.map_set]
  unfold nodeI
  rw [List.map_set]
theorem nodeT_get {rows : List (List Int)} {i : Nat} (hi : i < rows.length) : (rows.map nodeI)[i]? = some (.node ((rows.getD i []).map fun x => T.leaf (.int x))) := by
  rw [List.getElem?_map, List.getElem?_eq_getElem hi, List.getD_eq_getElem?_getD, List.getElem?_eq_getElem hi] <;> rfl
theorem atI_tab {rows : List (List Int)} {k : Int} (h0 : 0 ≤ k) (h : k < rows.length) : atI (tabD rows) k = some (.list (intsD (rows.getD k.toNat []))) := by
  have hk : k.toNat < rows.length := by omega
  have e : atI (tabD rows) ((k.toNat : Nat) : Int) = some (.list (intsD (rows.getD k.toNat []))) := atI_nat (by
    unfold tabD
    rw [List.getElem?_map, List.getElem?_eq_getElem hk, List.getD_eq_getElem?_getD, List.getElem?_eq_getElem hk] <;> rfl)
  rw [show ((k.toNat : Nat) : Int) = k by omega] at e
  exact e
theorem len_tabD (rows : List (List Int)) : (tabD rows).length = rows.length := List.length_map _
theorem get_tabD {rows : List (List Int)} {i : Nat} {d : PyData} (h : (tabD rows)[i]? = some d) : i < rows.length ∧ d = .list (intsD (rows.getD i [])) := by
  have hi : i < rows.length := by
    have := (List.getElem?_eq_some_iff.mp h).1
    rw [len_tabD] at this
    exact this
  unfold tabD at h
  rw [List.getElem?_map, List.getElem?_eq_getElem hi] at h
  refine ⟨hi, ?_⟩
  rw [List.getD_eq_getElem?_getD, List.getElem?_eq_getElem hi]
  exact (Option.some.inj h).symm
theorem enum_get {ds : List PyData} {i : Nat} {d : PyData} (h : (enumD 0 ds)[i]? = some d) : ∃ x, ds[i]? = some x ∧ d = .tuple [.int (i : Nat), x] := by
  have hi : i < ds.length := by
    have := (List.getElem?_eq_some_iff.mp h).1
    rw [enumD_len] at this
    exact this
  refine ⟨ds[i], List.getElem?_eq_getElem hi, ?_⟩
  have e := enumD_get 0 ds i _ (List.getElem?_eq_getElem hi)
  rw [e] at h
  rw [Nat.zero_add] at h
  exact (Option.some.inj h).symm
theorem zip_get {xs ys : List PyData} {i : Nat} {d : PyData} (h : (zipD xs ys)[i]? = some d) : ∃ x y, xs[i]? = some x ∧ ys[i]? = some y ∧ d = .tuple [x, y] := by
  have hi : i < min xs.length ys.length := by
    have := (List.getElem?_eq_some_iff.mp h).1
    rw [zipD_len] at this
    exact this
  have h1 : i < xs.length := by omega
  have h2 : i < ys.length := by omega
  refine ⟨xs[i], ys[i], List.getElem?_eq_getElem h1, List.getElem?_eq_getElem h2, ?_⟩
  rw [zipD_get xs ys i _ _ (List.getElem?_eq_getElem h1) (List.getElem?_eq_getElem h2)] at h
  exact (Option.some.inj h).symm
theorem int_get {ns : List Int} {i : Nat} {d : PyData} (h : (intsD ns)[i]? = some d) : i < ns.length ∧ d = .int (ns.getD i 0) := by
  obtain ⟨hi, e⟩ := get_intsD h
  refine ⟨hi, ?_⟩
  rw [e, List.getD_eq_getElem?_getD, List.getElem?_eq_getElem hi] <;> rfl
/-! ### == of lists and tables -/
theorem eqvAll_ints : ∀ a b : List Int, PyData.eqvAll (intsD a) (intsD b) = decide (a = b)
  | [], [] => rfl
  | [], _ :: _ => by simp [intsD, PyData.eqvAll]
  | _ :: _, [] => by simp [intsD, PyData.eqvAll]
  | x :: a, y :: b => by
    have ih := eqvAll_ints a b
    show (PyData.eqv (.int x) (.int y) && PyData.eqvAll (intsD a) (intsD b)) = _
    rw [ih]
    simp only [PyData.eqv]
    by_cases h : x = y <;> by_cases h2 : a = b <;> simp [h, h2]
theorem eqv_intsD (a b : List Int) : PyData.eqv (.list (intsD a)) (.list (intsD b)) = decide (a = b) := by
  rw [PyData.eqv]
  exact eqvAll_ints a b
theorem eqvAll_tab : ∀ a b : List (List Int), PyData.eqvAll (tabD a) (tabD b) = decide (a = b)
  | [], [] => rfl
  | [], _ :: _ => by simp [tabD, PyData.eqvAll]
  | _ :: _, [] => by simp [tabD, PyData.eqvAll]
  | x :: a, y :: b => by
    have ih := eqvAll_tab a b
    show (PyData.eqv (.list (intsD x)) (.list (intsD y)) && PyData.eqvAll (tabD a) (tabD b)) = _
    rw [ih, eqv_intsD]
    by_cases h : x = y <;> by_cases h2 : a = b <;> simp [h, h2]
theorem eqv_tabD (a b : List (List Int)) : PyData.eqv (.list (tabD a)) (.list (tabD b)) = decide (a = b) := by
  rw [PyData.eqv]
  exact eqvAll_tab a b
/-- [f i for i in range(n)] -/
theorem lc_rng {wi : WI} {wg : WG} {we : WE} {x : XP} {ρ : Rho} {vs : List Nat} {P : T → Prop} (n : Nat) (f : Nat → T) (hi : ∀ P : List PyData → Prop, P (rngD 0 n) → wi x ρ P) (hl : n < lim)
    (he : ∀ (i : Nat) (Q : T → Prop) (R : Prop), i < n → Q (f i) → wg (.int (i : Nat)) (wipeR ρ vs) fun ρ2 => (true = true → we noX ρ2 Q) ∧ (true = false → R)) (h : P (.node ((List.range n).map f))) : dLc wi wg dYes we vs x ρ P := by
  refine lc_map (rngD 0 n) (fun d => match d with | .int i => f i.toNat | _ => non) hi (by rw [rngD_len]; exact hl) (fun i d Q R e hQ => ?_) ?_
  · have hlt : i < n := by
      have := (List.getElem?_eq_some_iff.mp e).1
      rw [rngD_len] at this
      exact this
    rw [rngD_get hlt] at e
    cases e
    rw [Int.zero_add] at hQ ⊢
    exact he i Q R hlt hQ
  · have e : (rngD 0 n).map (fun d => match d with | .int i => f i.toNat | _ => non) = (List.range n).map f := by
      unfold rngD
      rw [List.map_map]
      refine List.map_congr_left fun i _ => ?_
      show f ((0 : Int) + (i : Nat)).toNat = f i
      rw [Int.zero_add, Int.toNat_natCast]
    rw [e]
    exact h
theorem nodeI_range (n : Nat) (f : Nat → Int) : T.node ((List.range n).map fun i => T.leaf (.int (f i))) = nodeI ((List.range n).map f) := by
  unfold nodeI
  rw [List.map_map] <;> rfl
theorem nodeT_range (n : Nat) (f : Nat → List Int) : T.node ((List.range n).map fun i => nodeI (f i)) = nodeT ((List.range n).map f) := by
  unfold nodeT
  rw [List.map_map] <;> rfl
theorem at2_eq {rows : List (List Int)} {i j : Nat} : (rows.getD i []).getD j 0 = at2 rows i j := rfl
theorem list_ext_getD {α : Type} {d : α} {a b : List α} (hl : a.length = b.length) (h : ∀ i, i < a.length → a.getD i d = b.getD i d) : a = b := by
  refine List.ext_getElem hl fun i h1 h2 => ?_
  have := h i h1
  rw [List.getD_eq_getElem?_getD, List.getD_eq_getElem?_getD, List.getElem?_eq_getElem h1, List.getElem?_eq_getElem h2] at this
  exact this
theorem range_getD {α : Type} {n i : Nat} (f : Nat → α) (d : α) (h : i < n) : ((List.range n).map f).getD i d = f i := by
  rw [List.getD_eq_getElem?_getD, List.getElem?_map, List.getElem?_range h] <;> rfl
end Dd
/-! Strokes: what a death moves. -/
namespace Dd
open PySem L2
/-- c 0 + .. + c (n - 1) -/
def sumN (c : Nat → Int) : Nat → Int
  | 0 => 0
  | n + 1 => sumN c n + c n
theorem sumN_congr {c d : Nat → Int} : ∀ {n : Nat}, (∀ i, i < n → c i = d i) → sumN c n = sumN d n
  | 0, _ => rfl
  | n + 1, h => by
    show sumN c n + c n = sumN d n + d n
    rw [sumN_congr fun i hi => h i (by omega), h n (by omega)]
theorem sumN_add (c d : Nat → Int) : ∀ n, sumN (fun i => c i + d i) n = sumN c n + sumN d n
  | 0 => rfl
  | n + 1 => by
    show sumN _ n + (c n + d n) = sumN c n + c n + (sumN d n + d n)
    rw [sumN_add c d n]
    omega
theorem sumN_neg (c : Nat → Int) : ∀ n, sumN (fun i => -c i) n = -sumN c n
  | 0 => rfl
  | n + 1 => by
    show sumN _ n + -c n = -(sumN c n + c n)
    rw [sumN_neg c n]
    omega
theorem sumN_mul (a : Int) (c : Nat → Int) : ∀ n, sumN (fun i => a * c i) n = a * sumN c n
  | 0 => (Int.mul_zero a).symm
  | n + 1 => by
    show sumN _ n + a * c n = a * (sumN c n + c n)
    rw [sumN_mul a c n, Int.mul_add]
theorem sumN_zero {c : Nat → Int} : ∀ {n : Nat}, (∀ i, i < n → c i = 0) → sumN c n = 0
  | 0, _ => rfl
  | n + 1, h => by
    show sumN c n + c n = 0
    rw [sumN_zero fun i hi => h i (by omega), h n (by omega)]
    rfl
theorem sumN_one {c : Nat → Int} {d : Nat} : ∀ {n : Nat}, d < n → (∀ i, i < n → i ≠ d → c i = 0) → sumN c n = c d
  | n + 1, hd, h => by
    show sumN c n + c n = c d
    by_cases e : d = n
    · subst e
      rw [sumN_zero fun i hi => h i (by omega) (by omega)]
      omega
    · rw [sumN_one (by omega) fun i hi => h i (by omega), h n (by omega) (by omega)]
      omega
theorem sumN_nn {c : Nat → Int} : ∀ {n : Nat}, (∀ i, i < n → 0 ≤ c i) → 0 ≤ sumN c n
  | 0, _ => Int.le_refl 0
  | n + 1, h => by
    have := sumN_nn (n := n) fun i hi => h i (by omega)
    have := h n (by omega)
    show 0 ≤ sumN c n + c n
    omega
theorem sumN_le {c d : Nat → Int} : ∀ {n : Nat}, (∀ i, i < n → c i ≤ d i) → sumN c n ≤ sumN d n
  | 0, _ => Int.le_refl 0
  | n + 1, h => by
    have := sumN_le (n := n) fun i hi => h i (by omega)
    have := h n (by omega)
    show sumN c n + c n ≤ sumN d n + d n
    omega
theorem sumN_swap (c : Nat → Nat → Int) (m : Nat) : ∀ n, sumN (fun i => sumN (c i) m) n = sumN (fun j => sumN (fun i => c i j) n) m
  | 0 => (sumN_zero fun _ _ => rfl).symm
  | n + 1 => by
    show sumN _ n + sumN (c n) m = _
    rw [sumN_swap c m n, ← sumN_add]
    rfl
theorem sum_range (f : Nat → Int) : ∀ n, ((List.range n).map f).sum = sumN f n
  | 0 => rfl
  | n + 1 => by
    rw [List.range_succ, List.map_append, List.sum_append, sum_range f n]
    show sumN f n + (f n + 0) = sumN f n + f n
    omega
theorem sum_getD (xs : List Int) : xs.sum = sumN (fun i => xs.getD i 0) xs.length := by
  rw [← sum_range]
  congr 1
  refine list_ext_getD (d := 0) (by simp) fun i hi => ?_
  rw [range_getD _ _ hi]
/-- changes by what each other one gets -/
def mvD (n : Nat) (c : Nat → Int) (d : Nat) : List Int := (List.range n).map fun j => c j - if j = d then sumN c n else 0
def cst (rows : List (List Int)) (tk : List Int) (d k : Nat) : Int := at2 rows d k * (tk.getD k 0 / (Int.gcd (tk.getD d 0) (tk.getD k 0) : Int))
structure Bts (n : Nat) (rows : List (List Int)) (tk : List Int) : Prop where
  rl : rows.length = n
  rr : ∀ r ∈ rows, r.length = n
  tl : tk.length = n
  tk : ∀ x ∈ tk, tkOk x
  bd : ∀ i j, (at2 rows i j).natAbs < 2 ^ 100
  sz : n ≤ 60
theorem getD_mem {α : Type} {xs : List α} {i : Nat} {d : α} (h : i < xs.length) : xs.getD i d ∈ xs := by
  rw [List.getD_eq_getElem?_getD, List.getElem?_eq_getElem h]
  exact List.getElem_mem _
theorem Bts.t {n : Nat} {rows : List (List Int)} {tk : List Int} (h : Bts n rows tk) {i : Nat} (hi : i < n) : tkOk (tk.getD i 0) := h.tk _ (getD_mem (by rw [h.tl]; exact hi))
theorem Bts.row {n : Nat} {rows : List (List Int)} {tk : List Int} (h : Bts n rows tk) {i : Nat} (hi : i < n) : (rows.getD i []).length = n := getD_len h.rr (by rw [h.rl]; exact hi)
def deadD : Option Nat → PyData
  | none => .none
  | some d => .int (d : Nat)
def mvo (n : Nat) (rows : List (List Int)) (tk : List Int) : Option Nat → List Int
  | none => List.replicate n 0
  | some d => mvD n (cst rows tk d) d
theorem mvo_len (n : Nat) (rows : List (List Int)) (tk : List Int) (d : Option Nat) : (mvo n rows tk d).length = n := by
  cases d <;> simp [mvo, mvD]
theorem mvo_sum (n : Nat) (rows : List (List Int)) (tk : List Int) (d : Option Nat) (hd : ∀ i, d = some i → i < n) : (mvo n rows tk d).sum = 0 := by
  cases d with
  | none =>
    show (List.replicate n (0 : Int)).sum = 0
    induction n with
    | zero => rfl
    | succ m ih =>
      rw [List.replicate_succ, List.sum_cons]
      have : (List.replicate m (0 : Int)).sum = 0 := by
        clear ih hd
        induction m with
        | zero => rfl
        | succ k ih => rw [List.replicate_succ, List.sum_cons, ih]; rfl
      omega
  | some d =>
    show ((List.range n).map _).sum = 0
    rw [sum_range]
    have e : ∀ c : Nat → Int, sumN (fun j => c j - if j = d then sumN c n else 0) n = sumN c n + -sumN (fun j => if j = d then sumN c n else 0) n := fun c => by
      rw [← sumN_neg, ← sumN_add]
      exact sumN_congr fun i _ => by omega
    rw [e, sumN_one (hd d rfl) (fun i _ hi => if_neg hi), if_pos rfl]
    omega
/-- how an own list of whole numbers is turned at a place -/
theorem getD_set {xs : List Int} {i j : Nat} {v : Int} (h : i < xs.length) : (xs.set i v).getD j 0 = if j = i then v else xs.getD j 0 := by
  rw [List.getD_eq_getElem?_getD]
  by_cases c : j = i
  · subst c
    rw [List.getElem?_set_self h, if_pos rfl] <;> rfl
  · rw [List.getElem?_set_ne (Ne.symm c), if_neg c, ← List.getD_eq_getElem?_getD]
theorem mapI1_set (xs : List Int) (i : Nat) (v : Int) : (xs.map fun x => T.leaf (.int x)).set i (.leaf (.int v)) = (xs.set i v).map fun x => T.leaf (.int x) := by rw [List.map_set]
theorem mapI1_get {xs : List Int} {i : Nat} (h : i < xs.length) : (xs.map fun x => T.leaf (.int x))[i]? = some (int (xs.getD i 0)) := by
  rw [List.getElem?_map, List.getElem?_eq_getElem h, List.getD_eq_getElem?_getD, List.getElem?_eq_getElem h] <;> rfl
theorem nabs_mul {a b : Int} {m n : Nat} (ha : a.natAbs < 2 ^ m) (hb : b.natAbs < 2 ^ n) : (a * b).natAbs < 2 ^ (m + n) := wide_lt ha hb
theorem nabs_mono {a : Int} {m n : Nat} (h : a.natAbs < 2 ^ m) (hmn : m ≤ n) : a.natAbs < 2 ^ n := Nat.lt_of_lt_of_le h (Nat.pow_le_pow_right (by decide) hmn)
theorem nabs_le {a : Int} {n : Nat} (h0 : 0 ≤ a) (h : a ≤ 1000) (hn : 10 ≤ n) : a.natAbs < 2 ^ n := nabs_mono (m := 10) (show a.natAbs < 2 ^ 10 by omega) hn
theorem sumN_but {c : Nat → Int} {d : Nat} : ∀ {n : Nat}, d < n → sumN c n = sumN (fun k => if k = d then 0 else c k) n + c d
  | n + 1, hd => by
    show sumN c n + c n = sumN _ n + (if n = d then 0 else c n) + c d
    by_cases e : d = n
    · subst e
      have e2 : sumN c d = sumN (fun k => if k = d then 0 else c k) d := sumN_congr fun (i : Nat) hi => by
        show c i = if i = d then 0 else c i
        rw [if_neg (by omega)]
      rw [if_pos rfl, e2]
      omega
    · rw [if_neg (Ne.symm e), sumN_but (c := c) (d := d) (n := n) (by omega)]
      omega
theorem Bts.of {n : Nat} {rows : List (List Int)} {tk : List Int} (h : TabOk n 1000000000000000000 rows) (hl : tk.length = n) (ht : ∀ x ∈ tk, tkOk x) (hn : n ≤ 60) : Bts n rows tk :=
  ⟨h.len, h.row, hl, ht, fun i j => Nat.lt_of_lt_of_le (show (at2 rows i j).natAbs < 1000000000000000000 by have := h.val i j; omega) (by decide), hn⟩
theorem dead_get {n i : Nat} {d : PyData} (h : (PyData.none :: rngD 0 n)[i]? = some d) : ∃ dd, d = deadD dd ∧ ∀ k, dd = some k → k < n := by
  cases i with
  | zero =>
    cases h
    exact ⟨none, rfl, fun _ z => nomatch z⟩
  | succ i =>
    have h' : (rngD 0 n)[i]? = some d := by simpa using h
    have hlt : i < n := by
      have := (List.getElem?_eq_some_iff.mp h').1
      rw [rngD_len] at this
      exact this
    rw [rngD_get hlt] at h'
    cases h'
    refine ⟨some i, ?_, fun k e => ?_⟩
    · show PyData.int (0 + (i : Nat)) = .int (i : Nat)
      rw [Int.zero_add]
    · cases e
      exact hlt
end Dd
/-! Strokes: laid coins, gains. -/
namespace Dd
open PySem L2
theorem sumN_abs {c : Nat → Int} {B : Nat} : ∀ {n : Nat}, (∀ i, i < n → (c i).natAbs ≤ B) → (sumN c n).natAbs ≤ n * B
  | 0, _ => Nat.zero_le _
  | n + 1, h => by
    have h1 := sumN_abs (n := n) fun i hi => h i (by omega)
    have h2 := h n (by omega)
    show (sumN c n + c n).natAbs ≤ (n + 1) * B
    rw [Nat.succ_mul]
    omega
theorem Bts.cst {n : Nat} {rows : List (List Int)} {tk : List Int} (h : Bts n rows tk) {d k : Nat} (hd : d < n) (hk : k < n) : (cst rows tk d k).natAbs < 2 ^ 110 := by
  obtain ⟨u0, u1⟩ := div_le (h.t hd) (h.t hk)
  exact nabs_mul (m := 100) (n := 10) (h.bd d k) (nabs_le u0 u1 (by decide))
theorem Bts.sum {n : Nat} {rows : List (List Int)} {tk : List Int} (h : Bts n rows tk) {d : Nat} (hd : d < n) : (sumN (Dd.cst rows tk d) n).natAbs < 2 ^ 117 := by
  have h1 := sumN_abs (c := Dd.cst rows tk d) (B := 2 ^ 110) (n := n) fun i hi => Nat.le_of_lt (h.cst hd hi)
  have h2 : n * 2 ^ 110 ≤ 60 * 2 ^ 110 := Nat.mul_le_mul_right _ h.sz
  exact Nat.lt_of_le_of_lt (Nat.le_trans h1 h2) (by decide)
theorem mvo_get {n : Nat} {rows : List (List Int)} {tk : List Int} {d j : Nat} (hj : j < n) : (mvo n rows tk (some d)).getD j 0 = cst rows tk d j - if j = d then sumN (cst rows tk d) n else 0 := range_getD _ _ hj
theorem Bts.mv {n : Nat} {rows : List (List Int)} {tk : List Int} (h : Bts n rows tk) {d j : Nat} (hd : d < n) (hj : j < n) : ((mvo n rows tk (some d)).getD j 0).natAbs < 2 ^ 120 := by
  rw [mvo_get hj]
  have h1 := h.cst hd hj
  have h2 := h.sum hd
  have h3 : (2 : Nat) ^ 110 + 2 ^ 117 ≤ 2 ^ 120 := by decide
  generalize (2 : Nat) ^ 110 = a at h1 h3
  generalize (2 : Nat) ^ 117 = b at h2 h3
  generalize (2 : Nat) ^ 120 = c at h3 ⊢
  by_cases e : j = d
  · rw [if_pos e]
    omega
  · rw [if_neg e]
    omega
/-- over two lists at once -/
theorem lc_rz {wi : WI} {wg : WG} {we : WE} {x : XP} {ρ : Rho} {vs : List Nat} {P : T → Prop} (n : Nat) (f : Nat → T) (xs ys : List PyData) (hx : xs.length = n) (hy : ys.length = n) (hi : ∀ P : List PyData → Prop, P (zipD xs ys) → wi x ρ P) (hl : n < lim)
    (he : ∀ (i : Nat) (a c : PyData) (Q : T → Prop) (R : Prop), i < n → xs[i]? = some a → ys[i]? = some c → Q (f i) → wg (.tuple [a, c]) (wipeR ρ vs) fun ρ2 => (true = true → we noX ρ2 Q) ∧ (true = false → R)) (h : P (.node ((List.range n).map f))) : dLc wi wg dYes we vs x ρ P := by
  have hz : (zipD xs ys).length = n := by rw [zipD_len, hx, hy, Nat.min_self]
  refine hi _ ⟨by rw [hz]; exact hl, fun i acc => acc = (List.range i).map f, rfl, fun i d acc e inv => ?_, fun acc inv => ?_⟩
  · obtain ⟨a, c, ha, hc, rfl⟩ := zip_get e
    have hlt : i < n := by
      have := (List.getElem?_eq_some_iff.mp ha).1
      omega
    exact he i a c (fun t => acc ++ [t] = (List.range (i + 1)).map f) (acc = (List.range (i + 1)).map f) hlt ha hc (by
      rw [inv, List.range_succ, List.map_append]
      rfl)
  · rw [hz] at inv
    rw [inv]
    exact h
theorem snocI (xs : List Int) (v : Int) : xs.map (fun i => T.leaf (.int i)) ++ [T.leaf (.int v)] = (xs ++ [v]).map fun i => T.leaf (.int i) := by rw [List.map_append]; rfl
theorem getD_snoc {α : Type} {xs : List α} {v d : α} {j : Nat} : (xs ++ [v]).getD j d = if j < xs.length then xs.getD j d else if j = xs.length then v else d := by
  rw [List.getD_eq_getElem?_getD, List.getElem?_append]
  by_cases h : j < xs.length
  · rw [if_pos h, if_pos h, List.getD_eq_getElem?_getD]
  · rw [if_neg h, if_neg h]
    by_cases e : j = xs.length
    · rw [if_pos e, e, Nat.sub_self]
      rfl
    · rw [if_neg e]
      obtain ⟨k, hk⟩ : ∃ k, j - xs.length = k + 1 := ⟨j - xs.length - 1, by omega⟩
      rw [hk]
      rfl
theorem sum_bd {M : Int} : ∀ {xs : List Int}, (∀ x ∈ xs, 0 ≤ x ∧ x ≤ M) → 0 ≤ xs.sum ∧ xs.sum ≤ xs.length * M
  | [], _ => by simp
  | x :: xs, h => by
    have h1 := sum_bd (xs := xs) fun y hy => h y (List.mem_cons_of_mem _ hy)
    have h2 := h x (List.mem_cons_self ..)
    rw [List.sum_cons, List.length_cons, Int.natCast_succ, Int.add_mul, Int.one_mul]
    omega
theorem mem_set {α : Type} {xs : List α} {i : Nat} {v x : α} (h : x ∈ xs.set i v) : x ∈ xs ∨ x = v := by
  rcases List.mem_or_eq_of_mem_set h with z | z
  · exact .inl z
  · exact .inr z
theorem get_mem {α : Type} {xs : List α} {i : Nat} {d : α} (h : i < xs.length) : xs.getD i d ∈ xs := getD_mem h
/-- all but one -/
theorem sum_but {xs : List Int} {n d : Nat} (hl : xs.length = n) (hd : d < n) : ((((List.range n).filter fun k => decide (k ≠ d)).map fun k => xs.getD k 0)).sum = xs.sum - xs.getD d 0 := by
  have h : ∀ m, ((((List.range m).filter fun k => decide (k ≠ d)).map fun k => xs.getD k 0)).sum = sumN (fun k => if k = d then 0 else xs.getD k 0) m := fun m => by
    induction m with
    | zero => rfl
    | succ m ih =>
      rw [List.range_succ, List.filter_append, List.map_append, List.sum_append, ih]
      show _ = _ + (if m = d then 0 else xs.getD m 0)
      by_cases e : m = d
      · simp [e]
      · simp [e]
  rw [h, sum_getD xs, hl]
  have := sumN_but (c := fun i => xs.getD i 0) hd
  omega
/-- a for over things that are drawn -/
theorem for_raw {wi : WI} {wg : WG} {wb : WS} {C : Ctl} {ρ : Rho} (h : wi (C.xc ρ) ρ fun ds => ∃ Inv : Nat → Rho → Prop, Inv 0 ρ ∧
  (∀ i d ρ', ds[i]? = some d → Inv i ρ' → wg d ρ' fun ρ2 => wb { C with nx := Inv (i + 1), ct := Inv (i + 1), bk := C.nx } ρ2) ∧ ∀ ρ', Inv ds.length ρ' → C.nx ρ') : dFor wi wg wb C ρ := h
/-- over places, with a test -/
theorem lc_rngF {wi : WI} {wg : WG} {wt : WT} {we : WE} {x : XP} {ρ : Rho} {vs : List Nat} {P : T → Prop} (n : Nat) (p : Nat → Bool) (f : Nat → T) (hi : ∀ P : List PyData → Prop, P (rngD 0 n) → wi x ρ P) (hl : n < lim)
    (he : ∀ (i : Nat) (Q : T → Prop) (R : Prop), i < n → (p i = true → Q (f i)) → (p i = false → R) → wg (.int (i : Nat)) (wipeR ρ vs) fun ρ2 => wt noX ρ2 fun k => (k = true → we noX ρ2 Q) ∧ (k = false → R)) (h : P (.node (((List.range n).filter p).map f))) : dLc wi wg wt we vs x ρ P := by
  refine hi _ ⟨by rw [rngD_len]; exact hl, fun i acc => acc = ((List.range i).filter p).map f, rfl, fun i d acc e inv => ?_, fun acc inv => ?_⟩
  · have hlt : i < n := by
      have := (List.getElem?_eq_some_iff.mp e).1
      rw [rngD_len] at this
      exact this
    rw [rngD_get hlt] at e
    cases e
    rw [Int.zero_add]
    refine he i _ _ hlt (fun q => ?_) (fun q => ?_)
    · show acc ++ [f i] = ((List.range (i + 1)).filter p).map f
      rw [inv, List.range_succ, List.filter_append, List.map_append]
      simp [q]
    · show acc = ((List.range (i + 1)).filter p).map f
      rw [inv, List.range_succ, List.filter_append, List.map_append]
      simp [q]
  · rw [rngD_len] at inv
    rw [inv]
    exact h
theorem two_le {xs : List Int} (h0 : ∀ x ∈ xs, 0 ≤ x) {i j : Nat} (hi : i < xs.length) (hj : j < xs.length) (hij : i ≠ j) : xs.getD i 0 + xs.getD j 0 ≤ xs.sum := by
  have e1 := sumN_but (c := fun k => xs.getD k 0) hi
  have e2 := sumN_but (c := fun k => if k = i then 0 else xs.getD k 0) hj
  have e3 : 0 ≤ sumN (fun k => if k = j then 0 else if k = i then 0 else xs.getD k 0) xs.length := sumN_nn fun k hk => by
    by_cases a : k = j
    · rw [if_pos a]
      exact Int.le_refl 0
    · rw [if_neg a]
      by_cases c : k = i
      · rw [if_pos c]
        exact Int.le_refl 0
      · rw [if_neg c]
        exact h0 _ (getD_mem hk)
  rw [← sum_getD xs] at e1
  rw [if_neg (Ne.symm hij)] at e2
  omega
theorem nodeI_map {α : Type} (l : List α) (f : α → Int) : T.node (l.map fun k => int (f k)) = nodeI (l.map f) := by
  unfold nodeI
  rw [List.map_map]
  rfl
def wtOk (x : Int) : Prop := 0 ≤ x ∧ x < 10000000000000000000000
theorem zero_at (n m i j : Nat) : at2 (List.replicate n (List.replicate m 0)) i j = 0 := by
  unfold at2
  rw [show (List.replicate n (List.replicate m (0 : Int))).getD i [] = if i < n then List.replicate m 0 else [] by
    rw [List.getD_eq_getElem?_getD, List.getElem?_replicate]
    split <;> rfl]
  split
  · show (List.replicate m (0 : Int)).getD j 0 = 0
    rw [List.getD_eq_getElem?_getD, List.getElem?_replicate]
    split <;> rfl
  · rfl
theorem getD_app {α : Type} {xs ys : List α} {d : α} {s : Nat} : (xs ++ ys).getD s d = if s < xs.length then xs.getD s d else ys.getD (s - xs.length) d := by
  rw [List.getD_eq_getElem?_getD, List.getElem?_append]
  split
  · rw [List.getD_eq_getElem?_getD]
  · rw [List.getD_eq_getElem?_getD]
theorem getD_rep {α : Type} {n s : Nat} {v d : α} (h : s < n) : (List.replicate n v).getD s d = v := by
  rw [List.getD_eq_getElem?_getD, List.getElem?_replicate, if_pos h]
  rfl
theorem intsD_app (a b : List Int) : intsD a ++ intsD b = intsD (a ++ b) := List.map_append.symm
/-- coins laid -/
def layN (n : Nat) (rows : List (List Int)) (tk : List Int) (a : Nat) : Int := sumN (fun k => if at2 rows a k > 0 then cst rows tk a k else 0) n
theorem layN_eq {n : Nat} {M : Int} {rows : List (List Int)} {tk : List Int} (ht : TabOk n M rows) {a : Nat} (ha : a < n) : layN n rows tk a = -(mvo n rows tk (some a)).getD a 0 := by
  rw [mvo_get ha, if_pos rfl]
  have e : layN n rows tk a = sumN (cst rows tk a) n := sumN_congr fun i _ => by
    have := (ht.val a i).1
    by_cases c : at2 rows a i > 0
    · rw [if_pos c]
    · rw [if_neg c]
      unfold cst
      rw [show at2 rows a i = 0 by omega, Int.zero_mul]
  have z : cst rows tk a a = 0 := by
    unfold cst
    rw [ht.dia a, Int.zero_mul]
  omega
theorem laid_map {n : Nat} {M : Int} {rows : List (List Int)} {tk : List Int} (ht : TabOk n M rows) : (List.range n).map (layN n rows tk) = (List.range n).map fun a => -(mvo n rows tk (some a)).getD a 0 :=
  List.map_congr_left fun a h => layN_eq ht (List.mem_range.mp h)
theorem layN_nn {n : Nat} {M : Int} {rows : List (List Int)} {tk : List Int} (ht : TabOk n M rows) (hb : Bts n rows tk) {a : Nat} (ha : a < n) : 0 ≤ layN n rows tk a := sumN_nn fun i hi => by
  obtain ⟨u0, _⟩ := div_le (hb.t ha) (hb.t hi)
  by_cases c : at2 rows a i > 0
  · rw [if_pos c]
    exact Int.mul_nonneg (ht.val a i).1 u0
  · rw [if_neg c]
    exact Int.le_refl 0
theorem cst_nn {n : Nat} {M : Int} {rows : List (List Int)} {tk : List Int} (ht : TabOk n M rows) (hb : Bts n rows tk) {a k : Nat} (ha : a < n) (hk : k < n) : 0 ≤ cst rows tk a k := Int.mul_nonneg (ht.val a k).1 (div_le (hb.t ha) (hb.t hk)).1
/-- who holds what his bets come to loses no coin he has not -/
theorem held_nn {n : Nat} {M : Int} {rows : List (List Int)} {tk cs : List Int} (ht : TabOk n M rows) (hb : Bts n rows tk) (hc : ∀ j, j < n → layN n rows tk j ≤ cs.getD j 0) {dd : Option Nat} (hd : ∀ d, dd = some d → d < n) {j : Nat} (hj : j < n) : 0 ≤ cs.getD j 0 + (mvo n rows tk dd).getD j 0 := by
  have h1 := hc j hj
  have h2 := layN_nn ht hb hj
  cases dd with
  | none =>
    show 0 ≤ _ + (List.replicate n (0 : Int)).getD j 0
    rw [List.getD_eq_getElem?_getD (l := List.replicate n (0 : Int)), List.getElem?_replicate, if_pos hj]
    show 0 ≤ _ + (0 : Int)
    omega
  | some d =>
    by_cases e : j = d
    · subst e
      have := layN_eq (tk := tk) ht hj
      omega
    · rw [mvo_get hj, if_neg e]
      have := cst_nn ht hb (hd d rfl) hj
      omega
theorem held_sum {n : Nat} {rows : List (List Int)} {tk cs : List Int} (hl : cs.length = n) {dd : Option Nat} (hd : ∀ d, dd = some d → d < n) : ((List.range n).map fun i => cs.getD i 0 + (mvo n rows tk dd).getD i 0).sum = cs.sum := by
  rw [sum_range, sumN_add, sum_getD cs, hl]
  have h := mvo_sum n rows tk dd hd
  rw [sum_getD, mvo_len] at h
  omega
/-- gains -/
def gnT (n : Nat) (rows : List (List Int)) (tk : List Int) (j d : Nat) : Int := tk.getD d 0 * (mvo n rows tk (some d)).getD j 0
def gnL (n : Nat) (rows : List (List Int)) (tk : List Int) : List Int := (List.range n).map fun j => sumN (gnT n rows tk j) n
theorem gnL_len (n : Nat) (rows : List (List Int)) (tk : List Int) : (gnL n rows tk).length = n := by simp [gnL]
theorem Bts.gn {n : Nat} {rows : List (List Int)} {tk : List Int} (h : Bts n rows tk) {d j : Nat} (hd : d < n) (hj : j < n) : CMulW (tk.getD d 0) ((mvo n rows tk (some d)).getD j 0) := by
  have t := h.t hd
  have t0 := t.1
  have t1 := t.2
  exact small_mul (nabs_le (by omega) t1 (by decide)) (nabs_mono (h.mv hd hj) (by decide))
/-- an own list of whole numbers, one place raised -/
theorem up_get {xs : List Int} {f g : Nat → Int} {n k : Nat} (hl : xs.length = n) (hk : k < n) (hx : ∀ j, j < n → xs.getD j 0 = f j + if j < k then g j else 0) : (xs.set k (xs.getD k 0 + g k)).length = n ∧ ∀ j, j < n → (xs.set k (xs.getD k 0 + g k)).getD j 0 = f j + if j < k + 1 then g j else 0 := by
  refine ⟨by rw [List.length_set]; exact hl, fun j hj => ?_⟩
  rw [getD_set (by omega), hx j hj, hx k hk]
  by_cases e : j = k
  · subst e
    rw [if_pos rfl, if_neg (Nat.lt_irrefl _), if_pos (Nat.lt_succ_self _)]
    omega
  · rw [if_neg e]
    by_cases e2 : j < k
    · rw [if_pos e2, if_pos (by omega)]
    · rw [if_neg e2, if_neg (by omega)]
end Dd
/-! The ring of loads. -/
namespace Dd
open PySem L2
/-- the arcs of loads laid one behind the other -/
def preS (xs : List Int) (i : Nat) : Int := sumN (fun k => 2 * xs.getD k 0) i
def arcD (xs : List Int) (i : Nat) : PyData := .tuple [.int (preS xs i), .int (preS xs i + 2 * xs.getD i 0)]
def arcsD (xs : List Int) (n : Nat) : List PyData := (List.range n).map (arcD xs)
theorem arcs_len (xs : List Int) (n : Nat) : (arcsD xs n).length = n := by simp [arcsD]
theorem arcs_snoc (xs : List Int) (i : Nat) : (arcsD xs i).map T.leaf ++ [T.leaf (.tuple [.int (preS xs i), .int (preS xs i + 2 * xs.getD i 0)])] = (arcsD xs (i + 1)).map T.leaf := by
  unfold arcsD
  rw [List.range_succ, List.map_append, List.map_append]
  rfl
theorem sm_arcs {xs : List Int} {n : Nat} (h : n < 1000) : Sm 3 (.list (arcsD xs n)) := ⟨by unfold arcsD; rw [List.length_map, List.length_range]; exact h, fun d hd => by
  obtain ⟨i, _, rfl⟩ := List.mem_map.mp hd
  exact ⟨by show 2 < 1000; decide, fun x hx => by
    rcases List.mem_cons.mp hx with z | z
    · subst z; exact sm_int
    · rw [List.mem_singleton.mp z]; exact sm_int⟩⟩
/-- a comprehension over things that are drawn -/
theorem lc_raw {wi : WI} {wg : WG} {wt : WT} {we : WE} {x : XP} {ρ : Rho} {vs : List Nat} {P : T → Prop} (h : wi x ρ fun ds => ds.length < lim ∧ ∃ Inv : Nat → List T → Prop, Inv 0 [] ∧
    (∀ (i : Nat) d acc, ds[i]? = some d → Inv i acc → wg d (wipeR ρ vs) fun ρ2 => wt noX ρ2 fun k => (k = true → we noX ρ2 fun t => Inv (i + 1) (acc ++ [t])) ∧ (k = false → Inv (i + 1) acc)) ∧ (∀ acc, Inv ds.length acc → P (.node acc))) : dLc wi wg wt we vs x ρ P := h
def wtB (x : Int) : Prop := 0 ≤ x ∧ x < 100000000000000000000000000000000000000000000000000
theorem wtOk.big {x : Int} (h : wtOk x) : wtB x := ⟨h.1, Int.lt_of_lt_of_le h.2 (by decide)⟩
theorem wtB.small {x : Int} (h : wtB x) : x.natAbs < 2 ^ 200 := Nat.lt_of_lt_of_le (show x.natAbs < 100000000000000000000000000000000000000000000000000 by have h1 := h.1; have h2 := h.2; omega) (by decide)
theorem node_ints (xs : List Int) : T.node ((intsD xs).map .leaf) = nodeI xs := by
  unfold nodeI intsD
  rw [List.map_map]
  rfl
/-- over the whole numbers of a list -/
theorem lc_ints {wi : WI} {wg : WG} {we : WE} {x : XP} {ρ : Rho} {vs : List Nat} {P : T → Prop} (xs : List Int) (f : Int → T) (hi : ∀ P : List PyData → Prop, P (intsD xs) → wi x ρ P) (hl : xs.length < lim)
    (he : ∀ (a : Int) (Q : T → Prop) (R : Prop), a ∈ xs → Q (f a) → wg (.int a) (wipeR ρ vs) fun ρ2 => (true = true → we noX ρ2 Q) ∧ (true = false → R)) (h : P (.node (xs.map f))) : dLc wi wg dYes we vs x ρ P := by
  refine hi _ ⟨by rw [len_intsD]; exact hl, fun i acc => acc = (xs.take i).map f, rfl, fun i d acc e inv => ?_, fun acc inv => ?_⟩
  · obtain ⟨hi, rfl⟩ := get_intsD e
    refine he _ (fun t => acc ++ [t] = (xs.take (i + 1)).map f) (acc = (xs.take (i + 1)).map f) (List.getElem_mem hi) ?_
    rw [inv, List.take_add_one, List.getElem?_eq_getElem hi, List.map_append]
    rfl
  · rw [len_intsD, List.take_length] at inv
    rw [inv]
    exact h
/-- over the rows of a table -/
theorem lc_rows {wi : WI} {wg : WG} {we : WE} {x : XP} {ρ : Rho} {vs : List Nat} {P : T → Prop} (rows : List (List Int)) (f : List Int → T) (hi : ∀ P : List PyData → Prop, P (tabD rows) → wi x ρ P) (hl : rows.length < lim)
    (he : ∀ (r : List Int) (Q : T → Prop) (R : Prop), r ∈ rows → Q (f r) → wg (.list (intsD r)) (wipeR ρ vs) fun ρ2 => (true = true → we noX ρ2 Q) ∧ (true = false → R)) (h : P (.node (rows.map f))) : dLc wi wg dYes we vs x ρ P := by
  refine hi _ ⟨by rw [len_tabD]; exact hl, fun i acc => acc = (rows.take i).map f, rfl, fun i d acc e inv => ?_, fun acc inv => ?_⟩
  · obtain ⟨hi, rfl⟩ := get_tabD e
    refine he _ (fun t => acc ++ [t] = (rows.take (i + 1)).map f) (acc = (rows.take (i + 1)).map f) (getD_mem hi) ?_
    rw [inv, List.take_add_one, List.getElem?_eq_getElem hi, List.map_append, List.getD_eq_getElem?_getD, List.getElem?_eq_getElem hi]
    rfl
  · rw [len_tabD, List.take_length] at inv
    rw [inv]
    exact h
theorem nodeT_map {α : Type} (l : List α) (f : α → List Int) : T.node (l.map fun r => nodeI (f r)) = nodeT (l.map f) := by
  unfold nodeT
  rw [List.map_map]
  rfl
def lapZ (a b c d : Int) : Int := max 0 (min b d - max a c)
theorem lap_ifs (a b c d : Int) : (if (if d < b then d else b) - (if c > a then c else a) > 0 then (if d < b then d else b) - (if c > a then c else a) else 0) = lapZ a b c d := by
  unfold lapZ
  by_cases h1 : d < b
  · by_cases h2 : c > a
    · simp only [if_pos h1, if_pos h2]
      split <;> omega
    · simp only [if_pos h1, if_neg h2]
      split <;> omega
  · by_cases h2 : c > a
    · simp only [if_neg h1, if_pos h2]
      split <;> omega
    · simp only [if_neg h1, if_neg h2]
      split <;> omega
def rg (xs : List Int) (i j : Nat) : Int :=
  lapZ (preS xs i) (preS xs i + 2 * xs.getD i 0) (preS xs j + xs.sum) (preS xs j + 2 * xs.getD j 0 + xs.sum) + lapZ (preS xs i) (preS xs i + 2 * xs.getD i 0) (preS xs j - xs.sum) (preS xs j + 2 * xs.getD j 0 - xs.sum)
def rgT (xs : List Int) : List (List Int) := (List.range xs.length).map fun i => (List.range xs.length).map (rg xs i)
theorem rgT_len (xs : List Int) : (rgT xs).length = xs.length := by simp [rgT]
theorem rgT_row (xs : List Int) : ∀ r ∈ rgT xs, r.length = xs.length := fun r h => by
  obtain ⟨i, _, rfl⟩ := List.mem_map.mp h
  simp
theorem rgT_at {xs : List Int} {i j : Nat} (hi : i < xs.length) (hj : j < xs.length) : at2 (rgT xs) i j = rg xs i j := by
  show ((rgT xs).getD i []).getD j 0 = _
  unfold rgT
  rw [range_getD _ _ hi, range_getD _ _ hj]
theorem preS_succ (xs : List Int) (i : Nat) : preS xs (i + 1) = preS xs i + 2 * xs.getD i 0 := rfl
theorem preS_all (xs : List Int) : preS xs xs.length = 2 * xs.sum := by
  unfold preS
  rw [sumN_mul, ← sum_getD]
theorem nn_getD {xs : List Int} (h : ∀ x ∈ xs, 0 ≤ x) (i : Nat) : 0 ≤ xs.getD i 0 := by
  by_cases c : i < xs.length
  · exact h _ (getD_mem c)
  · rw [List.getD_eq_getElem?_getD, List.getElem?_eq_none (by omega)]
    exact Int.le_refl 0
theorem preS_le {xs : List Int} (h : ∀ x ∈ xs, 0 ≤ x) {i : Nat} : ∀ {j : Nat}, i ≤ j → preS xs i ≤ preS xs j
  | 0, hij => by rw [show i = 0 by omega]; exact Int.le_refl _
  | j + 1, hij => by
    by_cases c : i = j + 1
    · rw [c]
      exact Int.le_refl _
    · have := preS_le h (i := i) (j := j) (by omega)
      have := nn_getD h j
      rw [preS_succ]
      omega
theorem preS_nn {xs : List Int} (h : ∀ x ∈ xs, 0 ≤ x) (i : Nat) : 0 ≤ preS xs i := preS_le h (i := 0) (Nat.zero_le i)
theorem preS_end {xs : List Int} (h : ∀ x ∈ xs, 0 ≤ x) {i : Nat} (hi : i < xs.length) : preS xs i + 2 * xs.getD i 0 ≤ 2 * xs.sum := by
  rw [← preS_all, ← preS_succ]
  exact preS_le h hi
theorem lap_nn (a b c d : Int) : 0 ≤ lapZ a b c d := by unfold lapZ; omega
theorem lap_add {a b u v w : Int} (h1 : u ≤ v) (h2 : v ≤ w) : lapZ a b u v + lapZ a b v w = lapZ a b u w := by unfold lapZ; omega
theorem lap_sym (a b c d : Int) : lapZ a b c d = lapZ c d a b := by unfold lapZ; omega
theorem lap_shift (a b c d h : Int) : lapZ (a + h) (b + h) (c + h) (d + h) = lapZ a b c d := by unfold lapZ; omega
theorem rg_nn (xs : List Int) (i j : Nat) : 0 ≤ rg xs i j := by
  have := lap_nn (preS xs i) (preS xs i + 2 * xs.getD i 0) (preS xs j + xs.sum) (preS xs j + 2 * xs.getD j 0 + xs.sum)
  have := lap_nn (preS xs i) (preS xs i + 2 * xs.getD i 0) (preS xs j - xs.sum) (preS xs j + 2 * xs.getD j 0 - xs.sum)
  unfold rg
  omega
theorem rg_sym (xs : List Int) (i j : Nat) : rg xs i j = rg xs j i := by
  unfold rg lapZ
  omega
theorem rg_self {xs : List Int} (h : ∀ x ∈ xs, 0 ≤ x) (i : Nat) : rg xs i i = 2 * max 0 (2 * xs.getD i 0 - xs.sum) := by
  have := sum_bd (M := xs.sum) (xs := xs)
  have h0 : 0 ≤ xs.sum := by
    have := preS_all xs
    have := preS_nn h xs.length
    omega
  unfold rg lapZ
  omega
theorem lap_row {xs : List Int} (h : ∀ x ∈ xs, 0 ≤ x) (a b c : Int) : ∀ m, sumN (fun j => lapZ a b (preS xs j + c) (preS xs j + 2 * xs.getD j 0 + c)) m = lapZ a b c (preS xs m + c)
  | 0 => by
    show (0 : Int) = lapZ a b c (0 + c)
    unfold lapZ
    omega
  | m + 1 => by
    show sumN _ m + lapZ a b (preS xs m + c) (preS xs m + 2 * xs.getD m 0 + c) = _
    rw [lap_row h a b c m, preS_succ]
    have := preS_nn h m
    have := nn_getD h m
    exact lap_add (by omega) (by omega)
theorem rg_sum {xs : List Int} (h : ∀ x ∈ xs, 0 ≤ x) {i : Nat} (hi : i < xs.length) : sumN (rg xs i) xs.length = 2 * xs.getD i 0 := by
  have e1 : sumN (rg xs i) xs.length = sumN (fun j => lapZ (preS xs i) (preS xs i + 2 * xs.getD i 0) (preS xs j + xs.sum) (preS xs j + 2 * xs.getD j 0 + xs.sum)) xs.length + sumN (fun j => lapZ (preS xs i) (preS xs i + 2 * xs.getD i 0) (preS xs j + -xs.sum) (preS xs j + 2 * xs.getD j 0 + -xs.sum)) xs.length := by
    rw [← sumN_add]
    exact sumN_congr fun j _ => rfl
  rw [e1, lap_row h, lap_row h, preS_all]
  have := preS_end h hi
  have := preS_nn h i
  have := nn_getD h i
  unfold lapZ
  omega
/-- places counted -/
theorem cnt_range (A B : Int) : ∀ N : Nat, sumN (fun s => if A ≤ (s : Int) ∧ (s : Int) < B then 1 else 0) N = max 0 (min B N - max A 0)
  | 0 => by
    show (0 : Int) = _
    omega
  | N + 1 => by
    show sumN _ N + (if A ≤ (N : Int) ∧ (N : Int) < B then 1 else 0) = _
    rw [cnt_range A B N]
    split <;> omega
def inArc (xs : List Int) (i : Nat) (s : Int) : Prop := preS xs i ≤ s ∧ s < preS xs i + 2 * xs.getD i 0
instance (xs : List Int) (i : Nat) (s : Int) : Decidable (inArc xs i s) := inferInstanceAs (Decidable (_ ∧ _))
theorem arc_uniq {xs : List Int} (h : ∀ x ∈ xs, 0 ≤ x) {i j : Nat} {s : Int} (hi : inArc xs i s) (hj : inArc xs j s) : i = j := by
  obtain ⟨a1, a2⟩ := hi
  obtain ⟨b1, b2⟩ := hj
  rcases Nat.lt_trichotomy i j with c | c | c
  · have := preS_le h (i := i + 1) (j := j) c
    rw [preS_succ] at this
    omega
  · exact c
  · have := preS_le h (i := j + 1) (j := i) c
    rw [preS_succ] at this
    omega
theorem ite_two {p q r : Prop} [Decidable p] [Decidable q] [Decidable r] (h : p ↔ q ∨ r) (n : ¬ (q ∧ r)) : (if p then (1 : Int) else 0) = (if q then 1 else 0) + (if r then 1 else 0) := by
  by_cases hq : q
  · have hr : ¬ r := fun z => n ⟨hq, z⟩
    rw [if_pos (h.mpr (.inl hq)), if_pos hq, if_neg hr]
    rfl
  · by_cases hr : r
    · rw [if_pos (h.mpr (.inr hr)), if_neg hq, if_pos hr]
      rfl
    · rw [if_neg fun z => (h.mp z).elim hq hr, if_neg hq, if_neg hr]
      rfl
theorem rg_cnt {xs : List Int} (h : ∀ x ∈ xs, 0 ≤ x) {i j : Nat} (hi : i < xs.length) (hj : j < xs.length) : sumN (fun s => if inArc xs i s ∧ inArc xs j (((s : Int) + xs.sum) % (2 * xs.sum)) then 1 else 0) (2 * xs.sum).toNat = rg xs i j := by
  have i0 := preS_nn h i
  have i1 := preS_end h hi
  have i2 := nn_getD h i
  have j0 := preS_nn h j
  have j1 := preS_end h hj
  have j2 := nn_getD h j
  have e : sumN (fun s => if inArc xs i s ∧ inArc xs j (((s : Int) + xs.sum) % (2 * xs.sum)) then 1 else 0) (2 * xs.sum).toNat =
      sumN (fun s => (if max (preS xs i) (preS xs j - xs.sum) ≤ (s : Int) ∧ (s : Int) < min (preS xs i + 2 * xs.getD i 0) (preS xs j + 2 * xs.getD j 0 - xs.sum) then 1 else 0) + (if max (preS xs i) (preS xs j + xs.sum) ≤ (s : Int) ∧ (s : Int) < min (preS xs i + 2 * xs.getD i 0) (preS xs j + 2 * xs.getD j 0 + xs.sum) then 1 else 0)) (2 * xs.sum).toNat := sumN_congr fun s hs => by
    have hm : ((s : Int) + xs.sum) % (2 * xs.sum) = if (s : Int) < xs.sum then s + xs.sum else s - xs.sum := by
      by_cases c : (s : Int) < xs.sum
      · rw [if_pos c]
        exact Int.emod_eq_of_lt (by omega) (by omega)
      · rw [if_neg c, show (s : Int) + xs.sum = (s - xs.sum) + 2 * xs.sum by omega, Int.add_emod_right]
        exact Int.emod_eq_of_lt (by omega) (by omega)
    refine ite_two ?_ ?_
    · unfold inArc
      rw [hm]
      by_cases c1 : (s : Int) < xs.sum
      · rw [if_pos c1]
        omega
      · rw [if_neg c1]
        omega
    · omega
  rw [e, sumN_add, cnt_range, cnt_range]
  unfold rg lapZ
  omega
end Dd
/-! Rings turned, stretched, joined. -/
namespace Dd
open PySem L2
theorem cut_from {ds : List PyData} {k : Int} (h0 : 0 ≤ k) (h1 : k ≤ ds.length) : cutD ds (some k) none = ds.drop k.toNat := by
  have e : HT.sIx ds.length 0 (some k) = k.toNat := by
    unfold HT.sIx
    simp only []
    split <;> omega
  unfold cutD
  rw [e]
  show (ds.drop k.toNat).take (ds.length - k.toNat) = _
  rw [List.take_of_length_le (by rw [List.length_drop]; omega)]
theorem cut_to {ds : List PyData} {k : Int} (h0 : 0 ≤ k) (h1 : k ≤ ds.length) : cutD ds none (some k) = ds.take k.toNat := by
  have e : HT.sIx ds.length ds.length (some k) = k.toNat := by
    unfold HT.sIx
    simp only []
    split <;> omega
  unfold cutD
  rw [e]
  rfl
theorem intsD_drop (xs : List Int) (k : Nat) : (intsD xs).drop k = intsD (xs.drop k) := List.map_drop.symm
theorem intsD_take (xs : List Int) (k : Nat) : (intsD xs).take k = intsD (xs.take k) := List.map_take.symm
theorem tabD_drop (xs : List (List Int)) (k : Nat) : (tabD xs).drop k = tabD (xs.drop k) := List.map_drop.symm
theorem tabD_take (xs : List (List Int)) (k : Nat) : (tabD xs).take k = tabD (xs.take k) := List.map_take.symm
theorem tabD_app (a b : List (List Int)) : tabD a ++ tabD b = tabD (a ++ b) := List.map_append.symm
/-- the list turned -/
def rot {α : Type} (f : Nat) (l : List α) : List α := l.drop f ++ l.take f
def rotI (n f k : Nat) : Nat := if k < n - f then k + f else k + f - n
theorem rot_len {α : Type} {f : Nat} {l : List α} (h : f ≤ l.length) : (rot f l).length = l.length := by
  unfold rot
  rw [List.length_append, List.length_drop, List.length_take]
  omega
theorem rot_get {α : Type} {f k : Nat} {l : List α} {d : α} (h : f ≤ l.length) (hk : k < l.length) : (rot f l).getD k d = l.getD (rotI l.length f k) d := by
  unfold rot rotI
  rw [getD_app, List.length_drop]
  by_cases c : k < l.length - f
  · rw [if_pos c, if_pos c, List.getD_eq_getElem?_getD, List.getElem?_drop, List.getD_eq_getElem?_getD, Nat.add_comm]
  · rw [if_neg c, if_neg c, List.getD_eq_getElem?_getD, List.getElem?_take, if_pos (by omega), List.getD_eq_getElem?_getD, show k - (l.length - f) = k + f - l.length by omega]
theorem rotI_lt {n f k : Nat} (h : f ≤ n) (hk : k < n) : rotI n f k < n := by
  unfold rotI
  split <;> omega
theorem rot_sum {f : Nat} (l : List Int) : (rot f l).sum = l.sum := by
  unfold rot
  rw [List.sum_append]
  have e : l.sum = (l.take f).sum + (l.drop f).sum := by
    rw [← List.sum_append, List.take_append_drop]
  omega
/-- where it lies behind the turning -/
theorem rot_pre {f : Nat} {l : List Int} (h : f ≤ l.length) : ∀ k, k ≤ l.length → preS (rot f l) k = if k ≤ l.length - f then preS l (k + f) - preS l f else 2 * l.sum - preS l f + preS l (k + f - l.length)
  | 0, _ => by
    rw [if_pos (by omega), Nat.zero_add]
    show (0 : Int) = _
    omega
  | k + 1, hk => by
    rw [preS_succ, rot_pre h k (by omega), rot_get h (by omega)]
    unfold rotI
    by_cases c1 : k + 1 ≤ l.length - f
    · rw [if_pos c1, if_pos (show k ≤ l.length - f by omega), if_pos (show k < l.length - f by omega), show k + 1 + f = (k + f) + 1 by omega, preS_succ]
      omega
    · rw [if_neg c1]
      by_cases c2 : k ≤ l.length - f
      · have e : k = l.length - f := by omega
        rw [if_pos c2, if_neg (by omega), show k + 1 + f - l.length = 0 + 1 by omega, preS_succ, show k + f - l.length = 0 by omega, show k + f = l.length by omega, preS_all]
        show _ = _ - _ + ((0 : Int) + _)
        omega
      · rw [if_neg c2, if_neg (by omega), show k + 1 + f - l.length = (k + f - l.length) + 1 by omega, preS_succ]
        omega
/-- the two laps as a rule of numbers -/
def RG (S a u b v : Int) : Int := lapZ a (a + 2 * u) (b + S) (b + 2 * v + S) + lapZ a (a + 2 * u) (b - S) (b + 2 * v - S)
theorem rg_RG (xs : List Int) (i j : Nat) : rg xs i j = RG xs.sum (preS xs i) (xs.getD i 0) (preS xs j) (xs.getD j 0) := rfl
theorem RG_shift (S a u b v c : Int) : RG S (a + c) u (b + c) v = RG S a u b v := by
  unfold RG
  rw [show a + c + 2 * u = a + 2 * u + c by omega, show b + c + S = b + S + c by omega, show b + c + 2 * v + S = b + 2 * v + S + c by omega, show b + c - S = b - S + c by omega, show b + c + 2 * v - S = b + 2 * v - S + c by omega, lap_shift, lap_shift]
theorem RG_sym (S a u b v : Int) : RG S a u b v = RG S b v a u := by
  unfold RG
  have h1 := lap_shift a (a + 2 * u) (b - S) (b + 2 * v - S) S
  have h2 := lap_shift (a - S) (a + 2 * u - S) b (b + 2 * v) S
  rw [show b - S + S = b by omega, show b + 2 * v - S + S = b + 2 * v by omega] at h1
  rw [show a - S + S = a by omega, show a + 2 * u - S + S = a + 2 * u by omega] at h2
  rw [h2, ← h1, lap_sym (a - S), lap_sym (a + S)]
  omega
theorem RG_wrap {S a u b v : Int} (h1 : a + 2 * u ≤ b) (h2 : 0 ≤ a) (h3 : b + 2 * v ≤ 2 * S) (hu : 0 ≤ u) (hv : 0 ≤ v) : RG S (a + 2 * S) u b v = RG S a u b v := by unfold RG lapZ; omega
theorem rot_rg {f : Nat} {xs : List Int} (h : f ≤ xs.length) (h0 : ∀ x ∈ xs, 0 ≤ x) {i j : Nat} (hi : i < xs.length) (hj : j < xs.length) : rg (rot f xs) i j = rg xs (rotI xs.length f i) (rotI xs.length f j) := by
  rw [rg_RG, rg_RG, rot_sum, rot_pre h i (by omega), rot_pre h j (by omega), rot_get h hi, rot_get h hj]
  have li := rotI_lt h hi
  have lj := rotI_lt h hj
  have ei := preS_end h0 li
  have ej := preS_end h0 lj
  have ni := nn_getD h0 (rotI xs.length f i)
  have nj := nn_getD h0 (rotI xs.length f j)
  have pi := preS_nn h0 (rotI xs.length f i)
  have pj := preS_nn h0 (rotI xs.length f j)
  have key : ∀ k, k < xs.length → (if k ≤ xs.length - f then preS xs (k + f) - preS xs f else 2 * xs.sum - preS xs f + preS xs (k + f - xs.length)) = preS xs (rotI xs.length f k) + (if k < xs.length - f then 0 else 2 * xs.sum) - preS xs f := fun k hk => by
    unfold rotI
    by_cases c1 : k < xs.length - f
    · rw [if_pos (by omega), if_pos c1, if_pos c1]
      omega
    · rw [if_neg c1, if_neg c1]
      by_cases c2 : k ≤ xs.length - f
      · rw [if_pos c2, show k + f = xs.length by omega, preS_all, Nat.sub_self]
        show _ = (0 : Int) + _ - _
        omega
      · rw [if_neg c2]
        omega
  rw [key i hi, key j hj]
  have hle : ∀ a b, a + 1 ≤ b → preS xs a + 2 * xs.getD a 0 ≤ preS xs b := fun a b hab => by
    rw [← preS_succ]
    exact preS_le h0 hab
  by_cases ci : i < xs.length - f
  · by_cases cj : j < xs.length - f
    · rw [if_pos ci, if_pos cj, Int.sub_eq_add_neg, Int.sub_eq_add_neg, RG_shift, Int.add_zero, Int.add_zero]
    · rw [if_pos ci, if_neg cj, Int.sub_eq_add_neg, Int.sub_eq_add_neg, RG_shift, Int.add_zero]
      have hh := hle (rotI xs.length f j) (rotI xs.length f i) (by unfold rotI; rw [if_pos ci, if_neg cj]; omega)
      rw [RG_sym, RG_wrap hh pj ei nj ni, RG_sym]
  · by_cases cj : j < xs.length - f
    · rw [if_neg ci, if_pos cj, Int.sub_eq_add_neg, Int.sub_eq_add_neg, RG_shift, Int.add_zero]
      have hh := hle (rotI xs.length f i) (rotI xs.length f j) (by unfold rotI; rw [if_neg ci, if_pos cj]; omega)
      exact RG_wrap hh pi ej ni nj
    · rw [if_neg ci, if_neg cj, Int.sub_eq_add_neg, Int.sub_eq_add_neg, RG_shift, RG_shift]
theorem rot_rgT {f : Nat} {xs : List Int} (h : f ≤ xs.length) (h0 : ∀ x ∈ xs, 0 ≤ x) : rgT (rot f xs) = (rot f (rgT xs)).map (rot f) := by
  have hl : (rot f (rgT xs)).length = xs.length := by rw [rot_len (by rw [rgT_len]; exact h), rgT_len]
  refine list_ext_getD (d := []) (by rw [rgT_len, rot_len h, List.length_map, hl]) fun i hi => ?_
  rw [rgT_len, rot_len h] at hi
  have e : ((rot f (rgT xs)).map (rot f)).getD i [] = rot f ((rgT xs).getD (rotI xs.length f i) []) := by
    rw [List.getD_eq_getElem?_getD, List.getElem?_map, List.getElem?_eq_getElem (by omega)]
    have := rot_get (f := f) (l := rgT xs) (k := i) (d := []) (by rw [rgT_len]; exact h) (by rw [rgT_len]; exact hi)
    rw [rgT_len, List.getD_eq_getElem?_getD, List.getElem?_eq_getElem (by omega)] at this
    rw [← this]
    rfl
  have li := rotI_lt h hi
  have hr := getD_len (rgT_row xs) (show rotI xs.length f i < (rgT xs).length by rw [rgT_len]; exact li)
  have hr2 := getD_len (rgT_row (rot f xs)) (show i < (rgT (rot f xs)).length by rw [rgT_len, rot_len h]; exact hi)
  rw [rot_len h] at hr2
  refine list_ext_getD (d := 0) (by rw [hr2, e, rot_len (by rw [hr]; exact h), hr]) fun j hj => ?_
  rw [hr2] at hj
  rw [e, rot_get (by rw [hr]; exact h) (by rw [hr]; exact hj), hr]
  show at2 (rgT (rot f xs)) i j = at2 (rgT xs) _ _
  rw [rgT_at (by rw [rot_len h]; exact hi) (by rw [rot_len h]; exact hj), rgT_at li (rotI_lt h hj)]
  exact rot_rg h h0 hi hj
/-! stretched -/
theorem lap_mul {m : Int} (hm : 0 ≤ m) (a b c d : Int) : lapZ (m * a) (m * b) (m * c) (m * d) = m * lapZ a b c d := by
  have e1 : min (m * b) (m * d) = m * min b d := by
    rcases Int.le_total b d with h | h
    · have := Int.mul_le_mul_of_nonneg_left h hm
      rw [show min b d = b by omega]
      omega
    · have := Int.mul_le_mul_of_nonneg_left h hm
      rw [show min b d = d by omega]
      omega
  have e2 : max (m * a) (m * c) = m * max a c := by
    rcases Int.le_total a c with h | h
    · have := Int.mul_le_mul_of_nonneg_left h hm
      rw [show max a c = c by omega]
      omega
    · have := Int.mul_le_mul_of_nonneg_left h hm
      rw [show max a c = a by omega]
      omega
  unfold lapZ
  rw [e1, e2, ← Int.mul_sub]
  rcases Int.le_total 0 (min b d - max a c) with h | h
  · have := Int.mul_le_mul_of_nonneg_left h hm
    rw [Int.mul_zero] at this
    rw [show max 0 (min b d - max a c) = min b d - max a c by omega]
    omega
  · have := Int.mul_le_mul_of_nonneg_left h hm
    rw [Int.mul_zero] at this
    rw [show max 0 (min b d - max a c) = 0 by omega, Int.mul_zero]
    omega
theorem map_getD0 (m : Int) (xs : List Int) (i : Nat) : (xs.map (m * ·)).getD i 0 = m * xs.getD i 0 := by
  rw [List.getD_eq_getElem?_getD, List.getD_eq_getElem?_getD, List.getElem?_map]
  cases xs[i]? with
  | none => exact (Int.mul_zero m).symm
  | some x => rfl
theorem pre_mul (m : Int) (xs : List Int) (i : Nat) : preS (xs.map (m * ·)) i = m * preS xs i := by
  unfold preS
  rw [← sumN_mul]
  exact sumN_congr fun k _ => by
    show 2 * (xs.map (m * ·)).getD k 0 = m * (2 * xs.getD k 0)
    rw [map_getD0, Int.mul_left_comm]
theorem sum_mul (m : Int) : ∀ xs : List Int, (xs.map (m * ·)).sum = m * xs.sum
  | [] => (Int.mul_zero m).symm
  | x :: xs => by
    rw [List.map_cons, List.sum_cons, List.sum_cons, sum_mul m xs, Int.mul_add]
theorem mul_rg {m : Int} (hm : 0 ≤ m) (xs : List Int) (i j : Nat) : rg (xs.map (m * ·)) i j = m * rg xs i j := by
  unfold rg
  rw [pre_mul, pre_mul, sum_mul, map_getD0, map_getD0, Int.mul_add, ← lap_mul hm, ← lap_mul hm]
  simp only [Int.mul_add, Int.mul_sub, Int.mul_left_comm m 2]
theorem mul_rgT {m : Int} (hm : 0 ≤ m) (xs : List Int) : rgT (xs.map (m * ·)) = (rgT xs).map fun r => r.map (m * ·) := by
  unfold rgT
  rw [List.length_map, List.map_map]
  refine List.map_congr_left fun i _ => ?_
  show _ = ((List.range xs.length).map (rg xs i)).map (m * ·)
  rw [List.map_map]
  exact List.map_congr_left fun j _ => mul_rg hm xs i j
theorem lap_le (a b c d : Int) : lapZ a b c d ≤ max 0 (b - a) := by unfold lapZ; omega
theorem rg_le {xs : List Int} (h0 : ∀ x ∈ xs, 0 ≤ x) (i j : Nat) : rg xs i j ≤ 4 * xs.getD i 0 := by
  have h1 := lap_le (preS xs i) (preS xs i + 2 * xs.getD i 0) (preS xs j + xs.sum) (preS xs j + 2 * xs.getD j 0 + xs.sum)
  have h2 := lap_le (preS xs i) (preS xs i + 2 * xs.getD i 0) (preS xs j - xs.sum) (preS xs j + 2 * xs.getD j 0 - xs.sum)
  have := nn_getD h0 i
  unfold rg
  omega
/-! two neighbours joined -/
def join (a : Nat) (xs : List Int) : List Int := xs.take a ++ [xs.getD a 0 + xs.getD (a + 1) 0] ++ xs.drop (a + 2)
theorem join_len {a : Nat} {xs : List Int} (h : a + 1 < xs.length) : (join a xs).length = xs.length - 1 := by
  unfold join
  simp
  omega
theorem join_get {a k : Nat} {xs : List Int} (h : a + 1 < xs.length) : (join a xs).getD k 0 = if k < a then xs.getD k 0 else if k = a then xs.getD a 0 + xs.getD (a + 1) 0 else xs.getD (k + 1) 0 := by
  unfold join
  rw [getD_app, List.length_append, List.length_take, List.length_singleton, getD_app, List.length_take]
  by_cases c : k < a
  · rw [if_pos c, if_pos (by omega), if_pos (by omega), List.getD_eq_getElem?_getD, List.getElem?_take, if_pos c, List.getD_eq_getElem?_getD]
  · rw [if_neg c]
    by_cases e : k = a
    · rw [if_pos e, if_pos (by omega), if_neg (by omega), show k - min a xs.length = 0 by omega]
      rfl
    · rw [if_neg e, if_neg (by omega), List.getD_eq_getElem?_getD, List.getElem?_drop, List.getD_eq_getElem?_getD, show a + 2 + (k - (min a xs.length + 1)) = k + 1 by omega]
theorem join_pre {a : Nat} {xs : List Int} (h : a + 1 < xs.length) : ∀ k, preS (join a xs) k = if k ≤ a then preS xs k else preS xs (k + 1)
  | 0 => by rw [if_pos (Nat.zero_le a)]; rfl
  | k + 1 => by
    rw [preS_succ, join_pre h k, join_get h]
    by_cases c : k < a
    · rw [if_pos (by omega), if_pos c, if_pos (by omega), preS_succ]
    · by_cases e : k = a
      · subst e
        rw [if_pos (Nat.le_refl k), if_neg (Nat.lt_irrefl k), if_pos rfl, if_neg (by omega), preS_succ, preS_succ]
        omega
      · rw [if_neg (by omega), if_neg c, if_neg e, if_neg (by omega), preS_succ xs (k + 1)]
theorem join_sum {a : Nat} {xs : List Int} (h : a + 1 < xs.length) : (join a xs).sum = xs.sum := by
  have h1 := preS_all (join a xs)
  have h2 := preS_all xs
  rw [join_pre h, join_len h, if_neg (by omega), show xs.length - 1 + 1 = xs.length by omega] at h1
  omega
theorem lap_join {a u v c d : Int} (hu : 0 ≤ u) (hv : 0 ≤ v) : lapZ a (a + 2 * (u + v)) c d = lapZ a (a + 2 * u) c d + lapZ (a + 2 * u) (a + 2 * u + 2 * v) c d := by
  rw [lap_sym a, lap_sym a, lap_sym (a + 2 * u), show a + 2 * (u + v) = a + 2 * u + 2 * v by omega]
  exact (lap_add (by omega) (by omega)).symm
theorem RG_join {S a u v b w : Int} (hu : 0 ≤ u) (hv : 0 ≤ v) : RG S a (u + v) b w = RG S a u b w + RG S (a + 2 * u) v b w := by
  unfold RG
  rw [lap_join hu hv, lap_join hu hv]
  omega
def unj (a : Nat) (r : List Int) : List Int := join a r
/-- what the joined ring says: columns joined -/
theorem join_rgC {a : Nat} {xs : List Int} (h : a + 1 < xs.length) (h0 : ∀ x ∈ xs, 0 ≤ x) (S p u : Int) (hS : S = xs.sum) (j : Nat) : RG S p u (preS (join a xs) j) ((join a xs).getD j 0) = if j < a then RG S p u (preS xs j) (xs.getD j 0) else if j = a then RG S p u (preS xs a) (xs.getD a 0) + RG S p u (preS xs (a + 1)) (xs.getD (a + 1) 0) else RG S p u (preS xs (j + 1)) (xs.getD (j + 1) 0) := by
  rw [join_pre h, join_get h]
  by_cases c : j < a
  · rw [if_pos (by omega), if_pos c, if_pos c]
  · by_cases e : j = a
    · subst e
      rw [if_pos (Nat.le_refl j), if_neg c, if_pos rfl, if_neg c, if_pos rfl, RG_sym, RG_join (nn_getD h0 j) (nn_getD h0 (j + 1)), RG_sym, preS_succ]
      rw [RG_sym S (preS xs j + 2 * xs.getD j 0)]
    · rw [if_neg (by omega), if_neg c, if_neg e, if_neg c, if_neg e]
def joinR (a : Nat) (rows : List (List Int)) : List (List Int) := rows.take a ++ [(List.range (rows.getD a []).length).map fun j => (rows.getD a []).getD j 0 + (rows.getD (a + 1) []).getD j 0] ++ rows.drop (a + 2)
theorem joinR_get {a k : Nat} {rows : List (List Int)} (h : a + 1 < rows.length) : (joinR a rows).getD k [] = if k < a then rows.getD k [] else if k = a then (List.range (rows.getD a []).length).map (fun j => (rows.getD a []).getD j 0 + (rows.getD (a + 1) []).getD j 0) else rows.getD (k + 1) [] := by
  unfold joinR
  rw [getD_app, List.length_append, List.length_take, List.length_singleton, getD_app, List.length_take]
  by_cases c : k < a
  · rw [if_pos c, if_pos (by omega), if_pos (by omega), List.getD_eq_getElem?_getD, List.getElem?_take, if_pos c, List.getD_eq_getElem?_getD]
  · rw [if_neg c]
    by_cases e : k = a
    · rw [if_pos e, if_pos (by omega), if_neg (by omega), show k - min a rows.length = 0 by omega]
      rfl
    · rw [if_neg e, if_neg (by omega), List.getD_eq_getElem?_getD, List.getElem?_drop, List.getD_eq_getElem?_getD, show a + 2 + (k - (min a rows.length + 1)) = k + 1 by omega]
theorem joinR_len {a : Nat} {rows : List (List Int)} (h : a + 1 < rows.length) : (joinR a rows).length = rows.length - 1 := by
  unfold joinR
  simp
  omega
theorem join_rgT {a : Nat} {xs : List Int} (h : a + 1 < xs.length) (h0 : ∀ x ∈ xs, 0 ≤ x) : rgT (join a xs) = (joinR a (rgT xs)).map (join a) := by
  have hl := joinR_len (rows := rgT xs) (a := a) (by rw [rgT_len]; exact h)
  rw [rgT_len] at hl
  have row : ∀ i, i < xs.length → (rgT xs).getD i [] = (List.range xs.length).map (rg xs i) := fun i hi => by
    unfold rgT
    rw [range_getD _ _ hi]
  have row_len : ∀ i, ((List.range xs.length).map (rg xs i)).length = xs.length := fun i => by simp
  have row_at : ∀ i j, j < xs.length → ((List.range xs.length).map (rg xs i)).getD j 0 = rg xs i j := fun i j hj => range_getD _ _ hj
  refine list_ext_getD (d := []) (by rw [rgT_len, join_len h, List.length_map, hl]) fun i hi => ?_
  rw [rgT_len, join_len h] at hi
  have e : ((joinR a (rgT xs)).map (join a)).getD i [] = join a ((joinR a (rgT xs)).getD i []) := by
    rw [List.getD_eq_getElem?_getD, List.getElem?_map, List.getElem?_eq_getElem (by omega), List.getD_eq_getElem?_getD, List.getElem?_eq_getElem (by omega)]
    rfl
  rw [e, joinR_get (by rw [rgT_len]; exact h)]
  have hr2 := getD_len (rgT_row (join a xs)) (show i < (rgT (join a xs)).length by rw [rgT_len, join_len h]; exact hi)
  rw [join_len h] at hr2
  have at2' : ∀ j, j < xs.length - 1 → ((rgT (join a xs)).getD i []).getD j 0 = RG xs.sum (preS (join a xs) i) ((join a xs).getD i 0) (preS (join a xs) j) ((join a xs).getD j 0) := fun j hj => by
    show at2 (rgT (join a xs)) i j = _
    rw [rgT_at (by rw [join_len h]; exact hi) (by rw [join_len h]; exact hj), rg_RG, join_sum h]
  by_cases c : i < a
  · rw [if_pos c, row i (by omega)]
    refine list_ext_getD (d := 0) (by rw [hr2, join_len (by rw [row_len]; exact h), row_len]) fun j hj => ?_
    rw [hr2] at hj
    rw [at2' j hj, join_rgC h h0 _ _ _ rfl, join_get (xs := (List.range xs.length).map (rg xs i)) (k := j) (by rw [row_len]; exact h), join_pre h, if_pos (show i ≤ a by omega), join_get (xs := xs) (k := i) h, if_pos c, row_at _ _ (show a < xs.length by omega), row_at _ _ h]
    split
    · rw [row_at _ _ (by omega)]
      rfl
    · split
      · rfl
      · rw [row_at _ _ (by omega)]
        rfl
  · by_cases e : i = a
    · subst e
      rw [if_neg c, if_pos rfl, row i (by omega), row (i + 1) h]
      have mix : ∀ k, k < xs.length → ((List.range ((List.range xs.length).map (rg xs i)).length).map fun j => ((List.range xs.length).map (rg xs i)).getD j 0 + ((List.range xs.length).map (rg xs (i + 1))).getD j 0).getD k 0 = rg xs i k + rg xs (i + 1) k := fun k hk => by
        rw [range_getD _ _ (by rw [row_len]; exact hk), row_at _ _ hk, row_at _ _ hk]
      have mixl : ((List.range ((List.range xs.length).map (rg xs i)).length).map fun j => ((List.range xs.length).map (rg xs i)).getD j 0 + ((List.range xs.length).map (rg xs (i + 1))).getD j 0).length = xs.length := by simp
      generalize (List.range ((List.range xs.length).map (rg xs i)).length).map (fun j => ((List.range xs.length).map (rg xs i)).getD j 0 + ((List.range xs.length).map (rg xs (i + 1))).getD j 0) = M at mix mixl ⊢
      refine list_ext_getD (d := 0) (by rw [hr2, join_len (by omega), mixl]) fun j hj => ?_
      rw [hr2] at hj
      have two : ∀ q w, RG xs.sum (preS xs i) (xs.getD i 0 + xs.getD (i + 1) 0) q w = RG xs.sum (preS xs i) (xs.getD i 0) q w + RG xs.sum (preS xs (i + 1)) (xs.getD (i + 1) 0) q w := fun q w => by
        rw [RG_join (nn_getD h0 i) (nn_getD h0 (i + 1)), preS_succ]
      rw [at2' j hj, join_rgC h h0 _ _ _ rfl, join_get (xs := M) (k := j) (by omega), join_pre h, if_pos (Nat.le_refl i), join_get (xs := xs) (k := i) h, if_neg (Nat.lt_irrefl i), if_pos rfl, mix i (by omega), mix (i + 1) h, two, two, two, two]
      split
      · rw [mix j (by omega)]
        rfl
      · split
        · rw [rg_RG, rg_RG, rg_RG, rg_RG]
        · rw [mix (j + 1) (by omega)]
          rfl
    · rw [if_neg c, if_neg e, row (i + 1) (by omega)]
      refine list_ext_getD (d := 0) (by rw [hr2, join_len (by rw [row_len]; exact h), row_len]) fun j hj => ?_
      rw [hr2] at hj
      rw [at2' j hj, join_rgC h h0 _ _ _ rfl, join_get (xs := (List.range xs.length).map (rg xs (i + 1))) (k := j) (by rw [row_len]; exact h), join_pre h, if_neg (show ¬ i ≤ a by omega), join_get (xs := xs) (k := i) h, if_neg c, if_neg e, row_at _ _ (show a < xs.length by omega), row_at _ _ h]
      split
      · rw [row_at _ _ (by omega)]
        rfl
      · split
        · rfl
        · rw [row_at _ _ (by omega)]
          rfl
end Dd
/-! Shares. -/
namespace Dd
open PySem L2
/-- a over b in lowest terms -/
def lowA (a b : Int) : Int := a / (Int.gcd b a : Int)
def lowB (a b : Int) : Int := b / (Int.gcd b a : Int)
def lowD (a b : Int) : PyData := .tuple [.int (a / (Int.gcd b a : Int)), .int (b / (Int.gcd b a : Int))]
theorem gcd_pos {a b : Int} (hb : 0 < b) : 0 < (Int.gcd b a : Int) := by
  have : 0 < Int.gcd b a := Int.gcd_pos_of_ne_zero_left _ (by omega)
  omega
theorem gcd_le {a b : Int} (hb : 0 < b) : (Int.gcd b a : Int) ≤ b := Int.le_of_dvd hb (Int.gcd_dvd_left ..)
theorem gcd_div {a b : Int} (hb : 0 < b) (hlt : b.natAbs < 2 ^ 1000) (c : Int) : CDivW c (Int.gcd b a : Int) := by
  have h1 := gcd_le (a := a) hb
  refine wide_div (b := 1000) (gcd_pos hb) (Nat.lt_of_le_of_lt ?_ hlt) (by decide) (by decide)
  omega
theorem mul4 {a b : Int} (ha : a.natAbs < 2 ^ 400) (hb : b.natAbs < 2 ^ 400) : CMulW a b := wide_mul ha hb (by decide) (by decide) (by decide)
theorem low_cross {a b : Int} : lowA a b * b = a * lowB a b := by
  unfold lowA lowB
  obtain ⟨x, hx⟩ : (Int.gcd b a : Int) ∣ a := Int.gcd_dvd_right ..
  obtain ⟨y, hy⟩ : (Int.gcd b a : Int) ∣ b := Int.gcd_dvd_left ..
  by_cases hg : (Int.gcd b a : Int) = 0
  · rw [hg, Int.zero_mul] at hx hy
    subst hx; subst hy
    rfl
  generalize (Int.gcd b a : Int) = g at *
  subst hx; subst hy
  rw [Int.mul_ediv_cancel_left _ hg, Int.mul_ediv_cancel_left _ hg]
  simp only [Int.mul_comm, Int.mul_left_comm, Int.mul_assoc]
theorem low_pos {a b : Int} (hb : 0 < b) : 0 < lowB a b := Int.ediv_pos_of_pos_of_dvd hb (by have := gcd_pos (a := a) hb; omega) (Int.gcd_dvd_left ..)
theorem low_nn {a b : Int} (ha : 0 ≤ a) (hb : 0 < b) : 0 ≤ lowA a b := Int.ediv_nonneg ha (by have := gcd_pos (a := a) hb; omega)
theorem low_leA {a b : Int} (ha : 0 ≤ a) : lowA a b ≤ a := Int.ediv_le_self _ ha
theorem low_leB {a b : Int} (hb : 0 < b) : lowB a b ≤ b := Int.ediv_le_self _ (by omega)
/-- in lowest terms -/
def Low (a b : Int) : Prop := 0 ≤ a ∧ 0 < b ∧ Int.gcd b a = 1
theorem low_low {a b : Int} (ha : 0 ≤ a) (hb : 0 < b) : Low (lowA a b) (lowB a b) := by
  refine ⟨low_nn ha hb, low_pos hb, ?_⟩
  have hg : 0 < Int.gcd b a := Int.gcd_pos_of_ne_zero_left _ (by omega)
  exact Int.gcd_ediv_gcd_ediv_gcd hg
theorem low_one {a b : Int} (h : Low a b) : lowA a b = a ∧ lowB a b = b := by
  unfold lowA lowB
  rw [h.2.2]
  exact ⟨Int.ediv_one a, Int.ediv_one b⟩
theorem lowD_one {a b : Int} (h : Low a b) : lowD a b = .tuple [.int a, .int b] := by
  obtain ⟨h1, h2⟩ := low_one h
  show PyData.tuple [.int (lowA a b), .int (lowB a b)] = _
  rw [h1, h2]
theorem low_mul {a b k : Int} (hk : 0 < k) (hb : 0 < b) : lowA (k * a) (k * b) = lowA a b ∧ lowB (k * a) (k * b) = lowB a b := by
  have hg := gcd_pos (a := a) hb
  unfold lowA lowB
  rw [Int.gcd_mul_left, show ((k.natAbs * Int.gcd b a : Nat) : Int) = k * (Int.gcd b a : Int) by rw [Int.natCast_mul, Int.natAbs_of_nonneg (by omega)]]
  exact ⟨Int.mul_ediv_mul_of_pos _ _ hk, Int.mul_ediv_mul_of_pos _ _ hk⟩
theorem sm_low {a b : Int} : Sm 2 (lowD a b) := ⟨by show 2 < 1000; decide, fun x hx => by
  rcases List.mem_cons.mp hx with z | z
  · subst z; exact sm_int
  · rw [List.mem_singleton.mp z]; exact sm_int⟩
theorem lowD_comm (a b c d : Int) : lowD (a * d + c * b) (b * d) = lowD (c * b + a * d) (d * b) := by
  rw [Int.add_comm, Int.mul_comm b d]
end Dd
/-! More rules: a list unpacked; rows of an own table changed one by one; insert. -/
namespace Dd
open PySem L2
def gL (n : Nat) (w : WGs) : WG := fun d ρ R => match d with
  | .list ds => ds.length = n ∧ w ds ρ R
  | _ => False
section
variable {X : Cx} {pos : Pos} {ts : List Nat}
theorem g_lst {es : List Expr} {kk : Nat} {w : WGs} {n : Nat} (hc : X.calm = true) (h : PGs X es (gsOf X.K ts w)) (hn : (assignEach es X.env).length = n := by rfl) (hst : (assignEach es X.env).findIdx? (·.1) = none := by rfl) : PG X (.Tuple es kk pos) (gOf X.K ts (gL n w)) := PG.of (pg_unl hc h hn hst) fun v σ H Q ⟨b, B, G, ρ, d, R, q, hr, r, k⟩ => by
  unfold gL at q
  split at q
  · cases r with
    | lst h1 r1 => exact ⟨_, _, rfl, .inl (.inl (hr.good.ex _ _ h1)), by rw [r1.len]; exact q.1, b, B, G, ρ, _, R, q.2, hr, r1, k⟩
  · exact q.elim
end
/-! ### rows of an own table -/
theorem Env.gone {b : Option Addr} {B G H : Hp} {σ : L2.St} {ρ : Rho} (E : Env b B G H σ ρ) (j : Nat) (x : Option V) : Env b B G H (σ.set j x) (ρ.set j none) := by
  obtain ⟨hl, fps, h1, h2, h3⟩ := E
  refine ⟨by rw [List.length_set, List.length_set]; exact hl, fps, fun i t e => ?_, h2, h3⟩
  have n : i ≠ j := fun z => by
    subst z
    by_cases c : i < ρ.length
    · rw [List.getElem?_set_self c] at e
      cases e
    · rw [List.getElem?_eq_none (by rw [List.length_set]; omega)] at e
      cases e
  rw [List.getElem?_set_ne (Ne.symm n)] at e ⊢
  exact h1 i t e
theorem own_inner {K : PySem.W.Frag} {b : Option Addr} {F G0 H0 G H : Hp} {σ : L2.St} {ρ : Rho} {i : Nat} {ts us : List T} {n : Nat} (g0 : Good K b G0 H0) (e1 : Ex F G) (s : Stp K b G0 H0 G H) (E1 : Env b H0 G H σ ρ) (et : ρ[i]? = some (some (.node ts))) (en : ts[n]? = some (.node us)) :
    ∃ q vs p ws fw, σ[i]? = some (some (.ref q)) ∧ H q = some (.lst vs) ∧ vs.length = ts.length ∧ vs[n]? = some (.ref p) ∧ H p = some (.lst ws) ∧ q ≠ p ∧ TrAll b G H fw ws us ∧
      ∀ (us' : List T) (fw' : List Addr) (ws' : List V), TrAll b G H fw' ws' us' → (∀ a, a ∈ fw' → a ∈ fw) → At K b F G0 H0 (ρ.set i (some (.node (ts.set n (.node us'))))) σ (upd H p (.lst ws')) := by
  obtain ⟨fp, v0, ev, tr, hB, EX⟩ := E1.take et
  cases tr with
  | node hp gp bp rr np =>
    rename_i q fq vs
    obtain ⟨p, fw, ws, h1, h2, h3, h4, h5, h6, h7, h8⟩ := rr.inner en
    have pq : q ≠ p := fun z => np (by rw [z]; exact h7)
    refine ⟨q, vs, p, ws, fw, ev, hp, rr.len, h1, h2, pq, h5, fun us' fn ws' tr3 sub => ?_⟩
    have npn : p ∉ fn := fun z => h6 (sub _ z)
    obtain ⟨fp', g1, g2⟩ := h8 (upd H p (.lst ws')) us' fn ws' (fun a na => upd_ne na) upd_same (tr3.move (Ex.rfl' _) fun a z => ⟨(tr3.mem a z).1, upd_ne fun y => npn (by rw [← y]; exact z)⟩) sub
    have npq : q ∉ fp' := fun z => np (g2 q z)
    have st : Stp K b G0 H0 G (upd H p (.lst ws')) := by
      refine ⟨s.ex, ⟨fun a u e => ?_, fun a c => ?_⟩, fun a u n e => ?_, s.out, fun a c => (boxc_eq (upd_ne fun q => h4 (by rw [← q]; exact c))).trans (s.cel a c)⟩
      · have na : a ≠ p := fun q => by
          rw [q, h3] at e
          cases e
        rw [upd_ne na]
        exact s.good.ex a u e
      · obtain ⟨n, cc, cells, pos, rest, seed, q1, q2, q3⟩ := s.good.box a c
        have na : a ≠ p := fun q => h4 (by rw [← q]; exact c)
        exact ⟨n, cc, cells, pos, rest, seed, by rw [upd_ne na]; exact q1, q2, q3⟩
      · have na : a ≠ p := fun z => by
          rw [z, hB p (List.mem_cons_of_mem _ h7)] at e
          cases e
        rw [upd_ne na]
        exact s.keep a u n e
    have E2 := EX.back (H2 := upd H p (.lst ws')) (fun a o n _ e => by
      rw [upd_ne fun z => n (by rw [z]; exact List.mem_cons_of_mem _ h7)]
      exact e) (.node (by rw [upd_ne pq]; exact hp) gp bp g1 npq) (fun a z => by
      rcases List.mem_cons.mp z with z | z
      · subst z
        exact ⟨hB _ (List.mem_cons_self ..), .inl (List.mem_cons_self ..)⟩
      · exact ⟨hB _ (List.mem_cons_of_mem _ (g2 a z)), .inl (List.mem_cons_of_mem _ (g2 a z))⟩)
    rw [set_same ev] at E2
    exact ⟨G, e1, st, E2⟩
/-- the first k rows changed -/
def mutN (f : List T → List T) : Nat → List T → List T
  | 0, ts => ts
  | _, [] => []
  | k + 1, t :: ts => (match t with
    | .node us => .node (f us)
    | t => t) :: mutN f k ts
theorem mutN_len (f : List T → List T) : ∀ k ts, (mutN f k ts).length = ts.length
  | 0, _ => rfl
  | _ + 1, [] => rfl
  | k + 1, t :: ts => by simp [mutN, mutN_len f k ts]
theorem mutN_get (f : List T → List T) : ∀ {k : Nat} {ts : List T} {us : List T}, ts[k]? = some (.node us) → (mutN f k ts)[k]? = some (.node us) ∧ (mutN f k ts).set k (.node (f us)) = mutN f (k + 1) ts
  | 0, [], _, e => by simp at e
  | 0, t :: ts, us, e => by
    simp at e
    subst e
    exact ⟨rfl, rfl⟩
  | k + 1, [], _, e => by simp at e
  | k + 1, t :: ts, us, e => by
    obtain ⟨h1, h2⟩ := mutN_get f (k := k) (ts := ts) (us := us) (by simpa using e)
    exact ⟨by show (mutN f k ts)[k]? = _; exact h1, by show _ :: (mutN f k ts).set k _ = _ :: mutN f (k + 1) ts; rw [h2]⟩
theorem mutN_all (f : List T → List T) : ∀ rs : List (List T), mutN f rs.length (rs.map .node) = rs.map fun us => .node (f us)
  | [] => rfl
  | r :: rs => by
    show _ :: mutN f rs.length (rs.map .node) = _
    rw [mutN_all f rs]
    rfl
section
variable {X : Cx} {E : SX} {e : Expr} {we : WE} {pos p px py fpos apos cpos : Pos}
/-- for x in y: x.append(e) -/
def dRowsA (i j : Nat) (we : WE) : WS := fun C ρ => ∃ rs : List (List T), ρ[i]? = some (some (.node (rs.map .node))) ∧ j < ρ.length ∧ i ≠ j ∧ (∀ r ∈ rs, r.length < lim) ∧
  ∃ d, (∀ ρ' : Rho, ∀ P : T → Prop, P (.leaf d) → we noX ρ' P) ∧ C.nx ((ρ.set i (some (.node (rs.map fun us => .node (us ++ [.leaf d]))))).set j none)
/-- for x in y: x.clear() -/
def dRowsC (i j : Nat) : WS := fun C ρ => ∃ rs : List (List T), ρ[i]? = some (some (.node (rs.map .node))) ∧ j < ρ.length ∧ i ≠ j ∧ C.nx ((ρ.set i (some (.node (rs.map fun _ => .node [])))).set j none)
theorem Env.gone' {b : Option Addr} {B G H : Hp} {σ : L2.St} {ρ : Rho} (E : Env b B G H σ ρ) (j : Nat) : Env b B G H σ (ρ.set j none) := by
  obtain ⟨hl, fps, h1, h2, h3⟩ := E
  refine ⟨by rw [List.length_set]; exact hl, fps, fun i t e => ?_, h2, h3⟩
  have n : i ≠ j := fun z => by
    subst z
    by_cases c : i < ρ.length
    · rw [List.getElem?_set_self c] at e
      cases e
    · rw [List.getElem?_eq_none (by rw [List.length_set]; omega)] at e
      cases e
  rw [List.getElem?_set_ne (Ne.symm n)] at e
  exact h1 i t e
theorem rho_same {ρ : Rho} {i : Nat} {t : Option T} (e : ρ[i]? = some t) : ρ.set i t = ρ := by
  refine List.ext_getElem? fun j => ?_
  by_cases c : j = i
  · subst c
    rw [List.getElem?_set_self (List.getElem?_eq_some_iff.mp e).1, e]
  · rw [List.getElem?_set_ne (Ne.symm c)]
theorem s_rowsA (i j : Nat) {x y : Str} (hp : PassesOwn (model X.prog X.w) X.A X.env X.xe) (hc : X.calm = true) (hN : X.N.Nodup) (he : PE X e (tOf X.K X.mg E we)) (hi : X.N[i]? = some y := by rfl) (hj : X.N[j]? = some x := by rfl) (hvy : Vis X.env.scope y := by first | exact Or.inl rfl | exact Or.inr (Or.inl rfl) | exact Or.inr (Or.inr rfl)) (hvx : Vis X.env.scope x := by first | exact Or.inl rfl | exact Or.inr (Or.inl rfl) | exact Or.inr (Or.inr rfl)) (hdy : (y == ("__debug__" : Str)) = false := by decide) (hcdy : (y == ("__classdict__" : Str)) = false := by decide) (hdx : (x == ("__debug__" : Str)) = false := by decide) (hcdx : (x == ("__classdict__" : Str)) = false := by decide)
    (hx : Loc X.env.scope x := by first | exact Or.inl rfl | exact Or.inr rfl) (hf : X.fn x = true ∨ X.env.scope.names.lookup x = some .local := by first | exact .inl rfl | exact .inr rfl | assumption)
    (hsw : swapsWith (.Call (.Attribute (.Name x p) "append" apos) [e] [] cpos) none pos.line X.env = pure false := by rfl)
    (hbase : attributeBase (.Name x p) "append" X.env (eval (.Name x p) X.env) = eval (.Name x p) X.env := by rfl)
    (hfew : ((backTo cpos (starEach [e] X.env)).all (fun x => !x.1) && (backToKw cpos (keywordEach [] X.env)).all (fun x => x.1.isSome)
      && decide (([e] : List Expr).length + ([] : List Keyword).length + (if ([] : List Keyword).isEmpty then 0 else 1) < 30)) = true := by rfl)
    (hline : (apos.endLine == cpos.line) = true := by rfl) (hs : starEach [e] X.env = (false, eval e X.env) :: starEach [] X.env := by rfl) (hplain : (backTo cpos (starEach [] X.env)).any (·.1) = false := by rfl) (hfs : ∀ z, foldedSetIterable (.Name y py) X.env z = pure z := by intro _; rfl) :
    PS X (.For (.Name x px) (.Name y py) [.Expr (.Call (.Attribute (.Name x p) "append" apos) [e] [] cpos) pos] [] fpos) (sOf X.K X.mg E (dRowsA i j we)) :=
  PS.of (ps_for hp hc (pi_list (pe_var hi hvy hdy hcdy)) (pg_name hN hj hx hf) (pss_one (ps_expr (pe_bm PySem.F.plainAttrs_list PySem.F.slot_list_append PySem.F.type_list_append mt_append (pe_var hj hvx hdx hcdx) (pa_cons he pa_nil hs) hbase hfew hline hs hplain) hsw)) hfs) fun D σ H ⟨b, F, G0, H0, ρ, C, ⟨rs, et, hjl, hij, hlen, d, hd, q⟩, g0, a, eo⟩ => by
  obtain ⟨G, e1, s, E1⟩ := id a
  obtain ⟨q0, vs, ev, hq, hl, bq, _⟩ := env_node (K := X.K) E1 et
  rw [List.length_map] at hl
  let f : List T → List T := fun us => us ++ [.leaf d]
  let R : Nat → Rho := fun k => (ρ.set i (some (.node (mutN f k (rs.map .node))))).set j none
  have Rl : ∀ k, (R k).length = ρ.length := fun k => by show List.length (List.set _ _ _) = _; rw [List.length_set, List.length_set]
  have hil : i < ρ.length := (List.getElem?_eq_some_iff.mp et).1
  have Ri : ∀ k, (R k)[i]? = some (some (.node (mutN f k (rs.map .node)))) := fun k => by
    show (List.set _ _ _)[i]? = _
    rw [List.getElem?_set_ne (Ne.symm hij), List.getElem?_set_self hil]
  have Rj : ∀ k, (R k).set j none = R k := fun k => by show List.set (List.set _ _ _) _ _ = _; rw [List.set_set]
  have Rs : ∀ k, (R k).set i (some (.node (mutN f (k + 1) (rs.map .node)))) = R (k + 1) := fun k => by
    show List.set (List.set (List.set _ _ _) _ _) _ _ = List.set (List.set _ _ _) _ _
    rw [List.set_comm _ _ (Ne.symm hij), List.set_set]
  refine ⟨_, ev, q0, rfl, ⟨vs, .inl (.inl hq)⟩, fun k m σ' H' => m = rs.length - k ∧ k ≤ rs.length ∧ σ'[i]? = some (some (.ref q0)) ∧ H' q0 = some (.lst vs) ∧ At X.K b F G0 H0 (R k) σ' H', ⟨rs.length, by simp, Nat.zero_le _, ev, hq, G, e1, s, ?_⟩, ?_⟩
  · have := E1.gone' j
    show Env b H0 G H σ ((ρ.set i _).set j none)
    rw [show mutN f 0 (rs.map .node) = rs.map .node from rfl, rho_same et]
    exact this
  rintro k m σ' H' ⟨rfl, hk, ei', hq', at1⟩
  obtain ⟨G2, e2, s2, E2⟩ := id at1
  have hq2 : SqL X.K H' q0 vs := .inl (.inl hq')
  by_cases hlt : k < rs.length
  · refine .inr ⟨⟨vs, vs[k]'(by omega), hq2, List.getElem?_eq_getElem _⟩, fun σ2 H2 => k + 1 ≤ rs.length ∧ σ2[i]? = some (some (.ref q0)) ∧ H2 q0 = some (.lst vs) ∧ At X.K b F G0 H0 (R (k + 1)) σ2 H2, fun σ2 H2 h => ⟨rs.length - (k + 1), by omega, rfl, h⟩, fun v H3 ⟨eH, yv⟩ => ?_⟩
    subst eH
    have yv := yv vs hq2
    have us := rs[k]
    have en : (rs.map T.node)[k]? = some (.node rs[k]) := by rw [List.getElem?_map, List.getElem?_eq_getElem hlt]; rfl
    obtain ⟨en1, en2⟩ := mutN_get f en
    have E3 := E2.gone j (some v)
    rw [Rj k] at E3
    have ei3 : (σ'.set j (some v))[i]? = some (some (.ref q0)) := by rw [List.getElem?_set_ne (Ne.symm hij)]; exact ei'
    have ej3 : (σ'.set j (some v))[j]? = some (some v) := List.getElem?_set_self (by rw [E2.len, Rl]; exact hjl)
    obtain ⟨q1, vs1, p1, ws1, ev1, hq1, hl1, hn1, hp1, _, bp1, _, _⟩ := env_node2' (K := X.K) E3 (Ri k) en1
    rw [ei3] at ev1
    cases ev1
    rw [hq'] at hq1
    cases hq1
    rw [yv] at hn1
    cases hn1
    refine ⟨_, ej3, .inl ⟨rfl, _, .inl (.inl hp1)⟩, b, H0, G2, R k, noX, fun t => t = .leaf d, hd _ _ rfl, ⟨⟨s2.good, E3, fun a e => s2.free g0 e⟩, fun n pl c d G' H' x => x.elim⟩, fun G3 H4 v t fv ht s3 tr2 fr => ?_⟩
    subst ht
    cases tr2 with
    | leaf rv =>
      have s23 := s2.trans g0 s3
      obtain ⟨q2, vs2, p2, ws2, fw, ev2, hq3, hl2, hn2, hp2, qp, tr5, at5⟩ := own_inner g0 (e2.trans s3.ex) s23 (E3.stp s3) (Ri k) en1
      rw [ei3] at ev2
      cases ev2
      have hq4 := s3.keep _ _ bq hq'
      rw [hq4] at hq3
      cases hq3
      rw [yv] at hn2
      cases hn2
      obtain ⟨fn, tr6, sub⟩ := TrAll.snoc tr5 (.leaf rv) (fun _ _ z => nomatch z)
      have at6 := at5 _ _ _ tr6 fun a m => (sub a m).elim id fun z => nomatch z
      rw [en2, Rs] at at6
      refine ⟨p1, ws2, v, rfl, rfl, hp2, by rw [tr5.len]; exact lim_lt (hlen _ (List.getElem_mem hlt)), hlt, ei3, ?_, at6⟩
      rw [upd_ne qp]
      exact hq4
  · have ek : k = rs.length := by omega
    subst ek
    refine .inl ⟨⟨vs, hq2, by omega⟩, eo.nx _ _ _ q ?_⟩
    have e : R rs.length = (ρ.set i (some (.node (rs.map fun us => .node (us ++ [.leaf d]))))).set j none := by
      show (ρ.set i (some (.node (mutN f rs.length (rs.map .node))))).set j none = _
      rw [mutN_all]
    rw [← e]
    exact at1
theorem s_rowsC (i j : Nat) {x y : Str} (hp : PassesOwn (model X.prog X.w) X.A X.env X.xe) (hc : X.calm = true) (hN : X.N.Nodup) (hi : X.N[i]? = some y := by rfl) (hj : X.N[j]? = some x := by rfl) (hvy : Vis X.env.scope y := by first | exact Or.inl rfl | exact Or.inr (Or.inl rfl) | exact Or.inr (Or.inr rfl)) (hvx : Vis X.env.scope x := by first | exact Or.inl rfl | exact Or.inr (Or.inl rfl) | exact Or.inr (Or.inr rfl)) (hdy : (y == ("__debug__" : Str)) = false := by decide) (hcdy : (y == ("__classdict__" : Str)) = false := by decide) (hdx : (x == ("__debug__" : Str)) = false := by decide) (hcdx : (x == ("__classdict__" : Str)) = false := by decide)
    (hx : Loc X.env.scope x := by first | exact Or.inl rfl | exact Or.inr rfl) (hf : X.fn x = true ∨ X.env.scope.names.lookup x = some .local := by first | exact .inl rfl | exact .inr rfl | assumption)
    (hsw : swapsWith (.Call (.Attribute (.Name x p) "clear" apos) [] [] cpos) none pos.line X.env = pure false := by rfl)
    (hbase : attributeBase (.Name x p) "clear" X.env (eval (.Name x p) X.env) = eval (.Name x p) X.env := by rfl)
    (hline : (apos.endLine == cpos.line) = true := by rfl) (hfs : ∀ z, foldedSetIterable (.Name y py) X.env z = pure z := by intro _; rfl) :
    PS X (.For (.Name x px) (.Name y py) [.Expr (.Call (.Attribute (.Name x p) "clear" apos) [] [] cpos) pos] [] fpos) (sOf X.K X.mg E (dRowsC i j)) :=
  PS.of (ps_for hp hc (pi_list (pe_var hi hvy hdy hcdy)) (pg_name hN hj hx hf) (pss_one (ps_expr (pe_bm0 PySem.F.plainAttrs_list PySem.F.slot_list_clear PySem.F.type_list_clear mt_clear (pe_var hj hvx hdx hcdx) hbase hline) hsw)) hfs) fun D σ H ⟨b, F, G0, H0, ρ, C, ⟨rs, et, hjl, hij, q⟩, g0, a, eo⟩ => by
  obtain ⟨G, e1, s, E1⟩ := id a
  obtain ⟨q0, vs, ev, hq, hl, bq, _⟩ := env_node (K := X.K) E1 et
  rw [List.length_map] at hl
  let f : List T → List T := fun us => []
  let R : Nat → Rho := fun k => (ρ.set i (some (.node (mutN f k (rs.map .node))))).set j none
  have Rl : ∀ k, (R k).length = ρ.length := fun k => by show List.length (List.set _ _ _) = _; rw [List.length_set, List.length_set]
  have hil : i < ρ.length := (List.getElem?_eq_some_iff.mp et).1
  have Ri : ∀ k, (R k)[i]? = some (some (.node (mutN f k (rs.map .node)))) := fun k => by
    show (List.set _ _ _)[i]? = _
    rw [List.getElem?_set_ne (Ne.symm hij), List.getElem?_set_self hil]
  have Rj : ∀ k, (R k).set j none = R k := fun k => by show List.set (List.set _ _ _) _ _ = _; rw [List.set_set]
  have Rs : ∀ k, (R k).set i (some (.node (mutN f (k + 1) (rs.map .node)))) = R (k + 1) := fun k => by
    show List.set (List.set (List.set _ _ _) _ _) _ _ = List.set (List.set _ _ _) _ _
    rw [List.set_comm _ _ (Ne.symm hij), List.set_set]
  refine ⟨_, ev, q0, rfl, ⟨vs, .inl (.inl hq)⟩, fun k m σ' H' => m = rs.length - k ∧ k ≤ rs.length ∧ σ'[i]? = some (some (.ref q0)) ∧ H' q0 = some (.lst vs) ∧ At X.K b F G0 H0 (R k) σ' H', ⟨rs.length, by simp, Nat.zero_le _, ev, hq, G, e1, s, ?_⟩, ?_⟩
  · have := E1.gone' j
    show Env b H0 G H σ ((ρ.set i _).set j none)
    rw [show mutN f 0 (rs.map .node) = rs.map .node from rfl, rho_same et]
    exact this
  rintro k m σ' H' ⟨rfl, hk, ei', hq', at1⟩
  obtain ⟨G2, e2, s2, E2⟩ := id at1
  have hq2 : SqL X.K H' q0 vs := .inl (.inl hq')
  by_cases hlt : k < rs.length
  · refine .inr ⟨⟨vs, vs[k]'(by omega), hq2, List.getElem?_eq_getElem _⟩, fun σ2 H2 => k + 1 ≤ rs.length ∧ σ2[i]? = some (some (.ref q0)) ∧ H2 q0 = some (.lst vs) ∧ At X.K b F G0 H0 (R (k + 1)) σ2 H2, fun σ2 H2 h => ⟨rs.length - (k + 1), by omega, rfl, h⟩, fun v H3 ⟨eH, yv⟩ => ?_⟩
    subst eH
    have yv := yv vs hq2
    have en : (rs.map T.node)[k]? = some (.node rs[k]) := by rw [List.getElem?_map, List.getElem?_eq_getElem hlt]; rfl
    obtain ⟨en1, en2⟩ := mutN_get f en
    have E3 := E2.gone j (some v)
    rw [Rj k] at E3
    have ei3 : (σ'.set j (some v))[i]? = some (some (.ref q0)) := by rw [List.getElem?_set_ne (Ne.symm hij)]; exact ei'
    have ej3 : (σ'.set j (some v))[j]? = some (some v) := List.getElem?_set_self (by rw [E2.len, Rl]; exact hjl)
    obtain ⟨q2, vs2, p2, ws2, fw, ev2, hq3, hl2, hn2, hp2, qp, tr5, at5⟩ := own_inner g0 e2 s2 E3 (Ri k) en1
    rw [ei3] at ev2
    cases ev2
    rw [hq'] at hq3
    cases hq3
    rw [yv] at hn2
    cases hn2
    have at6 := at5 [] [] [] .nil fun a m => nomatch m
    rw [show T.node [] = .node (f rs[k]) from rfl, en2, Rs] at at6
    refine ⟨_, ej3, .inl ⟨rfl, _, .inl (.inl hp2)⟩, p2, ws2, rfl, rfl, hp2, hlt, ei3, ?_, at6⟩
    rw [upd_ne qp]
    exact hq'
  · have ek : k = rs.length := by omega
    subst ek
    refine .inl ⟨⟨vs, hq2, by omega⟩, eo.nx _ _ _ q ?_⟩
    have e : R rs.length = (ρ.set i (some (.node (rs.map fun us => .node [])))).set j none := by
      show (ρ.set i (some (.node (mutN f rs.length (rs.map .node))))).set j none = _
      rw [mutN_all]
    rw [← e]
    exact at1
theorem TrAll.toRp {b : Option Addr} {G H : Hp} : ∀ {fp : List Addr} {vs : List V} {ds : List PyData}, TrAll b G H fp vs (ds.map T.leaf) → RpAll b G vs ds
  | _, _, [], h => by
    cases h
    exact .nil
  | _, _, d :: ds, h => by
    cases h with
    | cons q r k =>
      cases q with
      | leaf rd => exact .cons rd (TrAll.toRp r)
/-- xs.insert(k, e) -/
def dIns (i : Nat) (wk we : WE) : WS := fun C ρ => ∃ ds : List PyData, ρ[i]? = some (some (.node (ds.map .leaf))) ∧ ds.length < lim ∧ wk (C.xc ρ) ρ (asI fun k => (0 ≤ k ∧ k < 2 ^ 62) ∧ we (C.xc ρ) ρ fun t => C.nx (ρ.set i (some (.node ((ds.take k.toNat ++ [t.dat] ++ ds.drop k.toNat).map .leaf)))))
theorem s_ins (i : Nat) {x : Str} {e2 : Expr} {wk : WE} (hk : PE X e2 (tOf X.K X.mg E wk)) (he : PE X e (tOf X.K X.mg E we)) (hN : X.N[i]? = some x := by rfl) (hv : Vis X.env.scope x := by first | exact Or.inl rfl | exact Or.inr (Or.inl rfl) | exact Or.inr (Or.inr rfl)) (hd : (x == ("__debug__" : Str)) = false := by decide) (hcd : (x == ("__classdict__" : Str)) = false := by decide)
    (hsw : swapsWith (.Call (.Attribute (.Name x p) "insert" apos) [e2, e] [] cpos) none pos.line X.env = pure false := by rfl)
    (hbase : attributeBase (.Name x p) "insert" X.env (eval (.Name x p) X.env) = eval (.Name x p) X.env := by rfl)
    (hfew : ((backTo cpos (starEach [e2, e] X.env)).all (fun x => !x.1) && (backToKw cpos (keywordEach [] X.env)).all (fun x => x.1.isSome)
      && decide (([e2, e] : List Expr).length + ([] : List Keyword).length + (if ([] : List Keyword).isEmpty then 0 else 1) < 30)) = true := by rfl)
    (hline : (apos.endLine == cpos.line) = true := by rfl) (hs : starEach [e2, e] X.env = (false, eval e2 X.env) :: starEach [e] X.env := by rfl) (hplain : (backTo cpos (starEach [e] X.env)).any (·.1) = false := by rfl) (hs2 : starEach [e] X.env = (false, eval e X.env) :: starEach [] X.env := by rfl) :
    PS X (.Expr (.Call (.Attribute (.Name x p) "insert" apos) [e2, e] [] cpos) pos) (sOf X.K X.mg E (dIns i wk we)) :=
  PS.of (ps_expr (pe_bm PySem.F.plainAttrs_list PySem.F.slot_list_insert PySem.F.type_list_insert mt_insert (pe_var hN hv hd hcd) (pa_cons hk (pa_cons he pa_nil hs2) hs) hbase hfew hline hs hplain) hsw) fun D σ H ⟨b, F, G0, H0, ρ, C, ⟨ds, et, hl, q⟩, g0, a, eo⟩ => by
  obtain ⟨G, e1, s, hr⟩ := a.site g0 eo
  obtain ⟨q0, vs0, ev, hq0, _, bq, _⟩ := env_node (K := X.K) hr.env et
  refine ⟨_, ev, .inl ⟨rfl, _, .inl (.inl hq0)⟩, b, H0, G, ρ, C.xc ρ, _, q, hr, fun G1 H1 v1 t1 f1 ht1 s1 tr1 fr1 => ?_⟩
  unfold asI at ht1
  split at ht1
  · rename_i k
    obtain ⟨⟨k0, k1⟩, ht1⟩ := ht1
    cases tr1 with
    | leaf r1 =>
      cases r1
      have hr1 := hr.stp s1
      refine tOfD_of ⟨b, H0, G1, ρ, C.xc ρ, fun d => C.nx (ρ.set i (some (.node ((ds.take k.toNat ++ [d] ++ ds.drop k.toNat).map .leaf)))), ht1, hr1, fun G2 H2 v d hd2 s2 hr2 rd => ?_⟩
      have s12 := s1.trans hr.good s2
      obtain ⟨fp, v2, ev2, tr, hB, EX⟩ := hr2.env.take et
      rw [ev] at ev2
      cases ev2
      cases tr with
      | node hp gp bp rr np =>
        rename_i fq vs
        have ra := rr.toRp
        have rn := (((ra.take k.toNat).append (.cons rd .nil)).append (ra.drop k.toNat))
        refine ⟨q0, vs, k, v, rfl, rfl, hp, by rw [ra.len]; exact lim_lt hl, k0, by omega, eo.nx _ _ _ hd2 ?_⟩
        refine At.mut (fp' := [q0]) g0 (e1.trans s12.ex) (s.trans g0 s12) EX ev (List.mem_cons_self ..) hB gp bp (.node upd_same gp bp (TrAll.leaves rn) (fun z => nomatch z)) fun a m => ?_
        rw [List.mem_singleton.mp m]
        exact ⟨hB _ (List.mem_cons_self ..), .inl (List.mem_cons_self ..)⟩
  · exact ht1.elim
end
/-! ### own lists lent for a fresh tree of flat leaves -/
mutual
def flT : T → Bool
  | .leaf d => flatD d
  | .node ts => flTs ts
  | .dic _ ts => flTs ts
  | .own _ _ | .ins _ _ _ | .diT _ _ | .sto _ | .fro _ | .eff _ _ => false
def flTs : List T → Bool
  | [] => true
  | t :: ts => flT t && flTs ts
end
mutual
theorem Tr.fl {b : Option Addr} {G G' H : Hp} : ∀ {fp : List Addr} {v : V} {t : T}, Tr b G H fp v t → flT t = true → (∀ a, a ∈ fp → G' a = none) → Tr b G' H fp v t
  | _, _, _, .leaf r, f, _ => .leaf (pyV_rp r (by simpa [flT] using f) G')
  | _, _, _, .node hp gp bp r n, f, k => .node hp (k _ (List.mem_cons_self ..)) bp (TrAll.fl r (by simpa [flT] using f) fun a m => k a (List.mem_cons_of_mem _ m)) n
  | _, _, _, .dic hp gp bp hk r n, f, k => .dic hp (k _ (List.mem_cons_self ..)) bp hk (TrAll.fl r (by simpa [flT] using f) fun a m => k a (List.mem_cons_of_mem _ m)) n
  | _, _, _, .own _, f, _ => by simp [flT] at f
  | _, _, _, .ins _ _ _ _ _ _ _ _ _ _ _, f, _ => by simp [flT] at f
  | _, _, _, .diT _ _ _ _ _ _, f, _ => by simp [flT] at f
  | _, _, _, .sto _ _ _ _ _, f, _ => by simp [flT] at f
  | _, _, _, .fro _, f, _ => by simp [flT] at f
  | _, _, _, .eff _ _ _, f, _ => by simp [flT] at f
theorem TrAll.fl {b : Option Addr} {G G' H : Hp} : ∀ {fp : List Addr} {vs : List V} {ts : List T}, TrAll b G H fp vs ts → flTs ts = true → (∀ a, a ∈ fp → G' a = none) → TrAll b G' H fp vs ts
  | _, _, _, .nil, _, _ => .nil
  | _, _, _, .cons q r d, f, k => by
    rw [flTs, Bool.and_eq_true] at f
    exact .cons (Tr.fl q f.1 fun a m => k a (List.mem_append_left _ m)) (TrAll.fl r f.2 fun a m => k a (List.mem_append_right _ m)) d
end
def dBorF (w : WE) : WE := fun _ ρ P => w noX (frzR ρ) fun t => flT t = true ∧ P t
theorem d_borF {X : Cx} {E : SX} {e : Expr} {w : WE} (h : PE X e (tOf X.K X.mg E w)) : PE X e (tOf X.K X.mg E (dBorF w)) := PE.of h fun σ H Q ⟨b, B, G, ρ, xp, P, p, hr, k⟩ => by
  obtain ⟨G1, ex, h1⟩ := hr.toHere.borrow
  refine ⟨b, B, G1, frzR ρ, noX, _, p, ⟨h1, noXC⟩, fun G' H' v t fp hp s tr fr => ?_⟩
  have st := Stp.back hr.good ex s
  refine k G H' v t fp hp.2 st (tr.fl hp.1 fun a m => ?_) fr
  cases q : G a with
  | none => rfl
  | some o =>
    have := hr.good.ex a o q
    rw [fr a m] at this
    cases this
theorem flTs_ints : ∀ ns : List Int, flTs (ns.map fun i => T.leaf (.int i)) = true
  | [] => rfl
  | n :: ns => by
    show (flT _ && flTs _) = true
    rw [flTs_ints ns]
    rfl
theorem flT_I (ns : List Int) : flT (nodeI ns) = true := flTs_ints ns
theorem flTs_rows : ∀ rows : List (List Int), flTs (rows.map nodeI) = true
  | [] => rfl
  | r :: rows => by
    show (flT _ && flTs _) = true
    rw [flTs_rows rows, flT_I]
    rfl
theorem flT_T (rows : List (List Int)) : flT (nodeT rows) = true := flTs_rows rows
end Dd
/-! x in a list; an own list's settled item; xs[::-1]. -/
namespace Dd
open PySem L2
theorem room65 {k : Nat} {A : Around} (r : Room k A) : A.units + 65 < cLine := by have := r.un; omega
def rdIn : R2D := fun d e P => match e with
  | .list ds => SeqAt.shaped d = true ∧ SeqAt.shaped (.list ds) = true ∧ P (boo (inD d ds))
  | _ => False
def rdNotIn : R2D := fun d e P => match e with
  | .list ds => SeqAt.shaped d = true ∧ SeqAt.shaped (.list ds) = true ∧ P (boo (!inD d ds))
  | _ => False
theorem e_in {d : PyData} {ds : List PyData} {P : T → Prop} : rdIn d (.list ds) P = (SeqAt.shaped d = true ∧ SeqAt.shaped (.list ds) = true ∧ P (boo (inD d ds))) := rfl
theorem e_notIn {d : PyData} {ds : List PyData} {P : T → Prop} : rdNotIn d (.list ds) P = (SeqAt.shaped d = true ∧ SeqAt.shaped (.list ds) = true ∧ P (boo (!inD d ds))) := rfl
theorem asL_I {P : List PyData → Prop} {ns : List Int} : asL P (nodeI ns) = P (intsD ns) := by
  unfold asL
  rw [nodeI_dat]
theorem asL_T {P : List PyData → Prop} {rows : List (List Int)} : asL P (nodeT rows) = P (tabD rows) := by
  unfold asL
  rw [nodeT_dat]
theorem ok_in {K : PySem.W.Frag} : RdOk K (rInD K) rdIn := fun b G H x y d e P Q g rx ry h k => by
  unfold rdIn at h
  split at h
  · obtain ⟨s1, s2, p⟩ := h
    exact ⟨_, _, rp_dp g.ex rx (shaped_lay s1), rp_dp g.ex ry (shaped_lay s2), s1, s2, k G H _ _ [] p g.stp (.leaf (.bl _)) fun _ z => nomatch z⟩
  · exact h.elim
theorem ok_notIn {K : PySem.W.Frag} : RdOk K (rNotInD K) rdNotIn := fun b G H x y d e P Q g rx ry h k => by
  unfold rdNotIn at h
  split at h
  · obtain ⟨s1, s2, p⟩ := h
    exact ⟨_, _, rp_dp g.ex rx (shaped_lay s1), rp_dp g.ex ry (shaped_lay s2), s1, s2, k G H _ _ [] p g.stp (.leaf (.bl _)) fun _ z => nomatch z⟩
  · exact h.elim
section
variable {X : Cx} {E : SX} {e e2 : Expr} {w wa wb we wk : WE} {pos p p1 p2 p3 : Pos}
theorem d_inL (hu : X.A.units + 65 < cLine) (ha : PE X e (tOf X.K X.mg E wa)) (hb : PE X e2 (tOf X.K X.mg E wb)) (hm : behindInMarks .In e2 = false := by rfl) : PE X (.Compare e [.In] [e2] pos) (tOf X.K X.mg E (dOp rdIn wa wb)) := d_cmp (op_inD hu) ok_in ha hb hm
theorem d_notInL (hu : X.A.units + 65 < cLine) (ha : PE X e (tOf X.K X.mg E wa)) (hb : PE X e2 (tOf X.K X.mg E wb)) (hm : behindInMarks .NotIn e2 = false := by rfl) : PE X (.Compare e [.NotIn] [e2] pos) (tOf X.K X.mg E (dOp rdNotIn wa wb)) := d_cmp (op_notInD hu) ok_notIn ha hb hm
theorem t_inL (hu : X.A.units + 65 < cLine) (ha : PE X e (tOf X.K X.mg E wa)) (hb : PE X e2 (tOf X.K X.mg E wb)) (hm : behindInMarks .In e2 = false := by rfl) : PT X (.Compare e [.In] [e2] pos) (ttOf X.K X.mg E (dTst (dOp rdIn wa wb))) := t_cmp (op_inD hu) ok_in ha hb hm
theorem t_notInL (hu : X.A.units + 65 < cLine) (ha : PE X e (tOf X.K X.mg E wa)) (hb : PE X e2 (tOf X.K X.mg E wb)) (hm : behindInMarks .NotIn e2 = false := by rfl) : PT X (.Compare e [.NotIn] [e2] pos) (ttOf X.K X.mg E (dTst (dOp rdNotIn wa wb))) := t_cmp (op_notInD hu) ok_notIn ha hb hm
/-- x[k], x an own list, the item settled -/
def dOix (i : Nat) (wk : WE) : WE := fun x ρ P => ∃ ts, ρ[i]? = some (some (.node ts)) ∧ wk x ρ (asI fun k => ∃ n d, ixN ts.length k = some n ∧ ts[n]? = some (.leaf d) ∧ P (.leaf d))
theorem d_oix (i : Nat) {x : Str} (hk : PE X e2 (tOf X.K X.mg E wk)) (hN : X.N[i]? = some x := by rfl) (hv : Vis X.env.scope x := by first | exact Or.inl rfl | exact Or.inr (Or.inl rfl) | exact Or.inr (Or.inr rfl)) (hd : (x == ("__debug__" : Str)) = false := by decide) (hcd : (x == ("__classdict__" : Str)) = false := by decide) (hs : PlainIx e2 := by exact fun _ _ => rfl) :
    PE X (.Subscript (.Name x p) e2 pos) (tOf X.K X.mg E (dOix i wk)) := PE.of (pe_ix ix_list (pe_var hN hv hd hcd) hk hs) fun σ H Q ⟨b, B, G, ρ, xp, P, ⟨ts, et, q⟩, hr, k⟩ => by
  obtain ⟨q0, vs0, ev, hq0, hl0, bq, _⟩ := env_node (K := X.K) hr.env et
  refine ⟨_, ev, b, B, G, ρ, xp, _, q, hr, fun G1 H1 v1 t1 f1 ht1 s1 tr1 fr1 => ?_⟩
  unfold asI at ht1
  split at ht1
  · obtain ⟨n, d, hn, en, hp⟩ := ht1
    cases tr1 with
    | leaf r1 =>
      cases r1
      have hr1 := hr.stp s1
      obtain ⟨q1, vs1, ev1, hq1, hl1, bq1, at1⟩ := env_node (K := X.K) hr1.env et
      rw [ev] at ev1
      cases ev1
      obtain ⟨u, hu, ru⟩ := at1 _ _ en
      refine ⟨q0, vs1, _, u, rfl, rfl, .inl (.inl hq1), ?_, (k.stp hr.good s1).leaf s1.good hp ru⟩
      unfold L2.atI
      rw [hl1, hn]
      exact hu
  · exact ht1.elim
/-- xs[::-1] -/
theorem RpAll.rev {b : Option Addr} {G : Hp} : ∀ {vs : List V} {ds : List PyData}, RpAll b G vs ds → RpAll b G vs.reverse ds.reverse
  | _, _, .nil => .nil
  | _, _, .cons h r => by
    rw [List.reverse_cons, List.reverse_cons]
    exact (RpAll.rev r).append (.cons h .nil)
def dRev (w : WE) : WE := fun x ρ P => w x ρ (asL fun ds => P (.node (ds.reverse.map .leaf)))
theorem d_rev {kk : Nat} {q1 q2 q3 : Pos} (he : PE X e (tOf X.K X.mg E w)) : PE X (.Subscript e (.Slice none none (some (.UnaryOp .USub (.Constant (.int 1) kk q1) q2)) q3) pos) (tOf X.K X.mg E (dRev w)) := PE.of (pe_revL he) fun σ H Q ⟨b, B, G, ρ, xp, P, p, hr, k⟩ => tOfD_of ⟨b, B, G, ρ, xp, fun d => match d with
  | .list ds => P (.node (ds.reverse.map .leaf))
  | _ => False, p, hr, fun G1 H1 v d hp s hr1 r => by
    try dsimp only at hp
    split at hp
    · cases r with
      | lst h1 r1 => exact ⟨_, _, rfl, .inl (.inl (hr1.good.ex _ _ h1)), fun a ha => new_lst hr1.good r1.rev hp (k.stp hr.good s) ha⟩
    · exact hp.elim⟩
end
end Dd
/-! Ties, faults of tables, the star. -/
namespace Dd
open PySem L2
def tieD (p : Nat × Nat) : PyData := .tuple [.int p.1, .int p.2]
def tiesD (ts : List (Nat × Nat)) : List PyData := ts.map tieD
abbrev Ties := Option (List (Nat × Nat))
def tiesO : Ties → PyData
  | none => .none
  | some ts => .list (tiesD ts)
def tiesT : Ties → T
  | none => non
  | some ts => .node ((tiesD ts).map .leaf)
theorem tiesT_dat (o : Ties) : (tiesT o).dat = tiesO o := by
  cases o with
  | none => rfl
  | some ts => exact dat_leaves0 _
def tieB : Ties → Nat → Nat → Bool
  | none, i, j => decide (i ≠ j)
  | some ts, i, j => decide ((i, j) ∈ ts) || decide ((j, i) ∈ ts)
theorem tieB_sym (o : Ties) (i j : Nat) : tieB o i j = tieB o j i := by
  cases o with
  | none => exact decide_eq_decide.mpr ⟨Ne.symm, Ne.symm⟩
  | some ts => exact Bool.or_comm ..
/-- ties of n members -/
def TiesOk (n : Nat) : Ties → Prop
  | none => True
  | some ts => ts.length < 1000 ∧ ∀ p ∈ ts, p.1 < n ∧ p.2 < n ∧ p.1 ≠ p.2
theorem tieB_self {n : Nat} {o : Ties} (h : TiesOk n o) (i : Nat) : tieB o i i = false := by
  cases o with
  | none => simp [tieB]
  | some ts =>
    have : (i, i) ∉ ts := fun m => (h.2 _ m).2.2 rfl
    simp [tieB, this]
theorem tieD_eqv (p q : Nat × Nat) : PyData.eqv (tieD p) (tieD q) = decide (p = q) := by
  obtain ⟨a, b⟩ := p
  obtain ⟨c, d⟩ := q
  by_cases h : a = c ∧ b = d
  · obtain ⟨rfl, rfl⟩ := h
    rw [decide_eq_true rfl]
    simp [tieD, PyData.eqv, PyData.eqvAll]
  · rw [decide_eq_false fun e => h (by cases e; exact ⟨rfl, rfl⟩)]
    simp only [tieD, PyData.eqv, PyData.eqvAll, Bool.and_true, Bool.and_eq_false_iff, beq_eq_false_iff_ne, ne_eq, decide_eq_false_iff_not]
    omega
theorem inD_tie (p : Nat × Nat) : ∀ ts : List (Nat × Nat), inD (tieD p) (tiesD ts) = decide (p ∈ ts)
  | [] => by simp [inD, tiesD]
  | q :: ts => by
    show (PyData.eqv (tieD q) (tieD p) || inD (tieD p) (tiesD ts)) = _
    rw [inD_tie p ts, tieD_eqv]
    by_cases h : q = p
    · simp [h]
    · have h' : ¬ p = q := fun e => h e.symm
      simp [h, h']
theorem sm_tie {n : Nat} {p : Nat × Nat} : Sm (n + 1) (tieD p) := ⟨by show 2 < 1000; decide, fun x hx => by
  rcases List.mem_cons.mp hx with z | z
  · subst z; exact sm_int
  · rw [List.mem_singleton.mp z]; exact sm_int⟩
theorem sm_ties {n : Nat} {ts : List (Nat × Nat)} (h : ts.length < 1000) : Sm (n + 2) (.list (tiesD ts)) := ⟨by unfold tiesD; rw [List.length_map]; exact h, fun x hx => by
  obtain ⟨p, _, rfl⟩ := List.mem_map.mp hx
  exact sm_tie⟩
theorem e_eqS {n : Nat} {d : PyData} {P : T → Prop} (h : Sm n d) (hn : n ≤ 64) (q : P (boo true)) : rdEq d d P := by
  have h1 := h.shaped hn
  have h2 := h.eqv hn
  cases d with
  | int i => show P (boo (decide (i = i))); rw [decide_eq_true rfl]; exact q
  | str i => show P (boo (decide (i = i))); rw [decide_eq_true rfl]; exact q
  | bool i => show P (boo (decide (i = i))); rw [decide_eq_true rfl]; exact q
  | _ => exact ⟨h1, h1, by rw [h2]; exact q⟩
theorem e_neS {n : Nat} {d : PyData} {P : T → Prop} (h : Sm n d) (hn : n ≤ 64) (q : P (boo false)) : rdNe d d P := by
  have h1 := h.shaped hn
  have h2 := h.eqv hn
  cases d with
  | int i => show P (boo (decide (i ≠ i))); rw [decide_eq_false fun z => z rfl]; exact q
  | str i => show P (boo (decide (i ≠ i))); rw [decide_eq_false fun z => z rfl]; exact q
  | bool i => show P (boo (decide (i ≠ i))); rw [decide_eq_false fun z => z rfl]; exact q
  | _ => exact ⟨h1, h1, by rw [h2]; exact q⟩
theorem sm_tiesO {m n : Nat} {o : Ties} (h : TiesOk m o) : Sm (n + 2) (tiesO o) := by
  cases o with
  | none => exact sm_none
  | some ts => exact sm_ties h.1
/-! the first one found -/
def firstN {α : Type} (f : Nat → Option α) : Nat → Option α
  | 0 => none
  | n + 1 => (firstN f n).or (f n)
theorem firstN_none {α : Type} {f : Nat → Option α} : ∀ {n : Nat}, firstN f n = none ↔ ∀ i, i < n → f i = none
  | 0 => ⟨fun _ i h => absurd h (Nat.not_lt_zero _), fun _ => rfl⟩
  | n + 1 => by
    show (firstN f n).or (f n) = none ↔ _
    rw [Option.or_eq_none_iff, firstN_none]
    refine ⟨fun ⟨h1, h2⟩ i hi => ?_, fun h => ⟨fun i hi => h i (by omega), h n (by omega)⟩⟩
    by_cases c : i = n
    · rw [c]; exact h2
    · exact h1 i (by omega)
theorem firstN_some {α : Type} {f : Nat → Option α} {i : Nat} {d : α} (h0 : firstN f i = none) (h1 : f i = some d) : ∀ {n : Nat}, i < n → firstN f n = some d
  | 0, h => absurd h (Nat.not_lt_zero _)
  | n + 1, h => by
    show (firstN f n).or (f n) = some d
    by_cases c : i = n
    · subst c
      rw [h0, h1]
      rfl
    · rw [firstN_some h0 h1 (show i < n by omega)]
      rfl
theorem firstN_step {α : Type} {f : Nat → Option α} {i : Nat} (h0 : firstN f i = none) (h1 : f i = none) : firstN f (i + 1) = none := by
  show (firstN f i).or (f i) = none
  rw [h0, h1]
  rfl
def fltD (w : Str) (i j : Int) : PyData := .tuple [.str w, .int i, .int j]
def fltAt (o : Ties) (rows : List (List Int)) (i j : Nat) : Option PyData :=
  if at2 rows i j < 0 then some (fltD "low" i j)
  else if i = j ∧ at2 rows i j ≠ 0 then some (fltD "self" i i)
  else if at2 rows i j > 0 ∧ tieB o i j = false then some (fltD "lone" i j)
  else if at2 rows i j ≠ at2 rows j i then some (fltD "odd" i j)
  else none
def fltRow (xs : List Int) (o : Ties) (rows : List (List Int)) (n i : Nat) : Option PyData :=
  (firstN (fltAt o rows i) n).or (if (rows.getD i []).sum > 2 * xs.getD i 0 then some (fltD "over" i (-1)) else none)
def flt (xs : List Int) (o : Ties) (rows : List (List Int)) (n : Nat) : Option PyData := firstN (fltRow xs o rows n) n
def optD : Option PyData → PyData
  | none => .none
  | some d => d
theorem fltAt_none {o : Ties} {rows : List (List Int)} {i j : Nat} : fltAt o rows i j = none ↔ 0 ≤ at2 rows i j ∧ (i = j → at2 rows i j = 0) ∧ (0 < at2 rows i j → tieB o i j = true) ∧ at2 rows i j = at2 rows j i := by
  unfold fltAt
  by_cases h1 : at2 rows i j < 0
  · rw [if_pos h1]
    exact ⟨fun h => (by cases h), fun h => by omega⟩
  · rw [if_neg h1]
    by_cases h2 : i = j ∧ at2 rows i j ≠ 0
    · rw [if_pos h2]
      exact ⟨fun h => (by cases h), fun h => absurd (h.2.1 h2.1) h2.2⟩
    · rw [if_neg h2]
      by_cases h3 : at2 rows i j > 0 ∧ tieB o i j = false
      · rw [if_pos h3]
        exact ⟨fun h => (by cases h), fun h => by rw [h.2.2.1 h3.1] at h3; exact absurd h3.2 (by decide)⟩
      · rw [if_neg h3]
        by_cases h4 : at2 rows i j ≠ at2 rows j i
        · rw [if_pos h4]
          exact ⟨fun h => (by cases h), fun h => absurd h.2.2.2 h4⟩
        · rw [if_neg h4]
          refine ⟨fun _ => ⟨by omega, fun e => ?_, fun hp => ?_, ?_⟩, fun _ => rfl⟩
          · exact Decidable.byContradiction fun z => h2 ⟨e, z⟩
          · cases q : tieB o i j with
            | true => rfl
            | false => exact absurd ⟨hp, q⟩ h3
          · exact Decidable.byContradiction fun z => h4 z
structure NoFlt (xs : List Int) (o : Ties) (rows : List (List Int)) (n : Nat) : Prop where
  nn : ∀ i j, i < n → j < n → 0 ≤ at2 rows i j
  self : ∀ i, i < n → at2 rows i i = 0
  tie : ∀ i j, i < n → j < n → 0 < at2 rows i j → tieB o i j = true
  sym : ∀ i j, i < n → j < n → at2 rows i j = at2 rows j i
  sum : ∀ i, i < n → (rows.getD i []).sum ≤ 2 * xs.getD i 0
theorem flt_none {xs : List Int} {o : Ties} {rows : List (List Int)} {n : Nat} : flt xs o rows n = none ↔ NoFlt xs o rows n := by
  unfold flt
  rw [firstN_none]
  have key : ∀ i, fltRow xs o rows n i = none ↔ (∀ j, j < n → fltAt o rows i j = none) ∧ (rows.getD i []).sum ≤ 2 * xs.getD i 0 := fun i => by
    unfold fltRow
    rw [Option.or_eq_none_iff, firstN_none]
    refine and_congr_right fun _ => ?_
    by_cases c : (rows.getD i []).sum > 2 * xs.getD i 0
    · rw [if_pos c]
      exact ⟨fun h => (by cases h), fun h => by omega⟩
    · rw [if_neg c]
      exact ⟨fun _ => by omega, fun _ => rfl⟩
  refine ⟨fun h => ?_, fun h i hi => (key i).mpr ⟨fun j hj => fltAt_none.mpr ⟨h.nn i j hi hj, fun e => by subst e; exact h.self i hi, h.tie i j hi hj, h.sym i j hi hj⟩, h.sum i hi⟩⟩
  have q := fun i hi => (key i).mp (h i hi)
  have r := fun i j hi hj => fltAt_none.mp ((q i hi).1 j hj)
  exact ⟨fun i j hi hj => (r i j hi hj).1, fun i hi => (r i i hi hi).2.1 rfl, fun i j hi hj => (r i j hi hj).2.2.1, fun i j hi hj => (r i j hi hj).2.2.2, fun i hi => (q i hi).2⟩
/-! covers -/
def CovOk (n : Nat) (o : Ties) (cs : List Int) : Prop := ∀ i j, i < n → j < n → tieB o i j = true → 2 ≤ cs.getD i 0 + cs.getD j 0
theorem cov_half {n : Nat} {o : Ties} {cs : List Int} (ho : TiesOk n o) (h : ∀ i j, i < n → j < i → tieB o i j = true → 2 ≤ cs.getD i 0 + cs.getD j 0) : CovOk n o cs := fun i j hi hj ht => by
  rcases Nat.lt_trichotomy i j with c | c | c
  · rw [tieB_sym] at ht
    have := h j i hj c ht
    omega
  · subst c
    rw [tieB_self ho] at ht
    cases ht
  · exact h i j hi c ht
theorem bool_iff {a b : Bool} {p : Prop} (h : a = true ↔ p) (k : b = true ↔ p) : a = b := by
  cases a with
  | true => exact (k.mpr (h.mp rfl)).symm
  | false =>
    cases b with
    | false => rfl
    | true => exact h.mpr (k.mp rfl)
def wsum (n : Nat) (xs cs : List Int) : Int := sumN (fun i => xs.getD i 0 * cs.getD i 0) n
/-! who is near -/
def natI (ns : List Nat) : List Int := ns.map fun (i : Nat) => (i : Int)
theorem natI_len (ns : List Nat) : (natI ns).length = ns.length := List.length_map _
theorem lc_nats {wi : WI} {wg : WG} {we : WE} {x : XP} {ρ : Rho} {vs : List Nat} {P : T → Prop} (ns : List Nat) (f : Nat → T) (hi : ∀ P : List PyData → Prop, P (intsD (natI ns)) → wi x ρ P) (hl : ns.length < lim)
    (he : ∀ (a : Nat) (Q : T → Prop) (R : Prop), a ∈ ns → Q (f a) → wg (.int (a : Nat)) (wipeR ρ vs) fun ρ2 => (true = true → we noX ρ2 Q) ∧ (true = false → R)) (h : P (.node (ns.map f))) : dLc wi wg dYes we vs x ρ P := by
  refine lc_ints (natI ns) (fun i => f i.toNat) hi (by rw [natI_len]; exact hl) (fun a Q R ha hQ => ?_) ?_
  · obtain ⟨k, hk, rfl⟩ := List.mem_map.mp ha
    rw [Int.toNat_natCast] at hQ
    exact he k Q R hk hQ
  · rw [show (natI ns).map (fun i => f i.toNat) = ns.map f by unfold natI; rw [List.map_map]; exact List.map_congr_left fun a _ => by show f ((a : Int)).toNat = f a; rw [Int.toNat_natCast]]
    exact h
theorem node_bools {α : Type} (l : List α) (g : α → Bool) : (T.node (l.map fun b => boo (g b))).dat = .list ((l.map g).map .bool) := by
  rw [dat_eq, List.map_map, List.map_map]
  rfl
theorem any_map {α : Type} (l : List α) (g : α → Bool) : (l.map g).any id = l.any g := by
  rw [List.any_map]
  rfl
def nearL (o : Ties) (n : Nat) (ss : List Nat) : List Nat := (List.range n).filter fun a => ss.any fun b => tieB o a b
theorem nearL_len (o : Ties) (n : Nat) (ss : List Nat) : (nearL o n ss).length ≤ n := by
  have := List.length_filter_le (fun a => ss.any fun b => tieB o a b) (List.range n)
  rw [List.length_range] at this
  exact this
theorem nearL_lt {o : Ties} {n : Nat} {ss : List Nat} {a : Nat} (h : a ∈ nearL o n ss) : a < n := List.mem_range.mp (List.mem_filter.mp h).1
def wOf (xs : List Int) (l : List Nat) : Int := (l.map fun a => xs.getD a 0).sum
/-! the star -/
def stA (xs : List Int) (h i j : Nat) : Int := if i = h ∧ j ≠ h then 2 * xs.getD j 0 else if j = h ∧ i ≠ h then 2 * xs.getD i 0 else 0
def stT (xs : List Int) (h : Nat) : List (List Int) := (List.range xs.length).map fun i => (List.range xs.length).map (stA xs h i)
theorem stT_len (xs : List Int) (h : Nat) : (stT xs h).length = xs.length := by simp [stT]
theorem stT_row (xs : List Int) (h : Nat) : ∀ r ∈ stT xs h, r.length = xs.length := fun r hr => by
  obtain ⟨i, _, rfl⟩ := List.mem_map.mp hr
  simp
theorem stT_at {xs : List Int} {h i j : Nat} (hi : i < xs.length) (hj : j < xs.length) : at2 (stT xs h) i j = stA xs h i j := by
  show ((stT xs h).getD i []).getD j 0 = _
  unfold stT
  rw [range_getD _ _ hi, range_getD _ _ hj]
theorem st_sum {xs : List Int} {h i : Nat} (hh : h < xs.length) (hi : i < xs.length) : ((stT xs h).getD i []).sum = if i = h then 2 * (xs.sum - xs.getD h 0) else 2 * xs.getD i 0 := by
  unfold stT
  rw [range_getD _ _ hi, sum_range]
  by_cases c : i = h
  · subst c
    rw [if_pos rfl]
    have e : sumN (stA xs i i) xs.length = sumN (fun k => if k = i then 0 else 2 * xs.getD k 0) xs.length := sumN_congr fun j _ => by
      unfold stA
      by_cases d : j = i
      · rw [if_neg (fun z => z.2 d), if_neg (fun z => z.2 rfl), if_pos d]
      · rw [if_pos ⟨rfl, d⟩, if_neg d]
    have e2 := sumN_but (c := fun k => 2 * xs.getD k 0) hi
    have e3 : sumN (fun k => 2 * xs.getD k 0) xs.length = 2 * xs.sum := by rw [sumN_mul, ← sum_getD]
    rw [e]
    omega
  · rw [if_neg c]
    have e := sumN_one (c := stA xs h i) (d := h) hh fun j _ hj => by
      unfold stA
      rw [if_neg (fun z => c z.1), if_neg (fun z => hj z.1)]
    rw [e]
    unfold stA
    rw [if_neg (fun z => c z.1), if_pos ⟨rfl, c⟩]
def whT (xs : List Int) : Option Nat → List (List Int)
  | none => rgT xs
  | some h => stT xs h
theorem whT_len (xs : List Int) (o : Option Nat) : (whT xs o).length = xs.length := by cases o; exact rgT_len xs; exact stT_len xs _
theorem whT_row (xs : List Int) (o : Option Nat) : ∀ r ∈ whT xs o, r.length = xs.length := by cases o; exact rgT_row xs; exact stT_row xs _
theorem rgT_sum {xs : List Int} (h0 : ∀ x ∈ xs, 0 ≤ x) {i : Nat} (hi : i < xs.length) : ((rgT xs).getD i []).sum = 2 * xs.getD i 0 := by
  unfold rgT
  rw [range_getD _ _ hi, sum_range, rg_sum h0 hi]
theorem whT_flt {xs : List Int} (h0 : ∀ x ∈ xs, 0 ≤ x) {o : Option Nat} (yes : ∀ k, o = some k → k < xs.length ∧ xs.sum < 2 * xs.getD k 0) (no : o = none → ∀ k, k < xs.length → ¬ xs.sum < 2 * xs.getD k 0) : NoFlt xs none (whT xs o) xs.length := by
  cases o with
  | none =>
    refine ⟨fun i j hi hj => ?_, fun i hi => ?_, fun i j hi hj hp => ?_, fun i j hi hj => ?_, fun i hi => ?_⟩
    · show 0 ≤ at2 (rgT xs) i j
      rw [rgT_at hi hj]; exact rg_nn xs i j
    · show at2 (rgT xs) i i = 0
      rw [rgT_at hi hi, rg_self h0]
      have := no rfl i hi
      omega
    · refine decide_eq_true fun e => ?_
      subst e
      have hp : 0 < at2 (rgT xs) i i := hp
      rw [rgT_at hi hi, rg_self h0] at hp
      have := no rfl i hi
      omega
    · show at2 (rgT xs) i j = at2 (rgT xs) j i
      rw [rgT_at hi hj, rgT_at hj hi]; exact rg_sym xs i j
    · show ((rgT xs).getD i []).sum ≤ _
      rw [rgT_sum h0 hi]
      exact Int.le_refl _
  | some h =>
    obtain ⟨hh, hw⟩ := yes h rfl
    refine ⟨fun i j hi hj => ?_, fun i hi => ?_, fun i j hi hj hp => ?_, fun i j hi hj => ?_, fun i hi => ?_⟩
    · show 0 ≤ at2 (stT xs h) i j
      rw [stT_at hi hj]
      have := nn_getD h0 i
      have := nn_getD h0 j
      unfold stA
      split
      · omega
      · split <;> omega
    · show at2 (stT xs h) i i = 0
      rw [stT_at hi hi]
      unfold stA
      rw [if_neg (fun z => z.2 z.1), if_neg (fun z => z.2 z.1)]
    · refine decide_eq_true fun e => ?_
      subst e
      have hp : 0 < at2 (stT xs h) i i := hp
      rw [stT_at hi hi] at hp
      unfold stA at hp
      rw [if_neg (fun z => z.2 z.1), if_neg (fun z => z.2 z.1)] at hp
      exact absurd hp (by decide)
    · show at2 (stT xs h) i j = at2 (stT xs h) j i
      rw [stT_at hi hj, stT_at hj hi]
      unfold stA
      by_cases c1 : i = h
      · by_cases c2 : j = h
        · rw [c1, c2]
        · rw [if_pos ⟨c1, c2⟩, if_neg (fun z => c2 z.1), if_pos ⟨c1, c2⟩]
      · by_cases c2 : j = h
        · rw [if_neg (fun z => c1 z.1), if_pos ⟨c2, c1⟩, if_pos ⟨c2, c1⟩]
        · rw [if_neg (fun z => c1 z.1), if_neg (fun z => c2 z.1), if_neg (fun z => c2 z.1), if_neg (fun z => c1 z.1)]
    · show ((stT xs h).getD i []).sum ≤ _
      rw [st_sum hh hi]
      split
      · rename_i c
        rw [c]
        omega
      · exact Int.le_refl _
end Dd
/-! Tables laid within weights, covers above them. -/
namespace Dd
open PySem L2
theorem fltAt_tup {o : Ties} {rows : List (List Int)} {i j : Nat} {d : PyData} (h : fltAt o rows i j = some d) : ∃ w a b, d = fltD w a b := by
  unfold fltAt at h
  split at h
  · cases h; exact ⟨_, _, _, rfl⟩
  · split at h
    · cases h; exact ⟨_, _, _, rfl⟩
    · split at h
      · cases h; exact ⟨_, _, _, rfl⟩
      · split at h
        · cases h; exact ⟨_, _, _, rfl⟩
        · cases h
theorem sum_set : ∀ {xs : List Int} {j : Nat} {v : Int}, j < xs.length → (xs.set j v).sum = xs.sum - xs.getD j 0 + v
  | [], j, v, h => by simp at h
  | x :: xs, 0, v, h => by
    rw [List.set_cons_zero, List.sum_cons, List.sum_cons]
    show v + xs.sum = x + xs.sum - x + v
    omega
  | x :: xs, j + 1, v, h => by
    have h' : j < xs.length := by simpa using h
    rw [List.set_cons_succ, List.sum_cons, List.sum_cons, sum_set h']
    show x + (xs.sum - xs.getD j 0 + v) = x + xs.sum - xs.getD j 0 + v
    omega
def rs (rows : List (List Int)) (k : Nat) : Int := (rows.getD k []).sum
theorem rs_set2 {n : Nat} {rows : List (List Int)} (hl : rows.length = n) (hr : ∀ r ∈ rows, r.length = n) {i j : Nat} (hi : i < n) (hj : j < n) (v : Int) (k : Nat) : rs (set2 rows i j v) k = if k = i then rs rows i - at2 rows i j + v else rs rows k := by
  unfold rs set2
  have ri := getD_len hr (show i < rows.length by omega)
  by_cases c : k = i
  · subst c
    rw [if_pos rfl, List.getD_eq_getElem?_getD, List.getElem?_set_self (by omega)]
    show ((rows.getD k []).set j v).sum = _
    rw [sum_set (by omega)]
    rfl
  · rw [if_neg c, List.getD_eq_getElem?_getD, List.getElem?_set_ne (Ne.symm c), ← List.getD_eq_getElem?_getD]
theorem rs_eq {n : Nat} {rows : List (List Int)} (hl : rows.length = n) (hr : ∀ r ∈ rows, r.length = n) {k : Nat} (hk : k < n) : rs rows k = sumN (fun j => at2 rows k j) n := by
  unfold rs
  have rk := getD_len hr (show k < rows.length by omega)
  rw [sum_getD, rk]
  rfl
/-- what is being laid -/
structure LT (n : Nat) (xs : List Int) (o : Ties) (rows : List (List Int)) (left : List Int) (i j : Nat) : Prop where
  rl : rows.length = n
  rr : ∀ r ∈ rows, r.length = n
  ll : left.length = n
  ln : ∀ k, k < n → 0 ≤ left.getD k 0
  le : ∀ k, k < n → left.getD k 0 + rs rows k = 2 * xs.getD k 0
  nn : ∀ a b, a < n → b < n → 0 ≤ at2 rows a b
  self : ∀ a, a < n → at2 rows a a = 0
  tie : ∀ a b, a < n → b < n → 0 < at2 rows a b → tieB o a b = true
  sym : ∀ a b, a < n → b < n → at2 rows a b = at2 rows b a
  zer : ∀ a b, a < n → b < a → ¬ (a < i ∨ (a = i ∧ b < j)) → at2 rows a b = 0
theorem LT.next {n : Nat} {xs : List Int} {o : Ties} {rows : List (List Int)} {left : List Int} {i j : Nat} (h : LT n xs o rows left i j) : LT n xs o rows left i (j + 1) :=
  { h with zer := fun a b ha hb hv => h.zer a b ha hb fun z => hv (by omega) }
theorem LT.row {n : Nat} {xs : List Int} {o : Ties} {rows : List (List Int)} {left : List Int} {i : Nat} (h : LT n xs o rows left i i) : LT n xs o rows left (i + 1) 0 :=
  { h with zer := fun a b ha hb hv => h.zer a b ha hb fun z => hv (by omega) }
theorem LT.lay {n : Nat} {xs : List Int} {o : Ties} {rows : List (List Int)} {left : List Int} {i j : Nat} (h : LT n xs o rows left i j) (hi : i < n) (hj : j < i) (ht : tieB o i j = true) {v : Int} (v0 : 0 ≤ v) (v1 : v ≤ left.getD i 0) (v2 : v ≤ left.getD j 0) :
    LT n xs o (set2 (set2 rows i j v) j i v) ((left.set i (left.getD i 0 - v)).set j ((left.set i (left.getD i 0 - v)).getD j 0 - v)) i (j + 1) := by
  have hj' : j < n := by omega
  have l2 := set2_len rows i j v
  have r2 := set2_row h.rl h.rr hi v (j := j)
  have z1 := h.zer i j hi hj (by omega)
  have z2 : at2 rows j i = 0 := by rw [h.sym j i hj' hi]; exact z1
  have at' : ∀ a b, at2 (set2 (set2 rows i j v) j i v) a b = if a = j ∧ b = i then v else if a = i ∧ b = j then v else at2 rows a b := fun a b => by
    rw [at2_set2 (by rw [l2]; exact h.rl) r2 hj' hi, at2_set2 h.rl h.rr hi hj']
  have gl : ∀ k, ((left.set i (left.getD i 0 - v)).set j ((left.set i (left.getD i 0 - v)).getD j 0 - v)).getD k 0 = if k = j then left.getD j 0 - v else if k = i then left.getD i 0 - v else left.getD k 0 := fun k => by
    rw [getD_set (by rw [List.length_set, h.ll]; exact hj'), getD_set (by rw [h.ll]; exact hi), getD_set (by rw [h.ll]; exact hi), if_neg (show ¬ j = i by omega)]
  refine ⟨by rw [set2_len, l2]; exact h.rl, set2_row (by rw [l2]; exact h.rl) r2 hj' v, by rw [List.length_set, List.length_set]; exact h.ll, fun k hk => ?_, fun k hk => ?_, fun a b ha hb => ?_, fun a ha => ?_, fun a b ha hb hp => ?_, fun a b ha hb => ?_, fun a b ha hb hv => ?_⟩
  · rw [gl]
    have := h.ln k hk
    split
    · omega
    · split <;> omega
  · rw [gl, rs_set2 (by rw [l2]; exact h.rl) r2 hj' hi, rs_set2 h.rl h.rr hi hj', rs_set2 h.rl h.rr hi hj', at2_set2 h.rl h.rr hi hj', if_neg (show ¬ (j = i ∧ i = j) by omega), if_neg (show ¬ j = i by omega), z1, z2]
    have e1 := h.le k hk
    have e2 := h.le i hi
    have e3 := h.le j hj'
    by_cases c : k = j
    · rw [if_pos c, if_pos c, c]
      omega
    · rw [if_neg c, if_neg c]
      by_cases d : k = i
      · rw [if_pos d, if_pos d, d]
        omega
      · rw [if_neg d, if_neg d]
        exact e1
  · rw [at']
    have := h.nn a b ha hb
    split
    · exact v0
    · split
      · exact v0
      · exact this
  · rw [at', if_neg (by omega), if_neg (by omega)]
    exact h.self a ha
  · rw [at'] at hp
    by_cases c : a = j ∧ b = i
    · rw [c.1, c.2, tieB_sym]; exact ht
    · rw [if_neg c] at hp
      by_cases d : a = i ∧ b = j
      · rw [d.1, d.2]; exact ht
      · rw [if_neg d] at hp
        exact h.tie a b ha hb hp
  · rw [at', at', h.sym a b ha hb]
    by_cases c : a = j ∧ b = i
    · rw [if_pos c, if_neg (show ¬ (b = j ∧ a = i) by omega), if_pos ⟨c.2, c.1⟩]
    · rw [if_neg c]
      by_cases d : a = i ∧ b = j
      · rw [if_pos d, if_pos ⟨d.2, d.1⟩]
      · rw [if_neg d, if_neg (show ¬ (b = j ∧ a = i) by omega), if_neg (show ¬ (b = i ∧ a = j) by omega)]
  · rw [at', if_neg (by omega), if_neg (by omega)]
    exact h.zer a b ha hb (by omega)
theorem LT.noFlt {n : Nat} {xs : List Int} {o : Ties} {rows : List (List Int)} {left : List Int} {i j : Nat} (h : LT n xs o rows left i j) : NoFlt xs o rows n :=
  ⟨h.nn, h.self, h.tie, h.sym, fun k hk => by
    have := h.ln k hk
    have := h.le k hk
    unfold rs at this
    omega⟩
/-- the sum of a table -/
def tsum (rows : List (List Int)) : Int := (rows.map List.sum).sum
theorem tsum_eq {n : Nat} {rows : List (List Int)} (hl : rows.length = n) (hr : ∀ r ∈ rows, r.length = n) : tsum rows = sumN (fun i => sumN (fun j => at2 rows i j) n) n := by
  have e : rows.map List.sum = (List.range n).map fun i => rs rows i := by
    refine list_ext_getD (d := 0) (by rw [List.length_map, List.length_map, List.length_range, hl]) fun i hi => ?_
    rw [List.length_map] at hi
    rw [range_getD _ _ (by omega), List.getD_eq_getElem?_getD, List.getElem?_map, List.getElem?_eq_getElem hi]
    unfold rs
    rw [List.getD_eq_getElem?_getD, List.getElem?_eq_getElem hi]
    rfl
  unfold tsum
  rw [e, sum_range]
  exact sumN_congr fun i hi => rs_eq hl hr hi
/-- no table beats a cover -/
theorem weak_dual {n : Nat} {xs cs : List Int} {o : Ties} {rows : List (List Int)} (hl : rows.length = n) (hr : ∀ r ∈ rows, r.length = n) (nf : NoFlt xs o rows n) (c0 : ∀ k, k < n → 0 ≤ cs.getD k 0) (hc : CovOk n o cs) : tsum rows ≤ 2 * wsum n xs cs := by
  rw [tsum_eq hl hr]
  -- twice the sum, each number times its two halves
  have h1 : sumN (fun i => sumN (fun j => 2 * at2 rows i j) n) n ≤ sumN (fun i => sumN (fun j => cs.getD i 0 * at2 rows i j + cs.getD j 0 * at2 rows i j) n) n := sumN_le fun i hi => sumN_le fun j hj => by
    rw [← Int.add_mul]
    by_cases c : 0 < at2 rows i j
    · exact Int.mul_le_mul_of_nonneg_right (hc i j hi hj (nf.tie i j hi hj c)) (Int.le_of_lt c)
    · have := nf.nn i j hi hj
      rw [show at2 rows i j = 0 by omega, Int.mul_zero, Int.mul_zero]
      exact Int.le_refl 0
  have h2 : sumN (fun i => sumN (fun j => 2 * at2 rows i j) n) n = 2 * sumN (fun i => sumN (fun j => at2 rows i j) n) n := by
    rw [← sumN_mul]
    exact sumN_congr fun i _ => sumN_mul 2 _ n
  have h3 : sumN (fun i => sumN (fun j => cs.getD i 0 * at2 rows i j + cs.getD j 0 * at2 rows i j) n) n = 2 * sumN (fun i => cs.getD i 0 * sumN (fun j => at2 rows i j) n) n := by
    have e1 : sumN (fun i => sumN (fun j => cs.getD i 0 * at2 rows i j + cs.getD j 0 * at2 rows i j) n) n = sumN (fun i => sumN (fun j => cs.getD i 0 * at2 rows i j) n) n + sumN (fun i => sumN (fun j => cs.getD j 0 * at2 rows i j) n) n := by
      rw [← sumN_add]
      exact sumN_congr fun i _ => sumN_add _ _ n
    have e2 : sumN (fun i => sumN (fun j => cs.getD j 0 * at2 rows i j) n) n = sumN (fun i => sumN (fun j => cs.getD i 0 * at2 rows i j) n) n := by
      rw [sumN_swap]
      exact sumN_congr fun j hj => sumN_congr fun i hi => by rw [nf.sym i j hi hj]
    have e3 : sumN (fun i => sumN (fun j => cs.getD i 0 * at2 rows i j) n) n = sumN (fun i => cs.getD i 0 * sumN (fun j => at2 rows i j) n) n := sumN_congr fun i _ => sumN_mul _ _ n
    rw [e1, e2, e3]
    omega
  have h4 : sumN (fun i => cs.getD i 0 * sumN (fun j => at2 rows i j) n) n ≤ sumN (fun i => 2 * (xs.getD i 0 * cs.getD i 0)) n := sumN_le fun i hi => by
    have := nf.sum i hi
    rw [show (rows.getD i []).sum = rs rows i from rfl, rs_eq hl hr hi] at this
    have := Int.mul_le_mul_of_nonneg_left this (c0 i hi)
    rw [show cs.getD i 0 * (2 * xs.getD i 0) = 2 * (xs.getD i 0 * cs.getD i 0) by rw [Int.mul_left_comm, Int.mul_comm (cs.getD i 0)]] at this
    exact this
  have h5 : sumN (fun i => 2 * (xs.getD i 0 * cs.getD i 0)) n = 2 * wsum n xs cs := sumN_mul 2 _ n
  omega

/-- a planted table -/
structure Plt (n : Nat) (o : Ties) (rows : List (List Int)) : Prop where
  rl : rows.length = n
  rr : ∀ r ∈ rows, r.length = n
  nn : ∀ a b, 0 ≤ at2 rows a b ∧ at2 rows a b < 10000000000000000
  ev : ∀ a b, at2 rows a b % 2 = 0
  self : ∀ a, a < n → at2 rows a a = 0
  tie : ∀ a b, a < n → b < n → 0 < at2 rows a b → tieB o a b = true
  sym : ∀ a b, a < n → b < n → at2 rows a b = at2 rows b a
end Dd
/-! Texts. -/
namespace Dd
open PySem L2 TL
def strsD (ys : List Str) : List PyData := ys.map .str
theorem rp_strs {b : Option Addr} {G : Hp} : ∀ {ns : List Str} {vs : List V}, RpAll b G vs (strsD ns) → vs = ns.map V.str
  | [], _, .nil => rfl
  | n :: ns, _, .cons (.str _) r => by
    rw [rp_strs (ns := ns) r] <;> rfl
theorem rp_strs' {b : Option Addr} {G : Hp} : ∀ (ns : List Str), RpAll b G (ns.map V.str) (strsD ns)
  | [] => .nil
  | n :: ns => .cons (.str n) (rp_strs' ns)
/-- s[i] -/
def rdIxS : R2D := fun d e P => match d, e with
  | .str z, .int i => z.length ≤ lim ∧ ∃ c, atI z.cps.toList i = some c ∧ P (.leaf (.str ⟨#[c]⟩))
  | _, _ => False
theorem e_ixs {z : Str} {i : Int} {P : T → Prop} : rdIxS (.str z) (.int i) P = (z.length ≤ lim ∧ ∃ c, atI z.cps.toList i = some c ∧ P (.leaf (.str ⟨#[c]⟩))) := rfl
theorem ok_ixS {K : PySem.W.Frag} : RdOk K rIxS rdIxS := fun b G H x y d e P Q g rx ry h k => by
  unfold rdIxS at h
  split at h
  · obtain ⟨hl, c, hc, p⟩ := h
    cases rx
    cases ry
    exact ⟨_, _, c, rfl, rfl, lim_le hl, hc, k G H _ _ [] p g.stp (.leaf (.str _)) fun _ z => nomatch z⟩
  · exact h.elim
/-- x in a tuple of flat things -/
def inF (x : PyData) (xs : List PyData) : Bool := xs.any fun y => eqV (pyV y) (pyV x)
def rdInT : R2D := fun d e P => match e with
  | .tuple ds => flatD d = true ∧ ds.all flatD = true ∧ P (boo (inF d ds))
  | _ => False
def rdNotInT : R2D := fun d e P => match e with
  | .tuple ds => flatD d = true ∧ ds.all flatD = true ∧ P (boo (!inF d ds))
  | _ => False
theorem e_inT {d : PyData} {ds : List PyData} {P : T → Prop} : rdInT d (.tuple ds) P = (flatD d = true ∧ ds.all flatD = true ∧ P (boo (inF d ds))) := rfl
theorem e_notInT {d : PyData} {ds : List PyData} {P : T → Prop} : rdNotInT d (.tuple ds) P = (flatD d = true ∧ ds.all flatD = true ∧ P (boo (!inF d ds))) := rfl
theorem rp_pyV {b : Option Addr} {G : Hp} {v : V} {d : PyData} (r : Rp b G v d) (h : flatD d = true) : v = pyV d := by
  cases r with
  | non => rfl
  | bl k => rfl
  | int i => rfl
  | str x => rfl
  | lst _ _ => cases h
  | tup _ _ => cases h
  | box _ => cases h
  | exc _ => cases h
  | obj _ => cases h
  | ins _ _ _ _ => cases h
  | dic _ _ _ => cases h
  | diT _ _ _ => cases h
theorem rp_pyVs {b : Option Addr} {G : Hp} : ∀ {vs : List V} {ds : List PyData}, RpAll b G vs ds → ds.all flatD = true → vs = ds.map pyV
  | _, _, .nil, _ => rfl
  | _, _, .cons r rs, h => by
    rw [List.all_cons, Bool.and_eq_true] at h
    rw [rp_pyV r h.1, rp_pyVs rs h.2]
    rfl
theorem flatV_pyV {d : PyData} (h : flatD d = true) : flatV (pyV d) = true := by
  cases d <;> first | rfl | cases h
theorem flatV_all : ∀ {ds : List PyData}, ds.all flatD = true → (ds.map pyV).all flatV = true
  | [], _ => rfl
  | d :: ds, h => by
    rw [List.all_cons, Bool.and_eq_true] at h
    rw [List.map_cons, List.all_cons, flatV_pyV h.1, flatV_all h.2]
    rfl
theorem inV_eq (d : PyData) (ds : List PyData) : inV (pyV d) (ds.map pyV) = inF d ds := by
  unfold inV inF
  rw [List.any_map]
  rfl
theorem ok_inT {K : PySem.W.Frag} : RdOk K (rIn K false) rdInT := fun b G H x y d e P Q g rx ry h k => by
  unfold rdInT at h
  split at h
  · obtain ⟨f1, f2, p⟩ := h
    have ex := rp_pyV rx f1
    subst ex
    cases ry with
    | tup h1 r1 =>
      have ev := rp_pyVs r1 f2
      subst ev
      refine ⟨_, _, rfl, .inr (.inl (.inl (g.ex _ _ h1))), flatV_pyV f1, flatV_all f2, ?_⟩
      rw [inV_eq]
      exact k G H _ _ [] p g.stp (.leaf (.bl _)) fun _ z => nomatch z
  · exact h.elim
theorem ok_notInT {K : PySem.W.Frag} : RdOk K (rIn K true) rdNotInT := fun b G H x y d e P Q g rx ry h k => by
  unfold rdNotInT at h
  split at h
  · obtain ⟨f1, f2, p⟩ := h
    have ex := rp_pyV rx f1
    subst ex
    cases ry with
    | tup h1 r1 =>
      have ev := rp_pyVs r1 f2
      subst ev
      refine ⟨_, _, rfl, .inr (.inl (.inl (g.ex _ _ h1))), flatV_pyV f1, flatV_all f2, ?_⟩
      rw [inV_eq]
      exact k G H _ _ [] p g.stp (.leaf (.bl _)) fun _ z => nomatch z
  · exact h.elim
/-- a sign in a text -/
def rdInS : R2D := fun d e P => match d, e with
  | .str x, .str z => ∃ c, x = ⟨#[c]⟩ ∧ P (boo (decide (c ∈ z.cps.toList)))
  | _, _ => False
theorem e_inS {c : Nat} {z : Str} {P : T → Prop} : rdInS (.str ⟨#[c]⟩) (.str z) P = P (boo (decide (c ∈ z.cps.toList))) := propext ⟨fun ⟨c', e, p⟩ => by cases e; exact p, fun p => ⟨c, rfl, p⟩⟩
theorem ok_inS {K : PySem.W.Frag} : RdOk K (fun x y H Q => ∃ (c : Nat) (z : Str), x = .str ⟨#[c]⟩ ∧ y = .str z ∧ Q (.bl (decide (c ∈ z.cps.toList))) H) rdInS := fun b G H x y d e P Q g rx ry h k => by
  unfold rdInS at h
  split at h
  · obtain ⟨c, rfl, p⟩ := h
    cases rx
    cases ry
    exact ⟨_, _, rfl, rfl, k G H _ _ [] p g.stp (.leaf (.bl _)) fun _ z => nomatch z⟩
  · exact h.elim
section
variable {X : Cx} {E : SX} {e e2 : Expr} {w wa wb we wk : WE} {ws : WA} {pos p apos : Pos}
theorem d_ats (ha : PE X e (tOf X.K X.mg E wa)) (hb : PE X e2 (tOf X.K X.mg E wb)) (hs : PlainIx e2 := by exact fun _ _ => rfl) : PE X (.Subscript e e2 pos) (tOf X.K X.mg E (dOp rdIxS wa wb)) := d_ix ix_str ok_ixS ha hb hs
theorem d_inT (ha : PE X e (tOf X.K X.mg E wa)) (hb : PE X e2 (tOf X.K X.mg E wb)) (hm : behindInMarks .In e2 = false := by rfl) : PE X (.Compare e [.In] [e2] pos) (tOf X.K X.mg E (dOp rdInT wa wb)) := d_cmp op_in_seq ok_inT ha hb hm
theorem d_notInT (ha : PE X e (tOf X.K X.mg E wa)) (hb : PE X e2 (tOf X.K X.mg E wb)) (hm : behindInMarks .NotIn e2 = false := by rfl) : PE X (.Compare e [.NotIn] [e2] pos) (tOf X.K X.mg E (dOp rdNotInT wa wb)) := d_cmp op_notIn_seq ok_notInT ha hb hm
theorem t_inT (ha : PE X e (tOf X.K X.mg E wa)) (hb : PE X e2 (tOf X.K X.mg E wb)) (hm : behindInMarks .In e2 = false := by rfl) : PT X (.Compare e [.In] [e2] pos) (ttOf X.K X.mg E (dTst (dOp rdInT wa wb))) := t_cmp op_in_seq ok_inT ha hb hm
theorem t_notInT (ha : PE X e (tOf X.K X.mg E wa)) (hb : PE X e2 (tOf X.K X.mg E wb)) (hm : behindInMarks .NotIn e2 = false := by rfl) : PT X (.Compare e [.NotIn] [e2] pos) (ttOf X.K X.mg E (dTst (dOp rdNotInT wa wb))) := t_cmp op_notIn_seq ok_notInT ha hb hm
theorem d_inS (ha : PE X e (tOf X.K X.mg E wa)) (hb : PE X e2 (tOf X.K X.mg E wb)) (hm : behindInMarks .In e2 = false := by rfl) : PE X (.Compare e [.In] [e2] pos) (tOf X.K X.mg E (dOp rdInS wa wb)) := d_cmp op_in_sign ok_inS ha hb hm
theorem t_inS (ha : PE X e (tOf X.K X.mg E wa)) (hb : PE X e2 (tOf X.K X.mg E wb)) (hm : behindInMarks .In e2 = false := by rfl) : PT X (.Compare e [.In] [e2] pos) (ttOf X.K X.mg E (dTst (dOp rdInS wa wb))) := t_cmp op_in_sign ok_inS ha hb hm
/-- tuple(xs) -/
def cTuple : CD := fun ds P => match ds with
  | [.list xs] => P (.leaf (.tuple xs))
  | [.tuple xs] => P (.leaf (.tuple xs))
  | _ => False
theorem e_tupl {xs : List PyData} {P : T → Prop} : cTuple [.list xs] P = P (.leaf (.tuple xs)) := rfl
theorem e_tupt {xs : List PyData} {P : T → Prop} : cTuple [.tuple xs] P = P (.leaf (.tuple xs)) := rfl
theorem ok_tuple {K : PySem.W.Frag} : CdOk K (fun xs H Q => ∃ p ys, xs = [.ref p] ∧ ((SqL K H p ys ∧ ∀ l, H l = none → Q (.ref l) (upd H l (.tup ys))) ∨ (SqT K H p ys ∧ Q (.ref p) H))) cTuple := fun b G H vs ds P Q g r h k => by
  unfold cTuple at h
  split at h
  · cases r with
    | cons r1 r2 =>
      cases r2
      cases r1 with
      | lst h1 h2 => exact ⟨_, _, rfl, .inl ⟨.inl (.inl (g.ex _ _ h1)), fun a ha => new_tup g h2 h k ha⟩⟩
  · cases r with
    | cons r1 r2 =>
      cases r2
      cases r1 with
      | tup h1 h2 => exact ⟨_, _, rfl, .inr ⟨.inl (.inl (g.ex _ _ h1)), k G H _ _ [] h g.stp (.leaf (.tup h1 h2)) fun _ z => nomatch z⟩⟩
  · exact h.elim
theorem d_tuple (hm : X.mg "tuple" = none) (ha : PA X [e] (aOf X.K X.mg E ws)) (hg : Gl X "tuple" := by rfl) (he : starEach [e] X.env = (false, eval e X.env) :: starEach [] X.env := by rfl) (hpl : (backTo pos (starEach [] X.env)).any (·.1) = false := by rfl) : PE X (.Call (.Name "tuple" p) [e] [] pos) (tOf X.K X.mg E (dBlt cTuple ws)) :=
  d_ty call_tuple_of ok_tuple hg hm (by decide +kernel) ha (by decide) (by decide) he hpl
/-- sep.join(xs) -/
def asS (P : Str → Prop) (t : T) : Prop := match t with
  | .leaf (.str z) => P z
  | _ => False
theorem asS_s {P : Str → Prop} {z : Str} : asS P (.leaf (.str z)) = P z := rfl
def asX (P : List Str → Prop) (t : T) : Prop := ∃ ys : List Str, t.dat = .list (strsD ys) ∧ P ys
def dJoin (wa wb : WE) : WE := fun x ρ P => wa x ρ (asS fun a => wb x ρ (asX fun ys => (ys.map (·.length)).sum + ys.length * a.length ≤ 1000000 ∧ P (.leaf (.str (Txt.join a ys)))))
theorem d_join (ha : PE X e (tOf X.K X.mg E wa)) (hb : PE X e2 (tOf X.K X.mg E wb)) (hs : starEach [e2] X.env = [(false, eval e2 X.env)] := by rfl) (hbase : attributeBase e "join" X.env (eval e X.env) = eval e X.env := by rfl) (hline : (apos.endLine == pos.line) = true := by rfl) :
    PE X (.Call (.Attribute e "join" apos) [e2] [] pos) (tOf X.K X.mg E (dJoin wa wb)) := PE.of (pe_join ha hb hs hbase hline) fun σ H Q ⟨b, B, G, ρ, xp, P, p, hr, k⟩ => by
  refine ⟨b, B, G, ρ, xp, _, p, hr, fun G1 H1 v t fp ht s1 tr fr => ?_⟩
  unfold asS at ht
  split at ht
  · rename_i a
    cases tr with
    | leaf r =>
      cases r
      have hr1 := hr.stp s1
      refine ⟨⟨_, rfl⟩, tOfD_of ⟨b, B, G1, ρ, xp, fun d => ∃ ys : List Str, d = .list (strsD ys) ∧ (ys.map (·.length)).sum + ys.length * a.length ≤ 1000000 ∧ P (.leaf (.str (Txt.join a ys))), ht, hr1, fun G2 H2 v d hd s2 hr2 rd => ?_⟩⟩
      obtain ⟨ys, rfl, hb, hp⟩ := hd
      cases rd with
      | lst h1 r1 =>
        have e := rp_strs r1
        subst e
        exact ⟨a, _, ys, rfl, rfl, .inl (.inl (.inl (s2.good.ex _ _ h1))), Nat.le_trans hb (by decide), ((k.stp hr.good s1).stp hr1.good s2).leaf s2.good hp (.str _)⟩
  · exact ht.elim
end
theorem strs_len (ys : List Str) : (strsD ys).length = ys.length := List.length_map _
theorem asX_n {P : List Str → Prop} {ys : List Str} : asX P (.node ((strsD ys).map .leaf)) ↔ P ys := by
  unfold asX
  rw [dat_leaves0]
  refine ⟨fun ⟨zs, e, p⟩ => ?_, fun p => ⟨ys, rfl, p⟩⟩
  have e : strsD ys = strsD zs := by injection e
  have inj : ∀ {a b : List Str}, strsD a = strsD b → a = b := fun {a} => by
    induction a with
    | nil => intro b h; cases b with
      | nil => rfl
      | cons _ _ => cases h
    | cons x a ih => intro b h; cases b with
      | nil => cases h
      | cons y b =>
        injection h with h1 h2
        injection h1 with h1
        rw [h1, ih h2]
  rw [inj e]
  exact p
theorem asX_l {P : List Str → Prop} {ys : List Str} (p : P ys) : asX P (.leaf (.list (strsD ys))) := ⟨ys, rfl, p⟩
/-! ### names -/
def IsName (z : Str) : Prop := 1 ≤ z.length ∧ z.length ≤ 8 ∧ ∀ c ∈ z.cps.toList, 97 ≤ c ∧ c ≤ 122
def sgn (c : Nat) : Str := ⟨#[c]⟩
theorem join_sgn : ∀ cs : List Nat, tl (Txt.join ⟨#[]⟩ (cs.map sgn)) = cs := fun cs => by
  rw [join_eq, tl_join]
  have e : ∀ cs : List Nat, joinL [] (cs.map fun c => [c]) = cs := fun cs => by
    induction cs with
    | nil => rfl
    | cons c cs ih =>
      cases cs with
      | nil => rfl
      | cons d ds =>
        show [c] ++ ([] ++ joinL [] ((d :: ds).map fun c => [c])) = _
        rw [ih]
        rfl
  rw [show tl ⟨#[]⟩ = [] from rfl, List.map_map]
  exact e cs
theorem sum_sgn : ∀ cs : List Nat, ((cs.map sgn).map (·.length)).sum = cs.length
  | [] => rfl
  | c :: cs => by
    rw [List.map_cons, List.map_cons, List.sum_cons, sum_sgn cs, List.length_cons]
    show 1 + _ = _
    omega
theorem sm_str {n : Nat} {z : Str} (h : ∀ c ∈ z.cps.toList, c < 1114112) : Sm n (.str z) := by
  have e : PySem.PyData.strOk z = true := by
    unfold PySem.PyData.strOk
    rw [← Array.all_toList]
    exact List.all_eq_true.mpr fun c hc => decide_eq_true (h c hc)
  cases n <;> exact e
theorem sm_name {n : Nat} {z : Str} (h : IsName z) : Sm n (.str z) := sm_str fun c hc => by have := h.2.2 c hc; omega
end Dd
/-! Shares added; leaves of trees. -/
namespace Dd
open PySem L2
abbrev Sh := Int × Int
def shD (s : Sh) : PyData := .tuple [.int s.1, .int s.2]
def addS (s t : Sh) : Sh := (lowA (s.1 * t.2 + t.1 * s.2) (s.2 * t.2), lowB (s.1 * t.2 + t.1 * s.2) (s.2 * t.2))
def lowS (s : Sh) : Sh := (lowA s.1 s.2, lowB s.1 s.2)
theorem shD_add (s t : Sh) : shD (addS s t) = lowD (s.1 * t.2 + t.1 * s.2) (s.2 * t.2) := rfl
theorem shD_low (s : Sh) : shD (lowS s) = lowD s.1 s.2 := rfl
def foldS : List Sh → Sh → Sh
  | [], s => s
  | t :: ts, s => foldS ts (addS s t)
theorem foldS_snoc : ∀ (ts : List Sh) (t s : Sh), foldS (ts ++ [t]) s = addS (foldS ts s) t
  | [], t, s => rfl
  | u :: ts, t, s => foldS_snoc ts t (addS s u)
/-- a share: above from nought on, below from one on -/
def ShOk (s : Sh) : Prop := 0 ≤ s.1 ∧ 0 < s.2
theorem addS_ok {s t : Sh} (hs : ShOk s) (ht : ShOk t) : ShOk (addS s t) := by
  have h1 : 0 ≤ s.1 * t.2 + t.1 * s.2 := Int.add_nonneg (Int.mul_nonneg hs.1 (Int.le_of_lt ht.2)) (Int.mul_nonneg ht.1 (Int.le_of_lt hs.2))
  have h2 : 0 < s.2 * t.2 := Int.mul_pos hs.2 ht.2
  exact ⟨low_nn h1 h2, low_pos h2⟩
theorem foldS_ok : ∀ {ts : List Sh} {s : Sh}, (∀ t ∈ ts, ShOk t) → ShOk s → ShOk (foldS ts s)
  | [], s, _, h => h
  | t :: ts, s, ht, h => foldS_ok (ts := ts) (fun u hu => ht u (List.mem_cons_of_mem _ hu)) (addS_ok h (ht t (List.mem_cons_self ..)))
/-- lowest terms are made all the same -/
theorem low_fac {a b : Int} (hb : 0 < b) : ∃ g : Int, 0 < g ∧ a = g * lowA a b ∧ b = g * lowB a b := by
  refine ⟨(Int.gcd b a : Int), gcd_pos hb, ?_, ?_⟩
  · unfold lowA
    rw [Int.mul_ediv_cancel' (Int.gcd_dvd_right ..)]
  · unfold lowB
    rw [Int.mul_ediv_cancel' (Int.gcd_dvd_left ..)]
theorem addS_low {s t : Sh} (hs : ShOk s) (ht : ShOk t) : addS s (lowS t) = addS s t := by
  obtain ⟨g, g0, e1, e2⟩ := low_fac (a := t.1) (b := t.2) ht.2
  have hb := low_pos (a := t.1) ht.2
  have h := low_mul (a := s.1 * lowB t.1 t.2 + lowA t.1 t.2 * s.2) (b := s.2 * lowB t.1 t.2) (k := g) g0 (Int.mul_pos hs.2 hb)
  unfold addS lowS
  generalize lowA t.1 t.2 = x at *
  generalize lowB t.1 t.2 = y at *
  have k1 : g * (s.1 * y + x * s.2) = s.1 * t.2 + t.1 * s.2 := by
    rw [e1, e2, Int.mul_add, Int.mul_left_comm, Int.mul_assoc]
  have k2 : g * (s.2 * y) = s.2 * t.2 := by
    rw [e2, Int.mul_left_comm]
  rw [k1, k2] at h
  rw [h.1, h.2]
/-- bounds of a fold -/
def ShB (C B : Int) (s : Sh) : Prop := 0 ≤ s.1 ∧ 0 < s.2 ∧ s.1 ≤ C * s.2 ∧ s.2 ≤ B
theorem addS_bd {C B D M : Int} {s t : Sh} (hs : ShB C B s) (ht : ShB D M t) (hC : 0 ≤ C) (hD : 0 ≤ D) (hB : 0 ≤ B) : ShB (C + D) (B * M) (addS s t) := by
  obtain ⟨s0, s1, s2, s3⟩ := hs
  obtain ⟨t0, t1, t2, t3⟩ := ht
  have hx : 0 ≤ s.1 * t.2 + t.1 * s.2 := Int.add_nonneg (Int.mul_nonneg s0 (Int.le_of_lt t1)) (Int.mul_nonneg t0 (Int.le_of_lt s1))
  have hy : 0 < s.2 * t.2 := Int.mul_pos s1 t1
  have hxy : s.1 * t.2 + t.1 * s.2 ≤ (C + D) * (s.2 * t.2) := by
    have h1 := Int.mul_le_mul_of_nonneg_right s2 (Int.le_of_lt t1)
    have h2 := Int.mul_le_mul_of_nonneg_right t2 (Int.le_of_lt s1)
    rw [Int.add_mul, ← Int.mul_assoc]
    rw [Int.mul_assoc D t.2 s.2, Int.mul_comm t.2 s.2] at h2
    omega
  obtain ⟨g, g0, e1, e2⟩ := low_fac (a := s.1 * t.2 + t.1 * s.2) hy
  refine ⟨low_nn hx hy, low_pos hy, ?_, ?_⟩
  · show lowA _ _ ≤ (C + D) * lowB _ _
    generalize lowA (s.1 * t.2 + t.1 * s.2) (s.2 * t.2) = x at *
    generalize lowB (s.1 * t.2 + t.1 * s.2) (s.2 * t.2) = y at *
    rw [e1, e2, Int.mul_left_comm] at hxy
    exact Int.le_of_mul_le_mul_left hxy g0
  · show lowB _ _ ≤ B * M
    refine Int.le_trans (low_leB hy) (Int.mul_le_mul s3 t3 (Int.le_of_lt t1) hB)
theorem ShB.ok {C B : Int} {s : Sh} (h : ShB C B s) : ShOk s := ⟨h.1, h.2.1⟩
theorem foldS_bd {D M : Int} (hD : 0 ≤ D) (hM : 0 ≤ M) : ∀ {ts : List Sh}, (∀ t ∈ ts, ShB D M t) → ShB (ts.length * D) (M ^ ts.length) (foldS ts (0, 1)) := fun {ts} => by
  have key : ∀ (ts : List Sh) (C B : Int) (s : Sh), 0 ≤ C → 0 ≤ B → (∀ t ∈ ts, ShB D M t) → ShB C B s → ShB (C + ts.length * D) (B * M ^ ts.length) (foldS ts s) := fun ts => by
    induction ts with
    | nil =>
      intro C B s _ _ _ h
      simpa [foldS] using h
    | cons t ts ih =>
      intro C B s hC hB ht h
      have h1 := addS_bd h (ht t (List.mem_cons_self ..)) hC hD hB
      have h2 := ih (C + D) (B * M) (addS s t) (by omega) (Int.mul_nonneg hB hM) (fun u hu => ht u (List.mem_cons_of_mem _ hu)) h1
      have e1 : C + D + (ts.length : Int) * D = C + ((t :: ts).length : Int) * D := by
        rw [List.length_cons, show ((ts.length + 1 : Nat) : Int) = (ts.length : Int) + 1 from rfl, Int.add_mul]
        omega
      have e2 : B * M * M ^ ts.length = B * M ^ (t :: ts).length := by
        rw [List.length_cons, Int.pow_succ, Int.mul_assoc, Int.mul_comm M]
      rw [e1, e2] at h2
      exact h2
  intro ht
  have := key ts 0 1 (0, 1) (by decide) (by decide) ht ⟨by decide, by decide, by decide, by decide⟩
  rw [Int.zero_add, Int.one_mul] at this
  exact this
/-! leaves -/
structure Lf where
  row : List Str
  sh : Sh
  ps : List Int
def lfD (l : Lf) : PyData := .tuple [.tuple (strsD l.row), shD l.sh, .list (intsD l.ps)]
def lfsD (ls : List Lf) : List PyData := ls.map lfD
theorem lfs_len (ls : List Lf) : (lfsD ls).length = ls.length := List.length_map _
theorem lfs_get {ls : List Lf} {i : Nat} {d : PyData} (h : (lfsD ls)[i]? = some d) : ∃ l, ls[i]? = some l ∧ d = lfD l := by
  unfold lfsD at h
  rw [List.getElem?_map] at h
  cases q : ls[i]? with
  | none => rw [q] at h; cases h
  | some l => rw [q] at h; cases h; exact ⟨l, rfl, rfl⟩
/-- small enough to be reckoned with -/
def S4 (s : Sh) : Prop := ShOk s ∧ s.1.natAbs < 2 ^ 400 ∧ s.2.natAbs < 2 ^ 400
theorem sm_sh {n : Nat} {s : Sh} : Sm (n + 1) (shD s) := ⟨by show 2 < 1000; decide, fun x hx => by
  rcases List.mem_cons.mp hx with z | z
  · subst z; exact sm_int
  · rw [List.mem_singleton.mp z]; exact sm_int⟩
/-! comprehensions over what is told of things -/
section
variable {wi : WI} {wg : WG} {wt : WT} {we : WE} {x : XP} {ρ : Rho} {vs : List Nat} {P : T → Prop} {α : Type}
theorem lc_overF (enc : α → PyData) (xs : List α) (p : α → Bool) (f : α → T) (hi : ∀ P : List PyData → Prop, P (xs.map enc) → wi x ρ P) (hl : xs.length < lim)
    (he : ∀ (a : α) (Q : T → Prop) (R : Prop), a ∈ xs → (p a = true → Q (f a)) → (p a = false → R) → wg (enc a) (wipeR ρ vs) fun ρ2 => wt noX ρ2 fun k => (k = true → we noX ρ2 Q) ∧ (k = false → R)) (h : P (.node ((xs.filter p).map f))) : dLc wi wg wt we vs x ρ P := by
  refine hi _ ⟨by rw [List.length_map]; exact hl, fun i acc => acc = ((xs.take i).filter p).map f, rfl, fun i d acc e inv => ?_, fun acc inv => ?_⟩
  · rw [List.getElem?_map] at e
    cases q : xs[i]? with
    | none => rw [q] at e; cases e
    | some a =>
      rw [q] at e
      cases e
      refine he a (fun t => acc ++ [t] = ((xs.take (i + 1)).filter p).map f) (acc = ((xs.take (i + 1)).filter p).map f) (List.mem_of_getElem? q) (fun z => ?_) (fun z => ?_)
      · rw [inv, List.take_add_one, q, List.filter_append, List.map_append]
        congr 1
        show _ = List.map f (List.filter p [a])
        rw [List.filter_cons, if_pos z]
        rfl
      · rw [inv, List.take_add_one, q, List.filter_append, List.map_append]
        have e : (some a).toList.filter p = [] := by
          show [a].filter p = []
          rw [List.filter_cons, if_neg (by rw [z]; decide)]
          rfl
        rw [e, List.map_nil, List.append_nil]
  · rw [List.length_map, List.take_length] at inv
    rw [inv]
    exact h
theorem lc_over (enc : α → PyData) (xs : List α) (f : α → T) (hi : ∀ P : List PyData → Prop, P (xs.map enc) → wi x ρ P) (hl : xs.length < lim)
    (he : ∀ (a : α) (Q : T → Prop) (R : Prop), a ∈ xs → Q (f a) → wg (enc a) (wipeR ρ vs) fun ρ2 => (true = true → we noX ρ2 Q) ∧ (true = false → R)) (h : P (.node (xs.map f))) : dLc wi wg dYes we vs x ρ P :=
  lc_overF enc xs (fun _ => true) f hi hl (fun a Q R ha q _ => he a Q R ha (q rfl)) (by
    rw [List.filter_eq_self.mpr fun _ _ => rfl]
    exact h)
end
theorem node_over {α : Type} (enc : α → PyData) (xs : List α) : T.node (xs.map fun a => T.leaf (enc a)) = .node ((xs.map enc).map .leaf) := by
  rw [List.map_map]
  rfl
end Dd
/-! for x in (a, b, c): if test: return e — a, b, c names, perhaps of own lists. -/
namespace Dd
open PySem L2
section
variable {X : Cx} {E : SX} {e tst : Expr} {we : WE} {wt : WT} {fpos tpos px p1 p2 p3 ipos rpos : Pos} {kt : Nat}
def dFor3 (k1 k2 k3 j : Nat) (wt : WT) (we : WE) : WS := fun C ρ => ∃ t1 t2 t3, ρ[k1]? = some (some t1) ∧ ρ[k2]? = some (some t2) ∧ ρ[k3]? = some (some t3) ∧ j < ρ.length ∧ k1 ≠ j ∧ k2 ≠ j ∧ k3 ≠ j ∧
  (∀ t, t = t1 ∨ t = t2 ∨ t = t3 → wt noX ((frzR ρ).set j (some (.leaf t.dat))) fun c => c = true → we (C.xc (ρ.set j none)) (ρ.set j none) C.rt) ∧ C.nx (ρ.set j none)
theorem s_for3 (k1 k2 k3 j : Nat) {x a1 a2 a3 : Str} (hp : PassesOwn (model X.prog X.w) X.A X.env X.xe) (hc : X.calm = true) (hN : X.N.Nodup) (ht : PT X tst (ttOf X.K X.mg E wt)) (he : PE X e (tOf X.K X.mg E we))
    (h1 : X.N[k1]? = some a1 := by rfl) (h2 : X.N[k2]? = some a2 := by rfl) (h3 : X.N[k3]? = some a3 := by rfl) (hj : X.N[j]? = some x := by rfl)
    (hv1 : Vis X.env.scope a1 := by first | exact Or.inl rfl | exact Or.inr (Or.inl rfl) | exact Or.inr (Or.inr rfl)) (hv2 : Vis X.env.scope a2 := by first | exact Or.inl rfl | exact Or.inr (Or.inl rfl) | exact Or.inr (Or.inr rfl)) (hv3 : Vis X.env.scope a3 := by first | exact Or.inl rfl | exact Or.inr (Or.inl rfl) | exact Or.inr (Or.inr rfl))
    (hd1 : (a1 == ("__debug__" : Str)) = false := by decide) (hd2 : (a2 == ("__debug__" : Str)) = false := by decide) (hd3 : (a3 == ("__debug__" : Str)) = false := by decide) (hc1 : (a1 == ("__classdict__" : Str)) = false := by decide) (hc2 : (a2 == ("__classdict__" : Str)) = false := by decide) (hc3 : (a3 == ("__classdict__" : Str)) = false := by decide)
    (hx : Loc X.env.scope x := by first | exact Or.inl rfl | exact Or.inr rfl) (hf : X.fn x = true ∨ X.env.scope.names.lookup x = some .local := by first | exact .inl rfl | exact .inr rfl | assumption)
    (hs : starEach [.Name a1 p1, .Name a2 p2, .Name a3 p3] X.env = (false, eval (.Name a1 p1) X.env) :: starEach [.Name a2 p2, .Name a3 p3] X.env := by rfl) (hs2 : starEach [.Name a2 p2, .Name a3 p3] X.env = (false, eval (.Name a2 p2) X.env) :: starEach [.Name a3 p3] X.env := by rfl) (hs3 : starEach [.Name a3 p3] X.env = (false, eval (.Name a3 p3) X.env) :: starEach [] X.env := by rfl)
    (hfs : ∀ z, foldedSetIterable (.Tuple [.Name a1 p1, .Name a2 p2, .Name a3 p3] kt tpos) X.env z = pure z := by intro _; rfl) :
    PS X (.For (.Name x px) (.Tuple [.Name a1 p1, .Name a2 p2, .Name a3 p3] kt tpos) [.If tst [.Return (some e) rpos] [] ipos] [] fpos) (sOf X.K X.mg E (dFor3 k1 k2 k3 j wt we)) :=
  PS.of (ps_for hp hc (pi_tup (pe_tup (pa_cons (pe_var h1 hv1 hd1 hc1) (pa_cons (pe_var h2 hv2 hd2 hc2) (pa_cons (pe_var h3 hv3 hd3 hc3) pa_nil hs3) hs2) hs))) (pg_name hN hj hx hf) (pss_one (ps_if ht (s_one (s_ret he)) pss_nil)) hfs) fun D σ H ⟨b, F, G0, H0, ρ, C, ⟨t1, t2, t3, e1, e2, e3, hjl, n1, n2, n3, ht, q⟩, g0, a, eo⟩ => by
  obtain ⟨G, eG, s, E1⟩ := id a
  obtain ⟨fps, hE, _, _⟩ := E1.ex
  obtain ⟨v1, ev1, _⟩ := hE k1 t1 e1
  obtain ⟨v2, ev2, _⟩ := hE k2 t2 e2
  obtain ⟨v3, ev3, _⟩ := hE k3 t3 e3
  let R : Rho := ρ.set j none
  have Rl : R.length = ρ.length := List.length_set
  have Rk : ∀ {k : Nat} {t : T}, k ≠ j → ρ[k]? = some (some t) → R[k]? = some (some t) := fun hk h => by
    show (List.set _ _ _)[_]? = _
    rw [List.getElem?_set_ne (Ne.symm hk)]
    exact h
  have frR : ∀ d : T, (frzR R).set j (some d) = (frzR ρ).set j (some d) := fun d => by
    show ((ρ.set j none).map _).set j _ = (ρ.map _).set j _
    rw [List.map_set, List.set_set]
  refine ⟨v1, ev1, v2, ev2, v3, ev3, (by show 3 ≤ sizeLine; decide), fun p hpn => ⟨p, rfl, ⟨_, .inl (.inl upd_same)⟩, ?_⟩⟩
  have so := s.good.own (.tup [v1, v2, v3]) hpn
  refine ⟨fun i m σ' H' => m = 3 - i ∧ i ≤ 3 ∧ σ'[k1]? = some (some v1) ∧ σ'[k2]? = some (some v2) ∧ σ'[k3]? = some (some v3) ∧ H' p = some (.tup [v1, v2, v3]) ∧ (b ≠ some p) ∧ At X.K b F G0 H0 R σ' H', ⟨3, rfl, by decide, ev1, ev2, ev3, upd_same, ?_, G, eG, s.trans g0 so, (E1.stp so).gone' j⟩, ?_⟩
  · intro z
    obtain ⟨_, _, _, _, _, _, y, _⟩ := s.good.box p z
    rw [hpn] at y
    cases y
  rintro i m σ' H' ⟨rfl, hi, w1, w2, w3, hp', bp, at1⟩
  obtain ⟨G2, eG2, s2, E2⟩ := id at1
  have hq : SqT X.K H' p [v1, v2, v3] := .inl (.inl hp')
  by_cases hlt : i < 3
  · have hget : i < [v1, v2, v3].length := hlt
    refine .inr ⟨⟨_, _, hq, List.getElem?_eq_getElem hget⟩, fun σ2 H2 => i + 1 ≤ 3 ∧ σ2[k1]? = some (some v1) ∧ σ2[k2]? = some (some v2) ∧ σ2[k3]? = some (some v3) ∧ H2 p = some (.tup [v1, v2, v3]) ∧ (b ≠ some p) ∧ At X.K b F G0 H0 R σ2 H2, fun σ2 H2 h => ⟨3 - (i + 1), by omega, rfl, h⟩, fun v H3 ⟨eH, yv⟩ => ?_⟩
    rw [eH]
    have yv := yv _ hq
    -- whose value it is
    obtain ⟨k, t, hk, et, evk, ht3⟩ : ∃ k t, k ≠ j ∧ R[k]? = some (some t) ∧ σ'[k]? = some (some v) ∧ (t = t1 ∨ t = t2 ∨ t = t3) := by
      match i, hlt, yv with
      | 0, _, y => cases y; exact ⟨k1, t1, n1, Rk n1 e1, w1, .inl rfl⟩
      | 1, _, y => cases y; exact ⟨k2, t2, n2, Rk n2 e2, w2, .inr (.inl rfl)⟩
      | 2, _, y => cases y; exact ⟨k3, t3, n3, Rk n3 e3, w3, .inr (.inr rfl)⟩
    have hr : Here X.K b H0 G2 H' σ' R := ⟨s2.good, E2, fun a e => s2.free g0 e⟩
    obtain ⟨G1, ex, hr1⟩ := hr.borrow
    have rv : Rp b G1 v t.dat := by
      obtain ⟨fps, hF, _, _⟩ := hr1.env.ex
      obtain ⟨v', ev', tr⟩ := hF k t.frz (by unfold frzR; rw [List.getElem?_map, et]; rfl)
      rw [evk] at ev'
      cases ev'
      exact frz_rp tr
    have hr2 := hr1.leaf j rv
    rw [frR] at hr2
    refine ⟨b, H0, G1, _, noX, _, ht t ht3, ⟨hr2, noXC⟩, fun G' H4 c hcc s3 => ?_⟩
    have st := Stp.back hr.good ex s3
    have E3 : Env b H0 G2 H4 (σ'.set j (some v)) R := by
      have := (E2.stp st).gone j (some v)
      rw [show R.set j none = R from List.set_set ..] at this
      exact this
    have at4 : At X.K b F G0 H0 R (σ'.set j (some v)) H4 := ⟨G2, eG2, s2.trans g0 st, E3⟩
    have sk : ∀ {k' : Nat} {u : V}, k' ≠ j → σ'[k']? = some (some u) → (σ'.set j (some v))[k']? = some (some u) := fun hk' h => by rw [List.getElem?_set_ne (Ne.symm hk')]; exact h
    cases c with
    | true =>
      show sOf X.K X.mg E (dRet we) _ _ _
      exact ⟨b, F, G0, H0, R, { nx := fun _ => False, rt := C.rt, xc := C.xc }, hcc rfl, g0, at4, ⟨fun _ _ _ z => z.elim, fun _ _ _ z => z.elim, fun _ _ _ z => z.elim, eo.rt, eo.xc⟩⟩
    | false =>
      exact ⟨hlt, sk n1 w1, sk n2 w2, sk n3 w3, st.keep _ _ bp hp', bp, at4⟩
  · have ei : i = 3 := by omega
    subst ei
    exact .inl ⟨⟨_, hq, Nat.le_refl 3⟩, eo.nx _ _ _ q at1⟩
end
end Dd
/-! Own exceptions: classes whose __init__ takes nothing and keeps its word; raise, try, isinstance. -/
namespace Dd
open PySem L2
/-! ### the way out of a call, with the slots as they stand -/
abbrev wxOf (E : SX) : WX := fun cls d σ H => E σ cls d H
section
variable {X : Cx} {E : SX} {k : Nat} {f C : Addr} {fd : FuncData} {ps : List Str} {sp : Sp} {dvs : List V} {ds : List Value} {x m : Str} {p pos apos : Pos} {e o : Expr} {es : List Expr} {t : TA} {ws : WA} {S : Spec}
theorem run_fnX {pins : List (Addr × Obj)} {σ : L2.St} {H : Hp} {s : Shared} {Q : VK} {us : List Value} {vs : List V} (F : FnOk X.prog X.w X.K X.mg X.base (L2.CX X.prog X.w) k f fd ps sp) (hr : Room k X.A) (hb : Binds X.K fd ps []) (tk : Takes X (wxOf E))
    (I : Inv X pins σ H s) (r : Vals vs us) (h : sp vs H Q (E σ)) : wpAny (model X.prog X.w) X.A (call (.ref f) us) (EP X pins σ Q) X.xe s := by
  have hl : us.length = ps.length := by rw [← r.length]; exact F.len _ _ _ _ h
  have hb2 := hb s us I.kIn (by rw [List.append_nil]; exact hl)
  rw [List.append_nil] at hb2
  refine wpAny_call (codeAny_mono (F.run X.A X.stack s H ⟨us, []⟩ us vs Q (E σ) hr I.env0 hb2 r h) fun r s' hq => ?_)
  cases r with
  | error e => exact tk e s' (XE.of_call I (fun _ _ _ z => z) hq)
  | ok fl =>
    cases fl with
    | ret u => exact I.after hq
    | next => exact False.elim hq
    | brk => exact False.elim hq
    | cont => exact False.elim hq
theorem pe_callX (F : FnOk X.prog X.w X.K X.mg X.base (L2.CX X.prog X.w) k f fd ps sp) (hr : Room k X.A) (hg : Gl X x) (hm : X.mg x = some (.ref f)) (hk : PySem.W.keepIn X.K (.ref f) = true) (hb : Binds X.K fd ps []) (tk : Takes X (wxOf E))
    (ha : PA X (e :: es) t) (hdb : (x == ("__debug__" : Str)) = false := by decide) (he : starEach (e :: es) X.env = (false, eval e X.env) :: starEach es X.env := by rfl) (hpl : (backTo pos (starEach es X.env)).any (·.1) = false := by rfl) :
    PE X (.Call (.Name x p) (e :: es) [] pos) (fun σ H Q => t σ H fun vs H1 => sp vs H1 Q (E σ)) := by
  refine ⟨fun pins s σ H Q I h => ?_⟩
  refine wpAny_Call_Name_kw (ld_glob I hg hm ?_ hdb)
  refine PySem.W.callWith_K (h₀ := X.base) I.ok.mod.kin hk (thn (ha.run pos pins s σ H _ I h) fun us s1 ⟨vs, H1, I1, r, q⟩ => ⟨I1.kIn, ?_⟩) he hpl
  exact run_fnX F hr hb tk I1 r q
/-- a def that may raise, called by its name -/
structure CalX (P : Program) (w : World) (K : PySem.W.Frag) (mg : Str → Option Value) (base : Heap) (x : Str) (ps : List Str) (k : Nat) (S : Spec) : Prop where
  ex : ∃ f fd, FnOk P w K mg base (L2.CX P w) k f fd ps (spOf K mg S) ∧ mg x = some (.ref f) ∧ PySem.W.keepIn K (.ref f) = true ∧ Binds K fd ps []
theorem CalX.mk' {P : Program} {w : World} {K : PySem.W.Frag} {mg : Str → Option Value} {base : Heap} {x qual : Str} {ps : List Str} {k : Nat} {S : Spec} {st : Stmt} {f : Addr} {fd : FuncData} (F : Fun K x qual st f fd) (h : FnOk P w K mg base (L2.CX P w) k f fd ps (spOf K mg S)) (m : mg x = some (.ref f)) (b : Binds K fd ps []) : CalX P w K mg base x ps k S := ⟨f, fd, h, m, F.kp, b⟩
theorem d_callX {j k : Nat} (C : CalX X.prog X.w X.K X.mg X.base x ps k S) (hr : Room j X.A) (tk : Takes X (wxOf E)) (ha : PA X (e :: es) (aOf X.K X.mg E ws)) (hg : Gl X x := by rfl) (hj : k ≤ j := by decide) (hdb : (x == ("__debug__" : Str)) = false := by decide) (he : starEach (e :: es) X.env = (false, eval e X.env) :: starEach es X.env := by rfl) (hpl : (backTo pos (starEach es X.env)).any (·.1) = false := by rfl) :
    PE X (.Call (.Name x p) (e :: es) [] pos) (tOf X.K X.mg E (dCall S ws)) := by
  obtain ⟨f, fd, h, m, kp, b⟩ := C.ex
  refine PE.of (pe_callX h (hr.mono hj) hg m kp b tk ha hdb he hpl) fun σ H Q q => ?_
  have q2 := dcall_core q
  obtain ⟨b, B, G, ρ, xp, P, p, hr, kk⟩ := q2
  refine ⟨b, B, G, ρ, xp, P, p, hr, fun G' H' vs ds hp s r => ?_⟩
  have h2 : spOf X.K X.mg S (vs ++ []) H' Q (E σ) := kk G' H' vs ds hp s r
  rw [List.append_nil] at h2
  exact h2
end
section
variable {P : Program} {w : World} {K : PySem.W.Frag} {mg : Str → Option Value} {base : Heap}
theorem fn_okX {x qual : Str} {st : Stmt} {f : Addr} {fd : FuncData} {N ps : List Str} {k : Nat} {S : Spec} {ws : WS} (F : Fun K x qual st f fd) (sc : FnScope N ps (defScope st)) (len : ∀ ds P xp, S ds P xp → ds.length = ps.length)
    (body : ∀ (cdv : Value) (A : Around) (outer : List PySem.Env) (s : Shared) (H : Hp) (E : XK), Room k (A.deeper (PyProof.Rows.envOfC qual (defScope st) s.heap.objs.size f cdv)) → PSs (cxOf (L2.CX P w) P w K mg base N qual (defScope st) f cdv A outer s H E) (defBody st) (sOf K mg (fun _ => E) ws))
    (spec : ∀ ds P xp, S ds P xp → ws { nx := fun _ => P non, rt := P, xc := fun _ => xp } (startR N ds)) : FnOk P w K mg base (L2.CX P w) (k + 1) f fd ps (spOf K mg S) := by
  refine F.okX sc (sp_len len) fun cdv A outer s H vs Q E hr h => ⟨_, body cdv A outer s H E hr, ?_⟩
  obtain ⟨b, G, ds, P, xp, q, g, r, k, x⟩ := h
  exact body_core (spec ds P _ q) (E0 := E) (fun _ => rfl) g r k x
end
/-! ### the making -/
/-- what the text and the written part say of the class of that name -/
structure ExcF (P : Program) (w : World) (K : PySem.W.Frag) (mg : Str → Option Value) (base : Heap) (n : Str) : Prop where
  ex : ∃ (C fI : Addr) (fd : FuncData), mg n = some (.ref C) ∧ OexC K C ∧ PySem.W.findIn K (.ref C) "word" = some none ∧ PySem.W.findIn K (.ref C) "__init__" = some (some (.ref fI)) ∧ PySem.W.typeIn K (.ref fI) = some (.type "function") ∧
    FnOk P w K mg base CX0 1 fI fd ["self"] (fun vs H Q _ => ∃ a C : Addr, vs = [.ref a] ∧ H a = some (exo a C none) ∧ OexC K C ∧ PySem.W.findIn K (.ref C) "word" = some none ∧ ∀ dx, H dx = none → dx ≠ a → Q .non (upd (upd H dx (exd dx [("word", .str n)])) a (exo a C (some dx)))) ∧ Binds K fd ["self"] []
section
variable {P : Program} {w : World} {K : PySem.W.Frag} {mg : Str → Option Value} {base : Heap}
theorem exc_init {n qual : Str} {st : Stmt} {f : Addr} {fd : FuncData} {q1 q2 q3 q4 : Pos} {i : Nat} (F : Fun K "__init__" qual st f fd) (sc : FnScope ["self"] ["self"] (defScope st)) (hb : defBody st = [.Assign [.Attribute (.Name "self" q1) "word" q2] (.Constant (.str n) i q3) q4]) (hl : List.lookup ("self" : Str) (defScope st).names = some NameKind.local) :
    FnOk P w K mg base CX0 1 f fd ["self"] (fun vs H Q _ => ∃ a C : Addr, vs = [.ref a] ∧ H a = some (exo a C none) ∧ OexC K C ∧ PySem.W.findIn K (.ref C) "word" = some none ∧ ∀ dx, H dx = none → dx ≠ a → Q .non (upd (upd H dx (exd dx [("word", .str n)])) a (exo a C (some dx)))) := by
  refine F.ok sc (fun vs H Q E h => ?_) (fun cdv A outer s H vs Q E hr h => ?_)
  · obtain ⟨a, C, rfl, _⟩ := h
    rfl
  · obtain ⟨a, C, rfl, e, T, nw, q⟩ := h
    rw [hb]
    exact ⟨_, pss_one (ps_ost (pe_var (i := 0) rfl (.inl hl)) pe_str), .ref a, rfl, a, C, rfl, T, nw, .inl ⟨e, q⟩⟩
end
section
variable {X : Cx} {E : SX} {n : Str} {p pos pos2 : Pos}
/-- C(), C with an own __init__ -/
theorem pmk_oex0 {CX : CXT} {x : Str} {C fI : Addr} {k : Nat} {fd : FuncData} {ps : List Str} {sp : Sp} (T : OexC X.K C) (iC : PySem.W.findIn X.K (.ref C) "__init__" = some (some (.ref fI))) (tI : PySem.W.typeIn X.K (.ref fI) = some (.type "function"))
    (F1 : FnOk X.prog X.w X.K X.mg X.base CX k fI fd ps sp) (hr : Room (k + 1) X.A) (hb : Binds X.K fd ps []) (hx : Passes CX X (fun _ _ _ => False)) (hg : Gl X x) (hm : X.mg x = some (.ref C)) (hdb : (x == ("__debug__" : Str)) = false := by decide) :
    PMk X (.Call (.Name x p) [] [] pos) (tMkO C sp [] tNil) := by
  intro pins s σ H1 Q I1 h
  obtain ⟨nm, q, N, bs, bm, sn, sub, ab, col, dd, k0, k1, k2, k3, k5, hC, hbm⟩ := T.cls
  refine wpAny_Call_Name_kw (ld_glob I1 hg hm ?_ hdb)
  refine PySem.W.callWith_K0 I1.kIn T.kC ?_
  show wpAny _ _ (call (.ref C) []) _ _ _
  obtain ⟨hp, g, dr, tk, os⟩ := s
  have hsz : hp.objs.size ≤ hp.objs.size + 1 := Nat.le_succ _
  have hn : H1 (hp.objs.size + 1) = none := I1.hok.fresh hsz
  have hq : sp [V.ref (hp.objs.size + 1)] _ _ _ := h.2 (hp.objs.size + 1) hn
  have kk : ∀ b o, hp.get? b = some o → ((hp.push (PySem.W.kdv_tup [])).push (PySem.HandSPX.excO C hp.objs.size)).get? b = some o := fun b o e => Heap.get?_push_of_some _ (Heap.get?_push_of_some _ e)
  have hget : ((hp.push (PySem.W.kdv_tup [])).push (PySem.HandSPX.excO C hp.objs.size)).get? (hp.objs.size + 1) = some (PySem.HandSPX.excO C hp.objs.size) := by heap_get
  have I2 : Inv X pins σ (upd H1 (hp.objs.size + 1) (exo (hp.objs.size + 1) C none)) ⟨(hp.push (PySem.W.kdv_tup [])).push (PySem.HandSPX.excO C hp.objs.size), g, dr, tk, os⟩ :=
    I1.laid (t' := tk) (a := hp.objs.size + 1) (o := exo (hp.objs.size + 1) C none) (h' := (hp.push (PySem.W.kdv_tup [])).push (PySem.HandSPX.excO C hp.objs.size)) kk hsz (exo_ok hget)
  have r2 : Vals [V.ref (hp.objs.size + 1)] [Value.ref (hp.objs.size + 1)] := .cons rfl .nil
  have hl : [Value.ref (hp.objs.size + 1)].length = ps.length := by
    have e := r2.length
    rw [F1.len _ _ _ _ hq] at e
    exact e.symm
  have hb2 := hb ⟨(hp.push (PySem.W.kdv_tup [])).push (PySem.HandSPX.excO C hp.objs.size), g, dr, tk, os⟩ [Value.ref (hp.objs.size + 1)] I2.kIn (by rw [List.append_nil]; exact hl)
  rw [List.append_nil] at hb2
  refine PySem.wpAny_call (PySem.HandSPX.call_own F.excBase_ValueError (fun Y => PySem.HandSPX.refsVE_contains Y bm hbm) (I1.kIn _ _ hC) (PySem.W.looks_findIn I1.kIn iC) (fun self => PySem.W.bind_fn I1.kIn self tI) (Nat.zero_le _)
    (codeAny_mono (F1.run _ X.stack _ _ ⟨[Value.ref (hp.objs.size + 1)], []⟩ [Value.ref (hp.objs.size + 1)] _ _ (fun _ _ _ => False) (hr.make C [] []) (I2.env0.make C [] []) hb2 r2 hq) fun r s' hq' => ?_))
  cases r with
  | error er => exact hx pins σ _ _ er s' I2 hq'
  | ok fl =>
    cases fl with
    | ret u =>
      obtain ⟨v, H2, os2, bare2, un2, hok2, rv, ev, d, fs, ea, ed, hd1, q2⟩ := hq'
      subst ev
      obtain ⟨h2, g2, d2, t2, os'⟩ := s'
      exact ⟨rv, mk_end (raises_own T.exC T.tyC) I1 hsz kk un2 hok2 os2 bare2 ea ed hd1 q2⟩
    | next => exact False.elim hq'
    | brk => exact False.elim hq'
    | cont => exact False.elim hq'
def dRaise (n : Str) (pl : PyData) : WS := fun C ρ => C.xc ρ n pl
theorem s_raise {j : Nat} (R : ExcF X.prog X.w X.K X.mg X.base n) (hr : Room j X.A) (hc : X.calm = true) (tk : Takes X (wxOf E)) (hg : Gl X n := by rfl) (hj : 2 ≤ j := by decide) (hdb : (n == ("__debug__" : Str)) = false := by decide) :
    PS X (.Raise (some (.Call (.Name n p) [] [] pos)) none pos2) (sOf X.K X.mg E (dRaise n .none)) := by
  obtain ⟨C, fI, fd, hm, T, nw, iC, tI, F1, hb⟩ := R.ex
  refine PS.of (ps_raise hc tk (pmk_oex0 T iC tI F1 (hr.mono hj) hb pass0 hg hm hdb)) fun D σ H ⟨b, F, G0, H0, ρ, C', q, g0, a, eo⟩ => ?_
  refine ⟨Nat.zero_le _, fun a' ha => ⟨a', C, rfl, upd_same, T, nw, fun dx hdx ne => ?_⟩⟩
  have hd0 : H dx = none := by
    rw [upd_ne ne] at hdx
    exact hdx
  refine ⟨rfl, dx, _, upd_same, by rw [upd_ne ne]; exact upd_same, hd0, ?_⟩
  obtain ⟨G, e1, s, E1⟩ := a
  have st := (s.good.new (.xd (exF n .none)) hd0).1
  have eH : upd (del (upd (upd (upd H a' (exo a' C none)) dx (exd dx [("word", .str n)])) a' (exo a' C (some dx))) a') dx (.xd [("word", .str n)]) = upd H dx (.xd [("word", .str n)]) := by
    funext z
    by_cases c : z = dx
    · rw [c, upd_same, upd_same]
    · rw [upd_ne c, upd_ne c]
      by_cases c2 : z = a'
      · rw [c2, del_same, ha]
      · rw [del_ne c2, upd_ne c2, upd_ne c, upd_ne c2]
  rw [eH]
  exact eo.xc ρ σ n .none C dx _ _ q (e1.trans st.ex) (s.trans g0 st) (E1.stp st) hm upd_same
/-! ### try -/
/-- every own error of the list is caught -/
def dTry (ns : Str → Prop) (i : Nat) (wb : WS) (ws : Addr → Addr → Str → PyData → WS) : WS := fun C ρ => wb { C with xc := fun ρ' n pl => ns n ∧ ∀ a d, ws a d n pl { nx := fun ρ2 => C.nx (ρ2.set i none), rt := C.rt, bk := fun ρ2 => C.bk (ρ2.set i none), ct := fun ρ2 => C.ct (ρ2.set i none) } (ρ'.set i (some (.leaf (excD a d n pl)))) } ρ
theorem s_try {x nm : Str} {c : Value} {i : Nat} {body suite : List Stmt} {b₀ : Stmt} {np pos' : Pos} {wb : WS} {ws : Addr → Addr → Str → PyData → WS} (ns : Str → Prop) (hN : X.N.Nodup) (tk : Takes X (wxOf E)) (hc : Names X x c) (hK : ∀ n C, ns n → X.mg n = some (.ref C) → PySem.W.exmOne X.K (.ref C) c = some true)
    (hb : ∀ (E' : SX) (pn : List (Addr × Obj)) (xe : Value → Shared → Prop), Takes (X.tr pn xe) (wxOf E') → PassesOwn (model X.prog X.w) X.A X.env xe → PSs (X.tr pn xe) body (sOf X.K X.mg E' wb))
    (hsu : ∀ (a d C : Addr) (n : Str) (pl : PyData) (oe : Obj) (pn : List (Addr × Obj)), ns n → X.mg n = some (.ref C) → Zc (.ref C) (some d) oe → (∃ vs, oe.data = .fields vs) → PSs (X.suite a ((a, oe) :: pn)) (b₀ :: suite) (sOf X.K X.mg noE (ws a d n pl)))
    (hi : X.N[i]? = some nm := by rfl) (hs : X.stack = X.env :: X.outer := by rfl) (hf : X.env.frame = some X.env.locals := by rfl) (hln : X.env.kindOf nm = some .local := by rfl) :
    PS X (.Try body [.ExceptHandler (some (.Name x np)) (some nm) (b₀ :: suite) pos'] [] [] pos) (sOf X.K X.mg E (dTry ns i wb ws)) := by
  refine PS.of (ps_try_as (tb := fun W => sOf X.K X.mg (fun σ cls d H => W cls d σ H) wb) (ts := fun a cls d D σ H => ∃ (n : Str) (pl : PyData) (C d' : Addr), cls = .ref C ∧ d = some d' ∧ ns n ∧ X.mg n = some (.ref C) ∧ sOf X.K X.mg noE (ws a d' n pl) D σ H) (Wout := wxOf E) hs hf hN hi hln hc tk
    (fun W pn xe tk' ps' => hb _ pn xe tk' ps') (fun a oe cls d pn hz hv => ⟨fun pins s σ H D I h => ?_⟩)) fun D σ H ⟨b, F, G0, H0, ρ, C, q, g0, a, eo⟩ => ?_
  · obtain ⟨n, pl, C, d', rfl, rfl, hx, hm, q⟩ := h
    exact (hsu a d' C n pl oe pn hx hm hz hv).run pins s σ H D I q
  · refine ⟨b, F, G0, H0, ρ, _, q, g0, a, ⟨eo.nx, eo.bk, eo.ct, eo.rt, fun ρ' σ' n pl c0 d G H' hx e1 s E1 hm hd => ?_⟩⟩
    obtain ⟨hx, hw⟩ := hx
    refine ⟨true, hK n c0 hx hm, fun _ a' ha => ⟨n, pl, c0, d, rfl, rfl, hx, hm, b, F, G0, H0, _, _, hw a' d, g0, ⟨G, e1, s, E1.leaf i (.exc hd)⟩, ⟨?_, ?_, ?_, eo.rt, fun _ _ _ _ _ _ _ _ z => z.elim⟩⟩, fun z => nomatch z⟩
    · intro ρ2 σ2 H2 h2 ⟨G2, f2, s2, E2⟩
      exact eo.nx _ _ _ h2 ⟨G2, f2, s2, E2.gone i none⟩
    · intro ρ2 σ2 H2 h2 ⟨G2, f2, s2, E2⟩
      exact eo.bk _ _ _ h2 ⟨G2, f2, s2, E2.gone i none⟩
    · intro ρ2 σ2 H2 h2 ⟨G2, f2, s2, E2⟩
      exact eo.ct _ _ _ h2 ⟨G2, f2, s2, E2.gone i none⟩
/-! ### isinstance of the held exception -/
/-- what the class D must say of its instances -/
structure ExcT (K : PySem.W.Frag) (D : Addr) : Prop where
  hc : (PySem.W.clsIn K D).isSome = true
  hg : PySem.W.findIn K (.ref D) "__getattribute__" = some (some (.builtin "BaseException.__getattribute__"))
  hk : PySem.W.findIn K (.ref D) "__getattr__" = some none
  hs : PySem.W.subIn K (.ref D) (.type "BaseException") = some true
  ha : PySem.W.findIn K (.ref D) "__class__" = some (some (.builtin "object.__class__"))
  hn : PySem.W.specialIn K (.builtin "object.__class__") "__get__" = some (some (.builtin "getset_descriptor.__get__"))
  ht : PySem.W.takesIn K (.builtin "object.__class__") = some true
  hm : PySem.W.mroIn K D (.type "object") = some true
def rIsX (K : PySem.W.Frag) (D a d : Addr) : List V → Hp → VK → Prop := fun xs H Q => ∃ (c : V) (cv : Value) (b : Bool) (fs : List (Str × V)), xs = [.ref a, c] ∧ (∀ u, RelV c u → u = cv) ∧ H d = some (.xd fs) ∧ PySem.W.kitOne K (.ref D) cv = some b ∧ Q (.bl b) H
theorem call_isX {a D d : Addr} {oe : Obj} {pn : List (Addr × Obj)} (C : ExcT X.K D) (hz : Zc (.ref D) (some d) oe) (hf : ∃ vs, oe.data = .fields vs) : CallR (X.suite a ((a, oe) :: pn)) (.builtin "isinstance") (rIsX X.K D a d) := by
  intro pins s σ H xs us Q I r h
  obtain ⟨c, cv, b, fs, rfl, hcv, hd, e, q⟩ := h
  cases r with
  | cons rx rr =>
    cases rr with
    | cons rt rr =>
      cases rr
      cases rx
      have ec := hcv _ rt
      subst ec
      obtain ⟨hget, _⟩ := I.pin (a, oe) (List.mem_append.mpr (.inl List.mem_cons_self))
      obtain ⟨vs, hv⟩ := hf
      have hx : ObjOk X.prog X.w H s.heap d (.xd fs) := I.hok d _ hd
      obtain ⟨mA, hns, _⟩ := hx
      obtain ⟨od, ho, _⟩ := lookIn_ns hns
      have J : PySem.W.InstAt s.heap a oe D (some od) := ⟨hget, hz.1, by unfold PySem.W.notCls; rw [hv] <;> rfl, by rw [hz.2]; exact ho⟩
      exact PySem.W.kia_one (PySem.W.kitx_exc C.hc C.hg C.hk C.hs C.ha C.hn C.ht C.hm) I.kIn J e (fun z => nomatch z) fun tk => ⟨.bl b, H, I.kept (t' := tk) fun _ _ z => z, rfl, q⟩
def dIsX (a d : Addr) (n : Str) (pl : PyData) (k : Bool) (w : WE) : WE := fun x ρ P => w x ρ fun t => t.dat = excD a d n pl ∧ P (boo k)
theorem d_isX {a d D : Addr} {n : Str} {pl : PyData} {oe : Obj} {pn : List (Addr × Obj)} {e c : Expr} {cV : V} {cv : Value} {k : Bool} {w : WE} (T : ExcT X.K D) (hz : Zc (.ref D) (some d) oe) (hf : ∃ vs, oe.data = .fields vs) (hm : X.mg "isinstance" = none) (ha : PE (X.suite a ((a, oe) :: pn)) e (tOf X.K X.mg noE w)) (hc : PE (X.suite a ((a, oe) :: pn)) c (tC cV)) (hcv : ∀ u, RelV cV u → u = cv) (hk : PySem.W.kitOne X.K (.ref D) cv = some k) (hg : Gl X "isinstance" := by rfl)
    (he : starEach [e, c] X.env = (false, eval e X.env) :: starEach [c] X.env := by rfl) (hpl : (backTo pos (starEach [c] X.env)).any (·.1) = false := by rfl) (he2 : starEach [c] X.env = (false, eval c X.env) :: starEach [] X.env := by rfl) :
    PE (X.suite a ((a, oe) :: pn)) (.Call (.Name "isinstance" p) [e, c] [] pos) (tOf X.K X.mg noE (dIsX a d n pl k w)) := by
  refine PE.of (X := X.suite a ((a, oe) :: pn)) (pe_callB (call_isX T hz hf) hg hm (by decide +kernel) (pa_cons ha (pa_cons hc pa_nil he2) he) (by decide) (by decide) he hpl) fun σ H Q ⟨b, B, G, ρ, xp, P, p, hr, kk⟩ => ?_
  refine tOfD_of ⟨b, B, G, ρ, xp, fun t => t = excD a d n pl ∧ P (boo k), p, hr, fun G1 H1 v t hp s1 hr1 r => ?_⟩
  obtain ⟨et, hp⟩ := hp
  subst et
  have ev : v = .ref a ∧ G1 d = some (.xd (exF n pl)) := by
    generalize eE : excD a d n pl = D' at r
    cases r with
    | exc h =>
      simp only [PyData.dict.injEq, List.cons.injEq, Prod.mk.injEq, PyData.int.injEq, PyData.str.injEq] at eE
      obtain ⟨⟨e1, e2⟩, ⟨e3, e4⟩, _⟩ := eE
      have e1 := Int.ofNat.inj e1
      have e3 := Int.ofNat.inj e3
      subst e1 e2 e3 e4
      exact ⟨rfl, h⟩
    | _ => cases eE
  obtain ⟨rfl, hG⟩ := ev
  exact ⟨cV, cv, k, _, rfl, hcv, s1.good.ex _ _ hG, hk, (kk.stp hr.good s1).leaf s1.good hp (.bl _)⟩
end
end Dd
namespace Dd
open PySem L2
def IsTab (K : PySem.W.Frag) (mg : Str → Option Value) (L : List Str) (cv : Value) (g : Str → Bool) : Prop := ∀ n D, n ∈ L → mg n = some (.ref D) → ExcT K D ∧ PySem.W.kitOne K (.ref D) cv = some (g n)
def ExTab (K : PySem.W.Frag) (mg : Str → Option Value) (L : List Str) (cv : Value) : Prop := ∀ n D, n ∈ L → mg n = some (.ref D) → PySem.W.exmOne K (.ref D) cv = some true
theorem kit_own {K : PySem.W.Frag} {D C : Addr} {b : Bool} (hi : PySem.W.isClsIn K C = true) (ht : PySem.W.typeIn K (.ref C) = some (.type "type")) (hd : PySem.W.subIn K (.ref D) (.ref D) = some true) (hs : PySem.W.subIn K (.ref D) (.ref C) = some b) : PySem.W.kitOne K (.ref D) (.ref C) = some b := by
  unfold PySem.W.kitOne
  by_cases c : (Value.ref D == Value.ref C) = true
  · rw [if_pos c]
    have e : D = C := Value.ref.inj (beq_iff_eq.mp c)
    subst e
    rw [hd] at hs
    exact hs
  · rw [if_neg c]
    show (if ((PySem.W.clsIn K C).isSome && PySem.W.typeIn K (Value.ref C) == some (Value.type "type")) = true then PySem.W.subIn K (Value.ref D) (Value.ref C) else none) = some b
    have hi' : (PySem.W.clsIn K C).isSome = true := hi
    rw [if_pos (by rw [hi', ht]; rfl)]
    exact hs
theorem kit_blt {K : PySem.W.Frag} {D : Addr} {T : String} {b : Bool} (hm : PySem.W.kitMeta T = true) (hs : PySem.W.subIn K (.ref D) (.type T) = some b) : PySem.W.kitOne K (.ref D) (.type T) = some b := by
  unfold PySem.W.kitOne
  rw [if_neg (show ¬ ((Value.ref D == Value.type T) = true) from fun z => by
    have := beq_iff_eq.mp z
    cases this)]
  show (if PySem.W.kitMeta T = true then PySem.W.subIn K (Value.ref D) (Value.type T) else none) = some b
  rw [if_pos hm]
  exact hs
def clsI : Stmt → Stmt
  | .ClassDef _ _ _ body _ _ _ _ _ _ _ => body.headD (.Pass ⟨0, 0, 0, 0⟩)
  | s => s
section
variable {X : Cx} {E : SX} {p pos : Pos} {L : List Str}
theorem d_isO {a d D : Addr} {n cn : Str} {pl : PyData} {oe : Obj} {pn : List (Addr × Obj)} {e : Expr} {g : Str → Bool} {w : WE} {cp : Pos} (I : ∃ C, X.mg cn = some (.ref C) ∧ IsTab X.K X.mg L (.ref C) g) (hx : n ∈ L) (hm : X.mg n = some (.ref D)) (hz : Zc (.ref D) (some d) oe) (hf : ∃ vs, oe.data = .fields vs) (hmi : X.mg "isinstance" = none) (ha : PE (X.suite a ((a, oe) :: pn)) e (tOf X.K X.mg noE w))
    (hg : Gl X "isinstance" := by rfl) (hgc : Gl X cn := by rfl) (hdb : (cn == ("__debug__" : Str)) = false := by decide) (he : starEach [e, .Name cn cp] X.env = (false, eval e X.env) :: starEach [.Name cn cp] X.env := by rfl) (hpl : (backTo pos (starEach [.Name cn cp] X.env)).any (·.1) = false := by rfl) (he2 : starEach [.Name cn cp] X.env = (false, eval (.Name cn cp) X.env) :: starEach [] X.env := by rfl) :
    PE (X.suite a ((a, oe) :: pn)) (.Call (.Name "isinstance" p) [e, .Name cn cp] [] pos) (tOf X.K X.mg noE (dIsX a d n pl (g n) w)) := by
  obtain ⟨C, hmc, hI⟩ := I
  obtain ⟨T, hk⟩ := hI n D hx hm
  exact d_isX (cV := .ref C) T hz hf hmi ha (pe_glob (X := X.suite a ((a, oe) :: pn)) (v := .ref C) hgc hmc rfl hdb) (fun u r => r) hk hg he hpl he2
theorem d_isB {a d D : Addr} {n : Str} {cn : String} {pl : PyData} {oe : Obj} {pn : List (Addr × Obj)} {e : Expr} {g : Str → Bool} {w : WE} {cp : Pos} (I : X.mg (Str.ofString cn) = none ∧ IsTab X.K X.mg L (.type cn) g) (hv : bootBuiltins (Str.ofString cn) = some (.type cn)) (hx : n ∈ L) (hm : X.mg n = some (.ref D)) (hz : Zc (.ref D) (some d) oe) (hf : ∃ vs, oe.data = .fields vs) (hmi : X.mg "isinstance" = none) (ha : PE (X.suite a ((a, oe) :: pn)) e (tOf X.K X.mg noE w))
    (hg : Gl X "isinstance" := by rfl) (hgc : Gl X (Str.ofString cn) := by rfl) (hnn : Str.ofString cn ≠ "__name__" := by decide) (hdb : (Str.ofString cn == ("__debug__" : Str)) = false := by decide) (he : starEach [e, .Name (Str.ofString cn) cp] X.env = (false, eval e X.env) :: starEach [.Name (Str.ofString cn) cp] X.env := by rfl) (hpl : (backTo pos (starEach [.Name (Str.ofString cn) cp] X.env)).any (·.1) = false := by rfl) (he2 : starEach [.Name (Str.ofString cn) cp] X.env = (false, eval (.Name (Str.ofString cn) cp) X.env) :: starEach [] X.env := by rfl) :
    PE (X.suite a ((a, oe) :: pn)) (.Call (.Name "isinstance" p) [e, .Name (Str.ofString cn) cp] [] pos) (tOf X.K X.mg noE (dIsX a d n pl (g n) w)) := by
  obtain ⟨hmc, hI⟩ := I
  obtain ⟨T, hk⟩ := hI n D hx hm
  exact d_isX (cV := .ty cn) T hz hf hmi ha (pe_bltn (X := X.suite a ((a, oe) :: pn)) (v := .ty cn) hgc hmc hv rfl hnn hdb) (fun u r => r) hk hg he hpl he2
theorem s_tryO {cn nm : Str} {i : Nat} {body suite : List Stmt} {b₀ : Stmt} {np pos' : Pos} {wb : WS} {ws : Addr → Addr → Str → PyData → WS} (L : List Str) (I : ∃ C, X.mg cn = some (.ref C) ∧ ExTab X.K X.mg L (.ref C)) (hN : X.N.Nodup) (tk : Takes X (wxOf E))
    (hb : ∀ (E' : SX) (pn : List (Addr × Obj)) (xe : Value → Shared → Prop), Takes (X.tr pn xe) (wxOf E') → PassesOwn (model X.prog X.w) X.A X.env xe → PSs (X.tr pn xe) body (sOf X.K X.mg E' wb))
    (hsu : ∀ (a d C : Addr) (n : Str) (pl : PyData) (oe : Obj) (pn : List (Addr × Obj)), n ∈ L → X.mg n = some (.ref C) → Zc (.ref C) (some d) oe → (∃ vs, oe.data = .fields vs) → PSs (X.suite a ((a, oe) :: pn)) (b₀ :: suite) (sOf X.K X.mg noE (ws a d n pl)))
    (hg : Gl X cn := by rfl) (hdb : (cn == ("__debug__" : Str)) = false := by decide) (hi : X.N[i]? = some nm := by rfl) (hs : X.stack = X.env :: X.outer := by rfl) (hf : X.env.frame = some X.env.locals := by rfl) (hln : X.env.kindOf nm = some .local := by rfl) :
    PS X (.Try body [.ExceptHandler (some (.Name cn np)) (some nm) (b₀ :: suite) pos'] [] [] pos) (sOf X.K X.mg E (dTry (fun n => n ∈ L) i wb ws)) := by
  obtain ⟨C, hm, hK⟩ := I
  exact s_try (fun n => n ∈ L) hN tk ⟨hg, hdb, .inl hm⟩ hK hb hsu hi hs hf hln
end
section
variable {n : Str} {C : Ctl} {ρ : Rho} {pl : PyData} {a d : Addr} {k : Bool} {w : WE} {x : XP} {P : T → Prop} {ns : Str → Prop} {i : Nat} {wb : WS} {ws : Addr → Addr → Str → PyData → WS}
theorem e_raise : dRaise n pl C ρ = C.xc ρ n pl := rfl
theorem e_isX : dIsX a d n pl k w x ρ P = w x ρ fun t => t.dat = excD a d n pl ∧ P (boo k) := rfl
theorem e_try : dTry ns i wb ws C ρ = wb { C with xc := fun ρ' n pl => ns n ∧ ∀ a d, ws a d n pl { nx := fun ρ2 => C.nx (ρ2.set i none), rt := C.rt, bk := fun ρ2 => C.bk (ρ2.set i none), ct := fun ρ2 => C.ct (ρ2.set i none) } (ρ'.set i (some (.leaf (excD a d n pl)))) } ρ := rfl
end
end Dd
/-! Functions that change a list handed in: its last argument is an own tree of the caller's. -/
namespace Dd
open PySem L2
def less (H : Hp) (fp : List Addr) : Hp := fun a => if a ∈ fp then none else H a
theorem less_in {H : Hp} {fp : List Addr} {a : Addr} (h : a ∈ fp) : less H fp a = none := if_pos h
theorem less_out {H : Hp} {fp : List Addr} {a : Addr} (h : a ∉ fp) : less H fp a = H a := if_neg h
/-- settled arguments, the tree, what is wanted of the tree behind -/
abbrev SpecM := List PyData → T → (T → Prop) → Prop
def spOfM (K : PySem.W.Frag) (S : SpecM) : Sp := fun vs H Q _ => ∃ (b : Option Addr) (G : Hp) (ds : List PyData) (us : List V) (p : Addr) (t : T) (fp : List Addr) (P : T → Prop), S ds t P ∧ vs = us ++ [.ref p] ∧ Good K b G H ∧ RpAll b G us ds ∧ Tr b G H fp (.ref p) t ∧
  ∀ (G' H' : Hp) (fp' : List Addr) (t' : T), P t' → Stp K b G (less H fp) G' H' → Tr b G' H' fp' (.ref p) t' → (∀ a, a ∈ fp' → a ∈ fp ∨ H a = none) → Q .non H'
section
variable {K : PySem.W.Frag} {b : Option Addr} {G H : Hp} {fp : List Addr}
theorem less_good (g : Good K b G H) (m : ∀ a, a ∈ fp → G a = none ∧ b ≠ some a) : Good K b G (less H fp) := by
  refine ⟨fun a o e => ?_, fun a c => ?_⟩
  · have na : a ∉ fp := fun z => by
      rw [(m a z).1] at e
      cases e
    rw [less_out na]
    exact g.ex a o e
  · obtain ⟨n, cc, cells, pos, rest, seed, q1, q2⟩ := g.box a c
    have na : a ∉ fp := fun z => (m a z).2 c
    exact ⟨n, cc, cells, pos, rest, seed, by rw [less_out na]; exact q1, q2⟩
theorem less_stp (g : Good K b G H) (m : ∀ a, a ∈ fp → G a = none ∧ b ≠ some a) : Stp K b G (less H fp) G H := by
  refine ⟨Ex.rfl' _, g, fun a o c e => ?_, fun a o n e => n, fun a c => ?_⟩
  · by_cases z : a ∈ fp
    · rw [less_in z] at e
      cases e
    · rw [less_out z] at e
      exact e
  · exact boxc_eq (less_out fun z => (m a z).2 c).symm
end
section
variable {P : Program} {w : World} {K : PySem.W.Frag} {mg : Str → Option Value} {base : Heap}
def startM (N : List Str) (ds : List PyData) (t : T) : Rho := ds.map (fun d => some (.leaf d)) ++ some t :: List.replicate (N.length - (ds.length + 1)) none
theorem env_startM {b : Option Addr} {G H : Hp} {N : List Str} {us : List V} {p : Addr} {ds : List PyData} {t : T} {fp : List Addr} (r : RpAll b G us ds) (tr : Tr b G H fp (.ref p) t) : Env b (less H fp) G H (L2.start N (us ++ [.ref p])) (startM N ds (.own p t)) := by
  have hl := r.len
  have mm := tr.mem
  refine ⟨?_, fun i => if i = ds.length then fp else [], fun i u e => ?_, fun i a m => ?_, fun i j a n m => ?_⟩
  · unfold L2.start startM
    simp [hl]
  · unfold startM at e
    by_cases c : i < ds.length
    · rw [List.getElem?_append_left (by simpa using c), List.getElem?_map, List.getElem?_eq_getElem c] at e
      cases e
      obtain ⟨v, ev, rv⟩ := r.get (List.getElem?_eq_getElem c)
      refine ⟨v, ?_, ?_⟩
      · unfold L2.start
        rw [List.getElem?_append_left (by simp; omega), List.getElem?_map, List.getElem?_append_left (by omega), ev] <;> rfl
      · simp only [if_neg (show ¬ i = ds.length by omega)]
        exact .leaf rv
    · rw [List.getElem?_append_right (by simp; omega), List.length_map] at e
      by_cases c2 : i = ds.length
      · subst c2
        rw [Nat.sub_self] at e
        cases e
        refine ⟨.ref p, ?_, ?_⟩
        · unfold L2.start
          rw [List.getElem?_append_left (by simp; omega), List.getElem?_map, List.getElem?_append_right (by omega), hl, Nat.sub_self] <;> rfl
        · simp only [if_pos]
          exact .own tr
      · obtain ⟨k, hk⟩ : ∃ k, i - ds.length = k + 1 := ⟨i - ds.length - 1, by omega⟩
        rw [hk, List.getElem?_cons_succ, List.getElem?_replicate] at e
        split at e <;> cases e
  · by_cases c : i = ds.length
    · simp only [if_pos c] at m
      obtain ⟨g, bb, o⟩ := mm a m
      exact ⟨less_in m, g, bb, o⟩
    · simp only [if_neg c] at m
      cases m
  · by_cases c : i = ds.length
    · simp only [if_neg (show ¬ j = ds.length from fun z => n (c.trans z.symm))]
      exact fun z => nomatch z
    · simp only [if_neg c] at m
      cases m
/-- a def that raises nothing, tells nothing and changes its last argument -/
theorem fn_okM {x qual : Str} {st : Stmt} {f : Addr} {fd : FuncData} {N ps : List Str} {k : Nat} {S : SpecM} {ws : WS} (F : Fun K x qual st f fd) (sc : FnScope N ps (defScope st)) (len : ∀ ds t P, S ds t P → ds.length + 1 = ps.length)
    (body : ∀ (cdv : Value) (A : Around) (outer : List PySem.Env) (s : Shared) (H : Hp) (E : XK), Room k (A.deeper (PyProof.Rows.envOfC qual (defScope st) s.heap.objs.size f cdv)) → PSs (cxOf CX0 P w K mg base N qual (defScope st) f cdv A outer s H E).nox (defBody st) (sOf K mg noE ws))
    (spec : ∀ ds t P p, S ds t P → ws { nx := fun ρ' => ∃ t', ρ'[ds.length]? = some (some (.own p t')) ∧ P t', rt := fun _ => False } (startM N ds (.own p t))) : FnOk P w K mg base CX0 (k + 1) f fd ps (spOfM K S) := by
  refine F.ok sc (fun vs H Q E h => ?_) fun cdv A outer s H vs Q E hr h => ⟨_, body cdv A outer s H E hr, ?_⟩
  · obtain ⟨b, G, ds, us, p, t, fp, P, q, rfl, g, r, _⟩ := h
    rw [List.length_append, r.len]
    exact len _ _ _ q
  · obtain ⟨b, G, ds, us, p, t, fp, P, q, rfl, g, r, tr, k⟩ := h
    have mm : ∀ a, a ∈ fp → G a = none ∧ b ≠ some a := fun a m => ⟨(tr.mem a m).1, (tr.mem a m).2.1⟩
    refine ⟨b, G, G, less H fp, _, _, spec ds t P p q, less_good g mm, ⟨G, Ex.rfl' _, less_stp g mm, env_startM r tr⟩, ⟨fun ρ σ H' hp a => ?_, fun _ _ _ z => z.elim, fun _ _ _ z => z.elim, fun _ _ _ _ _ z => z.elim, fun _ _ _ _ _ _ _ _ z => z.elim⟩⟩
    obtain ⟨t', et, hp⟩ := hp
    obtain ⟨G', _, s, E1⟩ := a
    obtain ⟨fps, h1, h2, _⟩ := E1.ex
    obtain ⟨v, ev, tr'⟩ := h1 _ _ et
    generalize hf : fps ds.length = fq at tr'
    cases tr' with
    | own tr2 =>
      refine k G' H' _ t' hp s tr2 fun a m => ?_
      have := (h2 ds.length a (by rw [hf]; exact m)).1
      by_cases c : a ∈ fp
      · exact .inl c
      · rw [less_out c] at this
        exact .inr this
structure CalM (P : Program) (w : World) (K : PySem.W.Frag) (mg : Str → Option Value) (base : Heap) (x : Str) (ps : List Str) (k : Nat) (S : SpecM) : Prop where
  ex : ∃ f fd, FnOk P w K mg base CX0 k f fd ps (spOfM K S) ∧ mg x = some (.ref f) ∧ PySem.W.keepIn K (.ref f) = true ∧ Binds K fd ps []
theorem CalM.mk' {x qual : Str} {ps : List Str} {k : Nat} {S : SpecM} {st : Stmt} {f : Addr} {fd : FuncData} (F : Fun K x qual st f fd) (h : FnOk P w K mg base CX0 k f fd ps (spOfM K S)) (m : mg x = some (.ref f)) (b : Binds K fd ps []) : CalM P w K mg base x ps k S := ⟨f, fd, h, m, F.kp, b⟩
end
/-! ### the call, as a statement of its own -/
/-- its arguments: settled ones, then the slot j -/
def aM (K : PySem.W.Frag) (mg : Str → Option Value) (E : SX) (ws : WA) (j : Nat) : TA := fun σ H Q => ∃ (b : Option Addr) (B G : Hp) (ρ : Rho) (xp : XP) (P : List PyData → Prop), ws xp ρ P ∧ Site K mg (E σ) b B G H σ ρ xp ∧
  ∀ (G' H' : Hp) (vs : List V) (ds : List PyData), P ds → Stp K b G H G' H' → RpAll b G' vs ds → ∃ v, σ[j]? = some (some v) ∧ Q (vs ++ [v]) H'
section
variable {X : Cx} {E : SX} {e : Expr} {es : List Expr} {w : WE} {ws : WA} {pos p q : Pos} {x : Str}
theorem PA.imp {t u : TA} (h : PA X es t) (k : ∀ σ H Q, u σ H Q → t σ H Q) : PA X es u := ⟨fun ps pins s σ H Q I q => h.run ps pins s σ H Q I (k σ H Q q)⟩
theorem am_last (j : Nat) {y : Str} (hN : X.N[j]? = some y := by rfl) (hv : Vis X.env.scope y := by first | exact Or.inl rfl | exact Or.inr (Or.inl rfl) | exact Or.inr (Or.inr rfl)) (hd : (y == ("__debug__" : Str)) = false := by decide) (hcd : (y == ("__classdict__" : Str)) = false := by decide) (hs : starEach [.Name y q] X.env = (false, eval (.Name y q) X.env) :: starEach [] X.env := by rfl) :
    PA X [.Name y q] (aM X.K X.mg E aNil j) := PA.imp (pa_cons (pe_var hN hv hd hcd) pa_nil hs) fun σ H Q ⟨b, B, G, ρ, xp, P, p, hr, k⟩ => by
  obtain ⟨v, ev, h⟩ := k G H [] [] p hr.good.stp .nil
  exact ⟨v, ev, h⟩
theorem am_cons {j : Nat} (ha : PE X e (tOf X.K X.mg E w)) (hb : PA X es (aM X.K X.mg E ws j)) (hs : starEach (e :: es) X.env = (false, eval e X.env) :: starEach es X.env := by rfl) : PA X (e :: es) (aM X.K X.mg E (aCons w ws) j) := PA.imp (pa_cons ha hb hs) fun σ H Q ⟨b, B, G, ρ, xp, P, p, hr, k⟩ => by
  refine tOfD_of ⟨b, B, G, ρ, xp, fun d => ws xp ρ fun ds => P (d :: ds), p, hr, fun G1 H1 x d p1 s1 hr1 rx => ?_⟩
  refine ⟨b, B, G1, ρ, xp, fun ds => P (d :: ds), p1, hr1, fun G2 H2 vs ds p2 s2 r2 => ?_⟩
  exact k G2 H2 _ _ p2 (s1.trans hr.good s2) (.cons (rx.mono s2.ex) r2)
def dCallM (S : SpecM) (ws : WA) (j : Nat) : WS := fun C ρ => ws (C.xc ρ) ρ fun ds => ∃ ts, ρ[j]? = some (some (.node ts)) ∧ S ds (.node ts) fun t' => C.nx (ρ.set j (some t'))
theorem s_callM {j k l : Nat} {ps : List Str} {S : SpecM} (C : CalM X.prog X.w X.K X.mg X.base x ps k S) (hr : Room l X.A) (ha : PA X (e :: es) (aM X.K X.mg E ws j)) (hg : Gl X x := by rfl) (hj : k ≤ l := by decide) (hdb : (x == ("__debug__" : Str)) = false := by decide) (he : starEach (e :: es) X.env = (false, eval e X.env) :: starEach es X.env := by rfl) (hpl : (backTo pos (starEach es X.env)).any (·.1) = false := by rfl)
    (hs : swapsWith (.Call (.Name x p) (e :: es) [] pos) none q.line X.env = pure false := by rfl) :
    PS X (.Expr (.Call (.Name x p) (e :: es) [] pos) q) (sOf X.K X.mg E (dCallM S ws j)) := by
  obtain ⟨f, fd, h, m, kp, bi⟩ := C.ex
  refine PS.of (ps_expr (pe_call (E := fun _ _ _ => False) h (hr.mono hj) hg m kp bi .nil pass0 ha hdb he hpl) hs) fun D σ H ⟨b, F, G0, H0, ρ, C, q, g0, a, eo⟩ => ?_
  obtain ⟨G, e1, s, hr⟩ := a.site g0 eo
  refine ⟨b, H0, G, ρ, C.xc ρ, _, q, hr, fun G1 H1 vs ds hp s1 r1 => ?_⟩
  obtain ⟨ts, et, hS⟩ := hp
  obtain ⟨hl, fps, h1, h2, h3⟩ := hr.env.stp s1
  obtain ⟨v, ev, tr⟩ := h1 j _ et
  have mm := h2 j
  generalize hf : fps j = fp at tr mm
  obtain ⟨p0, ep⟩ : ∃ p0, v = .ref p0 := by
    cases tr
    exact ⟨_, rfl⟩
  subst ep
  have g1 := s1.good
  have s01 := s.trans g0 s1
  refine ⟨_, ev, b, G1, ds, vs, p0, _, fp, _, hS, List.append_nil _, g1, r1, tr, fun G' H' fp' t' hP s2 tr' fr' => ?_⟩
  have fr0 : ∀ a, a ∈ fp → H0 a = none := fun a m => (mm a m).1
  have out2 : ∀ a o, a ∉ fp → G1 a = none → H1 a = some o → G' a = none := fun a o na n e => s2.out a o n (by rw [less_out na]; exact e)
  have keep2 : ∀ a o, a ∉ fp → b ≠ some a → H1 a = some o → H' a = some o := fun a o na c e => s2.keep a o c (by rw [less_out na]; exact e)
  refine eo.nx _ _ _ hP ⟨G', e1.trans (s1.ex.trans s2.ex), ⟨s01.ex.trans s2.ex, s2.good, fun a o c e => ?_, fun a o n e => ?_, fun a c => ?_⟩, ?_⟩
  · refine keep2 a o (fun z => ?_) c (s01.keep a o c e)
    rw [fr0 a z] at e
    cases e
  · obtain ⟨o', e'⟩ := s01.there g0 e
    refine out2 a o' (fun z => ?_) (s01.out a o n e) e'
    rw [fr0 a z] at e
    cases e
  · rw [s2.cel a c, ← s01.cel a c]
    exact boxc_eq (less_out fun z => (mm a z).2.2.1 c)
  · refine ⟨by rw [List.length_set]; exact hl, fun i => if i = j then fp' else fps i, fun i u e => ?_, fun i a m => ?_, fun i i' a n m => ?_⟩
    · by_cases c : i = j
      · subst c
        have hi : i < ρ.length := (List.getElem?_eq_some_iff.mp et).1
        rw [List.getElem?_set_self hi] at e
        cases e
        exact ⟨_, ev, by simp only [if_pos]; exact tr'⟩
      · rw [List.getElem?_set_ne (Ne.symm c)] at e
        obtain ⟨w, ew, q⟩ := h1 i u e
        refine ⟨w, ew, ?_⟩
        simp only [if_neg c]
        refine q.move s2.ex fun a m => ?_
        obtain ⟨_, gn, bn, o, eo'⟩ := h2 i a m
        have na : a ∉ fp := fun z => h3 i j a c m (by rw [hf]; exact z)
        exact ⟨out2 a o na gn eo', by rw [eo']; exact keep2 a o na bn eo'⟩
    · by_cases c : i = j
      · simp only [if_pos c] at m
        obtain ⟨gn, bn, o⟩ := tr'.mem a m
        refine ⟨?_, gn, bn, o⟩
        rcases fr' a m with z | z
        · exact fr0 a z
        · exact s01.free g0 z
      · simp only [if_neg c] at m
        obtain ⟨z0, gn, bn, o, eo'⟩ := h2 i a m
        have na : a ∉ fp := fun z => h3 i j a c m (by rw [hf]; exact z)
        exact ⟨z0, out2 a o na gn eo', bn, o, keep2 a o na bn eo'⟩
    · have key : ∀ i a, i ≠ j → a ∈ fps i → a ∉ fp' := fun i a c m m' => by
        obtain ⟨_, _, _, o, eo'⟩ := h2 i a m
        rcases fr' a m' with z | z
        · exact h3 i j a c m (by rw [hf]; exact z)
        · rw [eo'] at z
          cases z
      by_cases c : i = j
      · simp only [if_pos c] at m
        have c' : ¬ i' = j := fun z => n (c.trans z.symm)
        simp only [if_neg c']
        exact fun z => key i' a c' z m
      · simp only [if_neg c] at m
        by_cases c' : i' = j
        · simp only [if_pos c']
          exact key i a c m
        · simp only [if_neg c']
          exact h3 i i' a n m
/-! ### a named tree of the own slot, changed in place -/
def dOwn (i : Nat) (ws : WS) : WS := fun C ρ => match ρ[i]? with
  | some (some (.own p t)) => ws { nx := fun ρ' => ∃ t', ρ'[i]? = some (some t') ∧ C.nx (ρ'.set i (some (.own p t'))), rt := fun _ => False } (ρ.set i (some t))
  | _ => False
theorem env_own {b : Option Addr} {B G H : Hp} {σ : L2.St} {ρ : Rho} {i : Nat} {t t' : T} (E : Env b B G H σ ρ) (e : ρ[i]? = some (some t)) (h : ∀ fp v, σ[i]? = some (some v) → Tr b G H fp v t → Tr b G H fp v t') : Env b B G H σ (ρ.set i (some t')) := by
  obtain ⟨hl, fps, h1, h2, h3⟩ := E
  refine ⟨by rw [List.length_set]; exact hl, fps, fun j u q => ?_, h2, h3⟩
  by_cases c : j = i
  · subst c
    have hi : j < ρ.length := (List.getElem?_eq_some_iff.mp e).1
    rw [List.getElem?_set_self hi] at q
    cases q
    obtain ⟨v, ev, tr⟩ := h1 j t e
    exact ⟨v, ev, h _ _ ev tr⟩
  · rw [List.getElem?_set_ne (Ne.symm c)] at q
    exact h1 j u q
theorem own_lift {K : PySem.W.Frag} {mg : Str → Option Value} {i : Nat} {w : WS} {t : TS} (core : ∀ {D σ H}, sOf K mg E w D σ H → t D σ H) (ht : ∀ (D : Ends) σ H, t { D with nx := fun σ' H' => σ' = σ → D.nx σ H' } σ H → t D σ H) {D : Ends} {σ : L2.St} {H : Hp} (h : sOf K mg E (dOwn i w) D σ H) : t D σ H := by
  obtain ⟨b, F, G0, H0, ρ, C, q, g0, a, eo⟩ := h
  unfold dOwn at q
  split at q
  case h_2 => exact q.elim
  rename_i p u eu
  obtain ⟨G, e1, s, E1⟩ := a
  obtain ⟨_, fps0, k1, _, _⟩ := id E1
  obtain ⟨v0, ev0, tr0⟩ := k1 i _ eu
  have evp : σ[i]? = some (some (.ref p)) := by
    generalize fps0 i = fp0 at tr0
    cases tr0
    exact ev0
  have hi : i < ρ.length := (List.getElem?_eq_some_iff.mp eu).1
  refine ht D σ H (core ⟨b, F, G0, H0, _, _, q, g0, ⟨G, e1, s, env_own E1 eu fun fp v ev tr => by
    cases tr with
    | own h => exact h⟩, ⟨fun ρ' σ' H' hn a' => ?_, fun _ _ _ z => z.elim, fun _ _ _ z => z.elim, fun _ _ _ _ _ z => z.elim, fun _ _ _ _ _ _ _ _ z => z.elim⟩⟩)
  rintro rfl
  obtain ⟨t', et', hn⟩ := hn
  obtain ⟨G', e1', s', E1'⟩ := a'
  refine eo.nx _ _ _ hn ⟨G', e1', s', env_own E1' et' fun fp v ev tr => ?_⟩
  rw [evp] at ev
  cases ev
  exact .own tr
theorem asg_sub {te to ti : TE} {r : TSet} (D : Ends) (σ : L2.St) (H : Hp) (h : tAsg te (gSub to ti r) { D with nx := fun σ' H' => σ' = σ → D.nx σ H' } σ H) : tAsg te (gSub to ti r) D σ H := by
  have h2 := h
  simp only [tAsg, gSub, true_implies] at h2
  exact h2
theorem s_set2O (i : Nat) {e2 e3 : Expr} {w1 w2 we : WE} {tpos ipos : Pos} {kp : Pos} (h1 : PE X e2 (tOf X.K X.mg E w1)) (h2 : PE X e3 (tOf X.K X.mg E w2)) (he : PE X e (tOf X.K X.mg E we)) (hN : X.N[i]? = some x := by rfl) (hv : Vis X.env.scope x := by first | exact Or.inl rfl | exact Or.inr (Or.inl rfl) | exact Or.inr (Or.inr rfl)) (hd : (x == ("__debug__" : Str)) = false := by decide) (hcd : (x == ("__classdict__" : Str)) = false := by decide)
    (hpl : PlainIx e2 := by exact fun _ _ => rfl)
    (ha : ∀ v, assign (.Subscript (.Subscript (.Name x kp) e2 ipos) e3 tpos) X.env v = (do
      let ov ← holding [v] (eval (.Subscript (.Name x kp) e2 ipos) X.env)
      let iv ← holding [v, ov] (eval e3 X.env)
      standAt tpos
      holding [v, ov, iv] (setItem ov iv v)
      release [v, ov, iv] []) := by intro _; rfl)
    (hs : swapsWithSole [.Subscript (.Subscript (.Name x kp) e2 ipos) e3 tpos] e pos.line X.env = pure false := by rfl) (hw : swappedStores [.Subscript (.Subscript (.Name x kp) e2 ipos) e3 tpos] e X.env = pure none := by rfl) (h1' : (assignEach [.Subscript (.Subscript (.Name x kp) e2 ipos) e3 tpos] X.env).map (·.2) = [assign (.Subscript (.Subscript (.Name x kp) e2 ipos) e3 tpos) X.env] := by rfl) :
    PS X (.Assign [.Subscript (.Subscript (.Name x kp) e2 ipos) e3 tpos] e pos) (sOf X.K X.mg E (dOwn i (dSet2 i w1 w2 we))) :=
  PS.of (ps_asg he (pg_sub (pe_ix ix_list (pe_var hN hv hd hcd) h1 hpl) h2 set_list ha) hs hw h1') fun D σ H h => own_lift set2_core asg_sub h
end
theorem own_dat {p : Addr} {t : T} : (T.own p t).dat = t.dat := rfl
end Dd
/-! zip of a text (of plain signs) and a list; more texts: str(x), int(text), split, written tables. -/
namespace Dd
open PySem PySem.Spec PyProof.Rows L2
/-- the text's signs with the list's items -/
def ItzS (K : PySem.W.Frag) (x : Str) (b : Addr) : It :=
  ⟨fun i H => ∃ (ys : List V) (c : Nat) (y : V), SqL K H b ys ∧ x.cps[i]? = some c ∧ ys[i]? = some y,
    fun i H v H' => ∃ T c y, v = .ref T ∧ H T = none ∧ H' = upd H T (.tup [.str ⟨#[c]⟩, y]) ∧ x.cps[i]? = some c ∧ ∀ ys, SqL K H b ys → ys[i]? = some y,
    fun i H => ∃ ys : List V, SqL K H b ys ∧ i ≤ x.cps.size ∧ i ≤ ys.length ∧ (i = x.cps.size ∨ i = ys.length)⟩
theorem sep_S {n b : Nat} (hb : b < n) : ZipSep2 (n + 4) (n + 2) (n + 3) n (n + 1) [n] [n + 1, b] := by
  have m1 : ∀ {a c : Nat}, a ≠ c → a ∉ [c] := fun h z => h (List.mem_singleton.mp z)
  have m2 : ∀ {a c d : Nat}, a ≠ c → a ≠ d → a ∉ [c, d] := fun h k z => by
    rcases List.mem_cons.mp z with z | z
    · exact h z
    · exact k (List.mem_singleton.mp z)
  exact { TIz := Nat.ne_of_lt (by omega), TOz := Nat.ne_of_lt (by omega), TITO := Nat.ne_of_lt (by omega), TIi1 := Nat.ne_of_gt (by omega), mem1 := List.mem_singleton.mpr rfl, zf1 := m1 (Nat.ne_of_gt (by omega)), Tf1 := m1 (Nat.ne_of_gt (by omega)), TIi2 := Nat.ne_of_gt (by omega), mem2 := List.mem_cons_self .., zf2 := m2 (Nat.ne_of_gt (by omega)) (Nat.ne_of_gt (by omega)), Tf2 := m2 (Nat.ne_of_gt (by omega)) (Nat.ne_of_gt (by omega)), sep1_2 := m2 (Nat.ne_of_lt (by omega)) (Nat.ne_of_gt (by omega)), sep2_1 := m1 (Nat.ne_of_gt (by omega)) }
theorem turn_zipS {P : Program} {w : World} {K : PySem.W.Frag} {elts : List Expr} {kk : Nat} {tpos : Pos} {x : Str} {t : Tok} {b n : Nat} (hb : b < n) :
    Turn P w K (.Tuple elts kk tpos) (ItzS K x b) [n + 4, n + 2, n + 3, n, n + 1] (n + 4) (fun i h => IsZip h (n + 4) (n + 2) (n + 3) .none ∧ IsTupOf2 h (n + 2) (.ref n) (.ref (n + 1)) ∧ (∃ x y, IsTupOf2 h (n + 3) x y) ∧ h.IsStrIter n "str_ascii_iterator" x t i ∧ h.IsListIter (n + 1) b i) where
  mem := by simp
  obj := fun i h st c hc => by
    obtain ⟨hz, hTI, ⟨x, y, hTO⟩, ⟨o1, e1, _, d1⟩, ⟨o2, e2, _, d2⟩⟩ := st
    have e' : c = n + 4 ∨ c = n + 2 ∨ c = n + 3 ∨ c = n ∨ c = n + 1 := by simpa using hc
    rcases e' with q | q | q | q | q
    · rw [q]; exact ⟨_, hz, fun v q => nomatch q⟩
    · rw [q]; exact ⟨_, hTI, fun v q => nomatch q⟩
    · rw [q]; exact ⟨_, hTO, fun v q => nomatch q⟩
    · rw [q]; exact ⟨o1, e1, fun v q => by rw [d1] at q; cases q⟩
    · rw [q]; exact ⟨o2, e2, fun v q => by rw [d2] at q; cases q⟩
  keep := fun i h h' st k => by
    obtain ⟨hz, hTI, ⟨x, y, hTO⟩, ⟨o1, e1, r1⟩, h2⟩ := st
    exact ⟨k _ (by simp) _ hz, k _ (by simp) _ hTI, ⟨x, y, k _ (by simp) _ hTO⟩, ⟨o1, k _ (by simp) _ e1, r1⟩, h2.at fun o q => k _ (by simp) o q⟩
  item := by
    intro X hP hw hK hc i pins s σ H E I hf st hg
    subst hP hw hK
    obtain ⟨hz, hTI, ⟨x0, y0, hTO⟩, h1, h2⟩ := st
    obtain ⟨ys, c, y, hqy, hx, hy⟩ := hg
    obtain ⟨its2, rv2, p2, _⟩ := I.list hqy
    obtain ⟨u2, hu2, ru2⟩ := rv2.get hy
    have hh := I.ok.hd hc
    have hzl : (n : Nat) + 4 < s.heap.objs.size := Heap.lt_size hz
    have i1 : i < x.cps.size := (Array.getElem?_eq_some_iff.mp hx).1
    have i2 : i < its2.toArray.size := by
      have := (List.getElem?_eq_some_iff.mp hu2).1
      simpa using this
    refine wpAny_pyNext_zipD2_item (sep_S hb) (Draws.strAscii (A := X.A.in1) hh n x t) (Draws.list (A := X.A.in1) hh (n + 1) b (Nat.ne_of_lt (Nat.lt_succ_of_lt hb)) its2.toArray) hz hTI hTO h1 ⟨h2, p2.isList⟩ i1 i2 fun x1 x2 h' tk q1 q2 z' TO' h1' h2' hT hsz hk => ?_
    obtain ⟨c', t', hc', rfl⟩ := q1
    rw [hx] at hc'
    cases hc'
    have e2 : x2 = u2 := by
      have q2' : its2[i]? = some x2 := by simpa using q2
      rw [hu2] at q2'
      cases q2'
      rfl
    subst e2
    refine ⟨_, rfl, wpAny_letOwnedTupleGo_zip (s := { s with heap := h', toks := tk }) z' fun h'' z'' sb => ?_⟩
    have hT2 : h''.get? s.heap.objs.size = some { cls := .type "tuple", data := .seq #[.str ⟨#[c]⟩ t', x2] } := (sb.2 _ (Nat.ne_of_gt hzl)).trans hT
    have new : ObjOk X.prog X.w (upd H s.heap.objs.size (.tup [.str ⟨#[c]⟩, y])) h'' s.heap.objs.size (.tup [.str ⟨#[c]⟩, y]) :=
      ⟨by show 2 ≤ sizeLine; decide, [.str ⟨#[c]⟩ t', x2], .cons ⟨t', rfl⟩ (.cons ru2 .nil), ⟨_, hT2, rfl, _, rfl⟩⟩
    have I1 : Inv X pins σ (upd H s.heap.objs.size (.tup [.str ⟨#[c]⟩, y])) { s with heap := h'', toks := tk } :=
      I.turnedNew (t' := tk) (ch := [n + 4, n + 2, n + 3, n, n + 1]) (fun c o hb q => (sb.2 c (fun q' => hb (by simp [q']))).trans (hk c o (fun q' => hb (by simp [q'])) (fun q' => hb (by simp [q'])) (fun q' => hb (by simp [q'])) (fun q' => hb (by simp [q'])) q)) hf (Nat.le_refl _) new
    refine ⟨.ref s.heap.objs.size, _, I1, rfl, ⟨_, c, y, rfl, I.hok.fresh (Nat.le_refl _), rfl, hx, fun l hl => by rw [I.list_inj hl hqy]; exact hy⟩, ⟨z'', ?_, ⟨.str ⟨#[c]⟩ t', x2, ?_⟩, ?_, ?_⟩, fun c hcm => ?_⟩
    · exact (sb.2 _ (Nat.ne_of_lt (by omega))).trans (hk _ _ (Nat.ne_of_lt (by omega)) (Nat.ne_of_lt (by omega)) (Nat.ne_of_gt (by omega)) (Nat.ne_of_gt (by omega)) hTI)
    · exact (sb.2 _ (Nat.ne_of_lt (by omega))).trans TO'
    · obtain ⟨o1, e1, r1⟩ := h1'
      exact ⟨o1, (sb.2 _ (Nat.ne_of_lt (by omega))).trans e1, r1⟩
    · exact h2'.1.at fun o q => (sb.2 _ (Nat.ne_of_lt (by omega))).trans q
    · have hlt : c < s.heap.objs.size := by
        have e' : c = n + 4 ∨ c = n + 2 ∨ c = n + 3 ∨ c = n ∨ c = n + 1 := by simpa using hcm
        show (c : Nat) < s.heap.objs.size
        rcases e' with q | q | q | q | q
        · rw [q]; exact hzl
        · rw [q]; exact Nat.lt_of_le_of_lt (Nat.add_le_add_left (by decide : 2 ≤ 4) n) hzl
        · rw [q]; exact Nat.lt_of_le_of_lt (Nat.add_le_add_left (by decide : 3 ≤ 4) n) hzl
        · rw [q]; exact Nat.lt_of_le_of_lt (Nat.le_add_right n 4) hzl
        · rw [q]; exact Nat.lt_of_le_of_lt (Nat.add_le_add_left (by decide : 1 ≤ 4) n) hzl
      rw [upd_ne (Nat.ne_of_lt hlt)]
      exact (hf c hcm).1
  done := by
    intro X hP hw hK hc i pins s σ H E I hf st hg
    subst hP hw hK
    obtain ⟨hz, hTI, ⟨x0, y0, hTO⟩, h1, h2⟩ := st
    obtain ⟨ys, hqy, l1, l2, hend⟩ := hg
    obtain ⟨its2, rv2, p2, _⟩ := I.list hqy
    have e2 := rv2.length
    have hh := I.ok.hd hc
    exact wpAny_pyNext_zipD2_end (sep_S hb) (Draws.strAscii (A := X.A.in1) hh n x t) (Draws.list (A := X.A.in1) hh (n + 1) b (Nat.ne_of_lt (Nat.lt_succ_of_lt hb)) its2.toArray) hz hTI hTO h1 ⟨h2, p2.isList⟩ l1 (by simp; omega) (by simp; omega) fun h' tk hk => ⟨rfl, I.turnedL (t' := tk) (ch := [n + 4, n + 2, n + 3, n, n + 1]) (fun c o hb q =>
      hk c o (fun q' => hb (by simp [q'])) (fun q' => hb (by simp [q'])) (fun q' => hb (by simp [q'])) (fun q' => hb (by simp [q'])) q) hf⟩
  self := fun A i s Q E st h => wpAny_pyIter_zip st.1 h
def iZipS (K : PySem.W.Frag) (ta : TA) : TI := fun σ H R => ta σ H fun vs H1 => ∃ (x : Str) (b : Addr) (ys : List V), vs = [.str x, .ref b] ∧ x.cps.all (· < 128) = true ∧ SqL K H1 b ys ∧ R (ItzS K x b) H1
theorem pi_zipS {X : Cx} {e e2 : Expr} {ta : TA} {p pos tpos : Pos} {elts : List Expr} {kk : Nat} (hg : Gl X "zip") (hm : X.mg "zip" = none) (ha : PA X [e, e2] ta)
    (hs : starEach [e, e2] X.env = (false, eval e X.env) :: starEach [e2] X.env := by rfl) (hpl : (backTo pos (starEach [e2] X.env)).any (·.1) = false := by rfl) :
    PI X (.Tuple elts kk tpos) (.Call (.Name "zip" p) [e, e2] [] pos) (iZipS X.K ta) := by
  refine ⟨fun pins s σ H R I h => ?_⟩
  refine Call_ (ld_blt I hg hm PyProof.Rows.boot_zip (PyProof.Rows.callWith_type1 (thn (ha.run pos pins s σ H _ I h) fun us s1 ⟨vs, H1, I1, r1, q1⟩ => ?_) hs hpl))
  obtain ⟨x, b, ys, ex, ha, hqy, q⟩ := q1
  subst ex
  cases r1 with
  | cons r rr =>
    cases rr with
    | cons r' rr =>
      cases rr
      obtain ⟨t, rfl⟩ := r
      cases r'
      obtain ⟨its2, rv2, p2, _⟩ := I1.list hqy
      have lb : b < s1.heap.objs.size := p2.lt
      have ety : strIterType x = "str_ascii_iterator" := if_pos ha
      refine zip_begins2 (begins_text x t) (begins_list b its2.toArray) trivial p2.isList fun h' hz hTI hTO h1 h2 hsz hk => wpAny_pyIter_zip hz ?_
      have I2 : Inv X pins σ H1 { s1 with heap := h' } := I1.kept (t' := s1.toks) hk
      refine ⟨s1.heap.objs.size + 4, [s1.heap.objs.size + 4, s1.heap.objs.size + 2, s1.heap.objs.size + 3, s1.heap.objs.size, s1.heap.objs.size + 1], _, _, H1, rfl, I2, turn_zipS (x := x) (t := t) lb, ⟨hz, hTI, ⟨_, _, hTO⟩, ⟨_, h1, by rw [ety], rfl⟩, ⟨_, h2, rfl, rfl⟩⟩, fun c hcm => ?_, q⟩
      have e' : (c : Nat) = s1.heap.objs.size + 4 ∨ (c : Nat) = s1.heap.objs.size + 2 ∨ (c : Nat) = s1.heap.objs.size + 3 ∨ (c : Nat) = s1.heap.objs.size ∨ (c : Nat) = s1.heap.objs.size + 1 := by simpa using hcm
      have hle : s1.heap.objs.size ≤ c := by rcases e' with q | q | q | q | q <;> rw [q] <;> omega
      exact I1.fpOk hle (I1.hok.fresh hle)

/-! ### read as data -/
def zipSD : List Nat → List PyData → List PyData
  | c :: cs, y :: ys => .tuple [.str ⟨#[c]⟩, y] :: zipSD cs ys
  | _, _ => []
theorem zipSD_len : ∀ xs ys, (zipSD xs ys).length = min xs.length ys.length
  | [], _ => by simp [zipSD]
  | _ :: _, [] => by simp [zipSD]
  | x :: xs, y :: ys => by
    have := zipSD_len xs ys
    simp [zipSD, this]
    all_goals omega
theorem zipSD_get : ∀ (xs : List Nat) (ys : List PyData) (i : Nat) (x : Nat) (y : PyData), xs[i]? = some x → ys[i]? = some y → (zipSD xs ys)[i]? = some (.tuple [.str ⟨#[x]⟩, y])
  | [], _, _, _, _, h, _ => by simp at h
  | _ :: _, [], _, _, _, _, h => by simp at h
  | x :: xs, y :: ys, 0, _, _, h, k => by
    simp at h k
    subst h k
    rfl
  | x :: xs, y :: ys, i + 1, u, v, h, k => by
    show (zipSD xs ys)[i]? = _
    exact zipSD_get xs ys i u v (by simpa using h) (by simpa using k)
theorem walkD_zipS {K : PySem.W.Frag} {b : Option Addr} {F : Hp} {x : Str} {c : Addr} {ys : List V} {es : List PyData} (h' : F c = some (.lst ys)) (r' : RpAll b F ys es) : WalkD K b F (ItzS K x c) (zipSD x.cps.toList es) := by
  have l2 := r'.len
  have le := zipSD_len x.cps.toList es
  have ls : x.cps.toList.length = x.cps.size := Array.length_toList
  have at1 : ∀ {G H : Hp}, Ex F G → Good K b G H → SqL K H c ys := fun e g => .inl (.inl (g.ex _ _ (e _ _ h')))
  refine ⟨fun i G H hi e g => ?_, fun G H e g => ?_, fun i G H v H' hi e g y => ?_⟩
  · have k1 : i < x.cps.size := by omega
    have k2 : i < ys.length := by omega
    exact ⟨ys, x.cps[i], ys[i], at1 e g, Array.getElem?_eq_getElem k1, List.getElem?_eq_getElem k2⟩
  · exact ⟨ys, at1 e g, by omega, by omega, by omega⟩
  · obtain ⟨T, u, w, rfl, hT, rfl, f1, f2⟩ := y
    obtain ⟨d', q2, r2⟩ := r'.get' (f2 _ (at1 e g))
    obtain ⟨G', s, rr⟩ := pair_new g hT (.str ⟨#[u]⟩) (r2.mono e)
    exact ⟨G', _, zipSD_get _ _ i _ _ (by rw [Array.getElem?_toList]; exact f1) q2, s, rr⟩
section
variable {X : Cx} {E : SX} {e e2 : Expr} {ws : WA} {p pos tpos : Pos} {elts : List Expr} {kk : Nat}
def iZs (ws : WA) : WI := fun x ρ P => ws x ρ fun ds => ∃ (z : Str) (es : List PyData), ds = [.str z, .list es] ∧ z.cps.all (· < 128) = true ∧ P (zipSD z.cps.toList es)
theorem i_zipS (hm : X.mg "zip" = none) (ha : PA X [e, e2] (aOf X.K X.mg E ws)) (hg : Gl X "zip" := by rfl) (hs : starEach [e, e2] X.env = (false, eval e X.env) :: starEach [e2] X.env := by rfl) (hpl : (backTo pos (starEach [e2] X.env)).any (·.1) = false := by rfl) :
    PI X (.Tuple elts kk tpos) (.Call (.Name "zip" p) [e, e2] [] pos) (iOf X.K X.mg E (iZs ws)) := PI.of (pi_zipS hg hm ha hs hpl) fun σ H R ⟨b, B, G, ρ, xp, P, q, hr, k⟩ => by
  refine ⟨b, B, G, ρ, xp, _, q, hr, fun G1 H1 vs ds hp s1 r1 => ?_⟩
  obtain ⟨z, es, rfl, ha, hp⟩ := hp
  cases r1 with
  | cons ra rb =>
    cases ra
    cases rb with
    | cons rb rc =>
      cases rc
      cases rb with
      | lst h1 r2 => exact ⟨z, _, _, rfl, ha, .inl (.inl (s1.good.ex _ _ h1)), k G1 H1 _ _ hp s1 (walkD_zipS h1 r2)⟩
end
end Dd
/-! str(x), int(text), split, a module's texts and written tables. -/
namespace Dd
open PySem L2 TL
/-- str(x), x a number or a text -/
def cStr : CD := fun ds P => match ds with
  | [.int i] => i.natAbs < 2 ^ 1000 ∧ P (.leaf (.str (Str.ofString (toString i))))
  | [.str z] => P (.leaf (.str z))
  | _ => False
theorem e_stri {i : Int} {P : T → Prop} : cStr [.int i] P = (i.natAbs < 2 ^ 1000 ∧ P (.leaf (.str (Str.ofString (toString i))))) := rfl
theorem e_strs {z : Str} {P : T → Prop} : cStr [.str z] P = P (.leaf (.str z)) := rfl
theorem ok_strC {K : PySem.W.Frag} : CdOk K (fun xs H Q => (∃ i, xs = [.int i] ∧ i.natAbs.log2 < 1920 ∧ Q (.str (toString i)) H) ∨ ∃ a, xs = [.str a] ∧ Q (.str a) H) cStr := fun b G H vs ds P Q g r h k => by
  unfold cStr at h
  split at h
  · obtain ⟨hi, p⟩ := h
    cases r with
    | cons r1 r2 =>
      cases r2
      cases r1
      rename_i i
      refine .inl ⟨i, rfl, ?_, k.leaf g p (.str _)⟩
      by_cases c : i.natAbs = 0
      · rw [c]
        decide
      · exact Nat.lt_of_lt_of_le ((Nat.log2_lt c).mpr hi) (by decide)
  · cases r with
    | cons r1 r2 =>
      cases r2
      cases r1
      exact .inr ⟨_, rfl, k.leaf g h (.str _)⟩
  · exact h.elim
/-- int(text) -/
def cIntS : CD := fun ds P => ∃ a n, ds = [.str a] ∧ PySem.intText? a = some n ∧ a.length ≤ 640 ∧ P (int n)
theorem ok_intS {K : PySem.W.Frag} : CdOk K (fun xs H Q => ∃ a n, xs = [.str a] ∧ PySem.intText? a = some n ∧ a.length ≤ 640 ∧ Q (.int n) H) cIntS := fun b G H vs ds P Q g r h k => by
  obtain ⟨a, n, rfl, hn, hl, p⟩ := h
  cases r with
  | cons r1 r2 =>
    cases r2
    cases r1
    exact ⟨a, n, rfl, hn, hl, k.leaf g p (.int _)⟩
/-- a module's text -/
structure ConS (mg : Str → Option Value) (x z : Str) : Prop where
  ex : ∃ t, mg x = some (.str z t)
/-- a module's written table of texts -/
structure ConD (K : PySem.W.Frag) (w : World) (mg : Str → Option Value) (x : Str) (tab : List (Str × Str)) : Prop where
  ex : ∃ d es n, mg x = some (.ref d) ∧ KDict K w d es n ∧ ∀ z, (∀ v, tab.lookup z = some v → ∃ t, PySem.W.nsIn K d z = some (some (.str v t))) ∧ (tab.lookup z = none → PySem.W.nsIn K d z = some none)
section
variable {X : Cx} {E : SX} {e e2 : Expr} {w wa wb : WE} {ws : WA} {pos p p2 apos : Pos} {x : Str}
theorem d_strC (hm : X.mg "str" = none) (ha : PA X [e] (aOf X.K X.mg E ws)) (hg : Gl X "str" := by rfl) (he : starEach [e] X.env = (false, eval e X.env) :: starEach [] X.env := by rfl) (hpl : (backTo pos (starEach [] X.env)).any (·.1) = false := by rfl) : PE X (.Call (.Name "str" p) [e] [] pos) (tOf X.K X.mg E (dBlt cStr ws)) :=
  d_ty (call_str_int.or SkE.call_str_str) ok_strC hg hm (by decide +kernel) ha (by decide) (by decide) he hpl
theorem d_intS (hm : X.mg "int" = none) (ha : PA X [e] (aOf X.K X.mg E ws)) (hg : Gl X "int" := by rfl) (he : starEach [e] X.env = (false, eval e X.env) :: starEach [] X.env := by rfl) (hpl : (backTo pos (starEach [] X.env)).any (·.1) = false := by rfl) : PE X (.Call (.Name "int" p) [e] [] pos) (tOf X.K X.mg E (dBlt cIntS ws)) :=
  d_ty call_int_str ok_intS hg hm (by decide +kernel) ha (by decide) (by decide) he hpl
theorem d_conS {z : Str} (C : ConS X.mg x z) (hg : Gl X x := by rfl) (hd : (x == ("__debug__" : Str)) = false := by decide) : PE X (.Name x pos) (tOf X.K X.mg E (dC (.str z))) := by
  obtain ⟨t, h⟩ := C.ex
  exact PE.of (pe_glob (v := .str z) hg h ⟨t, rfl⟩ hd) fun σ H Q ⟨b, B, G, ρ, xp, P, p, hr, k⟩ => k.leaf hr.good p (.str z)
def dSplit (wa wb : WE) : WE := fun x ρ P => wa x ρ (asS fun a => wb x ρ (asS fun b => (b.length == 0) = false ∧ a.length ≤ lim ∧ P (.node ((strsD (Txt.split a b)).map .leaf))))
theorem d_split (ha : PE X e (tOf X.K X.mg E wa)) (hb : PE X e2 (tOf X.K X.mg E wb)) (hs : starEach [e2] X.env = [(false, eval e2 X.env)] := by rfl) (hbase : attributeBase e "split" X.env (eval e X.env) = eval e X.env := by rfl) (hline : (apos.endLine == pos.line) = true := by rfl) :
    PE X (.Call (.Attribute e "split" apos) [e2] [] pos) (tOf X.K X.mg E (dSplit wa wb)) := PE.of (pe_split ha hb hs hbase hline) fun σ H Q ⟨b, B, G, ρ, xp, P, p, hr, k⟩ => by
  refine ⟨b, B, G, ρ, xp, _, p, hr, fun G1 H1 v t fp ht s1 tr fr => ?_⟩
  unfold asS at ht
  split at ht
  · rename_i a
    cases tr with
    | leaf r =>
      cases r
      have hr1 := hr.stp s1
      refine ⟨⟨_, rfl⟩, b, B, G1, ρ, xp, _, ht, hr1, fun G2 H2 v t fp ht s2 tr fr => ?_⟩
      try dsimp only at ht
      split at ht
      · cases tr with
        | leaf r =>
          cases r
          obtain ⟨h0, hl, hp⟩ := ht
          refine ⟨a, _, rfl, rfl, h0, Nat.le_trans (Nat.add_le_add_right hl 2) (by decide), fun q hq => ?_⟩
          exact new_lst s2.good (rp_strs' _) hp ((k.stp hr.good s1).stp hr1.good s2) hq
      · exact ht.elim
  · exact ht.elim
/-- e in T, T a written table -/
def dInTab (neg : Bool) (tab : List (Str × Str)) (wa : WE) : WE := fun x ρ P => wa x ρ (asS fun z => P (boo (neg != (tab.lookup z).isSome)))
def dAtTab (tab : List (Str × Str)) (wa : WE) : WE := fun x ρ P => wa x ρ (asS fun z => ∃ v, tab.lookup z = some v ∧ P (.leaf (.str v)))
theorem tab_core {K : PySem.W.Frag} {mg : Str → Option Value} {neg : Bool} {d : Addr} {tab : List (Str × Str)} (hT : ∀ z, (∀ v, tab.lookup z = some v → ∃ t, PySem.W.nsIn K d z = some (some (.str v t))) ∧ (tab.lookup z = none → PySem.W.nsIn K d z = some none)) {σ : L2.St} {H : Hp} {Q : VK} (q : tOf K mg E (dInTab neg tab wa) σ H Q) :
    tOp (fun x y H Q => ∃ (z : Str) (r : Option Value), x = .str z ∧ y = .ref d ∧ PySem.W.nsIn K d z = some r ∧ Q (.bl (neg != r.isSome)) H) (tOf K mg E wa) (tC (.ref d)) σ H Q := by
  obtain ⟨b, B, G, ρ, xp, P, p, hr, k⟩ := q
  refine ⟨b, B, G, ρ, xp, _, p, hr, fun G1 H1 v t fp ht s1 tr fr => ?_⟩
  unfold asS at ht
  split at ht
  · rename_i z
    cases tr with
    | leaf r =>
      cases r
      have fin : ∀ k0 : Bool, k0 = (neg != (tab.lookup z).isSome) → Q (.bl k0) H1 := fun k0 e => by
        subst e
        exact (k.stp hr.good s1).leaf s1.good ht (.bl _)
      cases q : tab.lookup z with
      | none =>
        exact ⟨z, _, rfl, rfl, (hT z).2 q, fin _ (by rw [q] <;> rfl)⟩
      | some v =>
        obtain ⟨t, hv⟩ := (hT z).1 v q
        exact ⟨z, _, rfl, rfl, hv, fin _ (by rw [q] <;> rfl)⟩
  · exact ht.elim
theorem opr_in {d : Addr} {es : Array DictEntry} {n : Nat} (D : KDict X.K X.w d es n) : OpR X (compareOp .In) (fun x y H Q => ∃ (z : Str) (r : Option Value), x = .str z ∧ y = .ref d ∧ PySem.W.nsIn X.K d z = some r ∧ Q (.bl (false != r.isSome)) H) := fun pins s σ H x y v u Q I rx ry ⟨z, r, h1, h2, h3, h4⟩ => op_in_kd D pins s σ H x y v u Q I rx ry ⟨z, r, h1, h2, h3, by simpa using h4⟩
theorem opr_notIn {d : Addr} {es : Array DictEntry} {n : Nat} (D : KDict X.K X.w d es n) : OpR X (compareOp .NotIn) (fun x y H Q => ∃ (z : Str) (r : Option Value), x = .str z ∧ y = .ref d ∧ PySem.W.nsIn X.K d z = some r ∧ Q (.bl (true != r.isSome)) H) := fun pins s σ H x y v u Q I rx ry ⟨z, r, h1, h2, h3, h4⟩ => op_notIn_kd D pins s σ H x y v u Q I rx ry ⟨z, r, h1, h2, h3, by simpa using h4⟩
theorem d_inTab {tab : List (Str × Str)} (C : ConD X.K X.w X.mg x tab) (ha : PE X e (tOf X.K X.mg E wa)) (hg : Gl X x := by rfl) (hdb : (x == ("__debug__" : Str)) = false := by decide) (hmk : behindInMarks .In (.Name x p2) = false := by rfl) : PE X (.Compare e [.In] [.Name x p2] pos) (tOf X.K X.mg E (dInTab false tab wa)) := by
  obtain ⟨d, es, n, hm, D, hT⟩ := C.ex
  exact PE.of (pe_cmpR (opr_in D) ha (pe_glob (v := .ref d) hg hm rfl hdb) hmk) fun σ H Q q => tab_core hT q
theorem d_notInTab {tab : List (Str × Str)} (C : ConD X.K X.w X.mg x tab) (ha : PE X e (tOf X.K X.mg E wa)) (hg : Gl X x := by rfl) (hdb : (x == ("__debug__" : Str)) = false := by decide) (hmk : behindInMarks .NotIn (.Name x p2) = false := by rfl) : PE X (.Compare e [.NotIn] [.Name x p2] pos) (tOf X.K X.mg E (dInTab true tab wa)) := by
  obtain ⟨d, es, n, hm, D, hT⟩ := C.ex
  exact PE.of (pe_cmpR (opr_notIn D) ha (pe_glob (v := .ref d) hg hm rfl hdb) hmk) fun σ H Q q => tab_core hT q
theorem t_inTab {tab : List (Str × Str)} (C : ConD X.K X.w X.mg x tab) (ha : PE X e (tOf X.K X.mg E wa)) (hg : Gl X x := by rfl) (hdb : (x == ("__debug__" : Str)) = false := by decide) (hmk : behindInMarks .In (.Name x p2) = false := by rfl) : PT X (.Compare e [.In] [.Name x p2] pos) (ttOf X.K X.mg E (dTst (dInTab false tab wa))) := by
  obtain ⟨d, es, n, hm, D, hT⟩ := C.ex
  exact PT.of (pt_cmpR (opr_in D) ha (pe_glob (v := .ref d) hg hm rfl hdb) hmk) fun σ H Q q => tab_core hT (dtst_core q)
theorem t_notInTab {tab : List (Str × Str)} (C : ConD X.K X.w X.mg x tab) (ha : PE X e (tOf X.K X.mg E wa)) (hg : Gl X x := by rfl) (hdb : (x == ("__debug__" : Str)) = false := by decide) (hmk : behindInMarks .NotIn (.Name x p2) = false := by rfl) : PT X (.Compare e [.NotIn] [.Name x p2] pos) (ttOf X.K X.mg E (dTst (dInTab true tab wa))) := by
  obtain ⟨d, es, n, hm, D, hT⟩ := C.ex
  exact PT.of (pt_cmpR (opr_notIn D) ha (pe_glob (v := .ref d) hg hm rfl hdb) hmk) fun σ H Q q => tab_core hT (dtst_core q)
theorem d_atTab {tab : List (Str × Str)} (C : ConD X.K X.w X.mg x tab) (ha : PE X e (tOf X.K X.mg E wa)) (hg : Gl X x := by rfl) (hdb : (x == ("__debug__" : Str)) = false := by decide) (hs : PlainIx e := by exact fun _ _ => rfl) : PE X (.Subscript (.Name x p2) e pos) (tOf X.K X.mg E (dAtTab tab wa)) := by
  obtain ⟨d, es, n, hm, D, hT⟩ := C.ex
  refine PE.of (pe_ix ix_kdict (pe_glob (v := .ref d) hg hm rfl hdb) ha hs) fun σ H Q ⟨b, B, G, ρ, xp, P, p, hr, k⟩ => ?_
  refine ⟨b, B, G, ρ, xp, _, p, hr, fun G1 H1 v t fp ht s1 tr fr => ?_⟩
  unfold asS at ht
  split at ht
  · rename_i z
    cases tr with
    | leaf r =>
      cases r
      obtain ⟨v, hv, hp⟩ := ht
      obtain ⟨t, hn⟩ := (hT z).1 v hv
      exact ⟨d, z, .str v, rfl, rfl, ⟨es, n, _, D.at_, D.lit, hn, ⟨t, rfl⟩⟩, (k.stp hr.good s1).leaf s1.good hp (.str _)⟩
  · exact ht.elim
end
end Dd
namespace Dd
open PySem L2 TL
def rdNotInS : R2D := fun d e P => match d, e with
  | .str x, .str z => ∃ c, x = ⟨#[c]⟩ ∧ P (boo (!decide (c ∈ z.cps.toList)))
  | _, _ => False
theorem e_notInS {c : Nat} {z : Str} {P : T → Prop} : rdNotInS (.str ⟨#[c]⟩) (.str z) P = P (boo (!decide (c ∈ z.cps.toList))) := propext ⟨fun ⟨c', e, p⟩ => by cases e; exact p, fun p => ⟨c, rfl, p⟩⟩
theorem ok_notInS {K : PySem.W.Frag} : RdOk K (fun x y H Q => ∃ (c : Nat) (z : Str), x = .str ⟨#[c]⟩ ∧ y = .str z ∧ Q (.bl (!decide (c ∈ z.cps.toList))) H) rdNotInS := fun b G H x y d e P Q g rx ry h k => by
  unfold rdNotInS at h
  split at h
  · obtain ⟨c, rfl, p⟩ := h
    cases rx
    cases ry
    exact ⟨_, _, rfl, rfl, k G H _ _ [] p g.stp (.leaf (.bl _)) fun _ z => nomatch z⟩
  · exact h.elim
section
variable {X : Cx} {E : SX} {e e2 : Expr} {wa wb : WE} {pos : Pos}
theorem d_notInS (ha : PE X e (tOf X.K X.mg E wa)) (hb : PE X e2 (tOf X.K X.mg E wb)) (hm : behindInMarks .NotIn e2 = false := by rfl) : PE X (.Compare e [.NotIn] [e2] pos) (tOf X.K X.mg E (dOp rdNotInS wa wb)) := d_cmp op_notIn_sign ok_notInS ha hb hm
theorem t_notInS (ha : PE X e (tOf X.K X.mg E wa)) (hb : PE X e2 (tOf X.K X.mg E wb)) (hm : behindInMarks .NotIn e2 = false := by rfl) : PT X (.Compare e [.NotIn] [e2] pos) (ttOf X.K X.mg E (dTst (dOp rdNotInS wa wb))) := t_cmp op_notIn_sign ok_notInS ha hb hm
/-- over a text -/
theorem i_strD {tg : Expr} (h : PE X e (tOf X.K X.mg E wa)) : PI X tg e (iOf X.K X.mg E (iStrD wa)) := PI.of (pi_str h) fun σ H Q ⟨b, B, G, ρ, xp, P, p, hr, k⟩ => tOfD_of ⟨b, B, G, ρ, xp, fun d => match d with
  | .str z => P (z.cps.toList.map fun c => .str ⟨#[c]⟩)
  | _ => False, p, hr, fun G1 H1 v d hp s hr1 r => by
    try dsimp only at hp
    split at hp
    · cases r
      exact ⟨_, rfl, k G1 H1 _ _ hp s strD_walk⟩
    · exact hp.elim⟩
end
end Dd
namespace Dd
open PySem L2 TL
def entS (e : DictEntry) : Option (Str × Str) := match e.key, e.val with
  | .str k _, .str v _ => some (k, v)
  | _, _ => none
theorem ent_find {z : Str} : ∀ (l : List DictEntry) (tab : List (Str × Str)), l.map entS = tab.map some → (∀ v, tab.lookup z = some v → ∃ e t, l.find? (·.key.isStr z) = some e ∧ e.val = .str v t) ∧ (tab.lookup z = none → l.find? (·.key.isStr z) = none) ∧ l.any (·.refKey) = false
  | [], [], _ => ⟨fun _ h => (by cases h), fun _ => rfl, rfl⟩
  | [], _ :: _, h => by cases h
  | _ :: _, [], h => by cases h
  | e :: l, (k, v) :: tab, h => by
    injection h with h1 h2
    obtain ⟨i1, i2, i3⟩ := ent_find (z := z) l tab h2
    obtain ⟨hash, key, val⟩ := e
    unfold entS at h1
    obtain ⟨t, t', rfl, rfl⟩ : ∃ t t', key = .str k t ∧ val = .str v t' := by
      cases key <;> first
        | (cases val <;> first
            | (injection h1 with h1
               injection h1 with h3 h4
               subst h3 h4
               exact ⟨_, _, rfl, rfl⟩)
            | (cases h1))
        | (cases h1)
    by_cases c : k = z
    · subst c
      have b : (k == k) = true := by simp
      refine ⟨fun w hw => ⟨⟨hash, .str k t, .str v t'⟩, t', ?_, ?_⟩, fun hw => ?_, ?_⟩
      · rw [List.find?_cons_of_pos]
        exact b
      · rw [List.lookup_cons, b] at hw
        cases hw
        rfl
      · rw [List.lookup_cons, b] at hw
        cases hw
      · rw [List.any_cons, i3]
        rfl
    · have b : (z == k) = false := by simpa using fun h => c h.symm
      have b2 : (k == z) = false := by simpa using c
      refine ⟨fun w hw => ?_, fun hw => ?_, ?_⟩
      · rw [List.lookup_cons, b] at hw
        obtain ⟨e, t, h1, h2⟩ := i1 w hw
        refine ⟨e, t, ?_, h2⟩
        rw [List.find?_cons_of_neg]
        · exact h1
        · show ¬ ((k == z) = true)
          rw [b2]
          exact Bool.false_ne_true
      · rw [List.lookup_cons, b] at hw
        rw [List.find?_cons_of_neg]
        · exact i2 hw
        · show ¬ ((k == z) = true)
          rw [b2]
          exact Bool.false_ne_true
      · rw [List.any_cons, i3]
        rfl
theorem conD_of {K : PySem.W.Frag} {w : World} {mg : Str → Option Value} {x : Str} {tab : List (Str × Str)} {d : Addr} {es : Array DictEntry} {n : Nat} (hm : mg x = some (.ref d)) (D : KDict K w d es n) (h : es.toList.map entS = tab.map some) : ConD K w mg x tab := by
  refine ⟨d, es, n, hm, D, fun z => ?_⟩
  obtain ⟨i1, i2, i3⟩ := ent_find (z := z) _ _ h
  have e : PySem.W.nsIn K d z = (match es.toList.find? (·.key.isStr z) with
      | some e => some (some e.val)
      | none => if es.toList.any (·.refKey) then none else some none) := by
    unfold PySem.W.nsIn
    rw [D.at_] <;> rfl
  refine ⟨fun v hv => ?_, fun hv => ?_⟩
  · obtain ⟨en, t, h1, h2⟩ := i1 v hv
    exact ⟨t, by rw [e, h1]; show some (some en.val) = _; rw [h2]⟩
  · rw [e, i2 hv, i3]
    rfl
end Dd
/-! The store: objects by their addresses, each a tree; places within a tree. -/
namespace Dd
open PySem L2
abbrev Sto := Addr → Option T
def stput (m : Sto) (p : Addr) (t : T) : Sto := fun q => if q = p then some t else m q
def stdel (m : Sto) (p : Addr) : Sto := fun q => if q = p then none else m q
def SLe (m m' : Sto) : Prop := ∀ p t, m p = some t → m' p = some t
theorem SLe.rfl' (m : Sto) : SLe m m := fun _ _ e => e
theorem SLe.trans {a b c : Sto} (h : SLe a b) (k : SLe b c) : SLe a c := fun p t e => k p t (h p t e)
theorem stput_same {m : Sto} {p : Addr} {t : T} : stput m p t p = some t := if_pos rfl
theorem stput_ne {m : Sto} {p q : Addr} {t : T} (h : q ≠ p) : stput m p t q = m q := if_neg h
theorem stdel_same {m : Sto} {p : Addr} : stdel m p p = none := if_pos rfl
theorem stdel_ne {m : Sto} {p q : Addr} (h : q ≠ p) : stdel m p q = m q := if_neg h
theorem stput_put {m : Sto} {p : Addr} {t u : T} : stput (stput m p t) p u = stput m p u := by
  funext q
  unfold stput
  split <;> rfl
theorem stput_get {m : Sto} {p : Addr} {t : T} (h : m p = some t) : stput m p t = m := by
  funext q
  unfold stput
  split
  · rename_i e
    rw [e, h]
  · rfl
theorem stput_comm {m : Sto} {p q : Addr} {t u : T} (h : p ≠ q) : stput (stput m p t) q u = stput (stput m q u) p t := by
  funext a
  unfold stput
  by_cases c : a = q
  · rw [if_pos c, if_neg (fun z => h (z.symm.trans c)), if_pos c]
  · rw [if_neg c]
    by_cases c2 : a = p
    · rw [if_pos c2, if_pos c2]
    · rw [if_neg c2, if_neg c2, if_neg c]
theorem stdel_put {m : Sto} {p : Addr} {t : T} (h : m p = none) : stdel (stput m p t) p = m := by
  funext a
  unfold stdel stput
  by_cases c : a = p
  · rw [if_pos c, c, h]
  · rw [if_neg c, if_neg c]
theorem stdel_put_ne {m : Sto} {p q : Addr} {t : T} (h : p ≠ q) : stdel (stput m p t) q = stput (stdel m q) p t := by
  funext a
  by_cases c : a = q
  · rw [c, stdel_same, stput_ne (Ne.symm h), stdel_same]
  · by_cases c2 : a = p
    · rw [c2, stdel_ne h, stput_same, stput_same]
    · rw [stdel_ne c, stput_ne c2, stput_ne c2, stdel_ne c]

/-! ### slots, and a tree that stands beside them -/
structure EnvT (b : Option Addr) (B G H : Hp) (σ : L2.St) (ρ : Rho) (fv : List Addr) : Prop where
  len : σ.length = ρ.length
  ex : ∃ fps : Nat → List Addr, (∀ (i : Nat) t, ρ[i]? = some (some t) → ∃ v, σ[i]? = some (some v) ∧ Tr b G H (fps i) v t) ∧
    (∀ i a, a ∈ fps i → B a = none ∧ G a = none ∧ b ≠ some a ∧ (∃ o, H a = some o) ∧ a ∉ fv) ∧ ∀ i j a, i ≠ j → a ∈ fps i → a ∉ fps j
section
variable {K : PySem.W.Frag} {b : Option Addr} {B G H G' H' : Hp} {σ : L2.St} {ρ : Rho} {fv : List Addr}
theorem EnvT.env (E : EnvT b B G H σ ρ fv) : Env b B G H σ ρ := by
  obtain ⟨hl, fps, h1, h2, h3⟩ := E
  exact ⟨hl, fps, h1, fun i a m => let ⟨q1, q2, q3, q4, _⟩ := h2 i a m; ⟨q1, q2, q3, q4⟩, h3⟩
theorem Env.envT0 (E : Env b B G H σ ρ) : EnvT b B G H σ ρ [] := by
  obtain ⟨hl, fps, h1, h2, h3⟩ := E
  exact ⟨hl, fps, h1, fun i a m => let ⟨q1, q2, q3, q4⟩ := h2 i a m; ⟨q1, q2, q3, q4, fun z => nomatch z⟩, h3⟩
theorem Env.envT (E : Env b B G H σ ρ) (s : Stp K b G H G' H') (fr : ∀ a, a ∈ fv → H a = none) : EnvT b B G' H' σ ρ fv := by
  obtain ⟨hl, fps, h1, h2, h3⟩ := E
  have kk : ∀ i a, a ∈ fps i → G' a = none ∧ H' a = H a := fun i a m => by
    obtain ⟨_, g, c, o, e⟩ := h2 i a m
    exact ⟨s.out a o g e, by rw [e]; exact s.keep a o c e⟩
  refine ⟨hl, fps, fun i t e => ?_, fun i a m => ?_, h3⟩
  · obtain ⟨v, e1, tr⟩ := h1 i t e
    exact ⟨v, e1, tr.move s.ex fun a m => kk i a m⟩
  · obtain ⟨z, g, c, o, e⟩ := h2 i a m
    refine ⟨z, (kk i a m).1, c, ⟨o, by rw [(kk i a m).2]; exact e⟩, fun q => ?_⟩
    rw [fr a q] at e
    cases e
theorem EnvT.stp (E : EnvT b B G H σ ρ fv) (s : Stp K b G H G' H') : EnvT b B G' H' σ ρ fv := by
  obtain ⟨hl, fps, h1, h2, h3⟩ := E
  have kk : ∀ i a, a ∈ fps i → G' a = none ∧ H' a = H a := fun i a m => by
    obtain ⟨_, g, c, ⟨o, e⟩, _⟩ := h2 i a m
    exact ⟨s.out a o g e, by rw [e]; exact s.keep a o c e⟩
  refine ⟨hl, fps, fun i t e => ?_, fun i a m => ?_, h3⟩
  · obtain ⟨v, e1, tr⟩ := h1 i t e
    exact ⟨v, e1, tr.move s.ex fun a m => kk i a m⟩
  · obtain ⟨z, g, c, ⟨o, e⟩, n⟩ := h2 i a m
    exact ⟨z, (kk i a m).1, c, ⟨o, by rw [(kk i a m).2]; exact e⟩, n⟩
/-- the tree beside settles -/
theorem EnvT.settle (E : EnvT b B G H σ ρ fv) (g : Good K b G H) {v : V} {t : T} (tr : Tr b G H fv v t) : Good K b (addF G H fv) H ∧ Ex G (addF G H fv) ∧ Rp b (addF G H fv) v t.dat ∧ Env b B (addF G H fv) H σ ρ := by
  obtain ⟨hl, fps, h1, h2, h3⟩ := E
  have m := tr.mem
  have ex : Ex G (addF G H fv) := addF_ex fun a z => (m a z).1
  refine ⟨addF_good g fun a z => ⟨(m a z).1, (m a z).2.1⟩, ex, tr.settle ex fun a z => addF_in z, hl, fps, fun i u e => ?_, fun i a z => ?_, h3⟩
  · obtain ⟨w, e1, q⟩ := h1 i u e
    exact ⟨w, e1, q.move ex fun a z => ⟨by rw [addF_out (h2 i a z).2.2.2.2]; exact (h2 i a z).2.1, rfl⟩⟩
  · obtain ⟨q1, q2, q3, q4, q5⟩ := h2 i a z
    exact ⟨q1, by rw [addF_out q5]; exact q2, q3, q4⟩
theorem stp_addF {G0 H0 : Hp} (s : Stp K b G0 H0 G H) (g : Good K b (addF G H fv) H) (ex : Ex G (addF G H fv)) (hB : ∀ a, a ∈ fv → H0 a = none) : Stp K b G0 H0 (addF G H fv) H := by
  refine ⟨s.ex.trans ex, g, s.keep, fun a o n e => ?_, s.cel⟩
  have na : a ∉ fv := fun z => by
    rw [hB a z] at e
    cases e
  rw [addF_out na]
  exact s.out a o n e
/-- the tree beside goes to a slot -/
theorem EnvT.put (E : EnvT b B G H σ ρ fv) {v : V} {t : T} (tr : Tr b G H fv v t) (hB : ∀ a, a ∈ fv → B a = none) (i : Nat) : Env b B G H (σ.set i (some v)) (ρ.set i (some t)) := by
  obtain ⟨hl, fps, h1, h2, h3⟩ := E
  have mm := tr.mem
  refine ⟨by rw [List.length_set, List.length_set]; exact hl, fun j => if j = i then fv else fps j, fun j u e => ?_, fun j a m => ?_, fun j j' a n m => ?_⟩
  · by_cases c : j = i
    · subst c
      have hi : j < ρ.length := by
        have := (List.getElem?_eq_some_iff.mp e).1
        rw [List.length_set] at this
        exact this
      rw [List.getElem?_set_self hi] at e
      cases e
      exact ⟨v, by rw [List.getElem?_set_self (by rw [hl]; exact hi)], by simp only [if_pos]; exact tr⟩
    · rw [List.getElem?_set_ne (Ne.symm c)] at e ⊢
      obtain ⟨w, e1, q⟩ := h1 j u e
      exact ⟨w, e1, by simp only [if_neg c]; exact q⟩
  · by_cases c : j = i
    · simp only [if_pos c] at m
      exact ⟨hB a m, mm a m⟩
    · simp only [if_neg c] at m
      obtain ⟨q1, q2, q3, q4, _⟩ := h2 j a m
      exact ⟨q1, q2, q3, q4⟩
  · by_cases c : j = i
    · simp only [if_pos c] at m
      have c' : j' ≠ i := fun q => n (c.trans q.symm)
      simp only [if_neg c']
      exact fun q => (h2 j' a q).2.2.2.2 m
    · simp only [if_neg c] at m
      by_cases c' : j' = i
      · simp only [if_pos c']
        exact (h2 j a m).2.2.2.2
      · simp only [if_neg c']
        exact h3 j j' a n m
/-- the slot k changes its tree for one of the same value -/
theorem EnvT.swap {fq : List Addr} {v : V} {t : T} {k : Nat} (E : EnvT b B G H σ ρ fv) (ek : σ[k]? = some (some v)) (off : ∀ fps : Nat → List Addr, (∀ (i : Nat) t, ρ[i]? = some (some t) → ∃ v, σ[i]? = some (some v) ∧ Tr b G H (fps i) v t) →
    (∀ i a, a ∈ fps i → B a = none ∧ G a = none ∧ b ≠ some a ∧ (∃ o, H a = some o) ∧ a ∉ fv) → (∀ i j a, i ≠ j → a ∈ fps i → a ∉ fps j) →
    ∃ fp', Tr b G H' fp' v t ∧ (∀ a, a ∈ fp' → B a = none ∧ a ∉ fq ∧ (a ∈ fps k ∨ a ∈ fv)) ∧ (∀ j a, j ≠ k → a ∈ fps j → H' a = H a ∧ a ∉ fq)) : EnvT b B G H' σ (ρ.set k (some t)) fq := by
  obtain ⟨hl, fps, h1, h2, h3⟩ := E
  obtain ⟨fp', tr, q1, q2⟩ := off fps h1 h2 h3
  have mm := tr.mem
  refine ⟨by rw [List.length_set]; exact hl, fun j => if j = k then fp' else fps j, fun j u e => ?_, fun j a m => ?_, fun j j' a n m => ?_⟩
  · by_cases c : j = k
    · subst c
      have hi : j < ρ.length := by
        have := (List.getElem?_eq_some_iff.mp e).1
        rw [List.length_set] at this
        exact this
      rw [List.getElem?_set_self hi] at e
      cases e
      exact ⟨v, ek, by simp only [if_pos]; exact tr⟩
    · rw [List.getElem?_set_ne (Ne.symm c)] at e
      obtain ⟨w, e1, q⟩ := h1 j u e
      refine ⟨w, e1, ?_⟩
      simp only [if_neg c]
      exact q.move (Ex.rfl' _) fun a m => ⟨(h2 j a m).2.1, (q2 j a c m).1⟩
  · by_cases c : j = k
    · simp only [if_pos c] at m
      obtain ⟨g1, g2, g3⟩ := mm a m
      exact ⟨(q1 a m).1, g1, g2, g3, (q1 a m).2.1⟩
    · simp only [if_neg c] at m
      obtain ⟨g1, g2, g3, g4, _⟩ := h2 j a m
      exact ⟨g1, g2, g3, by rw [(q2 j a c m).1]; exact g4, (q2 j a c m).2⟩
  · have key : ∀ j a, j ≠ k → a ∈ fps j → a ∉ fp' := fun j a c m m' => by
      rcases (q1 a m').2.2 with z | z
      · exact h3 j k a c m z
      · exact (h2 j a m).2.2.2.2 z
    by_cases c : j = k
    · simp only [if_pos c] at m
      have c' : j' ≠ k := fun q => n (c.trans q.symm)
      simp only [if_neg c']
      exact fun q => key j' a c' q m
    · simp only [if_neg c] at m
      by_cases c' : j' = k
      · simp only [if_pos c']
        exact key j a c m
      · simp only [if_neg c']
        exact h3 j j' a n m
theorem tr_sto_v {fp : List Addr} {v : V} {m : Sto} (h : Tr b G H fp v (.sto m)) : v = .non := by
  cases h
  rfl
open Classical in
/-- an object of the store, to be changed -/
theorem EnvT.focus (E : EnvT b B G H σ ρ fv) {k : Nat} {m : Sto} {p : Addr} {t : T} (ek : ρ[k]? = some (some (.sto m))) (ep : m p = some t) : ∃ fp, Tr b G H fp (.ref p) t ∧ p ∈ fp ∧ (∀ a, a ∈ fp → B a = none ∧ G a = none ∧ b ≠ some a ∧ (∃ o, H a = some o) ∧ a ∉ fv) ∧
    ∀ (H' : Hp) (t' : T) (fp' : List Addr), (∀ a, a ∉ fp → a ∉ fv → H' a = H a) → p ∈ fp' → Tr b G H' fp' (.ref p) t' → (∀ a, a ∈ fp' → B a = none ∧ (a ∈ fp ∨ a ∈ fv)) → EnvT b B G H' σ (ρ.set k (some (.sto (stput m p t')))) (fv.filter fun a => decide (a ∉ fp')) := by
  obtain ⟨hl, fps, h1, h2, h3⟩ := id E
  obtain ⟨v, ev, tr⟩ := h1 k _ ek
  have hv := tr_sto_v tr
  subst hv
  generalize hf : fps k = fk at tr
  cases tr with
  | @sto _ _ fpm s0 s1 s2 s3 s4 =>
    refine ⟨fpm p, s1 p t ep, s0 p t ep, fun a ha => h2 k a (by rw [hf]; exact s2 p t a ep ha), fun H' t' fp' hH hp tr' sub => ?_⟩
    refine ⟨by rw [List.length_set]; exact hl, fun j => if j = k then fp' ++ fk.filter (fun a => decide (a ∉ fpm p)) else fps j, fun j u e => ?_, fun j a ma => ?_, fun j j' a n ma => ?_⟩
    · by_cases c : j = k
      · subst c
        have hi : j < ρ.length := (List.getElem?_eq_some_iff.mp ek).1
        rw [List.getElem?_set_self hi] at e
        cases e
        refine ⟨.non, ev, ?_⟩
        simp only [if_pos]
        refine .sto (fps := fun q => if q = p then fp' else fpm q) (fun q u eq => ?_) (fun q u eq => ?_) (fun q u a eq ha => ?_) (fun q q' u u' a n eq eq' ha => ?_) fun a ha => ?_
        · by_cases c : q = p
          · rw [if_pos c, c]
            exact hp
          · rw [stput_ne c] at eq
            rw [if_neg c]
            exact s0 q u eq
        · by_cases c : q = p
          · subst c
            rw [stput_same] at eq
            cases eq
            rw [if_pos rfl]
            exact tr'
          · rw [stput_ne c] at eq
            rw [if_neg c]
            refine (s1 q u eq).move (Ex.rfl' _) fun a ha => ⟨(h2 j a (by rw [hf]; exact s2 q u a eq ha)).2.1, hH a (fun z => s3 q p u t a c eq ep ha z) (h2 j a (by rw [hf]; exact s2 q u a eq ha)).2.2.2.2⟩
        · by_cases c : q = p
          · rw [if_pos c] at ha
            exact List.mem_append_left _ ha
          · rw [stput_ne c] at eq
            rw [if_neg c] at ha
            exact List.mem_append_right _ (List.mem_filter.mpr ⟨s2 q u a eq ha, decide_eq_true fun z => s3 q p u t a c eq ep ha z⟩)
        · have key : ∀ q u a, q ≠ p → m q = some u → a ∈ fpm q → a ∉ fp' := fun q u a c eq ha hz => by
            rcases (sub a hz).2 with z | z
            · exact s3 q p u t a c eq ep ha z
            · exact (h2 j a (by rw [hf]; exact s2 q u a eq ha)).2.2.2.2 z
          by_cases c : q = p
          · have c' : q' ≠ p := fun z => n (c.trans z.symm)
            rw [stput_ne c'] at eq'
            rw [if_pos c] at ha
            rw [if_neg c']
            exact fun z => key q' u' a c' eq' z ha
          · rw [stput_ne c] at eq
            rw [if_neg c] at ha
            by_cases c' : q' = p
            · rw [if_pos c']
              exact key q u a c eq ha
            · rw [stput_ne c'] at eq'
              rw [if_neg c']
              exact s3 q q' u u' a n eq eq' ha
        · rcases List.mem_append.mp ha with z | z
          · exact ⟨p, t', stput_same, by rw [if_pos rfl]; exact z⟩
          · obtain ⟨z1, z2⟩ := List.mem_filter.mp z
            obtain ⟨q, u, eq, hq⟩ := s4 a z1
            have c : q ≠ p := fun c => by
              subst c
              exact of_decide_eq_true z2 hq
            exact ⟨q, u, by rw [stput_ne c]; exact eq, by rw [if_neg c]; exact hq⟩
      · rw [List.getElem?_set_ne (Ne.symm c)] at e
        obtain ⟨w, e1, q⟩ := h1 j u e
        refine ⟨w, e1, ?_⟩
        simp only [if_neg c]
        exact q.move (Ex.rfl' _) fun a ma => ⟨(h2 j a ma).2.1, hH a (fun z => h3 j k a c ma (by rw [hf]; exact s2 p t a ep z)) (h2 j a ma).2.2.2.2⟩
    · by_cases c : j = k
      · simp only [if_pos c] at ma
        rcases List.mem_append.mp ma with z | z
        · obtain ⟨g1, g2, g3⟩ := tr'.mem a z
          refine ⟨(sub a z).1, g1, g2, g3, fun y => ?_⟩
          exact of_decide_eq_true (List.mem_filter.mp y).2 z
        · obtain ⟨z1, z2⟩ := List.mem_filter.mp z
          obtain ⟨g1, g2, g3, g4, g5⟩ := h2 k a (by rw [hf]; exact z1)
          exact ⟨g1, g2, g3, by rw [hH a (of_decide_eq_true z2) g5]; exact g4, fun y => g5 (List.mem_filter.mp y).1⟩
      · simp only [if_neg c] at ma
        obtain ⟨g1, g2, g3, g4, g5⟩ := h2 j a ma
        exact ⟨g1, g2, g3, by rw [hH a (fun z => h3 j k a c ma (by rw [hf]; exact s2 p t a ep z)) g5]; exact g4, fun y => g5 (List.mem_filter.mp y).1⟩
    · have key : ∀ j a, j ≠ k → a ∈ fps j → a ∉ fp' ++ fk.filter (fun a => decide (a ∉ fpm p)) := fun j a c ma mz => by
        rcases List.mem_append.mp mz with z | z
        · rcases (sub a z).2 with y | y
          · exact h3 j k a c ma (by rw [hf]; exact s2 p t a ep y)
          · exact (h2 j a ma).2.2.2.2 y
        · exact h3 j k a c ma (by rw [hf]; exact (List.mem_filter.mp z).1)
      by_cases c : j = k
      · simp only [if_pos c] at ma
        have c' : j' ≠ k := fun q => n (c.trans q.symm)
        simp only [if_neg c']
        exact fun q => key j' a c' q ma
      · simp only [if_neg c] at ma
        by_cases c' : j' = k
        · simp only [if_pos c']
          exact key j a c ma
        · simp only [if_neg c']
          exact h3 j j' a n ma
open Classical in
/-- an object goes out of the store -/
theorem Env.take_sto (E : Env b B G H σ ρ) {k : Nat} {m : Sto} {p : Addr} {t : T} (ek : ρ[k]? = some (some (.sto m))) (ep : m p = some t) : ∃ fp, Tr b G H fp (.ref p) t ∧ p ∈ fp ∧ (∀ a, a ∈ fp → B a = none) ∧ EnvT b B G H σ (ρ.set k (some (.sto (stdel m p)))) fp := by
  obtain ⟨hl, fps, h1, h2, h3⟩ := id E
  obtain ⟨v, ev, tr⟩ := h1 k _ ek
  have hv := tr_sto_v tr
  subst hv
  generalize hf : fps k = fk at tr
  cases tr with
  | @sto _ _ fpm s0 s1 s2 s3 s4 =>
    refine ⟨fpm p, s1 p t ep, s0 p t ep, fun a ha => (h2 k a (by rw [hf]; exact s2 p t a ep ha)).1, by rw [List.length_set]; exact hl, fun j => if j = k then fk.filter (fun a => decide (a ∉ fpm p)) else fps j, fun j u e => ?_, fun j a ma => ?_, fun j j' a n ma => ?_⟩
    · by_cases c : j = k
      · subst c
        have hi : j < ρ.length := (List.getElem?_eq_some_iff.mp ek).1
        rw [List.getElem?_set_self hi] at e
        cases e
        refine ⟨.non, ev, ?_⟩
        simp only [if_pos]
        refine .sto (fps := fpm) (fun q u eq => ?_) (fun q u eq => ?_) (fun q u a eq ha => ?_) (fun q q' u u' a n eq eq' ha => ?_) fun a ha => ?_
        · by_cases c : q = p
          · rw [c, stdel_same] at eq
            cases eq
          · rw [stdel_ne c] at eq
            exact s0 q u eq
        · by_cases c : q = p
          · rw [c, stdel_same] at eq
            cases eq
          · rw [stdel_ne c] at eq
            exact s1 q u eq
        · by_cases c : q = p
          · rw [c, stdel_same] at eq
            cases eq
          · rw [stdel_ne c] at eq
            exact List.mem_filter.mpr ⟨s2 q u a eq ha, decide_eq_true fun z => s3 q p u t a c eq ep ha z⟩
        · by_cases c : q = p
          · rw [c, stdel_same] at eq
            cases eq
          · by_cases c' : q' = p
            · rw [c', stdel_same] at eq'
              cases eq'
            · rw [stdel_ne c] at eq
              rw [stdel_ne c'] at eq'
              exact s3 q q' u u' a n eq eq' ha
        · obtain ⟨z1, z2⟩ := List.mem_filter.mp ha
          obtain ⟨q, u, eq, hq⟩ := s4 a z1
          have c : q ≠ p := fun c => by
            subst c
            exact of_decide_eq_true z2 hq
          exact ⟨q, u, by rw [stdel_ne c]; exact eq, hq⟩
      · rw [List.getElem?_set_ne (Ne.symm c)] at e
        obtain ⟨w, e1, q⟩ := h1 j u e
        exact ⟨w, e1, by simp only [if_neg c]; exact q⟩
    · by_cases c : j = k
      · simp only [if_pos c] at ma
        obtain ⟨z1, z2⟩ := List.mem_filter.mp ma
        obtain ⟨g1, g2, g3, g4⟩ := h2 k a (by rw [hf]; exact z1)
        exact ⟨g1, g2, g3, g4, of_decide_eq_true z2⟩
      · simp only [if_neg c] at ma
        obtain ⟨g1, g2, g3, g4⟩ := h2 j a ma
        exact ⟨g1, g2, g3, g4, fun z => h3 j k a c ma (by rw [hf]; exact s2 p t a ep z)⟩
    · have key : ∀ j a, j ≠ k → a ∈ fps j → a ∉ fk.filter (fun a => decide (a ∉ fpm p)) := fun j a c ma mz => h3 j k a c ma (by rw [hf]; exact (List.mem_filter.mp mz).1)
      by_cases c : j = k
      · simp only [if_pos c] at ma
        have c' : j' ≠ k := fun q => n (c.trans q.symm)
        simp only [if_neg c']
        exact fun q => key j' a c' q ma
      · simp only [if_neg c] at ma
        by_cases c' : j' = k
        · simp only [if_pos c']
          exact key j a c ma
        · simp only [if_neg c']
          exact h3 j j' a n ma
/-- an object goes into the store -/
theorem EnvT.give_sto (E : EnvT b B G H σ ρ fv) {k : Nat} {m : Sto} {p : Addr} {t : T} (ek : ρ[k]? = some (some (.sto m))) (tr' : Tr b G H fv (.ref p) t) (hp : p ∈ fv) (hB : ∀ a, a ∈ fv → B a = none) : m p = none ∧ Env b B G H σ (ρ.set k (some (.sto (stput m p t)))) := by
  obtain ⟨hl, fps, h1, h2, h3⟩ := id E
  obtain ⟨v, ev, tr⟩ := h1 k _ ek
  have hv := tr_sto_v tr
  subst hv
  generalize hf : fps k = fk at tr
  cases tr with
  | @sto _ _ fpm s0 s1 s2 s3 s4 =>
    have off : ∀ q u a, m q = some u → a ∈ fpm q → a ∉ fv := fun q u a eq ha => (h2 k a (by rw [hf]; exact s2 q u a eq ha)).2.2.2.2
    have np : m p = none := by
      cases eq : m p with
      | none => rfl
      | some u => exact absurd hp (off p u p eq (s0 p u eq))
    refine ⟨np, by rw [List.length_set]; exact hl, fun j => if j = k then fv ++ fk else fps j, fun j u e => ?_, fun j a ma => ?_, fun j j' a n ma => ?_⟩
    · by_cases c : j = k
      · subst c
        have hi : j < ρ.length := (List.getElem?_eq_some_iff.mp ek).1
        rw [List.getElem?_set_self hi] at e
        cases e
        refine ⟨.non, ev, ?_⟩
        simp only [if_pos]
        refine .sto (fps := fun q => if q = p then fv else fpm q) (fun q u eq => ?_) (fun q u eq => ?_) (fun q u a eq ha => ?_) (fun q q' u u' a n eq eq' ha => ?_) fun a ha => ?_
        · by_cases c : q = p
          · rw [if_pos c, c]
            exact hp
          · rw [stput_ne c] at eq
            rw [if_neg c]
            exact s0 q u eq
        · by_cases c : q = p
          · subst c
            rw [stput_same] at eq
            cases eq
            rw [if_pos rfl]
            exact tr'
          · rw [stput_ne c] at eq
            rw [if_neg c]
            exact s1 q u eq
        · by_cases c : q = p
          · rw [if_pos c] at ha
            exact List.mem_append_left _ ha
          · rw [stput_ne c] at eq
            rw [if_neg c] at ha
            exact List.mem_append_right _ (s2 q u a eq ha)
        · by_cases c : q = p
          · have c' : q' ≠ p := fun z => n (c.trans z.symm)
            rw [stput_ne c'] at eq'
            rw [if_pos c] at ha
            rw [if_neg c']
            exact fun z => off q' u' a eq' z ha
          · rw [stput_ne c] at eq
            rw [if_neg c] at ha
            by_cases c' : q' = p
            · rw [if_pos c']
              exact off q u a eq ha
            · rw [stput_ne c'] at eq'
              rw [if_neg c']
              exact s3 q q' u u' a n eq eq' ha
        · rcases List.mem_append.mp ha with z | z
          · exact ⟨p, t, stput_same, by rw [if_pos rfl]; exact z⟩
          · obtain ⟨q, u, eq, hq⟩ := s4 a z
            have c : q ≠ p := fun c => by
              rw [c, np] at eq
              cases eq
            exact ⟨q, u, by rw [stput_ne c]; exact eq, by rw [if_neg c]; exact hq⟩
      · rw [List.getElem?_set_ne (Ne.symm c)] at e
        obtain ⟨w, e1, q⟩ := h1 j u e
        exact ⟨w, e1, by simp only [if_neg c]; exact q⟩
    · by_cases c : j = k
      · simp only [if_pos c] at ma
        rcases List.mem_append.mp ma with z | z
        · exact ⟨hB a z, tr'.mem a z⟩
        · obtain ⟨g1, g2, g3, g4, _⟩ := h2 k a (by rw [hf]; exact z)
          exact ⟨g1, g2, g3, g4⟩
      · simp only [if_neg c] at ma
        obtain ⟨g1, g2, g3, g4, _⟩ := h2 j a ma
        exact ⟨g1, g2, g3, g4⟩
    · have key : ∀ j a, j ≠ k → a ∈ fps j → a ∉ fv ++ fk := fun j a c ma mz => by
        rcases List.mem_append.mp mz with z | z
        · exact (h2 j a ma).2.2.2.2 z
        · exact h3 j k a c ma (by rw [hf]; exact z)
      by_cases c : j = k
      · simp only [if_pos c] at ma
        have c' : j' ≠ k := fun q => n (c.trans q.symm)
        simp only [if_neg c']
        exact fun q => key j' a c' q ma
      · simp only [if_neg c] at ma
        by_cases c' : j' = k
        · simp only [if_pos c']
          exact key j a c ma
        · simp only [if_neg c']
          exact h3 j j' a n ma
end

/-! ### places within a tree -/
def T.kids : T → List T
  | .node ts => ts
  | .ins _ _ ts => ts
  | .dic _ ts => ts
  | .diT _ ts => ts
  | _ => []
def T.wk : T → List T → T
  | .node _, ts => .node ts
  | .ins C ks _, ts => .ins C ks ts
  | .dic ks _, ts => .dic ks ts
  | .diT ks _, ts => .diT ks ts
  | t, _ => t
def T.sub : T → List Nat → Option T
  | t, [] => some t
  | t, n :: r => match t.kids[n]? with
    | some u => u.sub r
    | none => none
def T.put : T → List Nat → T → T
  | _, [], u => u
  | t, n :: r, u => match t.kids[n]? with
    | some x => t.wk (t.kids.set n (x.put r u))
    | none => t
/-- the place n of what stands there -/
def child (o : Option HO) (n : Nat) : Option V := match o with
  | some (.lst vs) => vs[n]?
  | some (.ins _ _ us) => (us.map (·.2))[n]?
  | some (.dK us) => (us.map (·.2))[n]?
  | some (.dT us) => (us.map (·.2))[n]?
  | _ => none
def PathV (b : Option Addr) (H : Hp) : V → List Nat → V → Prop
  | v0, [], v => v = v0
  | v0, n :: r, v => ∃ a v1, v0 = .ref a ∧ b ≠ some a ∧ child (H a) n = some v1 ∧ PathV b H v1 r v
theorem PathV.det {b : Option Addr} {H : Hp} : ∀ {path : List Nat} {v0 v v' : V}, PathV b H v0 path v → PathV b H v0 path v' → v = v'
  | [], _, _, _, h, h' => h.trans h'.symm
  | n :: r, _, _, _, ⟨a, v1, e, _, c, h⟩, ⟨a', v1', e', _, c', h'⟩ => by
    subst e
    cases e'
    rw [c] at c'
    cases c'
    exact PathV.det h h'
theorem PathV.snoc {b : Option Addr} {H : Hp} {n : Nat} {a : Addr} {v : V} (nb : b ≠ some a) : ∀ {path : List Nat} {v0 : V}, PathV b H v0 path (.ref a) → child (H a) n = some v → PathV b H v0 (path ++ [n]) v
  | [], _, h, c => by
    have h : V.ref a = _ := h
    subst h
    exact ⟨a, v, rfl, nb, c, rfl⟩
  | m :: r, _, ⟨a', v1, e, n', c', h⟩, c => ⟨a', v1, e, n', c', PathV.snoc nb h c⟩
theorem PathV.keep {b : Option Addr} {H H' : Hp} (k : ∀ a o, b ≠ some a → H a = some o → H' a = some o) : ∀ {path : List Nat} {v0 v : V}, PathV b H v0 path v → PathV b H' v0 path v
  | [], _, _, h => h
  | n :: r, _, _, ⟨a, v1, e, nb, c, h⟩ => ⟨a, v1, e, nb, by
    cases q : H a with
    | none =>
      rw [q] at c
      cases c
    | some o =>
      rw [k a o nb q, ← q]
      exact c, PathV.keep k h⟩
theorem TrAll.focus {b : Option Addr} {G H : Hp} : ∀ {fp : List Addr} {vs : List V} {ts : List T} {n : Nat} {t1 : T}, TrAll b G H fp vs ts → ts[n]? = some t1 → ∃ v1 f1, vs[n]? = some v1 ∧ Tr b G H f1 v1 t1 ∧ (∀ a, a ∈ f1 → a ∈ fp) ∧
    ∀ (H' : Hp) (t1' : T) (f1' : List Addr), (∀ a, a ∈ fp → a ∉ f1 → H' a = H a) → Tr b G H' f1' v1 t1' → (∀ a, a ∈ f1' → a ∈ f1 ∨ a ∉ fp) → ∃ fp', TrAll b G H' fp' vs (ts.set n t1') ∧ (∀ a, a ∈ fp' → (a ∈ fp ∧ a ∉ f1) ∨ a ∈ f1') ∧ ∀ a, a ∈ f1' → a ∈ fp'
  | _, _, _, _, _, .nil, e => by simp at e
  | _, _, _, 0, t1, .cons (fp := f1) (fq := f2) tr r dj, e => by
    simp at e
    subst e
    refine ⟨_, f1, rfl, tr, fun a m => List.mem_append_left _ m, fun H' t1' f1' hH tr' sub => ?_⟩
    have d2 : ∀ a, a ∈ f2 → a ∉ f1 := fun a m z => dj a z m
    refine ⟨f1' ++ f2, .cons tr' (r.move (Ex.rfl' _) fun a m => ⟨(r.mem a m).1, hH a (List.mem_append_right _ m) (d2 a m)⟩) (fun a m z => ?_), fun a m => ?_, fun a m => List.mem_append_left _ m⟩
    · rcases sub a m with y | y
      · exact dj a y z
      · exact y (List.mem_append_right _ z)
    · rcases List.mem_append.mp m with z | z
      · exact .inr z
      · exact .inl ⟨List.mem_append_right _ z, d2 a z⟩
  | _, _, _, n + 1, t1, .cons (fp := f1) (fq := f2) tr r dj, e => by
    obtain ⟨v1, fu, h1, h2, h3, h4⟩ := TrAll.focus (n := n) r (by simpa using e)
    refine ⟨v1, fu, by simpa using h1, h2, fun a m => List.mem_append_right _ (h3 a m), fun H' t1' f1' hH tr' sub => ?_⟩
    obtain ⟨fp', g1, g2, g3⟩ := h4 H' t1' f1' (fun a m n => hH a (List.mem_append_right _ m) n) tr' fun a m => (sub a m).elim .inl fun z => .inr fun y => z (List.mem_append_right _ y)
    have nf : ∀ a, a ∈ f1 → a ∉ fu := fun a m z => dj a m (h3 a z)
    refine ⟨f1 ++ fp', .cons (tr.move (Ex.rfl' _) fun a m => ⟨(tr.mem a m).1, hH a (List.mem_append_left _ m) (nf a m)⟩) g1 (fun a m z => ?_), fun a m => ?_, fun a m => List.mem_append_right _ (g3 a m)⟩
    · rcases g2 a z with y | y
      · exact dj a m y.1
      · rcases sub a y with x | x
        · exact nf a m x
        · exact x (List.mem_append_left _ m)
    · rcases List.mem_append.mp m with z | z
      · exact .inl ⟨List.mem_append_left _ z, nf a z⟩
      · exact (g2 a z).elim (fun y => .inl ⟨List.mem_append_right _ y.1, y.2⟩) .inr
/-- a place, looked at and changed -/
theorem Tr.lens {b : Option Addr} {G H : Hp} : ∀ (path : List Nat) {fp : List Addr} {v0 : V} {t u : T}, Tr b G H fp v0 t → t.sub path = some u → ∃ v fu, PathV b H v0 path v ∧ Tr b G H fu v u ∧ (∀ a, a ∈ fu → a ∈ fp) ∧
    ∀ (H' : Hp) (u' : T) (fu' : List Addr), (∀ a, a ∈ fp → a ∉ fu → H' a = H a) → Tr b G H' fu' v u' → (∀ a, a ∈ fu' → a ∈ fu ∨ a ∉ fp) → ∃ fp', Tr b G H' fp' v0 (t.put path u') ∧ (∀ a, a ∈ fp' → (a ∈ fp ∧ a ∉ fu) ∨ a ∈ fu') ∧ (∀ a, a ∈ fu' → a ∈ fp') ∧ ∀ p, v0 = .ref p → (path = [] → p ∈ fu') → p ∈ fp'
  | [], fp, v0, t, u, tr, e => by
    have e : t = u := by simpa [T.sub] using e
    subst e
    exact ⟨v0, fp, rfl, tr, fun _ m => m, fun H' u' fu' hH tr' sub => ⟨fu', tr', fun a m => .inr m, fun a m => m, fun p _ h => h rfl⟩⟩
  | n :: r, fp, v0, t, u, tr, e => by
    cases tr with
    | leaf _ => simp [T.sub, T.kids] at e
    | own _ => simp [T.sub, T.kids] at e
    | sto _ _ _ _ _ => simp [T.sub, T.kids] at e
    | fro _ => simp [T.sub, T.kids] at e
    | eff _ _ _ => simp [T.sub, T.kids] at e
    | @node p f0 vs ts hp gp bp rr np =>
      unfold T.sub T.kids at e
      cases e1 : ts[n]? with
      | none => rw [e1] at e; cases e
      | some t1 =>
        rw [e1] at e
        obtain ⟨v1, f1, h1, h2, h3, h4⟩ := rr.focus e1
        obtain ⟨v, fu, k1, k2, k3, k4⟩ := Tr.lens r h2 e
        refine ⟨v, fu, ⟨p, v1, rfl, bp, by rw [hp]; exact h1, k1⟩, k2, fun a m => List.mem_cons_of_mem _ (h3 a (k3 a m)), fun H' u' fu' hH tr' sub => ?_⟩
        have hpu : p ∉ fu := fun z => np (h3 _ (k3 _ z))
        obtain ⟨f1', g1, g2, g3, _⟩ := k4 H' u' fu' (fun a m n => hH a (List.mem_cons_of_mem _ (h3 a m)) n) tr' fun a m => (sub a m).elim .inl fun z => .inr fun y => z (List.mem_cons_of_mem _ (h3 a y))
        obtain ⟨f0', j1, j2, j3⟩ := h4 H' _ f1' (fun a m n => hH a (List.mem_cons_of_mem _ m) fun z => n (k3 a z)) g1 fun a m => (g2 a m).elim (fun z => .inl z.1) fun z => (sub a z).elim (fun y => .inl (k3 a y)) fun y => .inr fun x => y (List.mem_cons_of_mem _ x)
        have npf : p ∉ f0' := fun z => (j2 _ z).elim (fun y => np y.1) fun y => (g2 _ y).elim (fun x => np (h3 _ x.1)) fun x => (sub _ x).elim hpu fun w => w (List.mem_cons_self ..)
        refine ⟨p :: f0', ?_, fun a m => ?_, fun a m => List.mem_cons_of_mem _ (j3 a (g3 a m)), fun q eq _ => by cases eq; exact List.mem_cons_self ..⟩
        · show Tr b G H' (p :: f0') (.ref p) (T.put (.node ts) (n :: r) u')
          unfold T.put
          simp only [T.kids, e1]
          exact .node (by rw [hH p (List.mem_cons_self ..) hpu]; exact hp) gp bp j1 npf
        · rcases List.mem_cons.mp m with z | z
          · subst z
            exact .inl ⟨List.mem_cons_self .., hpu⟩
          · rcases j2 a z with y | y
            · exact .inl ⟨List.mem_cons_of_mem _ y.1, fun x => y.2 (k3 a x)⟩
            · rcases g2 a y with x | x
              · exact .inl ⟨List.mem_cons_of_mem _ (h3 a x.1), x.2⟩
              · exact .inr x
    | @ins p dx C f0 us ks ts hp hx gp gx bp bx hk rr np nx ne =>
      unfold T.sub T.kids at e
      cases e1 : ts[n]? with
      | none => rw [e1] at e; cases e
      | some t1 =>
        rw [e1] at e
        obtain ⟨v1, f1, h1, h2, h3, h4⟩ := rr.focus e1
        obtain ⟨v, fu, k1, k2, k3, k4⟩ := Tr.lens r h2 e
        refine ⟨v, fu, ⟨p, v1, rfl, bp, by rw [hp]; exact h1, k1⟩, k2, fun a m => List.mem_cons_of_mem _ (List.mem_cons_of_mem _ (h3 a (k3 a m))), fun H' u' fu' hH tr' sub => ?_⟩
        have hpu : p ∉ fu := fun z => np (h3 _ (k3 _ z))
        have hxu : dx ∉ fu := fun z => nx (h3 _ (k3 _ z))
        have in2 : ∀ a, a ∈ f0 → a ∈ p :: dx :: f0 := fun a m => List.mem_cons_of_mem _ (List.mem_cons_of_mem _ m)
        have dxin : dx ∈ p :: dx :: f0 := List.mem_cons_of_mem _ (List.mem_cons_self ..)
        obtain ⟨f1', g1, g2, g3, _⟩ := k4 H' u' fu' (fun a m n => hH a (in2 a (h3 a m)) n) tr' fun a m => (sub a m).elim .inl fun z => .inr fun y => z (in2 a (h3 a y))
        obtain ⟨f0', j1, j2, j3⟩ := h4 H' _ f1' (fun a m n => hH a (in2 a m) fun z => n (k3 a z)) g1 fun a m => (g2 a m).elim (fun z => .inl z.1) fun z => (sub a z).elim (fun y => .inl (k3 a y)) fun y => .inr fun x => y (in2 a x)
        have npf : p ∉ f0' := fun z => (j2 _ z).elim (fun y => np y.1) fun y => (g2 _ y).elim (fun x => np (h3 _ x.1)) fun x => (sub _ x).elim hpu fun w => w (List.mem_cons_self ..)
        have nxf : dx ∉ f0' := fun z => (j2 _ z).elim (fun y => nx y.1) fun y => (g2 _ y).elim (fun x => nx (h3 _ x.1)) fun x => (sub _ x).elim hxu fun w => w dxin
        refine ⟨p :: dx :: f0', ?_, fun a m => ?_, fun a m => List.mem_cons_of_mem _ (List.mem_cons_of_mem _ (j3 a (g3 a m))), fun q eq _ => by cases eq; exact List.mem_cons_self ..⟩
        · show Tr b G H' (p :: dx :: f0') (.ref p) (T.put (.ins C ks ts) (n :: r) u')
          unfold T.put
          simp only [T.kids, e1]
          exact .ins (by rw [hH p (List.mem_cons_self ..) hpu]; exact hp) (by rw [hH dx dxin hxu]; exact hx) gp gx bp bx hk j1 npf nxf ne
        · rcases List.mem_cons.mp m with z | z
          · subst z
            exact .inl ⟨List.mem_cons_self .., hpu⟩
          · rcases List.mem_cons.mp z with z | z
            · subst z
              exact .inl ⟨dxin, hxu⟩
            · rcases j2 a z with y | y
              · exact .inl ⟨in2 a y.1, fun x => y.2 (k3 a x)⟩
              · rcases g2 a y with x | x
                · exact .inl ⟨in2 a (h3 a x.1), x.2⟩
                · exact .inr x
    | @dic p f0 us ks ts hp gp bp hk rr np =>
      unfold T.sub T.kids at e
      cases e1 : ts[n]? with
      | none => rw [e1] at e; cases e
      | some t1 =>
        rw [e1] at e
        obtain ⟨v1, f1, h1, h2, h3, h4⟩ := rr.focus e1
        obtain ⟨v, fu, k1, k2, k3, k4⟩ := Tr.lens r h2 e
        refine ⟨v, fu, ⟨p, v1, rfl, bp, by rw [hp]; exact h1, k1⟩, k2, fun a m => List.mem_cons_of_mem _ (h3 a (k3 a m)), fun H' u' fu' hH tr' sub => ?_⟩
        have hpu : p ∉ fu := fun z => np (h3 _ (k3 _ z))
        obtain ⟨f1', g1, g2, g3, _⟩ := k4 H' u' fu' (fun a m n => hH a (List.mem_cons_of_mem _ (h3 a m)) n) tr' fun a m => (sub a m).elim .inl fun z => .inr fun y => z (List.mem_cons_of_mem _ (h3 a y))
        obtain ⟨f0', j1, j2, j3⟩ := h4 H' _ f1' (fun a m n => hH a (List.mem_cons_of_mem _ m) fun z => n (k3 a z)) g1 fun a m => (g2 a m).elim (fun z => .inl z.1) fun z => (sub a z).elim (fun y => .inl (k3 a y)) fun y => .inr fun x => y (List.mem_cons_of_mem _ x)
        have npf : p ∉ f0' := fun z => (j2 _ z).elim (fun y => np y.1) fun y => (g2 _ y).elim (fun x => np (h3 _ x.1)) fun x => (sub _ x).elim hpu fun w => w (List.mem_cons_self ..)
        refine ⟨p :: f0', ?_, fun a m => ?_, fun a m => List.mem_cons_of_mem _ (j3 a (g3 a m)), fun q eq _ => by cases eq; exact List.mem_cons_self ..⟩
        · show Tr b G H' (p :: f0') (.ref p) (T.put (.dic ks ts) (n :: r) u')
          unfold T.put
          simp only [T.kids, e1]
          exact .dic (by rw [hH p (List.mem_cons_self ..) hpu]; exact hp) gp bp hk j1 npf
        · rcases List.mem_cons.mp m with z | z
          · subst z
            exact .inl ⟨List.mem_cons_self .., hpu⟩
          · rcases j2 a z with y | y
            · exact .inl ⟨List.mem_cons_of_mem _ y.1, fun x => y.2 (k3 a x)⟩
            · rcases g2 a y with x | x
              · exact .inl ⟨List.mem_cons_of_mem _ (h3 a x.1), x.2⟩
              · exact .inr x
    | @diT p f0 us ks ts hp gp bp hk rr np =>
      unfold T.sub T.kids at e
      cases e1 : ts[n]? with
      | none => rw [e1] at e; cases e
      | some t1 =>
        rw [e1] at e
        obtain ⟨v1, f1, h1, h2, h3, h4⟩ := rr.focus e1
        obtain ⟨v, fu, k1, k2, k3, k4⟩ := Tr.lens r h2 e
        refine ⟨v, fu, ⟨p, v1, rfl, bp, by rw [hp]; exact h1, k1⟩, k2, fun a m => List.mem_cons_of_mem _ (h3 a (k3 a m)), fun H' u' fu' hH tr' sub => ?_⟩
        have hpu : p ∉ fu := fun z => np (h3 _ (k3 _ z))
        obtain ⟨f1', g1, g2, g3, _⟩ := k4 H' u' fu' (fun a m n => hH a (List.mem_cons_of_mem _ (h3 a m)) n) tr' fun a m => (sub a m).elim .inl fun z => .inr fun y => z (List.mem_cons_of_mem _ (h3 a y))
        obtain ⟨f0', j1, j2, j3⟩ := h4 H' _ f1' (fun a m n => hH a (List.mem_cons_of_mem _ m) fun z => n (k3 a z)) g1 fun a m => (g2 a m).elim (fun z => .inl z.1) fun z => (sub a z).elim (fun y => .inl (k3 a y)) fun y => .inr fun x => y (List.mem_cons_of_mem _ x)
        have npf : p ∉ f0' := fun z => (j2 _ z).elim (fun y => np y.1) fun y => (g2 _ y).elim (fun x => np (h3 _ x.1)) fun x => (sub _ x).elim hpu fun w => w (List.mem_cons_self ..)
        refine ⟨p :: f0', ?_, fun a m => ?_, fun a m => List.mem_cons_of_mem _ (j3 a (g3 a m)), fun q eq _ => by cases eq; exact List.mem_cons_self ..⟩
        · show Tr b G H' (p :: f0') (.ref p) (T.put (.diT ks ts) (n :: r) u')
          unfold T.put
          simp only [T.kids, e1]
          exact .diT (by rw [hH p (List.mem_cons_self ..) hpu]; exact hp) gp bp hk j1 npf
        · rcases List.mem_cons.mp m with z | z
          · subst z
            exact .inl ⟨List.mem_cons_self .., hpu⟩
          · rcases j2 a z with y | y
            · exact .inl ⟨List.mem_cons_of_mem _ y.1, fun x => y.2 (k3 a x)⟩
            · rcases g2 a y with x | x
              · exact .inl ⟨List.mem_cons_of_mem _ (h3 a x.1), x.2⟩
              · exact .inr x
end Dd
/-! Expressions that change the store: readings, calls, methods, new objects. -/
namespace Dd
open PySem L2
/-- an expression that may change the slots' store -/
abbrev XE := (Rho → XP) → Rho → (T → Rho → Prop) → Prop
abbrev XA := (Rho → XP) → Rho → (List PyData → Rho → Prop) → Prop
abbrev XT := (Rho → XP) → Rho → (Bool → Rho → Prop) → Prop
structure SiteX (K : PySem.W.Frag) (mg : Str → Option Value) (E : XK) (b : Option Addr) (F G0 H0 G H : Hp) (σ : L2.St) (ρ : Rho) (xq : Rho → XP) : Prop where
  g0 : Good K b G0 H0
  ex : Ex F G
  st : Stp K b G0 H0 G H
  env : Env b H0 G H σ ρ
  xc : ∀ (ρ' : Rho) (n : Str) (pl : PyData) (C d : Addr) (G' H' : Hp), xq ρ' n pl → mg n = some (.ref C) → G' d = some (.xd (exF n pl)) → Ex F G' → Stp K b G0 H0 G' H' → Env b H0 G' H' σ ρ' → E (.ref C) (some d) H'
section
variable {K : PySem.W.Frag} {mg : Str → Option Value} {E : XK} {b : Option Addr} {F G0 H0 G H G' H' : Hp} {σ : L2.St} {ρ ρ' : Rho} {xq : Rho → XP}
theorem SiteX.good (h : SiteX K mg E b F G0 H0 G H σ ρ xq) : Good K b G H := h.st.good
theorem SiteX.site (h : SiteX K mg E b F G0 H0 G H σ ρ xq) : Site K mg E b H0 G H σ ρ (xq ρ) :=
  ⟨⟨h.st.good, h.env, fun a e => h.st.free h.g0 e⟩, fun n pl C d G' H' x m e s => h.xc ρ n pl C d G' H' x m e (h.ex.trans s.ex) (h.st.trans h.g0 s) (h.env.stp s)⟩
/-- what is settled here may be taken as what must stay -/
theorem SiteX.reF (h : SiteX K mg E b F G0 H0 G H σ ρ xq) : SiteX K mg E b G G0 H0 G H σ ρ xq := ⟨h.g0, Ex.rfl' _, h.st, h.env, fun ρ' n pl C d G' H' x m e f s E' => h.xc ρ' n pl C d G' H' x m e (h.ex.trans f) s E'⟩
theorem SiteX.unF {F' : Hp} (h : SiteX K mg E b F' G0 H0 G H σ ρ xq) (f : Ex F F') {xr : Rho → XP} {E2 : XK} (xc : ∀ (ρ' : Rho) (n : Str) (pl : PyData) (C d : Addr) (G' H' : Hp), xr ρ' n pl → mg n = some (.ref C) → G' d = some (.xd (exF n pl)) → Ex F G' → Stp K b G0 H0 G' H' → Env b H0 G' H' σ ρ' → E2 (.ref C) (some d) H') : SiteX K mg E2 b F G0 H0 G H σ ρ xr := ⟨h.g0, f.trans h.ex, h.st, h.env, xc⟩
theorem SiteX.stp (h : SiteX K mg E b F G0 H0 G H σ ρ xq) (s : Stp K b G H G' H') : SiteX K mg E b F G0 H0 G' H' σ ρ xq := ⟨h.g0, h.ex.trans s.ex, h.st.trans h.g0 s, h.env.stp s, h.xc⟩
theorem SiteX.to (h : SiteX K mg E b F G0 H0 G H σ ρ xq) (e : Ex F G') (s : Stp K b G0 H0 G' H') (E' : Env b H0 G' H' σ ρ') : SiteX K mg E b F G0 H0 G' H' σ ρ' xq := ⟨h.g0, e, s, E', h.xc⟩
end
/-- what is wanted of the value -/
def Ktx (K : PySem.W.Frag) (b : Option Addr) (F G0 H0 : Hp) (σ : L2.St) (P : T → Rho → Prop) (Q : VK) : Prop := ∀ (ρ' : Rho) (G' H' : Hp) (v : V) (t : T) (fv : List Addr), P t ρ' → Ex F G' → Stp K b G0 H0 G' H' → EnvT b H0 G' H' σ ρ' fv → Tr b G' H' fv v t → (∀ a, a ∈ fv → H0 a = none) → Q v H'
def xOf (K : PySem.W.Frag) (mg : Str → Option Value) (E : SX) (w : XE) : TE := fun σ H Q => ∃ (b : Option Addr) (F G0 H0 G : Hp) (ρ : Rho) (xq : Rho → XP) (P : T → Rho → Prop), w xq ρ P ∧ SiteX K mg (E σ) b F G0 H0 G H σ ρ xq ∧ Ktx K b F G0 H0 σ P Q
def xaOf (K : PySem.W.Frag) (mg : Str → Option Value) (E : SX) (w : XA) : TA := fun σ H Q => ∃ (b : Option Addr) (F G0 H0 G : Hp) (ρ : Rho) (xq : Rho → XP) (P : List PyData → Rho → Prop), w xq ρ P ∧ SiteX K mg (E σ) b F G0 H0 G H σ ρ xq ∧
  ∀ (ρ' : Rho) (G' H' : Hp) (vs : List V) (ds : List PyData), P ds ρ' → SiteX K mg (E σ) b F G0 H0 G' H' σ ρ' xq → Ex G G' → RpAll b G' vs ds → Q vs H'
def xtOf (K : PySem.W.Frag) (mg : Str → Option Value) (E : SX) (w : XT) : TT := fun σ H Q => ∃ (b : Option Addr) (F G0 H0 G : Hp) (ρ : Rho) (xq : Rho → XP) (P : Bool → Rho → Prop), w xq ρ P ∧ SiteX K mg (E σ) b F G0 H0 G H σ ρ xq ∧
  ∀ (ρ' : Rho) (G' H' : Hp) (k : Bool), P k ρ' → SiteX K mg (E σ) b F G0 H0 G' H' σ ρ' xq → Q k H'
/-- the value settles -/
theorem xOf_D {K : PySem.W.Frag} {mg : Str → Option Value} {E : SX} {w : XE} {σ : L2.St} {H : Hp} {Q : VK} {b : Option Addr} {F G0 H0 G : Hp} {ρ : Rho} {xq : Rho → XP} (P : PyData → Rho → Prop) (p : w xq ρ fun t ρ' => P t.dat ρ') (h : SiteX K mg (E σ) b F G0 H0 G H σ ρ xq)
    (k : ∀ (ρ' : Rho) (G' H' : Hp) (v : V) (d : PyData), P d ρ' → SiteX K mg (E σ) b F G0 H0 G' H' σ ρ' xq → Rp b G' v d → Q v H') : xOf K mg E w σ H Q :=
  ⟨b, F, G0, H0, G, ρ, xq, _, p, h, fun ρ' G' H' v t fv hp e s E' tr hB => by
    obtain ⟨g, ex, r, E2⟩ := E'.settle s.good tr
    exact k ρ' _ _ v _ hp (h.to (e.trans ex) (stp_addF s g ex hB) E2) r⟩
theorem Ktx.leaf {K : PySem.W.Frag} {mg : Str → Option Value} {E : XK} {b : Option Addr} {F G0 H0 G H : Hp} {σ : L2.St} {ρ : Rho} {xq : Rho → XP} {P : T → Rho → Prop} {Q : VK} (k : Ktx K b F G0 H0 σ P Q) (h : SiteX K mg E b F G0 H0 G H σ ρ xq) {v : V} {d : PyData} (p : P (.leaf d) ρ) (r : Rp b G v d) : Q v H :=
  k ρ G H v _ [] p h.ex h.st h.env.envT0 (.leaf r) fun _ z => nomatch z
section
variable {X : Cx} {E : SX} {e e2 o : Expr} {es : List Expr} {we wa wb : XE} {w : WE} {ws : WA} {xa : XA} {wt wu : XT} {pos p apos : Pos} {x : Str} {k : Nat}
theorem PE.imp {t u : TE} (h : PE X e t) (k : ∀ σ H Q, u σ H Q → t σ H Q) : PE X e u := ⟨fun pins s σ H Q I q => h.run pins s σ H Q I (k σ H Q q)⟩
theorem PT.imp {t u : TT} (h : PT X e t) (k : ∀ σ H Q, u σ H Q → t σ H Q) : PT X e u := ⟨fun pins s σ H Q I q => h.run pins s σ H Q I (k σ H Q q)⟩
theorem PW.imp {t u : TT} (h : PW X e t) (k : ∀ σ H Q, u σ H Q → t σ H Q) : PW X e u := ⟨fun wh pins s σ H Q I q => h.run wh pins s σ H Q I (k σ H Q q)⟩
/-- what changes nothing -/
def xPu (w : WE) : XE := fun x ρ P => w (x ρ) ρ fun t => P t ρ
theorem x_pu (h : PE X e (tOf X.K X.mg E w)) : PE X e (xOf X.K X.mg E (xPu w)) := PE.imp h fun σ H Q ⟨b, F, G0, H0, G, ρ, xq, P, p, hr, k⟩ =>
  ⟨b, H0, G, ρ, xq ρ, _, p, hr.site, fun G' H' v t fp hp s tr fr => k ρ G' H' v t fp hp (hr.ex.trans s.ex) (hr.st.trans hr.g0 s) (hr.env.envT s fr) tr fun a m => hr.st.free hr.g0 (fr a m)⟩
def xPuT (w : WT) : XT := fun x ρ P => w (x ρ) ρ fun t => P t ρ
theorem xt_pu {w : WT} (h : PT X e (ttOf X.K X.mg E w)) : PT X e (xtOf X.K X.mg E (xPuT w)) := PT.imp h fun σ H Q ⟨b, F, G0, H0, G, ρ, xq, P, p, hr, k⟩ =>
  ⟨b, H0, G, ρ, xq ρ, _, p, hr.site, fun G' H' c hp s => k ρ G' H' c hp (hr.stp s)⟩
def xPuA (ws : WA) : XA := fun x ρ P => ws (x ρ) ρ fun t => P t ρ
theorem xa_pu (h : PA X es (aOf X.K X.mg E ws)) : PA X es (xaOf X.K X.mg E (xPuA ws)) := PA.imp h fun σ H Q ⟨b, F, G0, H0, G, ρ, xq, P, p, hr, k⟩ =>
  ⟨b, H0, G, ρ, xq ρ, _, p, hr.site, fun G' H' vs ds hp s r => k ρ G' H' vs ds hp (hr.stp s) s.ex r⟩
end
/-- a promise of a function that changes the store -/
abbrev SpecX := List PyData → Sto → (T → Sto → Prop) → (Str → PyData → Sto → Prop) → Prop
def spOfX (K : PySem.W.Frag) (mg : Str → Option Value) (S : SpecX) : Sp := fun vs H Q E => ∃ (b : Option Addr) (G : Hp) (ds : List PyData) (m : Sto) (fs : List Addr) (P : T → Sto → Prop) (xp : Str → PyData → Sto → Prop), S ds m P xp ∧ Good K b G H ∧ RpAll b G vs ds ∧ Tr b G H fs .non (.sto m) ∧
  (∀ (G' H' : Hp) (v : V) (t : T) (m' : Sto) (fs' fv : List Addr), P t m' → Stp K b G (less H fs) G' H' → Tr b G' H' fs' .non (.sto m') → Tr b G' H' fv v t → (∀ a, a ∈ fs' → a ∉ fv) → (∀ a, a ∈ fs' ∨ a ∈ fv → a ∈ fs ∨ H a = none) → Q v H') ∧
  (∀ (n : Str) (pl : PyData) (C d : Addr) (G' H' : Hp) (m' : Sto) (fs' : List Addr), xp n pl m' → mg n = some (.ref C) → G' d = some (.xd (exF n pl)) → Stp K b G (less H fs) G' H' → Tr b G' H' fs' .non (.sto m') → (∀ a, a ∈ fs' → a ∈ fs ∨ H a = none) → E (.ref C) (some d) H')
section
variable {K : PySem.W.Frag} {mg : Str → Option Value} {E : XK} {b : Option Addr} {F G0 H0 G H G' H' : Hp} {σ : L2.St} {ρ : Rho} {xq : Rho → XP} {k : Nat} {m m' : Sto}
/-- back from a callee that had the store -/
theorem SiteX.back (h : SiteX K mg E b F G0 H0 G H σ ρ xq) (ek : ρ[k]? = some (some (.sto m))) : ∃ fs, Tr b G H fs .non (.sto m) ∧ ∀ (G' H' : Hp) (m' : Sto) (fs' fv : List Addr), Stp K b G (less H fs) G' H' → Tr b G' H' fs' .non (.sto m') → (∀ a, a ∈ fs' → a ∉ fv) → (∀ a, a ∈ fs' ∨ a ∈ fv → a ∈ fs ∨ H a = none) →
    Ex F G' ∧ Stp K b G0 H0 G' H' ∧ EnvT b H0 G' H' σ (ρ.set k (some (.sto m'))) fv ∧ ∀ a, a ∈ fv → H0 a = none := by
  obtain ⟨hl, fps, h1, h2, h3⟩ := id h.env
  obtain ⟨v, ev, tr⟩ := h1 k _ ek
  have hv := tr_sto_v tr
  subst hv
  have mm := h2 k
  generalize hf : fps k = fs at tr mm
  refine ⟨fs, tr, fun G' H' m' fs' fv s2 tr' dj fr => ?_⟩
  have out2 : ∀ a o, a ∉ fs → G a = none → H a = some o → G' a = none := fun a o na n e => s2.out a o n (by rw [less_out na]; exact e)
  have keep2 : ∀ a o, a ∉ fs → b ≠ some a → H a = some o → H' a = some o := fun a o na c e => s2.keep a o c (by rw [less_out na]; exact e)
  have fr0 : ∀ a, a ∈ fs → H0 a = none := fun a z => (mm a z).1
  have frv : ∀ a, a ∈ fs' ∨ a ∈ fv → H0 a = none := fun a z => (fr a z).elim (fr0 a) fun y => h.st.free h.g0 y
  have off : ∀ i a, i ≠ k → a ∈ fps i → a ∉ fs' ∧ a ∉ fv := fun i a c z => by
    obtain ⟨_, _, _, o, eo⟩ := h2 i a z
    have na : a ∉ fs := fun y => h3 i k a c z (by rw [hf]; exact y)
    have nn : ¬ H a = none := fun w => by
      rw [eo] at w
      cases w
    exact ⟨fun y => (fr a (.inl y)).elim na nn, fun y => (fr a (.inr y)).elim na nn⟩
  refine ⟨h.ex.trans s2.ex, ⟨h.st.ex.trans s2.ex, s2.good, fun a o c e => ?_, fun a o n e => ?_, fun a c => ?_⟩, ⟨by rw [List.length_set]; exact hl, fun i => if i = k then fs' else fps i, fun i u e => ?_, fun i a z => ?_, fun i i' a n z => ?_⟩, fun a z => frv a (.inr z)⟩
  · refine keep2 a o (fun z => ?_) c (h.st.keep a o c e)
    rw [fr0 a z] at e
    cases e
  · obtain ⟨o', e'⟩ := h.st.there h.g0 e
    refine out2 a o' (fun z => ?_) (h.st.out a o n e) e'
    rw [fr0 a z] at e
    cases e
  · rw [s2.cel a c, ← h.st.cel a c]
    exact boxc_eq (less_out fun z => (mm a z).2.2.1 c)
  · by_cases c : i = k
    · subst c
      have hi : i < ρ.length := (List.getElem?_eq_some_iff.mp ek).1
      rw [List.getElem?_set_self hi] at e
      cases e
      exact ⟨_, ev, by simp only [if_pos]; exact tr'⟩
    · rw [List.getElem?_set_ne (Ne.symm c)] at e
      obtain ⟨w, ew, q⟩ := h1 i u e
      refine ⟨w, ew, ?_⟩
      simp only [if_neg c]
      refine q.move s2.ex fun a z => ?_
      obtain ⟨_, gn, bn, o, eo⟩ := h2 i a z
      have na : a ∉ fs := fun y => h3 i k a c z (by rw [hf]; exact y)
      exact ⟨out2 a o na gn eo, by rw [eo]; exact keep2 a o na bn eo⟩
  · by_cases c : i = k
    · simp only [if_pos c] at z
      obtain ⟨g1, g2, g3⟩ := tr'.mem a z
      exact ⟨frv a (.inl z), g1, g2, g3, dj a z⟩
    · simp only [if_neg c] at z
      obtain ⟨z0, gn, bn, o, eo⟩ := h2 i a z
      have na : a ∉ fs := fun y => h3 i k a c z (by rw [hf]; exact y)
      exact ⟨z0, out2 a o na gn eo, bn, ⟨o, keep2 a o na bn eo⟩, (off i a c z).2⟩
  · by_cases c : i = k
    · simp only [if_pos c] at z
      have c' : ¬ i' = k := fun q => n (c.trans q.symm)
      simp only [if_neg c']
      exact fun q => (off i' a c' q).1 z
    · simp only [if_neg c] at z
      by_cases c' : i' = k
      · simp only [if_pos c']
        exact (off i a c z).1
      · simp only [if_neg c']
        exact h3 i i' a n z
/-- the promise, from a site -/
theorem SiteX.sp {S : SpecX} {P : T → Rho → Prop} {Q : VK} (h : SiteX K mg E b F G0 H0 G H σ ρ xq) (ek : ρ[k]? = some (some (.sto m))) {vs : List V} {ds : List PyData} (r : RpAll b G vs ds) (q : S ds m (fun t m' => P t (ρ.set k (some (.sto m')))) (fun n pl m' => xq (ρ.set k (some (.sto m'))) n pl)) (kk : Ktx K b F G0 H0 σ P Q) : spOfX K mg S vs H Q E := by
  obtain ⟨fs, tr, back⟩ := h.back ek
  refine ⟨b, G, ds, m, fs, _, _, q, h.good, r, tr, fun G' H' v t m' fs' fv hP s2 tr' tv dj fr => ?_, fun n pl C d G' H' m' fs' hx hm hd s2 tr' fr => ?_⟩
  · obtain ⟨e2, s3, E2, hB⟩ := back G' H' m' fs' fv s2 tr' dj fr
    exact kk _ G' H' v t fv hP e2 s3 E2 tv hB
  · obtain ⟨e2, s3, E2, hB⟩ := back G' H' m' fs' [] s2 tr' (fun _ _ z => nomatch z) fun a z => z.elim (fr a) fun y => nomatch y
    exact h.xc _ n pl C d G' H' hx hm hd e2 s3 E2.env
end
/-- a def that may be called by its name, changing the store -/
structure CalS (CX : CXT) (P : Program) (w : World) (K : PySem.W.Frag) (mg : Str → Option Value) (base : Heap) (x : Str) (ps : List Str) (k : Nat) (S : SpecX) : Prop where
  ex : ∃ f fd, FnOk P w K mg base CX k f fd ps (spOfX K mg S) ∧ mg x = some (.ref f) ∧ PySem.W.keepIn K (.ref f) = true ∧ Binds K fd ps []
theorem CalS.mk' {CX : CXT} {P : Program} {w : World} {K : PySem.W.Frag} {mg : Str → Option Value} {base : Heap} {x qual : Str} {ps : List Str} {k : Nat} {S : SpecX} {st : Stmt} {f : Addr} {fd : FuncData} (F : Fun K x qual st f fd) (h : FnOk P w K mg base CX k f fd ps (spOfX K mg S)) (m : mg x = some (.ref f)) (b : Binds K fd ps []) : CalS CX P w K mg base x ps k S := ⟨f, fd, h, m, F.kp, b⟩
/-- a method of the class at C: f stands there, its promise is sp -/
structure Mth (CX : CXT) (P : Program) (w : World) (K : PySem.W.Frag) (mg : Str → Option Value) (base : Heap) (C : Addr) (x : Str) (ps : List Str) (k : Nat) (sp : Sp) : Prop where
  ex : ∃ f fd, FnOk P w K mg base CX k f fd ps sp ∧ Meth K C x f ∧ Binds K fd ps []
  cls : Cls K C
abbrev MthS (CX : CXT) (P : Program) (w : World) (K : PySem.W.Frag) (mg : Str → Option Value) (base : Heap) (C : Addr) (x : Str) (ps : List Str) (k : Nat) (S : SpecX) : Prop := Mth CX P w K mg base C x ps k (spOfX K mg S)
abbrev MthP (CX : CXT) (P : Program) (w : World) (K : PySem.W.Frag) (mg : Str → Option Value) (base : Heap) (C : Addr) (x : Str) (ps : List Str) (k : Nat) (S : Spec) : Prop := Mth CX P w K mg base C x ps k (spOf K mg S)
/-- a class whose objects are made -/
structure MkS (CX : CXT) (P : Program) (w : World) (K : PySem.W.Frag) (mg : Str → Option Value) (base : Heap) (x : Str) (C : Addr) (ps : List Str) (k : Nat) (S : SpecX) : Prop where
  ex : ∃ f fd, FnOk P w K mg base CX k f fd ps (spOfX K mg S) ∧ Mk K C f ∧ Binds K fd ps []
  mg' : mg x = some (.ref C)
/-! ### calls -/
/-- the store at the slot k -/
def atSto (k : Nat) (ρ : Rho) (P : Sto → Prop) : Prop := ∃ m, ρ[k]? = some (some (.sto m)) ∧ P m
def xCall (k : Nat) (S : SpecX) (wa : XA) : XE := fun x ρ P => wa x ρ fun ds ρ1 => atSto k ρ1 fun m => S ds m (fun t m' => P t (ρ1.set k (some (.sto m')))) fun n pl m' => x (ρ1.set k (some (.sto m'))) n pl
/-- a function that changes nothing, its arguments may -/
def xCallP (S : Spec) (wa : XA) : XE := fun x ρ P => wa x ρ fun ds ρ1 => S ds (fun t => P t ρ1) (x ρ1)
section
variable {X : Cx} {E : SX} {e e2 o : Expr} {es : List Expr} {we wa wb wr : XE} {w : WE} {ws : WA} {xa : XA} {wt wu : XT} {pos p apos : Pos} {x : Str} {k j l : Nat} {ps : List Str} {S : SpecX} {SP : Spec} {C : Addr}
theorem xcall_core {E0 : XK} {σ : L2.St} {H : Hp} {Q : VK} (hE : E0 = E σ) (q : xOf X.K X.mg E (xCall k S xa) σ H Q) : xaOf X.K X.mg E xa σ H fun vs H1 => spOfX X.K X.mg S vs H1 Q E0 := by
  obtain ⟨b, F, G0, H0, G, ρ, xq, P, p, hr, kk⟩ := q
  refine ⟨b, F, G0, H0, G, ρ, xq, _, p, hr, fun ρ' G' H' vs ds hp hr1 _ r => ?_⟩
  obtain ⟨m, em, hS⟩ := hp
  rw [hE]
  exact hr1.sp em r hS kk
theorem x_call (Cc : CalS CX0 X.prog X.w X.K X.mg X.base x ps l S) (hr : Room j X.A) (ha : PA X (e :: es) (xaOf X.K X.mg E xa)) (hg : Gl X x := by rfl) (hj : l ≤ j := by decide) (hdb : (x == ("__debug__" : Str)) = false := by decide) (he : starEach (e :: es) X.env = (false, eval e X.env) :: starEach es X.env := by rfl) (hpl : (backTo pos (starEach es X.env)).any (·.1) = false := by rfl) :
    PE X (.Call (.Name x p) (e :: es) [] pos) (xOf X.K X.mg E (xCall k S xa)) := by
  obtain ⟨f, fd, h, m, kp, b⟩ := Cc.ex
  exact ⟨fun pins s σ H Q I q => (pe_call (E := E σ) h (hr.mono hj) hg m kp b .nil pass0 ha hdb he hpl).run pins s σ H Q I (by
    have := xcall_core (E0 := E σ) rfl q
    obtain ⟨b, F, G0, H0, G, ρ, xq, P, p, hr, kk⟩ := this
    exact ⟨b, F, G0, H0, G, ρ, xq, P, p, hr, fun ρ' G' H' vs ds hp hr1 e r => by
      show spOfX X.K X.mg S (vs ++ []) H' Q (E σ)
      rw [List.append_nil]
      exact kk ρ' G' H' vs ds hp hr1 e r⟩)⟩
theorem x_callX (Cc : CalS (L2.CX X.prog X.w) X.prog X.w X.K X.mg X.base x ps l S) (hr : Room j X.A) (tk : Takes X (wxOf E)) (ha : PA X (e :: es) (xaOf X.K X.mg E xa)) (hg : Gl X x := by rfl) (hj : l ≤ j := by decide) (hdb : (x == ("__debug__" : Str)) = false := by decide) (he : starEach (e :: es) X.env = (false, eval e X.env) :: starEach es X.env := by rfl) (hpl : (backTo pos (starEach es X.env)).any (·.1) = false := by rfl) :
    PE X (.Call (.Name x p) (e :: es) [] pos) (xOf X.K X.mg E (xCall k S xa)) := by
  obtain ⟨f, fd, h, m, kp, b⟩ := Cc.ex
  exact PE.imp (pe_callX h (hr.mono hj) hg m kp b tk ha hdb he hpl) fun σ H Q q => xcall_core rfl q
theorem xcallp_core {E0 : XK} {σ : L2.St} {H : Hp} {Q : VK} (hE : E0 = E σ) (q : xOf X.K X.mg E (xCallP SP xa) σ H Q) : xaOf X.K X.mg E xa σ H fun vs H1 => spOf X.K X.mg SP vs H1 Q E0 := by
  obtain ⟨b, F, G0, H0, G, ρ, xq, P, p, hr, kk⟩ := q
  refine ⟨b, F, G0, H0, G, ρ, xq, _, p, hr, fun ρ' G' H' vs ds hp hr1 _ r => ?_⟩
  rw [hE]
  exact ⟨b, G', ds, _, _, hp, hr1.good, r, fun G2 H2 v t fp hp2 s2 tr fr => kk ρ' G2 H2 v t fp hp2 (hr1.ex.trans s2.ex) (hr1.st.trans hr1.g0 s2) (hr1.env.envT s2 fr) tr fun a z => hr1.st.free hr1.g0 (fr a z), hr1.site.xc⟩
theorem x_callP (Cc : Cal X.prog X.w X.K X.mg X.base x ps l SP) (hr : Room j X.A) (ha : PA X (e :: es) (xaOf X.K X.mg E xa)) (hg : Gl X x := by rfl) (hj : l ≤ j := by decide) (hdb : (x == ("__debug__" : Str)) = false := by decide) (he : starEach (e :: es) X.env = (false, eval e X.env) :: starEach es X.env := by rfl) (hpl : (backTo pos (starEach es X.env)).any (·.1) = false := by rfl) :
    PE X (.Call (.Name x p) (e :: es) [] pos) (xOf X.K X.mg E (xCallP SP xa)) := by
  obtain ⟨f, fd, h, m, kp, b⟩ := Cc.ex
  exact ⟨fun pins s σ H Q I q => (pe_call (E := E σ) h (hr.mono hj) hg m kp b .nil pass0 ha hdb he hpl).run pins s σ H Q I (by
    have := xcallp_core (E0 := E σ) rfl q
    obtain ⟨b, F, G0, H0, G, ρ, xq, P, p, hr, kk⟩ := this
    exact ⟨b, F, G0, H0, G, ρ, xq, P, p, hr, fun ρ' G' H' vs ds hp hr1 e r => by
      show spOf X.K X.mg SP (vs ++ []) H' Q (E σ)
      rw [List.append_nil]
      exact kk ρ' G' H' vs ds hp hr1 e r⟩)⟩
/-- arguments, from the left -/
def xaCons (we : XE) (xa : XA) : XA := fun x ρ P => we x ρ fun t ρ1 => xa x ρ1 fun ds ρ2 => P (t.dat :: ds) ρ2
def xaNil : XA := fun _ ρ P => P [] ρ
theorem xa_nil : PA X [] (xaOf X.K X.mg E xaNil) := PA.imp pa_nil fun σ H Q ⟨b, F, G0, H0, G, ρ, xq, P, p, hr, kk⟩ => kk ρ G H [] [] p hr (Ex.rfl' _) .nil
theorem xa_cons (ha : PE X e (xOf X.K X.mg E we)) (hb : PA X es (xaOf X.K X.mg E xa)) (hs : starEach (e :: es) X.env = (false, eval e X.env) :: starEach es X.env := by rfl) : PA X (e :: es) (xaOf X.K X.mg E (xaCons we xa)) := PA.imp (pa_cons ha hb hs) fun σ H Q ⟨b, F, G0, H0, G, ρ, xq, P, p, hr, kk⟩ => by
  refine ⟨b, G, G0, H0, G, ρ, xq, _, p, hr.reF, fun ρ1 G1 H1 v t fv hp e1 s1 E1 tr hB => ?_⟩
  obtain ⟨g, ex, r, E2⟩ := E1.settle s1.good tr
  have hr1 := hr.reF.to (e1.trans ex) (stp_addF s1 g ex hB) E2
  exact ⟨b, addF G1 H1 fv, G0, H0, addF G1 H1 fv, ρ1, xq, fun ds ρ2 => P (t.dat :: ds) ρ2, hp, hr1.reF, fun ρ2 G2 H2 vs ds hp2 hr2 e2 r2 =>
    kk ρ2 G2 H2 _ _ hp2 (hr2.unF ((hr.ex.trans e1).trans ex) hr.xc) ((e1.trans ex).trans e2) (.cons (r.mono e2) r2)⟩
end
end Dd
/-! Methods, new objects, tests; the statements that change the store. -/
namespace Dd
open PySem L2
/-! ### methods that let exceptions out, with the slots as they stand -/
section
variable {X : Cx} {E : SX} {k : Nat} {f C : Addr} {fd : FuncData} {ps : List Str} {sp : Sp} {m : Str} {p pos apos : Pos} {e o : Expr} {es : List Expr} {ta : TE} {t : TA} {x : Str}
def tMethX (C : Addr) (m : Str) (sp : Sp) (E : SX) (ta : TE) (t : TA) : TE := fun σ H Q => ta σ H fun x H1 => ∃ a dx fs, x = .ref a ∧ H1 a = some (.ins C dx fs) ∧ fs.lookup m = none ∧ t σ H1 fun vs H2 => sp (x :: vs) H2 Q (E σ)
theorem pe_methX {pl : Sem Bool} (he : PE X o ta) (c : Cls X.K C) (hm : Meth X.K C m f) (F : FnOk X.prog X.w X.K X.mg X.base (L2.CX X.prog X.w) k f fd ps sp) (hr : Room k X.A) (hb : Binds X.K fd ps []) (tk : Takes X (wxOf E)) (ha : PA X (e :: es) t)
    (hst : starEach (e :: es) X.env = (false, eval e X.env) :: starEach es X.env := by rfl) (hpl : (backTo pos (starEach es X.env)).any (·.1) = false := by rfl)
    (ht : eval (.Call (.Attribute o m apos) (e :: es) [] pos) X.env = (do
      let ov ← eval o X.env
      standAt apos.atName
      let (f, first) ← holding [ov] (getMethod ov m pl)
      callWith pos f first (backTo pos (starEach (e :: es) X.env)) (backToKw pos (keywordEach [] X.env))) := by rfl) :
    PE X (.Call (.Attribute o m apos) (e :: es) [] pos) (tMethX C m sp E ta t) := by
  refine ⟨fun pins s σ H Q I h => ?_⟩
  refine PySem.W.methodCall_KW (pl := pl) (thn (he.run pins s σ H _ I h) fun u s1 ⟨x, H1, I1, rx, a, dx, fs, ex, ea, l, q⟩ => ?_) ht
  subst ex
  obtain rfl : u = Value.ref a := rx
  refine getmeth_ok I1 ea c hm l ?_
  refine PySem.W.callWith_K (first := [.ref a]) (h₀ := X.base) I.ok.mod.kin hm.kp (thn (ha.run pos pins s1 σ H1 _ I1 q) fun us s2 ⟨vs, H2, I2, r, q2⟩ => ⟨I2.kIn, ?_⟩) hst hpl
  exact run_fnX (us := .ref a :: us) (vs := .ref a :: vs) F hr hb tk I2 (.cons rfl r) q2
theorem pe_meth0X {pl : Sem Bool} (he : PE X o ta) (c : Cls X.K C) (hm : Meth X.K C m f) (F : FnOk X.prog X.w X.K X.mg X.base (L2.CX X.prog X.w) k f fd ps sp) (hr : Room k X.A) (hb : Binds X.K fd ps []) (tk : Takes X (wxOf E))
    (ht : eval (.Call (.Attribute o m apos) [] [] pos) X.env = (do
      let ov ← eval o X.env
      standAt apos.atName
      let (f, first) ← holding [ov] (getMethod ov m pl)
      callWith pos f first (backTo pos (starEach [] X.env)) (backToKw pos (keywordEach [] X.env))) := by rfl) :
    PE X (.Call (.Attribute o m apos) [] [] pos) (tMethX C m sp E ta tNil) := by
  refine ⟨fun pins s σ H Q I h => ?_⟩
  refine PySem.W.methodCall_KW (pl := pl) (thn (he.run pins s σ H _ I h) fun u s1 ⟨x, H1, I1, rx, a, dx, fs, ex, ea, l, q⟩ => ?_) ht
  subst ex
  obtain rfl : u = Value.ref a := rx
  refine getmeth_ok I1 ea c hm l ?_
  exact PySem.W.callWith_K0 (first := [.ref a]) I1.kIn hm.kp (run_fnX (us := [.ref a]) (vs := [.ref a]) F hr hb tk I1 (.cons rfl .nil) q)
/-- one word for both kinds of def -/
inductive Way (X : Cx) (E : SX) : CXT → Prop
  | calm : Way X E CX0
  | out (tk : Takes X (wxOf E)) : Way X E (L2.CX X.prog X.w)
theorem pe_methW {CX : CXT} {pl : Sem Bool} (W : Way X E CX) (he : PE X o ta) (c : Cls X.K C) (hm : Meth X.K C m f) (F : FnOk X.prog X.w X.K X.mg X.base CX k f fd ps sp) (hr : Room k X.A) (hb : Binds X.K fd ps []) (ha : PA X (e :: es) t)
    (hst : starEach (e :: es) X.env = (false, eval e X.env) :: starEach es X.env := by rfl) (hpl : (backTo pos (starEach es X.env)).any (·.1) = false := by rfl)
    (ht : eval (.Call (.Attribute o m apos) (e :: es) [] pos) X.env = (do
      let ov ← eval o X.env
      standAt apos.atName
      let (f, first) ← holding [ov] (getMethod ov m pl)
      callWith pos f first (backTo pos (starEach (e :: es) X.env)) (backToKw pos (keywordEach [] X.env))) := by rfl) :
    PE X (.Call (.Attribute o m apos) (e :: es) [] pos) (tMethX C m sp E ta t) := by
  cases W with
  | calm =>
    refine ⟨fun pins s σ H Q I q => (pe_meth (E := E σ) (pl := pl) he c hm F hr hb .nil pass0 ha hst hpl ht).run pins s σ H Q I ?_⟩
    have e : tMethX C m sp E ta t σ H Q = tMeth C m sp [] (E σ) ta t σ H Q := by
      unfold tMethX tMeth
      simp only [List.append_nil]
    rw [← e]
    exact q
  | out tk => exact pe_methX (pl := pl) he c hm F hr hb tk ha hst hpl ht
theorem pe_meth0W {CX : CXT} {pl : Sem Bool} (W : Way X E CX) (he : PE X o ta) (c : Cls X.K C) (hm : Meth X.K C m f) (F : FnOk X.prog X.w X.K X.mg X.base CX k f fd ps sp) (hr : Room k X.A) (hb : Binds X.K fd ps [])
    (ht : eval (.Call (.Attribute o m apos) [] [] pos) X.env = (do
      let ov ← eval o X.env
      standAt apos.atName
      let (f, first) ← holding [ov] (getMethod ov m pl)
      callWith pos f first (backTo pos (starEach [] X.env)) (backToKw pos (keywordEach [] X.env))) := by rfl) :
    PE X (.Call (.Attribute o m apos) [] [] pos) (tMethX C m sp E ta tNil) := by
  cases W with
  | calm =>
    refine ⟨fun pins s σ H Q I q => (pe_meth0 (E := E σ) (pl := pl) he c hm F hr hb .nil pass0 ht).run pins s σ H Q I ?_⟩
    have e : tMethX C m sp E ta tNil σ H Q = tMeth C m sp [] (E σ) ta tNil σ H Q := by
      unfold tMethX tMeth
      simp only [List.append_nil]
    rw [← e]
    exact q
  | out tk => exact pe_meth0X (pl := pl) he c hm F hr hb tk ht
theorem run_makeX {pins : List (Addr × Obj)} {σ : L2.St} {H : Hp} {s : Shared} {Q : VK} {us : List Value} {vs : List V} (M : Mk X.K C f) (F : FnOk X.prog X.w X.K X.mg X.base (L2.CX X.prog X.w) k f fd ps sp) (hr : Room (k + 1) X.A) (hb : Binds X.K fd ps []) (tk : Takes X (wxOf E))
    (I : Inv X pins σ H s) (r : Vals vs us)
    (h : ∀ x dx, H x = none → H dx = none → dx ≠ x → sp (.ref x :: vs) (upd (upd H dx (.own x)) x (.ins C dx [])) (fun v H2 => v = .non ∧ Q (.ref x) H2) (E σ)) :
    wpAny (model X.prog X.w) X.A (call (.ref C) us) (EP X pins σ Q) X.xe s := by
  have hq := h (s.heap.objs.size + 1) s.heap.objs.size (I.hok.fresh (Nat.le_succ _)) (I.hok.fresh (Nat.le_refl _)) (Nat.ne_of_lt (Nat.lt_succ_self _))
  have I2 := Inv.made (C := C) I
  have r2 : Vals (V.ref (s.heap.objs.size + 1) :: vs) (Value.ref (s.heap.objs.size + 1) :: us) := .cons rfl r
  have hl : (Value.ref (s.heap.objs.size + 1) :: us).length = ps.length := by
    have e := r2.length
    rw [F.len _ _ _ _ hq] at e
    exact e.symm
  have hb2 := hb _ (Value.ref (s.heap.objs.size + 1) :: us) I2.kIn (by rw [List.append_nil]; exact hl)
  rw [List.append_nil] at hb2
  refine wpAny_call (make_map (f := f) I.kIn M.makes M.init (beq_iff_eq.mp M.fn) (codeAny_mono (F.run _ X.stack _ _ ⟨Value.ref (s.heap.objs.size + 1) :: us, []⟩ (Value.ref (s.heap.objs.size + 1) :: us) _ _ (E σ) (hr.make C us [])
    (I2.env0.make C us []) hb2 r2 hq) fun r s' hq' => ?_))
  cases r with
  | error e => exact tk e s' (XE.of_call I2 (fun _ _ _ z => z) hq')
  | ok fl =>
    cases fl with
    | ret u =>
      obtain ⟨v, H', I3, rv, ev, q3⟩ := I2.after hq'
      subst ev
      exact ⟨rv, ⟨V.ref (s.heap.objs.size + 1), H', I3, rfl, q3⟩⟩
    | next => exact False.elim hq'
    | brk => exact False.elim hq'
    | cont => exact False.elim hq'
def tMakeX (C : Addr) (sp : Sp) (E : SX) (t : TA) : TE := fun σ H Q => t σ H fun vs H1 => ∀ x dx, H1 x = none → H1 dx = none → dx ≠ x → sp (.ref x :: vs) (upd (upd H1 dx (.own x)) x (.ins C dx [])) (fun v H2 => v = .non ∧ Q (.ref x) H2) (E σ)
theorem pe_makeW {CX : CXT} (W : Way X E CX) (M : Mk X.K C f) (F : FnOk X.prog X.w X.K X.mg X.base CX k f fd ps sp) (hr : Room (k + 1) X.A) (hg : Gl X x) (hm : X.mg x = some (.ref C)) (hb : Binds X.K fd ps [])
    (ha : PA X (e :: es) t) (hdb : (x == ("__debug__" : Str)) = false := by decide) (he : starEach (e :: es) X.env = (false, eval e X.env) :: starEach es X.env := by rfl) (hpl : (backTo pos (starEach es X.env)).any (·.1) = false := by rfl) :
    PE X (.Call (.Name x p) (e :: es) [] pos) (tMakeX C sp E t) := by
  cases W with
  | calm =>
    refine ⟨fun pins s σ H Q I q => (pe_make (E := E σ) M F hr hg hm hb .nil pass0 ha hdb he hpl).run pins s σ H Q I ?_⟩
    have e : tMakeX C sp E t σ H Q = tMake C sp [] (E σ) t σ H Q := by
      unfold tMakeX tMake
      simp only [List.append_nil]
    rw [← e]
    exact q
  | out tk =>
    refine ⟨fun pins s σ H Q I h => ?_⟩
    refine wpAny_Call_Name_kw (ld_glob I hg hm ?_ hdb)
    refine PySem.W.callWith_K (h₀ := X.base) I.ok.mod.kin M.kp (thn (ha.run pos pins s σ H _ I h) fun us s1 ⟨vs, H1, I1, r, q⟩ => ⟨I1.kIn, ?_⟩) he hpl
    exact run_makeX M F hr hb tk I1 r q
theorem pe_make0W {CX : CXT} (W : Way X E CX) (M : Mk X.K C f) (F : FnOk X.prog X.w X.K X.mg X.base CX k f fd ps sp) (hr : Room (k + 1) X.A) (hg : Gl X x) (hm : X.mg x = some (.ref C)) (hb : Binds X.K fd ps [])
    (hdb : (x == ("__debug__" : Str)) = false := by decide) : PE X (.Call (.Name x p) [] [] pos) (tMakeX C sp E tNil) := by
  cases W with
  | calm =>
    refine ⟨fun pins s σ H Q I q => (pe_make0 (E := E σ) M F hr hg hm hb .nil pass0 hdb).run pins s σ H Q I ?_⟩
    have e : tMakeX C sp E tNil σ H Q = tMake C sp [] (E σ) tNil σ H Q := by
      unfold tMakeX tMake
      simp only [List.append_nil]
    rw [← e]
    exact q
  | out tk =>
    refine ⟨fun pins s σ H Q I h => ?_⟩
    refine wpAny_Call_Name_kw (ld_glob I hg hm ?_ hdb)
    exact PySem.W.callWith_K0 I.kIn M.kp (run_makeX (us := []) M F hr hb tk I .nil h)
end
/-! ### data of instances -/
theorem insD_inj {C C' : Addr} {fs fs' : List (Str × PyData)} (h : insD C fs = insD C' fs') : C = C' ∧ fs = fs' := by
  simp only [PyData.dict.injEq, List.cons.injEq, Prod.mk.injEq, PyData.int.injEq, true_and] at h
  refine ⟨Int.ofNat.inj h.1, ?_⟩
  have h2 := h.2
  clear h
  induction fs generalizing fs' with
  | nil =>
    cases fs' with
    | nil => rfl
    | cons _ _ => cases h2
  | cons a r ih =>
    cases fs' with
    | nil => cases h2
    | cons a' r' =>
      simp only [List.map_cons, List.cons.injEq, Prod.mk.injEq, PyData.str.injEq] at h2
      obtain ⟨⟨e1, e2⟩, e3⟩ := h2
      rw [ih e3, show a = a' from Prod.ext e1 e2]
theorem rp_ins {b : Option Addr} {G : Hp} {v : V} {C : Addr} {fs : List (Str × PyData)} (h : Rp b G v (insD C fs)) : ∃ a dx us, v = .ref a ∧ G a = some (.ins C dx us) ∧ G dx = some (.own a) ∧ us.map (·.1) = fs.map (·.1) ∧ RpAll b G (us.map (·.2)) (fs.map (·.2)) := by
  generalize eD : insD C fs = D at h
  cases h with
  | ins h1 h2 h3 h4 =>
    obtain ⟨rfl, rfl⟩ := insD_inj eD
    exact ⟨_, _, _, rfl, h1, h2, h3, h4⟩
  | _ => cases eD
theorem rp_obj {b : Option Addr} {G : Hp} {v : V} {p : Addr} (h : Rp b G v (objD p)) : v = .ref p := by
  generalize eD : objD p = D at h
  cases h with
  | obj a =>
    simp only [PyData.dict.injEq, List.cons.injEq, Prod.mk.injEq, PyData.int.injEq, true_and, and_true] at eD
    rw [Int.ofNat.inj eD]
  | _ => cases eD
/-- the place of a name -/
def fix (f : Str) : List Str → Option Nat
  | [] => none
  | g :: r => if f = g then some 0 else (fix f r).map (· + 1)
theorem fix_lookup {α : Type} {f : Str} : ∀ {us : List (Str × α)}, us.lookup f = (fix f (us.map (·.1))).bind fun n => (us.map (·.2))[n]?
  | [] => rfl
  | (g, v) :: r => by
    show (match f == g with | true => some v | false => r.lookup f) = _
    by_cases c : f = g
    · subst c
      simp [fix]
    · have : (f == g) = false := by simpa using c
      rw [this]
      show r.lookup f = (if f = g then some 0 else (fix f (r.map (·.1))).map (· + 1)).bind _
      rw [if_neg c, fix_lookup (us := r)]
      cases fix f (r.map (·.1)) <;> simp
theorem fix_none {α : Type} {f : Str} {us : List (Str × α)} (h : fix f (us.map (·.1)) = none) : us.lookup f = none := by
  rw [fix_lookup, h] <;> rfl
theorem putF_old {f : Str} {v : V} {n : Nat} : ∀ {us : List (Str × V)}, fix f (us.map (·.1)) = some n → (putF f v us).map (·.1) = us.map (·.1) ∧ (putF f v us).map (·.2) = (us.map (·.2)).set n v
  | [], h => by cases h
  | (g, x) :: r, h => by
    have h : (if f = g then some 0 else (fix f (r.map (·.1))).map (· + 1)) = some n := h
    unfold putF
    by_cases c : f = g
    · rw [if_pos c] at h
      cases h
      rw [if_pos c.symm]
      exact ⟨rfl, rfl⟩
    · simp only [if_neg c] at h
      rw [if_neg (Ne.symm c)]
      cases e : fix f (r.map (·.1)) with
      | none =>
        rw [e] at h
        cases h
      | some k =>
        rw [e] at h
        cases h
        obtain ⟨h1, h2⟩ := putF_old (v := v) e
        exact ⟨by simp [h1], by simp [h2]⟩
theorem putF_new {f : Str} {v : V} : ∀ {us : List (Str × V)}, fix f (us.map (·.1)) = none → (putF f v us).map (·.1) = us.map (·.1) ++ [f] ∧ (putF f v us).map (·.2) = us.map (·.2) ++ [v]
  | [], _ => ⟨rfl, rfl⟩
  | (g, x) :: r, h => by
    have h : (if f = g then some 0 else (fix f (r.map (·.1))).map (· + 1)) = none := h
    unfold putF
    by_cases c : f = g
    · rw [if_pos c] at h
      cases h
    · simp only [if_neg c] at h
      rw [if_neg (Ne.symm c)]
      have h' : fix f (r.map (·.1)) = none := by
        cases e : fix f (r.map (·.1)) with
        | none => rfl
        | some k => rw [e] at h; cases h
      obtain ⟨h1, h2⟩ := putF_new (v := v) h'
      exact ⟨by simp [h1], by simp [h2]⟩
/-- an object's tree, or settled instance, of the class C with the attributes ks -/
def insT (C : Addr) (ks : List Str) (ts : List T) : T := .ins C ks ts
section
variable {X : Cx} {E : SX} {e e2 o : Expr} {es : List Expr} {we wa wb wr : XE} {w : WE} {ws : WA} {xa : XA} {wt wu : XT} {pos p apos : Pos} {x : Str} {k j l : Nat} {ps ks : List Str} {S : SpecX} {SP : Spec} {C : Addr} {CX : CXT}
/-- o.m(..), o an object of the store -/
def xMeth (k : Nat) (C : Addr) (ks : List Str) (S : SpecX) (wr : XE) (wa : XA) : XE := fun x ρ P => wr x ρ fun t ρ1 => ∃ p, t.dat = objD p ∧ atSto k ρ1 fun m => ∃ ts, m p = some (.ins C ks ts) ∧ wa x ρ1 fun ds ρ2 => atSto k ρ2 fun m2 => S (objD p :: ds) m2 (fun t m' => P t (ρ2.set k (some (.sto m')))) fun n pl m' => x (ρ2.set k (some (.sto m'))) n pl
theorem SiteX.ins {K : PySem.W.Frag} {mg : Str → Option Value} {E : XK} {b : Option Addr} {F G0 H0 G H : Hp} {σ : L2.St} {ρ : Rho} {xq : Rho → XP} {m : Sto} {p : Addr} {ts : List T} (h : SiteX K mg E b F G0 H0 G H σ ρ xq) (ek : ρ[k]? = some (some (.sto m))) (ep : m p = some (.ins C ks ts)) : ∃ dx us, H p = some (.ins C dx us) ∧ us.map (·.1) = ks := by
  obtain ⟨fp, tr, _, _, _⟩ := h.env.envT0.focus ek ep
  cases tr with
  | ins hp hx gp gx bp bx hk rr np nx ne => exact ⟨_, _, hp, hk⟩
theorem xa_nilT {σ : L2.St} {H : Hp} {Q : List V → Hp → Prop} (h : xaOf X.K X.mg E xaNil σ H Q) : tNil σ H Q := by
  obtain ⟨b, F, G0, H0, G, ρ, xq, P, p, hr, kk⟩ := h
  exact kk ρ G H [] [] p hr (Ex.rfl' _) .nil
theorem xmeth_core {mn : Str} {ta : TA} (hta : ∀ {σ : L2.St} {H : Hp} {Q : List V → Hp → Prop}, xaOf X.K X.mg E xa σ H Q → ta σ H Q) {σ : L2.St} {H : Hp} {Q : VK} (hn : fix mn ks = none) (q : xOf X.K X.mg E (xMeth k C ks S wr xa) σ H Q) : tMethX C mn (spOfX X.K X.mg S) E (xOf X.K X.mg E wr) ta σ H Q := by
  obtain ⟨b, F, G0, H0, G, ρ, xq, P, p, hr, kk⟩ := q
  refine xOf_D (fun d ρ1 => ∃ p, d = objD p ∧ atSto k ρ1 fun m => ∃ ts, m p = some (.ins C ks ts) ∧ xa xq ρ1 fun ds ρ2 => atSto k ρ2 fun m2 => S (objD p :: ds) m2 (fun t m' => P t (ρ2.set k (some (.sto m')))) fun n pl m' => xq (ρ2.set k (some (.sto m'))) n pl) p hr fun ρ1 G1 H1 v d hp hr1 r => ?_
  obtain ⟨q0, rfl, m, em, ts, ep, hp⟩ := hp
  have ev := rp_obj r
  subst ev
  obtain ⟨dx, us, h1, h2⟩ := hr1.ins em ep
  refine ⟨q0, dx, us, rfl, h1, fix_none (by rw [h2]; exact hn), hta ⟨b, F, G0, H0, G1, ρ1, xq, _, hp, hr1, fun ρ2 G2 H2 vs ds hp2 hr2 _ r2 => ?_⟩⟩
  obtain ⟨m2, em2, hS⟩ := hp2
  exact hr2.sp em2 (.cons (.obj q0) r2) hS kk
theorem x_meth {mn : Str} {pl : Sem Bool} (W : Way X E CX) (M : MthS CX X.prog X.w X.K X.mg X.base C mn ps l S) (hr : Room j X.A) (ho : PE X o (xOf X.K X.mg E wr)) (ha : PA X (e :: es) (xaOf X.K X.mg E xa)) (hn : fix mn ks = none := by decide) (hj : l ≤ j := by decide)
    (hst : starEach (e :: es) X.env = (false, eval e X.env) :: starEach es X.env := by rfl) (hpl : (backTo pos (starEach es X.env)).any (·.1) = false := by rfl)
    (ht : eval (.Call (.Attribute o mn apos) (e :: es) [] pos) X.env = (do
      let ov ← eval o X.env
      standAt apos.atName
      let (f, first) ← holding [ov] (getMethod ov mn pl)
      callWith pos f first (backTo pos (starEach (e :: es) X.env)) (backToKw pos (keywordEach [] X.env))) := by rfl) :
    PE X (.Call (.Attribute o mn apos) (e :: es) [] pos) (xOf X.K X.mg E (xMeth k C ks S wr xa)) := by
  obtain ⟨⟨f, fd, h, hm, b⟩, c⟩ := M
  exact PE.imp (pe_methW (pl := pl) W ho c hm h (hr.mono hj) b ha hst hpl ht) fun σ H Q q => xmeth_core id hn q
theorem x_meth0 {mn : Str} {pl : Sem Bool} (W : Way X E CX) (M : MthS CX X.prog X.w X.K X.mg X.base C mn ps l S) (hr : Room j X.A) (ho : PE X o (xOf X.K X.mg E wr)) (hn : fix mn ks = none := by decide) (hj : l ≤ j := by decide)
    (ht : eval (.Call (.Attribute o mn apos) [] [] pos) X.env = (do
      let ov ← eval o X.env
      standAt apos.atName
      let (f, first) ← holding [ov] (getMethod ov mn pl)
      callWith pos f first (backTo pos (starEach [] X.env)) (backToKw pos (keywordEach [] X.env))) := by rfl) :
    PE X (.Call (.Attribute o mn apos) [] [] pos) (xOf X.K X.mg E (xMeth k C ks S wr xaNil)) := by
  obtain ⟨⟨f, fd, h, hm, b⟩, c⟩ := M
  refine PE.imp (pe_meth0W (pl := pl) W ho c hm h (hr.mono hj) b ht) fun σ H Q q => xmeth_core xa_nilT hn q
/-- o.m(..), o a settled instance, m a method that changes the store -/
def xMethD (k : Nat) (C : Addr) (ks : List Str) (S : SpecX) (wr : XE) (wa : XA) : XE := fun x ρ P => wr x ρ fun t ρ1 => ∃ ds0, t.dat = insD C (ks.zip ds0) ∧ ks.length = ds0.length ∧ wa x ρ1 fun ds ρ2 => atSto k ρ2 fun m2 => S (t.dat :: ds) m2 (fun t m' => P t (ρ2.set k (some (.sto m')))) fun n pl m' => x (ρ2.set k (some (.sto m'))) n pl
theorem xmethd_core {mn : Str} {ta : TA} (hta : ∀ {σ : L2.St} {H : Hp} {Q : List V → Hp → Prop}, xaOf X.K X.mg E xa σ H Q → ta σ H Q) {σ : L2.St} {H : Hp} {Q : VK} (hn : fix mn ks = none) (q : xOf X.K X.mg E (xMethD k C ks S wr xa) σ H Q) : tMethX C mn (spOfX X.K X.mg S) E (xOf X.K X.mg E wr) ta σ H Q := by
  obtain ⟨b, F, G0, H0, G, ρ, xq, P, p, hr, kk⟩ := q
  refine xOf_D (fun d ρ1 => ∃ ds0, d = insD C (ks.zip ds0) ∧ ks.length = ds0.length ∧ xa xq ρ1 fun ds ρ2 => atSto k ρ2 fun m2 => S (d :: ds) m2 (fun t m' => P t (ρ2.set k (some (.sto m')))) fun n pl m' => xq (ρ2.set k (some (.sto m'))) n pl) p hr fun ρ1 G1 H1 v d hp hr1 r => ?_
  obtain ⟨ds0, ed, hl, hp⟩ := hp
  have r' := r
  rw [ed] at r'
  obtain ⟨a, dx, us, rfl, h1, _, h2, _⟩ := rp_ins r'
  rw [zip_fst hl] at h2
  have hr1' := hr1.reF
  refine ⟨a, dx, us, rfl, hr1.good.ex _ _ h1, fix_none (by rw [h2]; exact hn), hta ⟨b, G1, G0, H0, G1, ρ1, xq, _, hp, hr1', fun ρ2 G2 H2 vs ds hp2 hr2 e2 r2 => ?_⟩⟩
  obtain ⟨m2, em2, hS⟩ := hp2
  have hr3 : SiteX X.K X.mg (E σ) b F G0 H0 G2 H2 σ ρ2 xq := hr2.unF hr1.ex hr1.xc
  exact hr3.sp em2 (.cons (r.mono e2) r2) hS kk
theorem x_methD {mn : Str} {pl : Sem Bool} (W : Way X E CX) (M : MthS CX X.prog X.w X.K X.mg X.base C mn ps l S) (hr : Room j X.A) (ho : PE X o (xOf X.K X.mg E wr)) (ha : PA X (e :: es) (xaOf X.K X.mg E xa)) (hn : fix mn ks = none := by decide) (hj : l ≤ j := by decide)
    (hst : starEach (e :: es) X.env = (false, eval e X.env) :: starEach es X.env := by rfl) (hpl : (backTo pos (starEach es X.env)).any (·.1) = false := by rfl)
    (ht : eval (.Call (.Attribute o mn apos) (e :: es) [] pos) X.env = (do
      let ov ← eval o X.env
      standAt apos.atName
      let (f, first) ← holding [ov] (getMethod ov mn pl)
      callWith pos f first (backTo pos (starEach (e :: es) X.env)) (backToKw pos (keywordEach [] X.env))) := by rfl) :
    PE X (.Call (.Attribute o mn apos) (e :: es) [] pos) (xOf X.K X.mg E (xMethD k C ks S wr xa)) := by
  obtain ⟨⟨f, fd, h, hm, b⟩, c⟩ := M
  exact PE.imp (pe_methW (pl := pl) W ho c hm h (hr.mono hj) b ha hst hpl ht) fun σ H Q q => xmethd_core id hn q
theorem x_methD0 {mn : Str} {pl : Sem Bool} (W : Way X E CX) (M : MthS CX X.prog X.w X.K X.mg X.base C mn ps l S) (hr : Room j X.A) (ho : PE X o (xOf X.K X.mg E wr)) (hn : fix mn ks = none := by decide) (hj : l ≤ j := by decide)
    (ht : eval (.Call (.Attribute o mn apos) [] [] pos) X.env = (do
      let ov ← eval o X.env
      standAt apos.atName
      let (f, first) ← holding [ov] (getMethod ov mn pl)
      callWith pos f first (backTo pos (starEach [] X.env)) (backToKw pos (keywordEach [] X.env))) := by rfl) :
    PE X (.Call (.Attribute o mn apos) [] [] pos) (xOf X.K X.mg E (xMethD k C ks S wr xaNil)) := by
  obtain ⟨⟨f, fd, h, hm, b⟩, c⟩ := M
  exact PE.imp (pe_meth0W (pl := pl) W ho c hm h (hr.mono hj) b ht) fun σ H Q q => xmethd_core xa_nilT hn q
/-- o.m(..), all settled, nothing changes -/
def dMeth (C : Addr) (ks : List Str) (S : Spec) (wr : WE) (ws : WA) : WE := fun x ρ P => wr x ρ fun t => ∃ ds0, t.dat = insD C (ks.zip ds0) ∧ ks.length = ds0.length ∧ ws x ρ fun ds => S (t.dat :: ds) P x
theorem a_nilT {σ : L2.St} {H : Hp} {Q : List V → Hp → Prop} (h : aOf X.K X.mg E aNil σ H Q) : tNil σ H Q := by
  obtain ⟨b, B, G, ρ, xp, P, p, hr, k⟩ := h
  exact k G H [] [] p hr.good.stp .nil
theorem dmeth_core {mn : Str} {wr : WE} {ta : TA} (hta : ∀ {σ : L2.St} {H : Hp} {Q : List V → Hp → Prop}, aOf X.K X.mg E ws σ H Q → ta σ H Q) {σ : L2.St} {H : Hp} {Q : VK} (hn : fix mn ks = none) (q : tOf X.K X.mg E (dMeth C ks SP wr ws) σ H Q) : tMethX C mn (spOf X.K X.mg SP) E (tOf X.K X.mg E wr) ta σ H Q := by
  obtain ⟨b, B, G, ρ, xp, P, p, hr, kk⟩ := q
  refine tOfD_of ⟨b, B, G, ρ, xp, fun d => ∃ ds0, d = insD C (ks.zip ds0) ∧ ks.length = ds0.length ∧ ws xp ρ fun ds => SP (d :: ds) P xp, p, hr, fun G1 H1 v d hp s1 hr1 r => ?_⟩
  obtain ⟨ds0, ed, hl, hp⟩ := hp
  have r' := r
  rw [ed] at r'
  obtain ⟨a, dx, us, rfl, h1, _, h2, _⟩ := rp_ins r'
  rw [zip_fst hl] at h2
  refine ⟨a, dx, us, rfl, hr1.good.ex _ _ h1, fix_none (by rw [h2]; exact hn), hta ⟨b, B, G1, ρ, xp, _, hp, hr1, fun G2 H2 vs ds hp2 s2 r2 => ?_⟩⟩
  exact ⟨b, G2, d :: ds, P, xp, hp2, s2.good, .cons (r.mono s2.ex) r2, (kk.stp hr.good s1).stp hr1.good s2, (hr1.xc.stp hr1.good s2)⟩
theorem d_meth {mn : Str} {pl : Sem Bool} {wr : WE} (W : Way X E CX) (M : MthP CX X.prog X.w X.K X.mg X.base C mn ps l SP) (hr : Room j X.A) (ho : PE X o (tOf X.K X.mg E wr)) (ha : PA X (e :: es) (aOf X.K X.mg E ws)) (hn : fix mn ks = none := by decide) (hj : l ≤ j := by decide)
    (hst : starEach (e :: es) X.env = (false, eval e X.env) :: starEach es X.env := by rfl) (hpl : (backTo pos (starEach es X.env)).any (·.1) = false := by rfl)
    (ht : eval (.Call (.Attribute o mn apos) (e :: es) [] pos) X.env = (do
      let ov ← eval o X.env
      standAt apos.atName
      let (f, first) ← holding [ov] (getMethod ov mn pl)
      callWith pos f first (backTo pos (starEach (e :: es) X.env)) (backToKw pos (keywordEach [] X.env))) := by rfl) :
    PE X (.Call (.Attribute o mn apos) (e :: es) [] pos) (tOf X.K X.mg E (dMeth C ks SP wr ws)) := by
  obtain ⟨⟨f, fd, h, hm, b⟩, c⟩ := M
  exact PE.imp (pe_methW (pl := pl) W ho c hm h (hr.mono hj) b ha hst hpl ht) fun σ H Q q => dmeth_core id hn q
theorem d_meth0 {mn : Str} {pl : Sem Bool} {wr : WE} (W : Way X E CX) (M : MthP CX X.prog X.w X.K X.mg X.base C mn ps l SP) (hr : Room j X.A) (ho : PE X o (tOf X.K X.mg E wr)) (hn : fix mn ks = none := by decide) (hj : l ≤ j := by decide)
    (ht : eval (.Call (.Attribute o mn apos) [] [] pos) X.env = (do
      let ov ← eval o X.env
      standAt apos.atName
      let (f, first) ← holding [ov] (getMethod ov mn pl)
      callWith pos f first (backTo pos (starEach [] X.env)) (backToKw pos (keywordEach [] X.env))) := by rfl) :
    PE X (.Call (.Attribute o mn apos) [] [] pos) (tOf X.K X.mg E (dMeth C ks SP wr aNil)) := by
  obtain ⟨⟨f, fd, h, hm, b⟩, c⟩ := M
  exact PE.imp (pe_meth0W (pl := pl) W ho c hm h (hr.mono hj) b ht) fun σ H Q q => dmeth_core a_nilT hn q
/-- what may be told of data when all that stands is settled for a while: new lists, new dicts of flat things -/
theorem Tr.flB {K : PySem.W.Frag} {b : Option Addr} {G G1 G' H H' : Hp} {fp : List Addr} {v : V} {t : T} (g : Good K b G H) (ex : Ex G G1) (tr : Tr b G' H' fp v t) (f : flT t = true) (fr : ∀ a, a ∈ fp → H a = none) : Tr b G H' fp v t :=
  tr.fl f fun a m => by
    cases q : G a with
    | none => rfl
    | some o =>
      have := g.ex a o q
      rw [fr a m] at this
      cases this
/-- o.m(), o an object of the store, m reads it alone -/
def xMethR (k : Nat) (C : Addr) (ks : List Str) (S : Spec) (wr : XE) : XE := fun x ρ P => wr x ρ fun t ρ1 => ∃ p, t.dat = objD p ∧ atSto k ρ1 fun m => ∃ ts, m p = some (.ins C ks ts) ∧ S [(T.ins C ks ts).dat] (fun t' => flT t' = true ∧ P t' ρ1) noX
theorem xmethr_core {mn : Str} {σ : L2.St} {H : Hp} {Q : VK} (hn : fix mn ks = none) (q : xOf X.K X.mg E (xMethR k C ks SP wr) σ H Q) : tMethX C mn (spOf X.K X.mg SP) E (xOf X.K X.mg E wr) tNil σ H Q := by
  obtain ⟨b, F, G0, H0, G, ρ, xq, P, p, hr, kk⟩ := q
  refine xOf_D (fun d ρ1 => ∃ p, d = objD p ∧ atSto k ρ1 fun m => ∃ ts, m p = some (.ins C ks ts) ∧ SP [(T.ins C ks ts).dat] (fun t' => flT t' = true ∧ P t' ρ1) noX) p hr fun ρ1 G1 H1 v d hp hr1 r => ?_
  obtain ⟨q0, rfl, m, em, ts, ep, hp⟩ := hp
  have ev := rp_obj r
  subst ev
  obtain ⟨fp, tr, hpf, hB, _⟩ := hr1.env.envT0.focus em ep
  have key : ∃ dx us, H1 q0 = some (.ins C dx us) ∧ us.map (·.1) = ks := by
    cases tr with
    | ins hp hx gp gx bp bx hk rr np nx ne => exact ⟨_, _, hp, hk⟩
  obtain ⟨dx, us, h1, h2⟩ := key
  refine ⟨q0, dx, us, rfl, h1, fix_none (by rw [h2]; exact hn), ?_⟩
  have ex : Ex G1 (addF G1 H1 fp) := addF_ex fun a z => (hB a z).2.1
  have rp := tr.settle ex fun a z => addF_in z
  have g2 : Good X.K b (addF G1 H1 fp) H1 := addF_good hr1.good fun a z => ⟨(hB a z).2.1, (hB a z).2.2.1⟩
  refine ⟨b, addF G1 H1 fp, _, _, noX, hp, g2, .cons rp .nil, fun G2 H2 v t fv hP s tr2 fr => ?_, noXC⟩
  have st := Stp.back hr1.good ex s
  exact kk ρ1 G1 H2 v t fv hP.2 hr1.ex (hr1.st.trans hr1.g0 st) (hr1.env.envT st fr) (tr2.flB hr1.good (Ex.rfl' _) hP.1 fr) fun a z => hr1.st.free hr1.g0 (fr a z)
theorem x_methR0 {mn : Str} {pl : Sem Bool} (W : Way X E CX) (M : MthP CX X.prog X.w X.K X.mg X.base C mn ps l SP) (hr : Room j X.A) (ho : PE X o (xOf X.K X.mg E wr)) (hn : fix mn ks = none := by decide) (hj : l ≤ j := by decide)
    (ht : eval (.Call (.Attribute o mn apos) [] [] pos) X.env = (do
      let ov ← eval o X.env
      standAt apos.atName
      let (f, first) ← holding [ov] (getMethod ov mn pl)
      callWith pos f first (backTo pos (starEach [] X.env)) (backToKw pos (keywordEach [] X.env))) := by rfl) :
    PE X (.Call (.Attribute o mn apos) [] [] pos) (xOf X.K X.mg E (xMethR k C ks SP wr)) := by
  obtain ⟨⟨f, fd, h, hm, b⟩, c⟩ := M
  exact PE.imp (pe_meth0W (pl := pl) W ho c hm h (hr.mono hj) b ht) fun σ H Q q => xmethr_core hn q
/-- C(..) -/
def xMake (k : Nat) (C : Addr) (S : SpecX) (wa : XA) : XE := fun x ρ P => wa x ρ fun ds ρ1 => atSto k ρ1 fun m => ∀ p, m p = none → S (objD p :: ds) (stput m p (.ins C [] [])) (fun t m' => t.dat = .none ∧ P (.leaf (objD p)) (ρ1.set k (some (.sto m')))) fun n pl m' => x (ρ1.set k (some (.sto m'))) n pl
theorem xmake_core {ta : TA} (hta : ∀ {σ : L2.St} {H : Hp} {Q : List V → Hp → Prop}, xaOf X.K X.mg E xa σ H Q → ta σ H Q) {σ : L2.St} {H : Hp} {Q : VK} (q : xOf X.K X.mg E (xMake k C S xa) σ H Q) : tMakeX C (spOfX X.K X.mg S) E ta σ H Q := by
  obtain ⟨b, F, G0, H0, G, ρ, xq, P, p, hr, kk⟩ := q
  refine hta ⟨b, F, G0, H0, G, ρ, xq, _, p, hr, fun ρ1 G1 H1 vs ds hp hr1 _ r => ?_⟩
  obtain ⟨m, em, hp⟩ := hp
  intro q dx hq hdx ne
  have ne' : q ≠ dx := Ne.symm ne
  have s1 := hr1.good.own (.own q) hdx
  have hq1 : upd H1 dx (.own q) q = none := by rw [upd_ne ne']; exact hq
  have s2 := s1.good.own (.ins C dx []) hq1
  have s12 := s1.trans hr1.good s2
  have gq : G1 q = none := (hr1.good.new (.own q) hq).2
  have gx : G1 dx = none := (hr1.good.new (.own q) hdx).2
  have nb : ∀ a, H1 a = none → b ≠ some a := fun a ha c => by
    obtain ⟨_, _, _, _, _, _, q, _⟩ := hr1.good.box a c
    rw [ha] at q
    cases q
  have tr : Tr b G1 (upd (upd H1 dx (.own q)) q (.ins C dx [])) [q, dx] (.ref q) (.ins C [] []) :=
    .ins upd_same (by rw [upd_ne ne, upd_same]) gq gx (nb q hq) (nb dx hdx) rfl .nil (fun z => nomatch z) (fun z => nomatch z) ne
  have fr : ∀ a, a ∈ [q, dx] → H1 a = none := fun a z => by
    rcases List.mem_cons.mp z with z | z
    · rw [z]
      exact hq
    · rw [List.mem_singleton.mp z]
      exact hdx
  have hB : ∀ a, a ∈ [q, dx] → H0 a = none := fun a z => hr1.st.free hr1.g0 (fr a z)
  obtain ⟨mn, E2⟩ := (hr1.env.envT s12 fr).give_sto em tr (List.mem_cons_self ..) hB
  have hr2 := (hr1.stp s12).to (ρ' := ρ1.set k (some (.sto (stput m q (.ins C [] []))))) (hr1.ex.trans s12.ex) (hr1.st.trans hr1.g0 s12) E2
  have hk : k < ρ1.length := (List.getElem?_eq_some_iff.mp em).1
  refine hr2.sp (P := fun t ρ' => t.dat = .none ∧ P (.leaf (objD q)) ρ') (k := k) (List.getElem?_set_self hk) (.cons (.obj q) (r.mono s12.ex)) ?_ ?_
  · simp only [List.set_set]
    exact hp q mn
  · intro ρ' G' H' v t fv hP e s E' tr' hB'
    obtain ⟨g, ex, rv, _⟩ := E'.settle s.good tr'
    rw [hP.1] at rv
    cases rv
    exact ⟨rfl, kk ρ' G' H' (.ref q) _ [] hP.2 e s E'.env.envT0 (.leaf (.obj q)) fun _ z => nomatch z⟩
theorem x_make (W : Way X E CX) (M : MkS CX X.prog X.w X.K X.mg X.base x C ps l S) (hr : Room j X.A) (ha : PA X (e :: es) (xaOf X.K X.mg E xa)) (hg : Gl X x := by rfl) (hj : l + 1 ≤ j := by decide) (hdb : (x == ("__debug__" : Str)) = false := by decide)
    (he : starEach (e :: es) X.env = (false, eval e X.env) :: starEach es X.env := by rfl) (hpl : (backTo pos (starEach es X.env)).any (·.1) = false := by rfl) :
    PE X (.Call (.Name x p) (e :: es) [] pos) (xOf X.K X.mg E (xMake k C S xa)) := by
  obtain ⟨⟨f, fd, h, M, b⟩, hm⟩ := M
  exact PE.imp (pe_makeW W M h (hr.mono hj) hg hm b ha hdb he hpl) fun σ H Q q => xmake_core id q
theorem x_make0 (W : Way X E CX) (M : MkS CX X.prog X.w X.K X.mg X.base x C ps l S) (hr : Room j X.A) (hg : Gl X x := by rfl) (hj : l + 1 ≤ j := by decide) (hdb : (x == ("__debug__" : Str)) = false := by decide) :
    PE X (.Call (.Name x p) [] [] pos) (xOf X.K X.mg E (xMake k C S xaNil)) := by
  obtain ⟨⟨f, fd, h, M, b⟩, hm⟩ := M
  exact PE.imp (pe_make0W W M h (hr.mono hj) hg hm b hdb) fun σ H Q q => xmake_core xa_nilT q
/-! ### tests -/
def xTst (we : XE) : XT := fun x ρ P => we x ρ fun t ρ' => asB (fun c => P c ρ') t
theorem xt_val (h : PE X e (xOf X.K X.mg E we)) (he : ∀ whole, isTrue e X.env whole = (do let v ← whole; standAt e.pos; holding [v] (truthy v)) := by intro _; rfl) : PT X e (xtOf X.K X.mg E (xTst we)) := PT.imp (pt_val h he) fun σ H Q ⟨b, F, G0, H0, G, ρ, xq, P, p, hr, kk⟩ =>
  ⟨b, F, G0, H0, G, ρ, xq, _, p, hr, fun ρ' G' H' v t fv hp e s E' tr hB => by
    unfold asB at hp
    dsimp only at hp
    split at hp
    · cases tr with
      | leaf r =>
        cases r
        exact ⟨_, rfl, kk ρ' G' H' _ hp (hr.to e s E'.env)⟩
    · exact hp.elim⟩
def xNot (wt : XT) : XT := fun x ρ P => wt x ρ fun c ρ' => P (!c) ρ'
theorem xt_not (ha : PT X e (xtOf X.K X.mg E wt)) : PT X (.UnaryOp .Not e pos) (xtOf X.K X.mg E (xNot wt)) := PT.imp (pt_not ha) fun σ H Q ⟨b, F, G0, H0, G, ρ, xq, P, p, hr, kk⟩ => ⟨b, F, G0, H0, G, ρ, xq, fun c ρ' => P (!c) ρ', p, hr, fun ρ' G' H' c hp hr' => kk ρ' G' H' _ hp hr'⟩
def xAnd (w u : XT) : XT := fun x ρ P => w x ρ fun c ρ' => (c = true → u x ρ' P) ∧ (c = false → P false ρ')
def xOr (w u : XT) : XT := fun x ρ P => w x ρ fun c ρ' => (c = true → P true ρ') ∧ (c = false → u x ρ' P)
theorem xw_and1 (ha : PT X e (xtOf X.K X.mg E wt)) : PW X (.BoolOp .And [e] pos) (xtOf X.K X.mg E wt) := pw_and1 ha
theorem xw_or1 (ha : PT X e (xtOf X.K X.mg E wt)) : PW X (.BoolOp .Or [e] pos) (xtOf X.K X.mg E wt) := pw_or1 ha
theorem xw_and (ha : PT X e (xtOf X.K X.mg E wt)) (hb : PW X (.BoolOp .And (e2 :: es) pos) (xtOf X.K X.mg E wu)) : PW X (.BoolOp .And (e :: e2 :: es) pos) (xtOf X.K X.mg E (xAnd wt wu)) := PW.imp (pw_and ha hb) fun σ H Q ⟨b, F, G0, H0, G, ρ, xq, P, p, hr, kk⟩ =>
  ⟨b, F, G0, H0, G, ρ, xq, _, p, hr, fun ρ' G' H' c hp hr' => by
    cases c with
    | true =>
      show xtOf X.K X.mg E wu σ H' Q
      exact ⟨b, F, G0, H0, G', ρ', xq, P, hp.1 rfl, hr', kk⟩
    | false => exact kk ρ' G' H' false (hp.2 rfl) hr'⟩
theorem xw_or (ha : PT X e (xtOf X.K X.mg E wt)) (hb : PW X (.BoolOp .Or (e2 :: es) pos) (xtOf X.K X.mg E wu)) : PW X (.BoolOp .Or (e :: e2 :: es) pos) (xtOf X.K X.mg E (xOr wt wu)) := PW.imp (pw_or ha hb) fun σ H Q ⟨b, F, G0, H0, G, ρ, xq, P, p, hr, kk⟩ =>
  ⟨b, F, G0, H0, G, ρ, xq, _, p, hr, fun ρ' G' H' c hp hr' => by
    cases c with
    | false =>
      show xtOf X.K X.mg E wu σ H' Q
      exact ⟨b, F, G0, H0, G', ρ', xq, P, hp.2 rfl, hr', kk⟩
    | true => exact kk ρ' G' H' true (hp.1 rfl) hr'⟩
/-- an operation on two settled values -/
def xOp (rd : R2D) (wa wb : XE) : XE := fun x ρ P => wa x ρ fun t ρ1 => wb x ρ1 fun u ρ2 => rd t.dat u.dat fun z => P z ρ2
theorem xop_core {r : R2} {rd : R2D} (h : RdOk X.K r rd) {σ : L2.St} {H : Hp} {Q : VK} (q : xOf X.K X.mg E (xOp rd wa wb) σ H Q) : tOp r (xOf X.K X.mg E wa) (xOf X.K X.mg E wb) σ H Q := by
  obtain ⟨b, F, G0, H0, G, ρ, xq, P, p, hr, kk⟩ := q
  refine xOf_D (fun d ρ1 => wb xq ρ1 fun u ρ2 => rd d u.dat fun z => P z ρ2) p hr fun ρ1 G1 H1 x d hp hr1 rx => ?_
  refine xOf_D (fun u ρ2 => rd d u fun z => P z ρ2) hp hr1.reF fun ρ2 G2 H2 y u hp2 hr2 ry => ?_
  have hr3 : SiteX X.K X.mg (E σ) b F G0 H0 G2 H2 σ ρ2 xq := hr2.unF hr1.ex hr1.xc
  refine h b G2 H2 x y d u _ Q hr2.good (rx.mono hr2.ex) ry hp2 fun G' H' v t fv hz s tr fr => ?_
  exact kk ρ2 G' H' v t fv hz (hr3.ex.trans s.ex) (hr3.st.trans hr3.g0 s) (hr3.env.envT s fr) tr fun a z => hr3.st.free hr3.g0 (fr a z)
end
end Dd
/-! Statements that change the store; attributes. -/
namespace Dd
open PySem L2
section
variable {X : Cx} {E : SX} {st : Stmt} {rest : List Stmt} {e e2 e3 o : Expr} {we wa wb : XE} {w : WE} {wt : XT} {w1 u1 : WS} {pos p tpos ipos apos : Pos} {k : Nat}
/-! ### plain statements over expressions that change the store -/
theorem At.siteX {K : PySem.W.Frag} {mg : Str → Option Value} {E : SX} {b : Option Addr} {F G0 H0 H : Hp} {σ : L2.St} {ρ : Rho} {C : Ctl} {D : Ends} (g0 : Good K b G0 H0) (a : At K b F G0 H0 ρ σ H) (eo : EndsOk K mg E b F G0 H0 C D) : ∃ G, SiteX K mg (E σ) b F G0 H0 G H σ ρ C.xc := by
  obtain ⟨G, e1, s, E1⟩ := a
  exact ⟨G, g0, e1, s, E1, fun ρ' n pl c d G' H' x m hd e s' E' => eo.xc ρ' σ n pl c d G' H' x e s' E' m hd⟩
def dAsgX (i : Nat) (we : XE) : WS := fun C ρ => we C.xc ρ fun t ρ' => C.nx (ρ'.set i (some t))
theorem s_asgX (i : Nat) {x : Str} {pos' : Pos} (hN : X.N.Nodup) (he : PE X e (xOf X.K X.mg E we)) (hi : X.N[i]? = some x := by rfl) (hx : Loc X.env.scope x := by first | exact Or.inl rfl | exact Or.inr rfl) (hs : swapsWith e (some (.Name x pos')) pos.line X.env = pure false := by rfl) (hf : X.fn x = true ∨ X.env.scope.names.lookup x = some .local := by first | exact .inl rfl | exact .inr rfl | assumption) :
    PS X (.Assign [.Name x pos'] e pos) (sOf X.K X.mg E (dAsgX i we)) := PS.of (ps_set hN hi hx he hs hf) fun D σ H ⟨b, F, G0, H0, ρ, C, q, g0, a, eo⟩ => by
  obtain ⟨G, hr⟩ := a.siteX g0 eo
  exact ⟨b, F, G0, H0, G, ρ, C.xc, _, q, hr, fun ρ' G' H' v t fv hp e1 s1 E1 tr hB => eo.nx _ _ _ hp ⟨G', e1, s1, E1.put tr hB i⟩⟩
def dDropX (we : XE) : WS := fun C ρ => we C.xc ρ fun _ ρ' => C.nx ρ'
theorem s_dropX (he : PE X e (xOf X.K X.mg E we)) (hs : swapsWith e none pos.line X.env = pure false := by rfl) : PS X (.Expr e pos) (sOf X.K X.mg E (dDropX we)) := PS.of (ps_expr he hs) fun D σ H ⟨b, F, G0, H0, ρ, C, q, g0, a, eo⟩ => by
  obtain ⟨G, hr⟩ := a.siteX g0 eo
  exact ⟨b, F, G0, H0, G, ρ, C.xc, _, q, hr, fun ρ' G' H' v t fv hp e1 s1 E1 tr hB => eo.nx _ _ _ hp ⟨G', e1, s1, E1.env⟩⟩
/-- return e, of a function that has the store -/
def dRetX (k : Nat) (we : XE) : WS := fun C ρ => we C.xc ρ fun t ρ' => atSto k ρ' fun m => C.rt (.eff m t)
theorem s_retX (k : Nat) (he : PE X e (xOf X.K X.mg E we)) : PS X (.Return (some e) pos) (sOf X.K X.mg E (dRetX k we)) := PS.of (ps_ret he) fun D σ H ⟨b, F, G0, H0, ρ, C, q, g0, a, eo⟩ => by
  obtain ⟨G, hr⟩ := a.siteX g0 eo
  refine ⟨b, F, G0, H0, G, ρ, C.xc, _, q, hr, fun ρ' G' H' v t fv hp e1 s1 E1 tr hB => ?_⟩
  obtain ⟨m, em, hp⟩ := hp
  obtain ⟨hl, fps, h1, h2, h3⟩ := E1
  obtain ⟨v0, ev0, tr0⟩ := h1 k _ em
  have := tr_sto_v tr0
  subst this
  refine eo.rt _ v _ G' H' hp s1 (.eff tr0 tr fun a ma => (h2 k a ma).2.2.2.2) fun a ma => ?_
  rcases List.mem_append.mp ma with z | z
  · exact (h2 k a z).1
  · exact hB a z
/-- return x, x an own tree -/
def dRetXV (k i : Nat) : WS := fun C ρ => ∃ t, ρ[i]? = some (some t) ∧ i ≠ k ∧ atSto k ρ fun m => C.rt (.eff m t)
theorem s_retXV (k i : Nat) {x : Str} {p : Pos} (hN : X.N[i]? = some x := by rfl) (hv : Vis X.env.scope x := by first | exact Or.inl rfl | exact Or.inr (Or.inl rfl) | exact Or.inr (Or.inr rfl)) (hd : (x == ("__debug__" : Str)) = false := by decide) (hcd : (x == ("__classdict__" : Str)) = false := by decide) :
    PS X (.Return (some (.Name x p)) pos) (sOf X.K X.mg E (dRetXV k i)) := PS.of (ps_ret (pe_var hN hv hd hcd)) fun D σ H ⟨b, F, G0, H0, ρ, C, ⟨t, et, hik, m, em, q⟩, g0, a, eo⟩ => by
  obtain ⟨G, e1, s, hl, fps, h1, h2, h3⟩ := a
  obtain ⟨v, ev, tr⟩ := h1 i _ et
  obtain ⟨v0, ev0, tr0⟩ := h1 k _ em
  have := tr_sto_v tr0
  subst this
  refine ⟨v, ev, eo.rt _ v _ G H q s (.eff tr0 tr fun a ma z => h3 k i a (Ne.symm hik) ma z) fun a ma => ?_⟩
  rcases List.mem_append.mp ma with z | z
  · exact (h2 k a z).1
  · exact (h2 i a z).1
/-- return e, the store is forgotten -/
def dRetN (we : XE) : WS := fun C ρ => we C.xc ρ fun t _ => C.rt t
theorem s_retN (he : PE X e (xOf X.K X.mg E we)) : PS X (.Return (some e) pos) (sOf X.K X.mg E (dRetN we)) := PS.of (ps_ret he) fun D σ H ⟨b, F, G0, H0, ρ, C, q, g0, a, eo⟩ => by
  obtain ⟨G, hr⟩ := a.siteX g0 eo
  exact ⟨b, F, G0, H0, G, ρ, C.xc, _, q, hr, fun ρ' G' H' v t fv hp e1 s1 E1 tr hB => eo.rt _ v _ G' H' hp s1 tr hB⟩
def dIfX (wt : XT) (w u : WS) : WS := fun C ρ => wt C.xc ρ fun c ρ' => (c = true → w C ρ') ∧ (c = false → u C ρ')
theorem s_ifX {c : Expr} {a b : List Stmt} (hc : PT X c (xtOf X.K X.mg E wt)) (ha : PSs X a (sOf X.K X.mg E w1)) (hb : PSs X b (sOf X.K X.mg E u1)) : PS X (.If c a b pos) (sOf X.K X.mg E (dIfX wt w1 u1)) := PS.of (ps_if hc ha hb) fun D σ H ⟨b, F, G0, H0, ρ, C, q, g0, a, eo⟩ => by
  obtain ⟨G, hr⟩ := a.siteX g0 eo
  refine ⟨b, F, G0, H0, G, ρ, C.xc, _, q, hr, fun ρ' G' H' c hp hr' => ?_⟩
  have at2 : At X.K b F G0 H0 ρ' σ H' := ⟨G', hr'.ex, hr'.st, hr'.env⟩
  cases c with
  | true =>
    show sOf X.K X.mg E w1 D σ H'
    exact ⟨b, F, G0, H0, ρ', C, hp.1 rfl, g0, at2, eo⟩
  | false =>
    show sOf X.K X.mg E u1 D σ H'
    exact ⟨b, F, G0, H0, ρ', C, hp.2 rfl, g0, at2, eo⟩
def dAsgGX (wg : WG) (we : XE) : WS := fun C ρ => we C.xc ρ fun t ρ' => wg t.dat ρ' C.nx
theorem s_asgGX {tg : Expr} {ts : List Nat} {wg : WG} (he : PE X e (xOf X.K X.mg E we)) (hg : PG X tg (gOf X.K ts wg)) (hs : swapsWithSole [tg] e pos.line X.env = pure false := by rfl) (hw : swappedStores [tg] e X.env = pure none := by rfl) (h1 : (assignEach [tg] X.env).map (·.2) = [assign tg X.env] := by rfl) :
    PS X (.Assign [tg] e pos) (sOf X.K X.mg E (dAsgGX wg we)) := PS.of (ps_asg he hg hs hw h1) fun D σ H ⟨b, F, G0, H0, ρ, C, q, g0, a, eo⟩ => by
  obtain ⟨G, hr⟩ := a.siteX g0 eo
  refine xOf_D (fun d ρ' => wg d ρ' C.nx) q hr fun ρ' G' H' v d hp hr' r => ?_
  exact ⟨b, H0, G', ρ', d, _, hp, hr'.site.toHere, r, fun σ' ρ2 h1 h2 _ => eo.nx _ _ _ h1 ⟨G', hr'.ex, hr'.st, h2.env⟩⟩
/-! ### ghosts -/
/-- the slot of no name holds nothing that matters -/
theorem inv_dummy {pins : List (Addr × Obj)} {σ : L2.St} {H : Hp} {s : Shared} {x : Str} {v : V} (hN : X.N[k]? = some x) (hv : X.env.scope.names.lookup x = none) (I : Inv X pins σ H s) : Inv X pins (σ.set k (some v)) H s := by
  refine ⟨I.ok, I.os, I.bare, I.base, ?_, I.cell, I.free, I.freeC, I.pin, I.hok, by rw [List.length_set]; exact I.len⟩
  obtain ⟨m, hn, hl⟩ := I.loc
  refine ⟨m, hn, fun i y u e1 e2 e3 => ?_⟩
  by_cases c : i = k
  · subst c
    rw [hN] at e1
    cases e1
    unfold Vis at e3
    rw [hv] at e3
    rcases e3 with z | z | z <;> cases z
  · rw [List.getElem?_set_ne (Ne.symm c)] at e2
    exact hl i y u e1 e2 e3
theorem pss_dummy {x : Str} {t : TS} (v : V) (h : PSs X rest t) (hN : X.N[k]? = some x) (hv : X.env.scope.names.lookup x = none) : PSs X rest (fun D σ H => t D (σ.set k (some v)) H) := ⟨fun pins s σ H D I q => h.run pins s _ H D (inv_dummy hN hv I) q⟩
/-- an own tree of a slot becomes an object of the store -/
def isObj : T → Bool
  | .node _ | .ins _ _ _ | .dic _ _ | .diT _ _ => true
  | _ => false
theorem tr_root {b : Option Addr} {G H : Hp} {fp : List Addr} {v : V} {t : T} (tr : Tr b G H fp v t) (h : isObj t = true) : ∃ p, v = .ref p ∧ p ∈ fp := by
  cases tr with
  | node _ _ _ _ _ => exact ⟨_, rfl, List.mem_cons_self ..⟩
  | ins _ _ _ _ _ _ _ _ _ _ _ => exact ⟨_, rfl, List.mem_cons_self ..⟩
  | dic _ _ _ _ _ _ => exact ⟨_, rfl, List.mem_cons_self ..⟩
  | diT _ _ _ _ _ _ => exact ⟨_, rfl, List.mem_cons_self ..⟩
  | _ => cases h
theorem Env.slot_out {b : Option Addr} {B G H : Hp} {σ : L2.St} {ρ : Rho} {i : Nat} {t : T} (E : Env b B G H σ ρ) (et : ρ[i]? = some (some t)) (d : PyData) (hd : ∀ v fp, σ[i]? = some (some v) → Tr b G H fp v t → Rp b G v d) : ∃ fp v, σ[i]? = some (some v) ∧ Tr b G H fp v t ∧ (∀ a, a ∈ fp → B a = none) ∧ EnvT b B G H σ (ρ.set i (some (.leaf d))) fp := by
  obtain ⟨hl, fps, h1, h2, h3⟩ := E
  obtain ⟨v, ev, tr⟩ := h1 i _ et
  refine ⟨fps i, v, ev, tr, fun a m => (h2 i a m).1, by rw [List.length_set]; exact hl, fun j => if j = i then [] else fps j, fun j u e => ?_, fun j a m => ?_, fun j j' a n m => ?_⟩
  · by_cases c : j = i
    · subst c
      have hi : j < ρ.length := (List.getElem?_eq_some_iff.mp et).1
      rw [List.getElem?_set_self hi] at e
      cases e
      exact ⟨v, ev, by simp only [if_pos]; exact .leaf (hd v _ ev tr)⟩
    · rw [List.getElem?_set_ne (Ne.symm c)] at e
      obtain ⟨w, ew, q⟩ := h1 j u e
      exact ⟨w, ew, by simp only [if_neg c]; exact q⟩
  · by_cases c : j = i
    · simp only [if_pos c] at m
      cases m
    · simp only [if_neg c] at m
      obtain ⟨q1, q2, q3, q4⟩ := h2 j a m
      exact ⟨q1, q2, q3, q4, h3 j i a c m⟩
  · by_cases c : j = i
    · simp only [if_pos c] at m
      cases m
    · simp only [if_neg c] at m
      by_cases c' : j' = i
      · simp only [if_pos c']
        exact fun q => nomatch q
      · simp only [if_neg c']
        exact h3 j j' a n m
def dProm (k i : Nat) (w : WS) : WS := fun C ρ => ∃ t, ρ[i]? = some (some t) ∧ i ≠ k ∧ isObj t = true ∧ atSto k ρ fun m => ∀ p, m p = none → w C ((ρ.set i (some (.leaf (objD p)))).set k (some (.sto (stput m p t))))
theorem s_prom (k i : Nat) (h : PSs X rest (sOf X.K X.mg E w1)) : PSs X rest (sOf X.K X.mg E (dProm k i w1)) := PSs.of h fun D σ H ⟨b, F, G0, H0, ρ, C, ⟨t, et, hik, ho, m, em, q⟩, g0, a, eo⟩ => by
  obtain ⟨G, e1, s, E1⟩ := a
  obtain ⟨v, ev, tr⟩ : ∃ v fp, σ[i]? = some (some v) ∧ Tr b G H fp v t := by
    obtain ⟨_, fps, h1, _⟩ := id E1
    obtain ⟨v, ev, tr⟩ := h1 i _ et
    exact ⟨v, _, ev, tr⟩
  obtain ⟨ev, tr⟩ := tr
  obtain ⟨p0, rfl, _⟩ := tr_root tr ho
  obtain ⟨fp, v', ev', tr', hB, E2⟩ := E1.slot_out et (objD p0) fun v fp e _ => by
    rw [ev] at e
    cases e
    exact .obj p0
  rw [ev] at ev'
  cases ev'
  obtain ⟨p1, e1', hp⟩ := tr_root tr' ho
  cases e1'
  have em' : (ρ.set i (some (.leaf (objD p0))))[k]? = some (some (.sto m)) := by rw [List.getElem?_set_ne hik]; exact em
  obtain ⟨np, E3⟩ := E2.give_sto em' tr' hp hB
  exact ⟨b, F, G0, H0, _, C, q p0 np, g0, ⟨G, e1, s, E3⟩, eo⟩
/-- an object of the store that a slot names settles -/
def dFix (k i : Nat) (w : WS) : WS := fun C ρ => ∃ p t, ρ[i]? = some (some (.leaf (objD p))) ∧ i ≠ k ∧ atSto k ρ fun m => m p = some t ∧ w C ((ρ.set k (some (.sto (stdel m p)))).set i (some (.leaf t.dat)))
theorem s_fix (k i : Nat) (h : PSs X rest (sOf X.K X.mg E w1)) : PSs X rest (sOf X.K X.mg E (dFix k i w1)) := PSs.of h fun D σ H ⟨b, F, G0, H0, ρ, C, ⟨p, t, ei, hik, m, em, ep, q⟩, g0, a, eo⟩ => by
  obtain ⟨G, e1, s, E1⟩ := a
  obtain ⟨fp, tr, hp, hB, E2⟩ := E1.take_sto em ep
  obtain ⟨g, ex, r, E3⟩ := E2.settle s.good tr
  obtain ⟨_, fps, h1, _⟩ := id E3
  obtain ⟨v, ev, tv⟩ := h1 i _ (by rw [List.getElem?_set_ne (Ne.symm hik)]; exact ei)
  have evp : v = .ref p := by
    generalize fps i = fi at tv
    cases tv with
    | leaf r => exact rp_obj r
  subst evp
  have E4 := E3.leaf i r
  rw [set_same ev] at E4
  exact ⟨b, F, G0, H0, _, C, q, g0, ⟨_, e1.trans ex, stp_addF s g ex hB, E4⟩, eo⟩
end
/-! ### a def that has the store -/
section
variable {P : Program} {w : World} {K : PySem.W.Frag} {mg : Str → Option Value} {base : Heap}
theorem env_startS {b : Option Addr} {G H : Hp} {N : List Str} {vs : List V} {ds : List PyData} {m : Sto} {fs : List Addr} {k : Nat} (r : RpAll b G vs ds) (tr : Tr b G H fs .non (.sto m)) (hk : ds.length ≤ k) : Env b (less H fs) G H ((L2.start N vs).set k (some .non)) ((startR N ds).set k (some (.sto m))) := by
  have E0 : EnvT b (less H fs) G H (L2.start N vs) (startR N ds) fs := by
    have hl := r.len
    refine ⟨by unfold L2.start startR; simp [hl], fun _ => [], fun i t e => ?_, (fun i a m => by cases m), fun i j a n m => by cases m⟩
    unfold startR at e
    by_cases c : i < ds.length
    · rw [List.getElem?_append_left (by simpa using c), List.getElem?_map, List.getElem?_eq_getElem c] at e
      cases e
      obtain ⟨v, ev, rv⟩ := r.get (List.getElem?_eq_getElem c)
      refine ⟨v, ?_, .leaf rv⟩
      unfold L2.start
      rw [List.getElem?_append_left (by simp; omega), List.getElem?_map, ev] <;> rfl
    · rw [List.getElem?_append_right (by simp; omega)] at e
      rw [List.getElem?_replicate] at e
      split at e <;> cases e
  exact E0.put tr (fun a z => less_in z) k
def storeEnds (k : Nat) (P : T → Sto → Prop) (xp : Str → PyData → Sto → Prop) : Ctl where
  nx := fun ρ => atSto k ρ fun m => ∃ m', SLe m' m ∧ P non m'
  rt := fun t => ∃ m u, t = .eff m u ∧ ∃ m', SLe m' m ∧ P u m'
  xc := fun ρ n pl => atSto k ρ fun m => ∃ m', SLe m' m ∧ xp n pl m'
theorem sto_le {b : Option Addr} {G H : Hp} {fs : List Addr} {m m' : Sto} (tr : Tr b G H fs .non (.sto m)) (h : SLe m' m) : ∃ fs', Tr b G H fs' .non (.sto m') ∧ ∀ a, a ∈ fs' → a ∈ fs := by
  classical
  cases tr with
  | @sto _ _ fpm s0 s1 s2 s3 s4 =>
    refine ⟨fs.filter fun a => decide (∃ p t, m' p = some t ∧ a ∈ fpm p), .sto (fps := fpm) (fun p t e => s0 p t (h p t e)) (fun p t e => s1 p t (h p t e)) (fun p t a e ha => List.mem_filter.mpr ⟨s2 p t a (h p t e) ha, decide_eq_true ⟨p, t, e, ha⟩⟩) (fun p q t u a n e1 e2 => s3 p q t u a n (h p t e1) (h q u e2)) (fun a ha => of_decide_eq_true (List.mem_filter.mp ha).2), fun a ha => (List.mem_filter.mp ha).1⟩
theorem bodyS_core {ws : WS} {N : List Str} {E : SX} {E0 : XK} {b : Option Addr} {G H : Hp} {ds : List PyData} {m : Sto} {fs : List Addr} {P : T → Sto → Prop} {xp : Str → PyData → Sto → Prop} {Q : VK} {vs : List V} {k : Nat} (q : ws (storeEnds k P xp) ((startR N ds).set k (some (.sto m)))) (hE : ∀ σ, E σ = E0)
    (hk : ds.length ≤ k) (g : Good K b G H) (r : RpAll b G vs ds) (tr : Tr b G H fs .non (.sto m))
    (k1 : ∀ (G' H' : Hp) (v : V) (t : T) (m' : Sto) (fs' fv : List Addr), P t m' → Stp K b G (less H fs) G' H' → Tr b G' H' fs' .non (.sto m') → Tr b G' H' fv v t → (∀ a, a ∈ fs' → a ∉ fv) → (∀ a, a ∈ fs' ∨ a ∈ fv → a ∈ fs ∨ H a = none) → Q v H')
    (k2 : ∀ (n : Str) (pl : PyData) (C d : Addr) (G' H' : Hp) (m' : Sto) (fs' : List Addr), xp n pl m' → mg n = some (.ref C) → G' d = some (.xd (exF n pl)) → Stp K b G (less H fs) G' H' → Tr b G' H' fs' .non (.sto m') → (∀ a, a ∈ fs' → a ∈ fs ∨ H a = none) → E0 (.ref C) (some d) H') :
    sOf K mg E ws { nx := fun _ H' => Q .non H', rt := Q } ((L2.start N vs).set k (some .non)) H := by
  have mm : ∀ a, a ∈ fs → G a = none ∧ b ≠ some a := fun a z => ⟨(tr.mem a z).1, (tr.mem a z).2.1⟩
  have ls : ∀ a, less H fs a = none → a ∈ fs ∨ H a = none := fun a z => by
    by_cases c : a ∈ fs
    · exact .inl c
    · rw [less_out c] at z
      exact .inr z
  refine ⟨b, G, G, less H fs, _, _, q, less_good g mm, ⟨G, Ex.rfl' _, less_stp g mm, env_startS r tr hk⟩, ⟨fun ρ σ H' hp a => ?_, fun _ _ _ z => z.elim, fun _ _ _ z => z.elim, fun t v fp G' H' hp s tr' fr => ?_, fun ρ σ n pl c d G' H' hx _ s E' hm hd => ?_⟩⟩
  · obtain ⟨G', _, s, hl, fps, h1, h2, h3⟩ := a
    obtain ⟨m1, em, m', le, hP⟩ := hp
    obtain ⟨v0, _, tr0⟩ := h1 k _ em
    have := tr_sto_v tr0
    subst this
    obtain ⟨fs', tr1, sub⟩ := sto_le tr0 le
    exact k1 G' H' .non non m' fs' [] hP s tr1 (.leaf .non) (fun _ _ z => nomatch z) fun a z => z.elim (fun z => ls a (h2 k a (sub a z)).1) fun z => nomatch z
  · obtain ⟨m1, u, rfl, m', le, hP⟩ := hp
    cases tr' with
    | eff t1 t2 dj =>
      obtain ⟨fs', tr1, sub⟩ := sto_le t1 le
      exact k1 G' H' v u m' fs' _ hP s tr1 t2 (fun a z => dj a (sub a z)) fun a z => ls a (fr a (z.elim (fun z => List.mem_append_left _ (sub a z)) fun z => List.mem_append_right _ z))
  · obtain ⟨hl, fps, h1, h2, h3⟩ := E'
    obtain ⟨m1, em, m', le, hP⟩ := hx
    obtain ⟨v0, _, tr0⟩ := h1 k _ em
    have := tr_sto_v tr0
    subst this
    obtain ⟨fs', tr1, sub⟩ := sto_le tr0 le
    rw [hE]
    exact k2 n pl c d G' H' m' fs' hP hm hd s tr1 fun a z => ls a (h2 k a (sub a z)).1
theorem fn_okS {x qual : Str} {st : Stmt} {f : Addr} {fd : FuncData} {N ps : List Str} {l : Nat} {S : SpecX} {ws : WS} {k : Nat} {dn : Str} (F : Fun K x qual st f fd) (sc : FnScope N ps (defScope st)) (hk : N[k]? = some dn) (hd : (defScope st).names.lookup dn = none) (hle : ps.length ≤ k) (len : ∀ ds m P xp, S ds m P xp → ds.length = ps.length)
    (body : ∀ (cdv : Value) (A : Around) (outer : List PySem.Env) (s : Shared) (H : Hp) (E : XK), Room l (A.deeper (PyProof.Rows.envOfC qual (defScope st) s.heap.objs.size f cdv)) → PSs (cxOf CX0 P w K mg base N qual (defScope st) f cdv A outer s H E).nox (defBody st) (sOf K mg noE ws))
    (spec : ∀ ds m P, S ds m P (fun _ _ _ => False) → ws (storeEnds k P fun _ _ _ => False) ((startR N ds).set k (some (.sto m)))) (nx : ∀ ds m P xp, S ds m P xp → S ds m P fun _ _ _ => False) : FnOk P w K mg base CX0 (l + 1) f fd ps (spOfX K mg S) := by
  refine F.ok sc (fun vs H Q E ⟨b, G, ds, m, fs, P, xp, q, g, r, _⟩ => by rw [r.len, len _ _ _ _ q]) fun cdv A outer s H vs Q E hr h => ⟨_, pss_dummy (k := k) .non (body cdv A outer s H E hr) hk hd, ?_⟩
  obtain ⟨b, G, ds, m, fs, P, xp, q, g, r, tr, k1, k2⟩ := h
  exact bodyS_core (E0 := fun _ _ _ => False) (spec ds m P (nx _ _ _ _ q)) (fun _ => rfl) (by rw [len _ _ _ _ q]; exact hle) g r tr k1 fun _ _ _ _ _ _ _ _ z => z.elim
theorem fn_okSX {x qual : Str} {st : Stmt} {f : Addr} {fd : FuncData} {N ps : List Str} {l : Nat} {S : SpecX} {ws : WS} {k : Nat} {dn : Str} (F : Fun K x qual st f fd) (sc : FnScope N ps (defScope st)) (hk : N[k]? = some dn) (hd : (defScope st).names.lookup dn = none) (hle : ps.length ≤ k) (len : ∀ ds m P xp, S ds m P xp → ds.length = ps.length)
    (body : ∀ (cdv : Value) (A : Around) (outer : List PySem.Env) (s : Shared) (H : Hp) (E : XK), Room l (A.deeper (PyProof.Rows.envOfC qual (defScope st) s.heap.objs.size f cdv)) → PSs (cxOf (L2.CX P w) P w K mg base N qual (defScope st) f cdv A outer s H E) (defBody st) (sOf K mg (fun _ => E) ws))
    (spec : ∀ ds m P xp, S ds m P xp → ws (storeEnds k P xp) ((startR N ds).set k (some (.sto m)))) : FnOk P w K mg base (L2.CX P w) (l + 1) f fd ps (spOfX K mg S) := by
  refine F.okX sc (fun vs H Q E ⟨b, G, ds, m, fs, P, xp, q, g, r, _⟩ => by rw [r.len, len _ _ _ _ q]) fun cdv A outer s H vs Q E hr h => ⟨_, pss_dummy (k := k) .non (body cdv A outer s H E hr) hk hd, ?_⟩
  obtain ⟨b, G, ds, m, fs, P, xp, q, g, r, tr, k1, k2⟩ := h
  exact bodyS_core (E0 := E) (spec ds m P xp q) (fun _ => rfl) (by rw [len _ _ _ _ q]; exact hle) g r tr k1 k2
/-- a def that makes its own store and forgets it -/
theorem sto_none {b : Option Addr} {G H : Hp} : Tr b G H [] .non (.sto fun _ => none) := .sto (fps := fun _ => []) (fun _ _ e => by cases e) (fun _ _ e => by cases e) (fun _ _ _ e => by cases e) (fun _ _ _ _ _ _ e => by cases e) fun _ z => nomatch z
theorem fn_okO {x qual : Str} {st : Stmt} {f : Addr} {fd : FuncData} {N ps : List Str} {l : Nat} {S : Spec} {ws : WS} {k : Nat} {dn : Str} (F : Fun K x qual st f fd) (sc : FnScope N ps (defScope st)) (hk : N[k]? = some dn) (hd : (defScope st).names.lookup dn = none) (hle : ps.length ≤ k) (len : ∀ ds P xp, S ds P xp → ds.length = ps.length)
    (body : ∀ (cdv : Value) (A : Around) (outer : List PySem.Env) (s : Shared) (H : Hp) (E : XK), Room l (A.deeper (PyProof.Rows.envOfC qual (defScope st) s.heap.objs.size f cdv)) → PSs (cxOf CX0 P w K mg base N qual (defScope st) f cdv A outer s H E).nox (defBody st) (sOf K mg noE ws))
    (spec : ∀ ds P, S ds P noX → ws { nx := fun _ => P non, rt := P } ((startR N ds).set k (some (.sto fun _ => none)))) (nx : ∀ ds P xp, S ds P xp → S ds P noX) : FnOk P w K mg base CX0 (l + 1) f fd ps (spOf K mg S) := by
  refine F.ok sc (sp_len len) fun cdv A outer s H vs Q E hr h => ⟨_, pss_dummy (k := k) .non (body cdv A outer s H E hr) hk hd, ?_⟩
  obtain ⟨b, G, ds, P, xp, q, g, r, kk, x⟩ := h
  have E1 := env_startS (N := N) (k := k) r (sto_none (b := b) (G := G) (H := H)) (by rw [len _ _ _ q]; exact hle)
  have el : less H [] = H := by
    funext a
    exact less_out fun z => nomatch z
  rw [el] at E1
  refine ⟨b, G, G, H, _, _, spec ds P (nx _ _ _ q), g, ⟨G, Ex.rfl' _, g.stp, E1⟩, ⟨fun ρ σ H' hp a => ?_, fun _ _ _ z => z.elim, fun _ _ _ z => z.elim, fun t v fp G' H' hp s tr fr => kk G' H' v t fp hp s tr fr, fun _ _ _ _ _ _ _ _ z => z.elim⟩⟩
  obtain ⟨G', _, s, _⟩ := a
  exact kk G' H' .non non [] hp s (.leaf .non) (fun _ z => nomatch z)
end
end Dd
/-! Attributes read and written, places changed. -/
namespace Dd
open PySem L2
structure CF (K : PySem.W.Frag) (C : Addr) (ks : List Str) : Prop where
  cls : Cls K C
  na : ∀ f, f ∈ ks → NoAttr K C f
theorem fix_mem {f : Str} : ∀ {ks : List Str} {n : Nat}, fix f ks = some n → f ∈ ks ∧ n < ks.length
  | [], _, h => by cases h
  | g :: r, n, h => by
    have h : (if f = g then some 0 else (fix f r).map (· + 1)) = some n := h
    by_cases c : f = g
    · rw [if_pos c] at h
      cases h
      exact ⟨by rw [c]; exact List.mem_cons_self .., by simp⟩
    · rw [if_neg c] at h
      cases e : fix f r with
      | none => rw [e] at h; cases h
      | some k =>
        rw [e] at h
        cases h
        obtain ⟨h1, h2⟩ := fix_mem e
        exact ⟨List.mem_cons_of_mem _ h1, by simp; omega⟩
/-! ### settled objects -/
section
variable {X : Cx} {E : SX} {e e2 o : Expr} {w wi : WE} {we : XE} {pos p apos tpos : Pos} {k n : Nat} {C : Addr} {ks : List Str} {f : Str}
/-- what an object of the settled store is -/
def dRes (k : Nat) (w : WE) : WE := fun x ρ P => w x ρ fun t => ∃ p m d, t.dat = objD p ∧ ρ[k]? = some (some (.fro m)) ∧ m p = some d ∧ P (.leaf d)
theorem d_res (h : PE X e (tOf X.K X.mg E w)) : PE X e (tOf X.K X.mg E (dRes k w)) := PE.of h fun σ H Q ⟨b, B, G, ρ, xp, P, p, hr, kk⟩ =>
  tOfD_of ⟨b, B, G, ρ, xp, fun d0 => ∃ p m d, d0 = objD p ∧ ρ[k]? = some (some (.fro m)) ∧ m p = some d ∧ P (.leaf d), p, hr, fun G1 H1 v d0 hp s1 hr1 r => by
    obtain ⟨p, m, d, rfl, em, ep, hp⟩ := hp
    have ev := rp_obj r
    subst ev
    obtain ⟨fps, h1, _, _⟩ := hr1.env.ex
    obtain ⟨v0, _, tr⟩ := h1 k _ em
    generalize fps k = fk at tr
    cases tr with
    | fro h => exact (kk.stp hr.good s1).leaf s1.good hp (h p d ep)⟩
/-- e.f -/
def dFld (C : Addr) (ks : List Str) (n : Nat) (w : WE) : WE := fun x ρ P => w x ρ fun t => ∃ ds, t.dat = insD C (ks.zip ds) ∧ ks.length = ds.length ∧ ∃ d, ds[n]? = some d ∧ P (.leaf d)
theorem d_fld (n : Nat) (cf : CF X.K C ks) (h : PE X e (tOf X.K X.mg E w)) (hf : fix f ks = some n := by decide) (hb : attributeBase e f X.env (eval e X.env) = eval e X.env := by rfl) : PE X (.Attribute e f pos) (tOf X.K X.mg E (dFld C ks n w)) := PE.of (pe_fld h hb) fun σ H Q ⟨b, B, G, ρ, xp, P, p, hr, kk⟩ =>
  tOfD_of ⟨b, B, G, ρ, xp, fun d0 => ∃ ds, d0 = insD C (ks.zip ds) ∧ ks.length = ds.length ∧ ∃ d, ds[n]? = some d ∧ P (.leaf d), p, hr, fun G1 H1 v d0 hp s1 hr1 r => by
    obtain ⟨ds, rfl, hl, d, ed, hp⟩ := hp
    obtain ⟨a, dx, us, rfl, h1, _, h2, h3⟩ := rp_ins r
    rw [zip_fst hl] at h2
    rw [zip_snd hl] at h3
    obtain ⟨v, ev, rv⟩ := h3.get ed
    exact ⟨a, C, dx, us, v, rfl, hr1.good.ex _ _ h1, cf.cls, cf.na f (fix_mem hf).1, by rw [fix_lookup, h2, hf]; exact ev, (kk.stp hr.good s1).leaf s1.good hp rv⟩⟩
end
/-! ### places -/
abbrev WP := XP → Rho → (Addr → List Nat → Prop) → Prop
def pOf (K : PySem.W.Frag) (mg : Str → Option Value) (E : SX) (w : WP) : TE := fun σ H Q => ∃ (b : Option Addr) (B G : Hp) (ρ : Rho) (xp : XP) (P : Addr → List Nat → Prop), w xp ρ P ∧ Site K mg (E σ) b B G H σ ρ xp ∧
  ∀ (G' H' : Hp) (p : Addr) (path : List Nat) (v : V), P p path → Stp K b G H G' H' → PathV b H' (.ref p) path v → Q v H'
section
variable {K : PySem.W.Frag} {b : Option Addr} {B G H F G0 H0 : Hp} {σ : L2.St} {ρ : Rho} {fv : List Addr} {k : Nat} {m : Sto} {p : Addr} {tr u : T} {path : List Nat} {vq : V}
theorem stp_chg {H' : Hp} {L : List Addr} (s : Stp K b G0 H0 G H) (hL : ∀ a, a ∈ L → H0 a = none ∧ G a = none ∧ b ≠ some a) (hH : ∀ a, a ∉ L → H' a = H a) : Stp K b G0 H0 G H' := by
  refine ⟨s.ex, ⟨fun a o e => ?_, fun a c => ?_⟩, fun a o n e => ?_, s.out, fun a c => ?_⟩
  · rw [hH a fun z => by rw [(hL a z).2.1] at e; cases e]
    exact s.good.ex a o e
  · obtain ⟨n, cc, cells, pos, rest, seed, q1, q2⟩ := s.good.box a c
    exact ⟨n, cc, cells, pos, rest, seed, by rw [hH a fun z => (hL a z).2.2 c]; exact q1, q2⟩
  · rw [hH a fun z => by rw [(hL a z).1] at e; cases e]
    exact s.keep a o n e
  · exact (boxc_eq (hH a fun z => (hL a z).2.2 c)).trans (s.cel a c)
/-- what stands at a place -/
theorem place_look (E : Env b B G H σ ρ) (ek : ρ[k]? = some (some (.sto m))) (ep : m p = some tr) (es : tr.sub path = some u) : ∃ v fu, PathV b H (.ref p) path v ∧ Tr b G H fu v u := by
  obtain ⟨fp, t, _, _, _⟩ := E.envT0.focus ek ep
  obtain ⟨v, fu, h1, h2, _⟩ := t.lens path es
  exact ⟨v, fu, h1, h2⟩
/-- a place, to be changed -/
theorem place (E : EnvT b H0 G H σ ρ fv) (ex : Ex F G) (st : Stp K b G0 H0 G H) (hB : ∀ a, a ∈ fv → H0 a = none) (ek : ρ[k]? = some (some (.sto m))) (ep : m p = some tr) (es : tr.sub path = some u) (pv : PathV b H (.ref p) path vq) :
    ∃ fu, Tr b G H fu vq u ∧ (∀ a, a ∈ fu → H0 a = none ∧ G a = none ∧ b ≠ some a ∧ a ∉ fv) ∧ ∀ (H' : Hp) (u' : T) (fu' : List Addr), (∀ a, a ∉ fu → H' a = H a) → Tr b G H' fu' vq u' → (∀ a, a ∈ fu' → a ∈ fu ∨ a ∈ fv) → (vq = .ref p → p ∈ fu') → At K b F G0 H0 (ρ.set k (some (.sto (stput m p (tr.put path u'))))) σ H' := by
  obtain ⟨fp, t, hp, hfp, back⟩ := E.focus ek ep
  obtain ⟨v, fu, h1, h2, h3, h4⟩ := t.lens path es
  cases pv.det h1
  refine ⟨fu, h2, fun a z => ⟨(hfp a (h3 a z)).1, (hfp a (h3 a z)).2.1, (hfp a (h3 a z)).2.2.1, (hfp a (h3 a z)).2.2.2.2⟩, fun H' u' fu' hH tr' sub root => ?_⟩
  obtain ⟨fp', k1, k2, k3, k4⟩ := h4 H' u' fu' (fun a _ n => hH a n) tr' fun a z => (sub a z).elim .inl fun y => .inr fun x => (hfp a x).2.2.2.2 y
  have E2 := back H' _ fp' (fun a n _ => hH a fun z => n (h3 a z)) (k4 p rfl fun e => root (by subst e; exact pv)) k1 fun a z => by
    rcases k2 a z with y | y
    · exact ⟨(hfp a y.1).1, .inl y.1⟩
    · rcases sub a y with x | x
      · exact ⟨(hfp a (h3 a x)).1, .inl (h3 a x)⟩
      · exact ⟨hB a x, .inr x⟩
  exact ⟨G, ex, stp_chg st (L := fu) (fun a z => ⟨(hfp a (h3 a z)).1, (hfp a (h3 a z)).2.1, (hfp a (h3 a z)).2.2.1⟩) hH, E2.env⟩
/-- a list at a place -/
theorem place_lst {us : List T} (E : EnvT b H0 G H σ ρ fv) (ex : Ex F G) (st : Stp K b G0 H0 G H) (hB : ∀ a, a ∈ fv → H0 a = none) (ek : ρ[k]? = some (some (.sto m))) (ep : m p = some tr) (es : tr.sub path = some (.node us)) (pv : PathV b H (.ref p) path vq) :
    ∃ q vs fq, vq = .ref q ∧ H q = some (.lst vs) ∧ TrAll b G H fq vs us ∧ (∀ a, a ∈ fq → a ∉ fv) ∧ ∀ (vs' : List V) (us' : List T) (fq' : List Addr), TrAll b G H fq' vs' us' → (∀ a, a ∈ fq' → a ∈ fq ∨ a ∈ fv) →
      At K b F G0 H0 (ρ.set k (some (.sto (stput m p (tr.put path (.node us')))))) σ (upd H q (.lst vs')) := by
  obtain ⟨fu, t, hfu, back⟩ := place E ex st hB ek ep es pv
  cases t with
  | @node q fq vs _ hq gq bq rr nq =>
    refine ⟨q, vs, fq, rfl, hq, rr, fun a z => (hfu a (List.mem_cons_of_mem _ z)).2.2.2, fun vs' us' fq' rr' sub => ?_⟩
    have nq' : q ∉ fq' := fun z => (sub q z).elim nq (hfu q (List.mem_cons_self ..)).2.2.2
    exact back _ _ (q :: fq') (fun a n => upd_ne fun z => n (by rw [z]; exact List.mem_cons_self ..)) (.node upd_same gq bq (rr'.move (Ex.rfl' _) fun a z => ⟨(rr'.mem a z).1, upd_ne fun y => nq' (by rw [← y]; exact z)⟩) nq') (fun a z => (List.mem_cons.mp z).elim (fun y => by rw [y]; exact .inl (List.mem_cons_self ..)) fun y => (sub a y).elim (fun x => .inl (List.mem_cons_of_mem _ x)) .inr) fun y => by
      cases y
      exact List.mem_cons_self ..
/-- an instance at a place -/
theorem place_ins {C : Addr} {ks : List Str} {ts : List T} (E : EnvT b H0 G H σ ρ fv) (ex : Ex F G) (st : Stp K b G0 H0 G H) (hB : ∀ a, a ∈ fv → H0 a = none) (ek : ρ[k]? = some (some (.sto m))) (ep : m p = some tr) (es : tr.sub path = some (.ins C ks ts)) (pv : PathV b H (.ref p) path vq) :
    ∃ q dx us fq, vq = .ref q ∧ H q = some (.ins C dx us) ∧ us.map (·.1) = ks ∧ TrAll b G H fq (us.map (·.2)) ts ∧ (∀ a, a ∈ fq → a ∉ fv) ∧ ∀ (us' : List (Str × V)) (ks' : List Str) (ts' : List T) (fq' : List Addr), us'.map (·.1) = ks' → TrAll b G H fq' (us'.map (·.2)) ts' → (∀ a, a ∈ fq' → a ∈ fq ∨ a ∈ fv) →
      At K b F G0 H0 (ρ.set k (some (.sto (stput m p (tr.put path (.ins C ks' ts')))))) σ (upd H q (.ins C dx us')) := by
  obtain ⟨fu, t, hfu, back⟩ := place E ex st hB ek ep es pv
  cases t with
  | @ins q dx _ fq us _ _ hq hx gq gx bq bx hk rr nq nx ne =>
    have in2 : ∀ a, a ∈ fq → a ∈ q :: dx :: fq := fun a z => List.mem_cons_of_mem _ (List.mem_cons_of_mem _ z)
    have inx : dx ∈ q :: dx :: fq := List.mem_cons_of_mem _ (List.mem_cons_self ..)
    refine ⟨q, dx, us, fq, rfl, hq, hk, rr, fun a z => (hfu a (in2 a z)).2.2.2, fun us' ks' ts' fq' hk' rr' sub => ?_⟩
    have nq' : q ∉ fq' := fun z => (sub q z).elim nq (hfu q (List.mem_cons_self ..)).2.2.2
    have nx' : dx ∉ fq' := fun z => (sub dx z).elim nx (hfu dx inx).2.2.2
    exact back _ _ (q :: dx :: fq') (fun a n => upd_ne fun z => n (by rw [z]; exact List.mem_cons_self ..)) (.ins upd_same (by rw [upd_ne ne]; exact hx) gq gx bq bx hk' (rr'.move (Ex.rfl' _) fun a z => ⟨(rr'.mem a z).1, upd_ne fun y => nq' (by rw [← y]; exact z)⟩) nq' nx' ne)
      (fun a z => (List.mem_cons.mp z).elim (fun y => by rw [y]; exact .inl (List.mem_cons_self ..)) fun y => (List.mem_cons.mp y).elim (fun y => by rw [y]; exact .inl inx) fun y => (sub a y).elim (fun x => .inl (in2 a x)) .inr) fun y => by
      cases y
      exact List.mem_cons_self ..
end
theorem TrAll.setT {b : Option Addr} {G H : Hp} {fv : List Addr} {v : V} {t : T} (h : Tr b G H fv v t) : ∀ {fp : List Addr} {vs : List V} {ts : List T} (i : Nat), TrAll b G H fp vs ts → (∀ a, a ∈ fp → a ∉ fv) → ∃ fr, TrAll b G H fr (vs.set i v) (ts.set i t) ∧ ∀ a, a ∈ fr → a ∈ fp ∨ a ∈ fv
  | _, _, _, _, .nil, _ => ⟨[], .nil, fun _ z => nomatch z⟩
  | _, _, _, 0, .cons (fp := f1) (fq := f2) q r k, d => ⟨fv ++ f2, .cons h r (fun a z y => d a (List.mem_append_right _ y) z), fun a z => (List.mem_append.mp z).elim .inr fun y => .inl (List.mem_append_right _ y)⟩
  | _, _, _, i + 1, .cons (fp := f1) (fq := f2) q r k, d => by
    obtain ⟨fr, h1, h2⟩ := TrAll.setT h i r fun a z => d a (List.mem_append_right _ z)
    exact ⟨f1 ++ fr, .cons q h1 (fun a z y => (h2 a y).elim (fun x => k a z x) (fun x => d a (List.mem_append_left _ z) x)), fun a z => (List.mem_append.mp z).elim (fun z => .inl (List.mem_append_left _ z)) fun z => (h2 a z).elim (fun y => .inl (List.mem_append_right _ y)) .inr⟩
theorem TrAll.at_ {b : Option Addr} {G H : Hp} {fp : List Addr} {vs : List V} {ts : List T} {n : Nat} {d : PyData} (h : TrAll b G H fp vs ts) (e : ts[n]? = some (.leaf d)) : ∃ v, vs[n]? = some v ∧ Rp b G v d := by
  obtain ⟨v, f1, h1, h2, _⟩ := h.focus e
  refine ⟨v, h1, ?_⟩
  cases h2 with
  | leaf r => exact r
section
variable {X : Cx} {E : SX} {e e2 o : Expr} {w wi : WE} {we : XE} {wp : WP} {pos p apos tpos : Pos} {k n : Nat} {C : Addr} {ks : List Str} {f : Str}
def dPV (i : Nat) : WP := fun x ρ P => ∃ p, ρ[i]? = some (some (.leaf (objD p))) ∧ P p []
theorem p_var (i : Nat) {x : Str} (hN : X.N[i]? = some x := by rfl) (hv : Vis X.env.scope x := by first | exact Or.inl rfl | exact Or.inr (Or.inl rfl) | exact Or.inr (Or.inr rfl)) (hd : (x == ("__debug__" : Str)) = false := by decide) (hcd : (x == ("__classdict__" : Str)) = false := by decide) :
    PE X (.Name x pos) (pOf X.K X.mg E (dPV i)) := PE.imp (pe_var hN hv hd hcd) fun σ H Q ⟨b, B, G, ρ, xp, P, ⟨p, e, q⟩, hr, kk⟩ => by
  obtain ⟨fps, h1, h2, h3⟩ := hr.env.ex
  obtain ⟨v, ev, tr⟩ := h1 i _ e
  refine ⟨v, ev, ?_⟩
  generalize fps i = fp at tr
  cases tr with
  | leaf r =>
    have := rp_obj r
    subst this
    exact kk G H p [] _ q hr.good.stp rfl
def dPF (k : Nat) (C : Addr) (ks : List Str) (n : Nat) (wp : WP) : WP := fun x ρ P => wp x ρ fun p path => atSto k ρ fun m => ∃ tr ts, m p = some tr ∧ tr.sub path = some (.ins C ks ts) ∧ P p (path ++ [n])
theorem p_fld (n : Nat) (cf : CF X.K C ks) (h : PE X e (pOf X.K X.mg E wp)) (hf : fix f ks = some n := by decide) (hb : attributeBase e f X.env (eval e X.env) = eval e X.env := by rfl) : PE X (.Attribute e f pos) (pOf X.K X.mg E (dPF k C ks n wp)) := PE.imp (pe_fld h hb) fun σ H Q ⟨b, B, G, ρ, xp, P, p, hr, kk⟩ =>
  ⟨b, B, G, ρ, xp, _, p, hr, fun G1 H1 p path v hp s1 pv => by
    obtain ⟨m, em, tr, ts, ep, es, hp⟩ := hp
    have hr1 := hr.stp s1
    obtain ⟨v', fu, pv', t⟩ := place_look hr1.env em ep es
    cases pv.det pv'
    cases t with
    | ins hq hx gq gx bq bx hk rr nq nx ne =>
      rename_i q dx fq us
      have hl : n < (us.map (·.2)).length := by
        have := (fix_mem hf).2
        rw [← hk] at this
        simpa using this
      exact ⟨q, C, dx, us, _, rfl, hq, cf.cls, cf.na f (fix_mem hf).1, by rw [fix_lookup, hk, hf]; exact List.getElem?_eq_getElem hl, kk G1 H1 p _ _ hp s1 (pv.snoc bq (by rw [hq]; exact List.getElem?_eq_getElem hl))⟩⟩
def dPI (k : Nat) (wp : WP) (wi : WE) : WP := fun x ρ P => wp x ρ fun p path => wi x ρ (asI fun l => atSto k ρ fun m => ∃ tr ts n, m p = some tr ∧ tr.sub path = some (.node ts) ∧ ixN ts.length l = some n ∧ P p (path ++ [n]))
theorem p_ix (h : PE X e (pOf X.K X.mg E wp)) (hi : PE X e2 (tOf X.K X.mg E wi)) (hs : PlainIx e2 := by exact fun _ _ => rfl) : PE X (.Subscript e e2 pos) (pOf X.K X.mg E (dPI k wp wi)) := PE.imp (pe_ix ix_list h hi hs) fun σ H Q ⟨b, B, G, ρ, xp, P, p, hr, kk⟩ =>
  ⟨b, B, G, ρ, xp, _, p, hr, fun G1 H1 p path v hp s1 pv => ⟨b, B, G1, ρ, xp, _, hp, hr.stp s1, fun G2 H2 u t fp ht s2 tr fr => by
    unfold asI at ht
    split at ht
    · cases tr with
      | leaf r =>
        cases r
        obtain ⟨m, em, tr, ts, n, ep, es, hn, ht⟩ := ht
        have hr2 := (hr.stp s1).stp s2
        have pv2 := pv.keep s2.keep
        obtain ⟨v', fu, pv', t⟩ := place_look hr2.env em ep es
        cases pv2.det pv'
        cases t with
        | node hq gq bq rr nq =>
          rename_i q fq vs
          have hl := rr.len
          have hlt : n < vs.length := by
            rw [hl]
            unfold ixN at hn
            split at hn <;> split at hn <;> simp at hn <;> omega
          exact ⟨q, vs, _, vs[n], rfl, rfl, .inl (.inl hq), by unfold L2.atI; rw [hl, hn]; exact List.getElem?_eq_getElem hlt, kk G2 H2 p _ _ ht (s1.trans hr.good s2) (pv2.snoc bq (by rw [hq]; exact List.getElem?_eq_getElem hlt))⟩
    · exact ht.elim⟩⟩
end
end Dd
/-! Places written. -/
namespace Dd
open PySem L2
section
variable {X : Cx} {E : SX} {e e2 o : Expr} {w wi wj : WE} {we : XE} {wp : WP} {pos p apos tpos cpos : Pos} {k n : Nat} {C : Addr} {ks : List Str} {f : Str}
theorem tr_later {K : PySem.W.Frag} {b : Option Addr} {G H G' H' : Hp} {fv : List Addr} {v : V} {t : T} (s : Stp K b G H G' H') (tr : Tr b G H fv v t) : Tr b G' H' fv v t := tr.move s.ex fun a z => by
  obtain ⟨g, c, o, e⟩ := tr.mem a z
  exact ⟨s.out a o g e, by rw [e]; exact s.keep a o c e⟩
/-- PATH[i] = e -/
def dSetP (k : Nat) (wp : WP) (wi : WE) (we : XE) : WS := fun Ct ρ => we Ct.xc ρ fun t ρ1 => wp (Ct.xc ρ1) ρ1 fun p path => wi (Ct.xc ρ1) ρ1 (asI fun l => atSto k ρ1 fun m => ∃ tr us n, m p = some tr ∧ tr.sub path = some (.node us) ∧ ixN us.length l = some n ∧
  Ct.nx (ρ1.set k (some (.sto (stput m p (tr.put path (.node (us.set n t))))))))
theorem s_setP (hp : PE X o (pOf X.K X.mg E wp)) (hi : PE X e2 (tOf X.K X.mg E wi)) (he : PE X e (xOf X.K X.mg E we))
    (ha : ∀ v, assign (.Subscript o e2 tpos) X.env v = (do
      let ov ← holding [v] (eval o X.env)
      let iv ← holding [v, ov] (eval e2 X.env)
      standAt tpos
      holding [v, ov, iv] (setItem ov iv v)
      release [v, ov, iv] []) := by intro _; rfl)
    (hs : swapsWithSole [.Subscript o e2 tpos] e pos.line X.env = pure false := by rfl) (hw : swappedStores [.Subscript o e2 tpos] e X.env = pure none := by rfl) (h1' : (assignEach [.Subscript o e2 tpos] X.env).map (·.2) = [assign (.Subscript o e2 tpos) X.env] := by rfl) :
    PS X (.Assign [.Subscript o e2 tpos] e pos) (sOf X.K X.mg E (dSetP k wp wi we)) := PS.of (ps_asg he (pg_sub hp hi set_list ha) hs hw h1') fun D σ H ⟨b, F, G0, H0, ρ, Ct, q, g0, a, eo⟩ => by
  obtain ⟨G, hr⟩ := a.siteX g0 eo
  refine ⟨b, F, G0, H0, G, ρ, Ct.xc, _, q, hr, fun ρ1 G1 H1 v t fv hp e1 s1 E1 tr hB => ?_⟩
  have hr1 := hr.to e1 s1 E1.env
  refine ⟨b, H0, G1, ρ1, _, _, hp, hr1.site, fun G2 H2 p path vq hp2 s2 pv => ?_⟩
  have hr2 := hr1.stp s2
  refine ⟨b, H0, G2, ρ1, _, _, hp2, hr2.site, fun G3 H3 u tu fu hu s3 tru fru => ?_⟩
  unfold asI at hu
  split at hu
  · cases tru with
    | leaf r =>
      cases r
      obtain ⟨m, em, tr0, us, n, ep, es, hn, hu⟩ := hu
      have hr3 := hr2.stp s3
      obtain ⟨q, vs, fq, rfl, hq, rr, off, back⟩ := place_lst ((E1.stp s2).stp s3) hr3.ex hr3.st hB em ep es (pv.keep s3.keep)
      obtain ⟨fr, t3, sub⟩ := TrAll.setT (tr_later s3 (tr_later s2 tr)) n rr off
      exact ⟨q, vs, _, n, rfl, rfl, hq, by rw [rr.len]; exact hn, eo.nx _ _ _ hu (back _ _ fr t3 sub)⟩
  · exact hu.elim
/-- PATH[i] op= e, whole numbers -/
def dAugP (f : Int → Int → Int) (k : Nat) (wp : WP) (wi we : WE) : WS := fun Ct ρ => wp (Ct.xc ρ) ρ fun p path => wi (Ct.xc ρ) ρ (asI fun l => atSto k ρ fun m => ∃ tr us a, m p = some tr ∧ tr.sub path = some (.node us) ∧ 0 ≤ l ∧ us[l.toNat]? = some (int a) ∧
  we (Ct.xc ρ) ρ (asI fun c => Ct.nx (ρ.set k (some (.sto (stput m p (tr.put path (.node (us.set l.toNat (int (f a c)))))))))))
theorem s_augP {op : Operator} {g : Int → Int → Int} (ho : PIp X op (ipI g)) (hp : PE X o (pOf X.K X.mg E wp)) (hi : PE X e2 (tOf X.K X.mg E wi)) (he : PE X e (tOf X.K X.mg E wj))
    (ha : ∀ ov iv new, augStore e2 ov iv new = (do holding [new, ov, iv] (setItem ov iv new); release [new, ov, iv] []; pure .next) := by intros; rfl) :
    PS X (.AugAssign (.Subscript o e2 tpos) op e pos) (sOf X.K X.mg E (dAugP g k wp wi wj)) := PS.of (ps_augS hp hi get_list he ho set_list ha) fun D σ H ⟨b, F, G0, H0, ρ, Ct, q, g0, a, eo⟩ => by
  obtain ⟨G, hr⟩ := a.siteX g0 eo
  refine ⟨b, H0, G, ρ, _, _, q, hr.site, fun G1 H1 p path vq hp s1 pv => ?_⟩
  have hr1 := hr.stp s1
  refine ⟨b, H0, G1, ρ, _, _, hp, hr1.site, fun G2 H2 u tu fu hu s2 tru fru => ?_⟩
  unfold asI at hu
  split at hu
  · cases tru with
    | leaf r =>
      cases r
      obtain ⟨m, em, tr0, us, a0, ep, es, h0, ea, hu⟩ := hu
      have hr2 := hr1.stp s2
      obtain ⟨q, vs, fq, rfl, hq, rr, off, _⟩ := place_lst hr2.env.envT0 hr2.ex hr2.st (fun _ z => nomatch z) em ep es (pv.keep s2.keep)
      obtain ⟨u1, hu1, ru1⟩ := rr.at_ ea
      cases ru1
      refine ⟨q, vs, _, _, rfl, rfl, hq, h0, hu1, b, H0, G2, ρ, _, _, hu, hr2.site, fun G3 H3 u tu fu hu s3 tru fru => ?_⟩
      unfold asI at hu
      dsimp only at hu
      split at hu
      · cases tru with
        | leaf r =>
          cases r
          have hr3 := hr2.stp s3
          obtain ⟨q', vs', fq', e', hq', rr', off', back⟩ := place_lst hr3.env.envT0 hr3.ex hr3.st (fun _ z => nomatch z) em ep es ((pv.keep s2.keep).keep s3.keep)
          cases e'
          obtain ⟨fr, t3, sub⟩ := TrAll.setT (.leaf (.int _)) _ rr' off'
          have hlt := (List.getElem?_eq_some_iff.mp ea).1
          exact ⟨_, _, rfl, rfl, q, vs', _, _, rfl, rfl, hq', by rw [rr'.len]; exact ixN_of h0 (by omega), eo.nx _ _ _ hu (back _ _ fr t3 sub)⟩
      · exact hu.elim
  · exact hu.elim
/-- PATH.append(e) -/
def dAppP (k : Nat) (wp : WP) (we : WE) : WS := fun Ct ρ => wp (Ct.xc ρ) ρ fun p path => atSto k ρ fun m => ∃ tr us, m p = some tr ∧ tr.sub path = some (.node us) ∧ us.length < lim ∧ we (Ct.xc ρ) ρ fun t => Ct.nx (ρ.set k (some (.sto (stput m p (tr.put path (.node (us ++ [t])))))))
theorem s_appP (hp : PE X o (pOf X.K X.mg E wp)) (he : PE X e (tOf X.K X.mg E w))
    (hsw : swapsWith (.Call (.Attribute o "append" apos) [e] [] cpos) none pos.line X.env = pure false := by rfl)
    (hbase : attributeBase o "append" X.env (eval o X.env) = eval o X.env := by rfl)
    (hfew : ((backTo cpos (starEach [e] X.env)).all (fun x => !x.1) && (backToKw cpos (keywordEach [] X.env)).all (fun x => x.1.isSome)
      && decide (([e] : List Expr).length + ([] : List Keyword).length + (if ([] : List Keyword).isEmpty then 0 else 1) < 30)) = true := by rfl)
    (hline : (apos.endLine == cpos.line) = true := by rfl) (hs : starEach [e] X.env = (false, eval e X.env) :: starEach [] X.env := by rfl) (hplain : (backTo cpos (starEach [] X.env)).any (·.1) = false := by rfl) :
    PS X (.Expr (.Call (.Attribute o "append" apos) [e] [] cpos) pos) (sOf X.K X.mg E (dAppP k wp w)) :=
  PS.of (ps_expr (pe_bm PySem.F.plainAttrs_list PySem.F.slot_list_append PySem.F.type_list_append mt_append hp (pa_cons he pa_nil hs) hbase hfew hline hs hplain) hsw) fun D σ H ⟨b, F, G0, H0, ρ, Ct, q, g0, a, eo⟩ => by
  obtain ⟨G, hr⟩ := a.siteX g0 eo
  refine ⟨b, H0, G, ρ, _, _, q, hr.site, fun G1 H1 p path vq hp s1 pv => ?_⟩
  have hr1 := hr.stp s1
  obtain ⟨m, em, tr0, us, ep, es, hl, hp⟩ := hp
  obtain ⟨q, vs, fq, rfl, hq, rr, _, _⟩ := place_lst hr1.env.envT0 hr1.ex hr1.st (fun _ z => nomatch z) em ep es pv
  refine ⟨.inl ⟨rfl, _, .inl (.inl hq)⟩, b, H0, G1, ρ, _, _, hp, hr1.site, fun G2 H2 v t fv ht s2 tr2 fr => ?_⟩
  have hr2 := hr1.stp s2
  have hB : ∀ a, a ∈ fv → H0 a = none := fun a z => hr1.st.free hr1.g0 (fr a z)
  obtain ⟨q', vs', fq', e', hq', rr', off', back⟩ := place_lst (hr1.env.envT s2 fr) hr2.ex hr2.st hB em ep es (pv.keep s2.keep)
  cases e'
  obtain ⟨fn, t3, sub⟩ := TrAll.snoc rr' tr2 off'
  exact ⟨q, vs', v, rfl, rfl, hq', by rw [rr'.len]; exact lim_lt hl, eo.nx _ _ _ ht (back _ _ fn t3 sub)⟩
theorem TrAll.zipT {b : Option Addr} {G H : Hp} {fv : List Addr} {v : V} {t : T} {fp : List Addr} {vs : List V} {ts : List T} (r : TrAll b G H fp vs ts) (h : Tr b G H fv v t) (d : ∀ a, a ∈ fp → a ∉ fv) : ∃ fr, TrAll b G H fr (vs ++ [v]) (ts ++ [t]) ∧ ∀ a, a ∈ fr → a ∈ fp ∨ a ∈ fv := TrAll.snoc r h d
/-- PATH.f = e, f an attribute that stands -/
def dSetF (k : Nat) (C : Addr) (ks : List Str) (n : Nat) (wp : WP) (we : XE) : WS := fun Ct ρ => we Ct.xc ρ fun t ρ1 => wp (Ct.xc ρ1) ρ1 fun p path => atSto k ρ1 fun m => ∃ tr ts, m p = some tr ∧ tr.sub path = some (.ins C ks ts) ∧ Ct.nx (ρ1.set k (some (.sto (stput m p (tr.put path (.ins C ks (ts.set n t)))))))
theorem s_setF (n : Nat) (cf : CF X.K C ks) (hp : PE X o (pOf X.K X.mg E wp)) (he : PE X e (xOf X.K X.mg E we)) (hf : fix f ks = some n := by decide) (hz : ks.length < 1000 := by decide) (hs : swapsWith e (some (.Attribute o f tpos)) pos.line X.env = pure false := by rfl) :
    PS X (.Assign [.Attribute o f tpos] e pos) (sOf X.K X.mg E (dSetF k C ks n wp we)) := PS.of (ps_fld hp he hs) fun D σ H ⟨b, F, G0, H0, ρ, Ct, q, g0, a, eo⟩ => by
  obtain ⟨G, hr⟩ := a.siteX g0 eo
  refine ⟨b, F, G0, H0, G, ρ, Ct.xc, _, q, hr, fun ρ1 G1 H1 v t fv hp e1 s1 E1 tr hB => ?_⟩
  have hr1 := hr.to e1 s1 E1.env
  refine ⟨b, H0, G1, ρ1, _, _, hp, hr1.site, fun G2 H2 p path vq hp2 s2 pv => ?_⟩
  obtain ⟨m, em, tr0, ts, ep, es, hp2⟩ := hp2
  have hr2 := hr1.stp s2
  obtain ⟨q, dx, us, fq, rfl, hq, hk, rr, off, back⟩ := place_ins (E1.stp s2) hr2.ex hr2.st hB em ep es pv
  obtain ⟨fr, t3, sub⟩ := TrAll.setT (tr_later s2 tr) n rr off
  obtain ⟨p1, p2⟩ := putF_old (us := us) (v := v) (by rw [hk]; exact hf)
  refine ⟨q, C, dx, us, rfl, hq, cf.cls, cf.na f (fix_mem hf).1, ?_, eo.nx _ _ _ hp2 (back _ ks _ fr (by rw [p1]; exact hk) (by rw [p2]; exact t3) sub)⟩
  have : us.length = ks.length := by rw [← hk, List.length_map]
  omega
/-- PATH.f = e, f an attribute that does not stand yet -/
def dSetN (k : Nat) (C : Addr) (ks ks' : List Str) (wp : WP) (we : XE) : WS := fun Ct ρ => we Ct.xc ρ fun t ρ1 => wp (Ct.xc ρ1) ρ1 fun p path => atSto k ρ1 fun m => ∃ tr ts, m p = some tr ∧ tr.sub path = some (.ins C ks ts) ∧ Ct.nx (ρ1.set k (some (.sto (stput m p (tr.put path (.ins C ks' (ts ++ [t])))))))
theorem s_setN {kf : List Str} (ks ks' : List Str) (cf : CF X.K C kf) (hp : PE X o (pOf X.K X.mg E wp)) (he : PE X e (xOf X.K X.mg E we)) (hf : fix f ks = none := by decide) (hm : fix f kf ≠ none := by decide) (hk' : ks' = ks ++ [f] := by rfl) (hz : ks.length < 1000 := by decide) (hs : swapsWith e (some (.Attribute o f tpos)) pos.line X.env = pure false := by rfl) :
    PS X (.Assign [.Attribute o f tpos] e pos) (sOf X.K X.mg E (dSetN k C ks ks' wp we)) := PS.of (ps_fld hp he hs) fun D σ H ⟨b, F, G0, H0, ρ, Ct, q, g0, a, eo⟩ => by
  obtain ⟨G, hr⟩ := a.siteX g0 eo
  refine ⟨b, F, G0, H0, G, ρ, Ct.xc, _, q, hr, fun ρ1 G1 H1 v t fv hp e1 s1 E1 tr hB => ?_⟩
  have hr1 := hr.to e1 s1 E1.env
  refine ⟨b, H0, G1, ρ1, _, _, hp, hr1.site, fun G2 H2 p path vq hp2 s2 pv => ?_⟩
  obtain ⟨m, em, tr0, ts, ep, es, hp2⟩ := hp2
  have hr2 := hr1.stp s2
  obtain ⟨q, dx, us, fq, rfl, hq, hk, rr, off, back⟩ := place_ins (E1.stp s2) hr2.ex hr2.st hB em ep es pv
  obtain ⟨fr, t3, sub⟩ := TrAll.zipT rr (tr_later s2 tr) off
  obtain ⟨p1, p2⟩ := putF_new (us := us) (v := v) (by rw [hk]; exact hf)
  have mem : f ∈ kf := by
    cases e : fix f kf with
    | none => exact absurd e hm
    | some n => exact (fix_mem e).1
  refine ⟨q, C, dx, us, rfl, hq, cf.cls, cf.na f mem, ?_, eo.nx _ _ _ hp2 (back _ ks' _ fr (by rw [p1, hk, hk']) (by rw [p2]; exact t3) sub)⟩
  have : us.length = ks.length := by rw [← hk, List.length_map]
  omega
end
end Dd
/-! Equations for simp: stores, places. -/
namespace Dd
open PySem L2
theorem objD_eq {a b : Addr} : (objD a = objD b) = (a = b) := propext ⟨fun h => by
  simp only [PyData.dict.injEq, List.cons.injEq, Prod.mk.injEq, PyData.int.injEq, true_and, and_true] at h
  exact Int.ofNat.inj h, fun h => by rw [h]⟩
/-- an object of the settled store -/
def asO (k : Nat) (ρ : Rho) (P : T → Prop) (t : T) : Prop := ∃ p m d, t.dat = objD p ∧ ρ[k]? = some (some (.fro m)) ∧ m p = some d ∧ P (.leaf d)
theorem e_res {k : Nat} {w : WE} {x : XP} {ρ : Rho} {P : T → Prop} : dRes k w x ρ P = w x ρ (asO k ρ P) := rfl
theorem asO_o {k : Nat} {ρ : Rho} {P : T → Prop} {p : Addr} : asO k ρ P (.leaf (objD p)) = ∃ m, ρ[k]? = some (some (.fro m)) ∧ ∃ d, m p = some d ∧ P (.leaf d) := propext ⟨fun ⟨q, m, d, e, h1, h2, h3⟩ => by
  have e : p = q := by rwa [dat_leaf, objD_eq] at e
  subst e
  exact ⟨m, h1, d, h2, h3⟩, fun ⟨m, h1, d, h2, h3⟩ => ⟨p, m, d, rfl, h1, h2, h3⟩⟩
def asF (C : Addr) (ks : List Str) (n : Nat) (P : T → Prop) (t : T) : Prop := ∃ ds, t.dat = insD C (ks.zip ds) ∧ ks.length = ds.length ∧ ∃ d, ds[n]? = some d ∧ P (.leaf d)
theorem e_fldV {C : Addr} {ks : List Str} {n : Nat} {w : WE} {x : XP} {ρ : Rho} {P : T → Prop} : dFld C ks n w x ρ P = w x ρ (asF C ks n P) := rfl
theorem asF_ins {C : Addr} {ks : List Str} {n : Nat} {ts : List T} {u : T} {P : T → Prop} (h : ks.length = ts.length) (e : ts[n]? = some u) : asF C ks n P (.leaf (T.ins C ks ts).dat) = P (.leaf u.dat) := propext ⟨fun ⟨ds, e1, e2, d, e3, hp⟩ => by
  have e1 : insD C (ks.zip (T.dats ts)) = insD C (ks.zip ds) := e1
  have e4 := (insD_inj e1).2
  have e5 : T.dats ts = ds := by
    have z1 := zip_snd (ks := ks) (ds := T.dats ts) (by rw [dats_len]; exact h)
    have z2 := zip_snd (ks := ks) (ds := ds) e2
    rw [← z1, e4, z2]
  rw [← e5, dats_eq, List.getElem?_map, e] at e3
  cases e3
  exact hp, fun hp => ⟨T.dats ts, rfl, by rw [dats_len]; exact h, u.dat, by rw [dats_eq, List.getElem?_map, e]; rfl, hp⟩⟩
theorem e_pV {i : Nat} {x : XP} {ρ : Rho} {P : Addr → List Nat → Prop} : dPV i x ρ P = ∃ p, ρ[i]? = some (some (.leaf (objD p))) ∧ P p [] := rfl
theorem e_pF {k : Nat} {C : Addr} {ks : List Str} {n : Nat} {wp : WP} {x : XP} {ρ : Rho} {P : Addr → List Nat → Prop} : dPF k C ks n wp x ρ P = wp x ρ fun p path => atSto k ρ fun m => ∃ tr, m p = some tr ∧ ∃ ts, tr.sub path = some (.ins C ks ts) ∧ P p (path ++ [n]) := by
  unfold dPF
  congr
  funext p path
  refine congrArg (atSto k ρ) (funext fun m => propext ⟨fun ⟨tr, ts, a, b, c⟩ => ⟨tr, a, ts, b, c⟩, fun ⟨tr, a, ts, b, c⟩ => ⟨tr, ts, a, b, c⟩⟩)
theorem e_pI {k : Nat} {wp : WP} {wi : WE} {x : XP} {ρ : Rho} {P : Addr → List Nat → Prop} : dPI k wp wi x ρ P = wp x ρ fun p path => wi x ρ (asI fun l => atSto k ρ fun m => ∃ tr, m p = some tr ∧ ∃ ts, tr.sub path = some (.node ts) ∧ ∃ n, ixN ts.length l = some n ∧ P p (path ++ [n])) := by
  unfold dPI
  congr
  funext p path
  refine congrArg (fun f => wi x ρ (asI f)) (funext fun l => congrArg (atSto k ρ) (funext fun m => propext ⟨fun ⟨tr, ts, n, a, b, c, d⟩ => ⟨tr, a, ts, b, n, c, d⟩, fun ⟨tr, a, ts, b, n, c, d⟩ => ⟨tr, ts, n, a, b, c, d⟩⟩))
theorem e_setP {k : Nat} {wp : WP} {wi : WE} {we : XE} {Ct : Ctl} {ρ : Rho} : dSetP k wp wi we Ct ρ = we Ct.xc ρ fun t ρ1 => wp (Ct.xc ρ1) ρ1 fun p path => wi (Ct.xc ρ1) ρ1 (asI fun l => atSto k ρ1 fun m => ∃ tr, m p = some tr ∧ ∃ us, tr.sub path = some (.node us) ∧ ∃ n, ixN us.length l = some n ∧
    Ct.nx (ρ1.set k (some (.sto (stput m p (tr.put path (.node (us.set n t)))))))) := by
  unfold dSetP
  congr
  funext t ρ1
  congr
  funext p path
  refine congrArg (fun f => wi (Ct.xc ρ1) ρ1 (asI f)) (funext fun l => congrArg (atSto k ρ1) (funext fun m => propext ⟨fun ⟨tr, ts, n, a, b, c, d⟩ => ⟨tr, a, ts, b, n, c, d⟩, fun ⟨tr, a, ts, b, n, c, d⟩ => ⟨tr, ts, n, a, b, c, d⟩⟩))
theorem e_augP {f : Int → Int → Int} {k : Nat} {wp : WP} {wi we : WE} {Ct : Ctl} {ρ : Rho} : dAugP f k wp wi we Ct ρ = wp (Ct.xc ρ) ρ fun p path => wi (Ct.xc ρ) ρ (asI fun l => atSto k ρ fun m => ∃ tr, m p = some tr ∧ ∃ us, tr.sub path = some (.node us) ∧ ∃ a, 0 ≤ l ∧ us[l.toNat]? = some (int a) ∧
    we (Ct.xc ρ) ρ (asI fun c => Ct.nx (ρ.set k (some (.sto (stput m p (tr.put path (.node (us.set l.toNat (int (f a c))))))))))) := by
  unfold dAugP
  congr
  funext p path
  refine congrArg (fun g => wi (Ct.xc ρ) ρ (asI g)) (funext fun l => congrArg (atSto k ρ) (funext fun m => propext ⟨fun ⟨tr, us, a, h1, h2, h3⟩ => ⟨tr, h1, us, h2, a, h3⟩, fun ⟨tr, h1, us, h2, a, h3⟩ => ⟨tr, us, a, h1, h2, h3⟩⟩))
theorem e_appP {k : Nat} {wp : WP} {we : WE} {Ct : Ctl} {ρ : Rho} : dAppP k wp we Ct ρ = wp (Ct.xc ρ) ρ fun p path => atSto k ρ fun m => ∃ tr, m p = some tr ∧ ∃ us, tr.sub path = some (.node us) ∧ us.length < lim ∧ we (Ct.xc ρ) ρ fun t => Ct.nx (ρ.set k (some (.sto (stput m p (tr.put path (.node (us ++ [t]))))))) := by
  unfold dAppP
  congr
  funext p path
  refine congrArg (atSto k ρ) (funext fun m => propext ⟨fun ⟨tr, us, a, b⟩ => ⟨tr, a, us, b⟩, fun ⟨tr, a, us, b⟩ => ⟨tr, us, a, b⟩⟩)
theorem e_setF {k : Nat} {C : Addr} {ks : List Str} {n : Nat} {wp : WP} {we : XE} {Ct : Ctl} {ρ : Rho} : dSetF k C ks n wp we Ct ρ = we Ct.xc ρ fun t ρ1 => wp (Ct.xc ρ1) ρ1 fun p path => atSto k ρ1 fun m => ∃ tr, m p = some tr ∧ ∃ ts, tr.sub path = some (.ins C ks ts) ∧ Ct.nx (ρ1.set k (some (.sto (stput m p (tr.put path (.ins C ks (ts.set n t))))))) := by
  unfold dSetF
  congr
  funext t ρ1
  congr
  funext p path
  refine congrArg (atSto k ρ1) (funext fun m => propext ⟨fun ⟨tr, us, a, b⟩ => ⟨tr, a, us, b⟩, fun ⟨tr, a, us, b⟩ => ⟨tr, us, a, b⟩⟩)
theorem e_setN {k : Nat} {C : Addr} {ks ks' : List Str} {wp : WP} {we : XE} {Ct : Ctl} {ρ : Rho} : dSetN k C ks ks' wp we Ct ρ = we Ct.xc ρ fun t ρ1 => wp (Ct.xc ρ1) ρ1 fun p path => atSto k ρ1 fun m => ∃ tr, m p = some tr ∧ ∃ ts, tr.sub path = some (.ins C ks ts) ∧ Ct.nx (ρ1.set k (some (.sto (stput m p (tr.put path (.ins C ks' (ts ++ [t]))))))) := by
  unfold dSetN
  congr
  funext t ρ1
  congr
  funext p path
  refine congrArg (atSto k ρ1) (funext fun m => propext ⟨fun ⟨tr, us, a, b⟩ => ⟨tr, a, us, b⟩, fun ⟨tr, a, us, b⟩ => ⟨tr, us, a, b⟩⟩)
theorem e_meth {k : Nat} {C : Addr} {ks : List Str} {S : SpecX} {wr : XE} {wa : XA} {x : Rho → XP} {ρ : Rho} {P : T → Rho → Prop} : xMeth k C ks S wr wa x ρ P = wr x ρ fun t ρ1 => ∃ p, t.dat = objD p ∧ atSto k ρ1 fun m => ∃ ts, m p = some (.ins C ks ts) ∧ wa x ρ1 fun ds ρ2 => atSto k ρ2 fun m2 => S (objD p :: ds) m2 (fun t m' => P t (ρ2.set k (some (.sto m')))) fun n pl m' => x (ρ2.set k (some (.sto m'))) n pl := rfl
theorem sub_nil {t : T} : t.sub [] = some t := by unfold T.sub; rfl
theorem put_nil {t u : T} : t.put [] u = u := by unfold T.put; rfl
theorem e_obj {p q : Addr} : ((T.leaf (objD p)).dat = objD q) = (p = q) := objD_eq
theorem stput_ne' {m : Sto} {p q : Addr} {t : T} (h : q ≠ p) : stput m p t q = m q := stput_ne h
/-- a store with one more -/
theorem sle_put {m : Sto} {q : Addr} {t : T} (h : m q = none) : SLe m (stput m q t) := fun p u e => by
  rw [stput_ne fun z => by rw [z, h] at e; cases e]
  exact e
/-- int(b) -/
def cIntB : CD := fun ds P => match ds with
  | [.bool k] => P (int (if k then 1 else 0))
  | _ => False
theorem ok_intB {K : PySem.W.Frag} : CdOk K (fun xs H Q => (∃ i, xs = [.int i] ∧ Q (.int i) H) ∨ ∃ k, xs = [.bl k] ∧ Q (.int (if k then 1 else 0)) H) cIntB := fun b G H vs ds P Q g r h k => by
  unfold cIntB at h
  split at h
  · cases r with
    | cons r1 r2 =>
      cases r1
      cases r2
      exact .inr ⟨_, rfl, k.leaf g h (.int _)⟩
  · exact h.elim
theorem d_intb {X : Cx} {E : SX} {e : Expr} {ws : WA} {pos p : Pos} (hm : X.mg "int" = none) (ha : PA X [e] (aOf X.K X.mg E ws)) (hg : Gl X "int" := by rfl) (he : starEach [e] X.env = (false, eval e X.env) :: starEach [] X.env := by rfl) (hpl : (backTo pos (starEach [] X.env)).any (·.1) = false := by rfl) : PE X (.Call (.Name "int" p) [e] [] pos) (tOf X.K X.mg E (dBlt cIntB ws)) :=
  d_ty call_int1 ok_intB hg hm (by decide +kernel) ha (by decide) (by decide) he hpl
theorem e_intb {k : Bool} {P : T → Prop} : cIntB [.bool k] P = P (int (if k then 1 else 0)) := rfl
def boolsD (bs : List Bool) : List PyData := bs.map .bool
def optsD (l : List (Option Nat)) : List PyData := l.map deadD
def booT (bs : List Bool) : T := .node (bs.map fun b => boo b)
def optT (l : List (Option Nat)) : T := .node (l.map fun x => .leaf (deadD x))
theorem booT_dat (bs : List Bool) : (booT bs).dat = .list (boolsD bs) := by
  unfold booT boolsD
  rw [dat_eq, List.map_map]
  rfl
theorem optT_dat (l : List (Option Nat)) : (optT l).dat = .list (optsD l) := by
  unfold optT optsD
  rw [dat_eq, List.map_map]
  rfl
theorem atI_nat' {ds : List PyData} {k : Nat} {d : PyData} (e : ds[k]? = some d) : atI ds (k : Int) = some d := atI_nat e
theorem atI_bools {bs : List Bool} {k : Nat} (h : k < bs.length) : atI (boolsD bs) (k : Int) = some (.bool (bs.getD k false)) := atI_nat (by
  unfold boolsD
  rw [List.getElem?_map, List.getElem?_eq_getElem h, List.getD_eq_getElem?_getD, List.getElem?_eq_getElem h]
  rfl)
theorem atI_opts {l : List (Option Nat)} {k : Nat} (h : k < l.length) : atI (optsD l) (k : Int) = some (deadD (l.getD k none)) := atI_nat (by
  unfold optsD
  rw [List.getElem?_map, List.getElem?_eq_getElem h, List.getD_eq_getElem?_getD, List.getElem?_eq_getElem h]
  rfl)
theorem deadD_isN {x : Option Nat} {P : T → Prop} : rdIsN (deadD x) .none P = P (boo (decide (x = none))) := by
  cases x with
  | none => exact e_isNn
  | some k => exact e_isNi
theorem deadD_notN {x : Option Nat} {P : T → Prop} : rdNotN (deadD x) .none P = P (boo (decide (x ≠ none))) := by
  cases x with
  | none => exact e_notNn
  | some k => exact e_notNi
theorem sub_ins {C : Addr} {ks : List Str} {ts : List T} {n : Nat} {r : List Nat} : (T.ins C ks ts).sub (n :: r) = (ts[n]?).elim none fun u => u.sub r := by
  show (match ts[n]? with | some u => u.sub r | none => none) = _
  cases ts[n]? <;> rfl
theorem put_ins {C : Addr} {ks : List Str} {ts : List T} {n : Nat} {r : List Nat} {u : T} : (T.ins C ks ts).put (n :: r) u = (ts[n]?).elim (T.ins C ks ts) fun x => .ins C ks (ts.set n (x.put r u)) := by
  show (match ts[n]? with | some x => T.ins C ks (ts.set n (x.put r u)) | none => _) = _
  cases ts[n]? <;> rfl
theorem nodeI_node {ns : List Int} {us : List T} : (nodeI ns = T.node us) = ((ns.map fun i => T.leaf (.int i)) = us) := propext ⟨fun h => T.node.inj h, fun h => by rw [← h]; rfl⟩
theorem nodeT_node {rows : List (List Int)} {us : List T} : (nodeT rows = T.node us) = (rows.map nodeI = us) := propext ⟨fun h => T.node.inj h, fun h => by rw [← h]; rfl⟩
theorem booT_node {bs : List Bool} {us : List T} : (booT bs = T.node us) = ((bs.map fun b => T.leaf (.bool b)) = us) := propext ⟨fun h => T.node.inj h, fun h => by rw [← h]; rfl⟩
theorem optT_node {l : List (Option Nat)} {us : List T} : (optT l = T.node us) = ((l.map fun x => T.leaf (deadD x)) = us) := propext ⟨fun h => T.node.inj h, fun h => by rw [← h]; rfl⟩
theorem foldI {ns : List Int} {k : Nat} {v : Int} : T.node ((ns.map fun i => T.leaf (.int i)).set k (.leaf (.int v))) = nodeI (ns.set k v) := by
  rw [mapI1_set]
  rfl
theorem foldB {bs : List Bool} {k : Nat} {v : Bool} : T.node ((bs.map fun b => T.leaf (.bool b)).set k (.leaf (.bool v))) = booT (bs.set k v) := by
  unfold booT
  rw [List.map_set]
theorem foldO {l : List (Option Nat)} {k h : Nat} : T.node ((l.map fun x => T.leaf (deadD x)).set k (.leaf (.int (h : Nat)))) = optT (l.set k (some h)) := by
  unfold optT
  rw [List.map_set]
  rfl
theorem foldA {ns : List Int} {v : Int} : T.node ((ns.map fun i => T.leaf (.int i)) ++ [.leaf (.int v)]) = nodeI (ns ++ [v]) := nodeI_snoc ns v
theorem natI_snoc (ns : List Nat) (k : Nat) : natI ns ++ [(k : Int)] = natI (ns ++ [k]) := by
  unfold natI
  rw [List.map_append]
  rfl
theorem sub_T {rows : List (List Int)} {k : Nat} (h : k < rows.length) : (nodeT rows).sub [k] = some (.node ((rows.getD k []).map fun i => T.leaf (.int i))) := by
  show (match ((rows.map nodeI)[k]?) with | some u => u.sub [] | none => none) = _
  rw [List.getElem?_map, List.getElem?_eq_getElem h]
  show (nodeI _).sub [] = _
  rw [sub_nil, List.getD_eq_getElem?_getD, List.getElem?_eq_getElem h]
  rfl
theorem put_T {rows : List (List Int)} {k j : Nat} {v : Int} (h : k < rows.length) : (nodeT rows).put [k] (.node (((rows.getD k []).map fun i => T.leaf (.int i)).set j (.leaf (.int v)))) = nodeT (set2 rows k j v) := by
  rw [← nodeT_set (n := rows.length) rfl h]
  show (match ((rows.map nodeI)[k]?) with | some x => T.node ((rows.map nodeI).set k (x.put [] _)) | none => _) = _
  rw [List.getElem?_map, List.getElem?_eq_getElem h]
  show T.node ((rows.map nodeI).set k ((nodeI _).put [] _)) = _
  rw [put_nil]
theorem flT_B : ∀ bs : List Bool, flT (booT bs) = true := fun bs => by
  show flTs (bs.map _) = true
  induction bs with
  | nil => rfl
  | cons b r ih => exact (Bool.and_eq_true_iff).mpr ⟨rfl, ih⟩
theorem flT_O : ∀ l : List (Option Nat), flT (optT l) = true := fun l => by
  show flTs (l.map _) = true
  induction l with
  | nil => rfl
  | cons b r ih => exact (Bool.and_eq_true_iff).mpr ⟨by cases b <;> rfl, ih⟩
theorem optT_rep (n : Nat) : T.node (List.replicate n (T.leaf .none)) = optT (List.replicate n none) := by
  unfold optT
  rw [List.map_replicate]
  rfl
theorem booT_rep (n : Nat) (b : Bool) : T.node (List.replicate n (T.leaf (.bool b))) = booT (List.replicate n b) := by
  unfold booT
  rw [List.map_replicate]
theorem e_rtS {k : Nat} {P : T → Sto → Prop} {xp : Str → PyData → Sto → Prop} {m : Sto} {u : T} : (storeEnds k P xp).rt (.eff m u) = ∃ m', SLe m' m ∧ P u m' := propext ⟨fun ⟨m1, u1, e, h⟩ => by
  cases e
  exact h, fun h => ⟨m, u, rfl, h⟩⟩
theorem e_nxS {k : Nat} {P : T → Sto → Prop} {xp : Str → PyData → Sto → Prop} {ρ : Rho} : (storeEnds k P xp).nx ρ = ∃ m, ρ[k]? = some (some (.sto m)) ∧ ∃ m', SLe m' m ∧ P non m' := rfl
theorem booT_map {α : Type} (l : List α) (g : α → Bool) : T.node (l.map fun a => T.leaf (.bool (g a))) = booT (l.map g) := by
  unfold booT
  rw [List.map_map]
  rfl
theorem natT_map (l : List Nat) : T.node (l.map fun a => T.leaf (.int (a : Nat))) = nodeI (natI l) := by
  unfold nodeI natI
  rw [List.map_map]
  rfl
theorem ixN_nat {n i : Nat} (h : i < n) : ixN n (i : Int) = some i := by
  have := ixN_of (n := n) (k := (i : Int)) (by omega) (by omega)
  rwa [Int.toNat_natCast] at this
theorem atI_tabN {rows : List (List Int)} {k : Nat} (h : k < rows.length) : atI (tabD rows) (k : Int) = some (.list (intsD (rows.getD k []))) := by
  have := atI_tab (rows := rows) (k := (k : Int)) (by omega) (by omega)
  rwa [Int.toNat_natCast] at this
theorem atI_intsN {ns : List Int} {k : Nat} (h : k < ns.length) : atI (intsD ns) (k : Int) = some (.int (ns.getD k 0)) := by
  have := atI_ints (ns := ns) (k := (k : Int)) (by omega) (by omega)
  rwa [Int.toNat_natCast] at this
theorem frz_I (ns : List Int) : (nodeI ns).frz = .leaf (.list (intsD ns)) := by
  show T.leaf (nodeI ns).dat = _
  rw [nodeI_dat]
theorem frz_T (rows : List (List Int)) : (nodeT rows).frz = .leaf (.list (tabD rows)) := by
  show T.leaf (nodeT rows).dat = _
  rw [nodeT_dat]
theorem frz_B (bs : List Bool) : (booT bs).frz = .leaf (.list (boolsD bs)) := by
  show T.leaf (booT bs).dat = _
  rw [booT_dat]
theorem frz_O (l : List (Option Nat)) : (optT l).frz = .leaf (.list (optsD l)) := by
  show T.leaf (optT l).dat = _
  rw [optT_dat]
theorem put_T' {rows : List (List Int)} {k j : Nat} {v : Int} (h : k < rows.length) : (nodeT rows).put [k] (nodeI ((rows.getD k []).set j v)) = nodeT (set2 rows k j v) := by
  rw [← foldI]
  exact put_T h
end Dd
/-! Roads: the state, the search, the way, the push. -/
namespace Dd
open PySem L2
structure RoS where
  left : List Int
  room : List Int
  sent : List (List Int)
  seen : List Bool
  byL : List (Option Nat)
  byR : List (Option Nat)
structure RoS.Dim (n : Nat) (R : RoS) : Prop where
  l : R.left.length = n
  r : R.room.length = n
  s : R.sent.length = n
  sr : ∀ r ∈ R.sent, r.length = n
  se : R.seen.length = n
  bl : R.byL.length = n
  br : R.byR.length = n
abbrev RC := RoS × List Nat
def gbS (t : Nat) (c : RC) (a : Nat) : RC :=
  if c.1.seen.getD a false = false ∧ 0 < at2 c.1.sent a t then ({ c.1 with seen := c.1.seen.set a true, byR := c.1.byR.set a (some t) }, c.2 ++ [a]) else c
def gb (t : Nat) : Nat → RC → RC
  | 0, c => c
  | k + 1, c => gbS t (gb t k c) k
def setL (h t : Nat) (c : RC) : RC := ({ c.1 with byL := c.1.byL.set t (some h) }, c.2)
def scS (n : Nat) (o : Ties) (h k : Nat) (c : RC) : Option Nat × RC :=
  if tieB o h k = true ∧ c.1.byL.getD k none = none then (if 0 < c.1.room.getD k 0 then (some k, setL h k c) else (none, gb k n (setL h k c))) else (none, c)
def scan (n : Nat) (o : Ties) (h : Nat) : Nat → RC → Option Nat × RC
  | 0, c => (none, c)
  | k + 1, c => match scan n o h k c with
    | (some t, c') => (some t, c')
    | (none, c') => scS n o h k c'
inductive Look (n : Nat) (o : Ties) : Nat → RC → Nat → Option Nat → RoS → Prop
  | done {c : RC} {p : Nat} : c.2.length ≤ p → Look n o 0 c p none c.1
  | hit {c c' : RC} {p h t : Nat} : c.2[p]? = some h → scan n o h n c = (some t, c') → Look n o 0 c p (some t) c'.1
  | next {c c' : RC} {p h k : Nat} {r : Option Nat} {R : RoS} : c.2[p]? = some h → scan n o h n c = (none, c') → Look n o k c' (p + 1) r R → Look n o (k + 1) c p r R
def beg (n : Nat) (R : RoS) : RC := ({ R with seen := R.left.map fun x => decide (0 < x), byL := List.replicate n none, byR := List.replicate n none }, (List.range n).filter fun a => decide (0 < R.left.getD a 0))
abbrev Stp3 := Nat × Nat × Option Nat
inductive Wy (R : RoS) : Nat → Nat → Nat → Nat → List Stp3 → Prop
  | stop {t h : Nat} : R.byR.getD h none = none → Wy R 0 t h h [(h, t, none)]
  | go {k t h r h' s : Nat} {l : List Stp3} : R.byR.getD h none = some r → R.byL.getD r none = some h' → Wy R k r h' s l → Wy R (k + 1) t h s ((h, t, some r) :: l)
def mnI (i j : Int) : Int := if j < i then j else i
def pmS (s : List (List Int)) (x : Int) (st : Stp3) : Int := match st.2.2 with
  | none => x
  | some r => mnI x (at2 s st.1 r)
def pst (m : Int) (s : List (List Int)) (st : Stp3) : List (List Int) := match st.2.2 with
  | none => set2 s st.1 st.2.1 (at2 s st.1 st.2.1 + m)
  | some r => set2 (set2 s st.1 st.2.1 (at2 s st.1 st.2.1 + m)) st.1 r (at2 (set2 s st.1 st.2.1 (at2 s st.1 st.2.1 + m)) st.1 r - m)
def pushM (R : RoS) (e s : Nat) (l : List Stp3) : Int := l.foldl (pmS R.sent) (mnI (R.left.getD s 0) (R.room.getD e 0))
def pushR (R : RoS) (e s : Nat) (l : List Stp3) : RoS :=
  { R with sent := l.foldl (pst (pushM R e s l)) R.sent, left := R.left.set s (R.left.getD s 0 - pushM R e s l), room := R.room.set e (R.room.getD e 0 - pushM R e s l) }
inductive Fill (n : Nat) (o : Ties) : Nat → RoS → RoS → Prop
  | done {k : Nat} {R R1 : RoS} : R.Dim n → Look n o k (beg n R) 0 none R1 → Fill n o 0 R R1
  | more {k j q e h s : Nat} {R R1 R2 : RoS} {l : List Stp3} : R.Dim n → Look n o k (beg n R) 0 (some e) R1 → e < n → R1.byL.getD e none = some h → Wy R1 j e h s l → (∀ st ∈ l, st.1 < n ∧ st.2.1 < n ∧ ∀ r, st.2.2 = some r → r < n) → l.length ≤ n → s < n → R1.Dim n → Fill n o q (pushR R1 e s l) R2 → Fill n o (q + 1) R R2
/-! ### one answer -/
theorem Look.det {n : Nat} {o : Ties} {k : Nat} {c : RC} {p : Nat} {r : Option Nat} {R : RoS} (h : Look n o k c p r R) : ∀ {k' : Nat} {r' : Option Nat} {R' : RoS}, Look n o k' c p r' R' → r = r' ∧ R = R' := by
  induction h with
  | done l =>
    intro k' r' R' g
    cases g with
    | done _ => exact ⟨rfl, rfl⟩
    | hit e _ => have := (List.getElem?_eq_some_iff.mp e).1; omega
    | next e _ _ => have := (List.getElem?_eq_some_iff.mp e).1; omega
  | hit e s =>
    intro k' r' R' g
    cases g with
    | done l => have := (List.getElem?_eq_some_iff.mp e).1; omega
    | hit e2 s2 => rw [e] at e2; cases e2; rw [s] at s2; cases s2; exact ⟨rfl, rfl⟩
    | next e2 s2 _ => rw [e] at e2; cases e2; rw [s] at s2; cases s2
  | next e s _ ih =>
    intro k' r' R' g
    cases g with
    | done l => have := (List.getElem?_eq_some_iff.mp e).1; omega
    | hit e2 s2 => rw [e] at e2; cases e2; rw [s] at s2; cases s2
    | next e2 s2 g => rw [e] at e2; cases e2; rw [s] at s2; cases s2; exact ih g
theorem Wy.det {R : RoS} {k t h s : Nat} {l : List Stp3} (w : Wy R k t h s l) : ∀ {k' s' : Nat} {l' : List Stp3}, Wy R k' t h s' l' → s = s' ∧ l = l' := by
  induction w with
  | stop e =>
    intro k' s' l' g
    cases g with
    | stop _ => exact ⟨rfl, rfl⟩
    | go e2 _ _ => rw [e] at e2; cases e2
  | go e b _ ih =>
    intro k' s' l' g
    cases g with
    | stop e2 => rw [e] at e2; cases e2
    | go e2 b2 g =>
      rw [e] at e2; cases e2
      rw [b] at b2; cases b2
      obtain ⟨rfl, rfl⟩ := ih g
      exact ⟨rfl, rfl⟩
theorem Fill.det {n : Nat} {o : Ties} {k : Nat} {R R1 : RoS} (h : Fill n o k R R1) : ∀ {k' : Nat} {R1' : RoS}, Fill n o k' R R1' → R1 = R1' := by
  induction h with
  | done _ l =>
    intro k' R1' g
    cases g with
    | done _ l2 => exact (l.det l2).2
    | more _ l2 _ _ _ _ _ _ _ _ => cases (l.det l2).1
  | more _ l en b w _ _ _ _ _ ih =>
    intro k' R1' g
    cases g with
    | done _ l2 => cases (l.det l2).1
    | more _ l2 _ b2 w2 _ _ _ _ g =>
      obtain ⟨e1, e2⟩ := l.det l2
      cases e1
      subst e2
      rw [b] at b2
      cases b2
      obtain ⟨rfl, rfl⟩ := w.det w2
      exact ih g
/-! ### the search -/
theorem getD_set' {α : Type} {xs : List α} {i j : Nat} {v d : α} (h : i < xs.length) : (xs.set i v).getD j d = if j = i then v else xs.getD j d := by
  rw [List.getD_eq_getElem?_getD, List.getD_eq_getElem?_getD]
  by_cases e : j = i
  · subst e
    rw [if_pos rfl, List.getElem?_set_self h] <;> rfl
  · rw [if_neg e, List.getElem?_set_ne (Ne.symm e)]
structure SI (n : Nat) (o : Ties) (c : RC) (q : Nat) : Prop where
  d : c.1.Dim n
  lt : ∀ a ∈ c.2, a < n
  nd : c.2.Nodup
  seen : ∀ a, c.1.seen.getD a false = true ↔ a ∈ c.2
  lf : ∀ a, a < n → 0 < c.1.left.getD a 0 → a ∈ c.2
  bl : ∀ j l, c.1.byL.getD j none = some l → (∃ m, m < q ∧ c.2[m]? = some l) ∧ tieB o l j = true ∧ j < n
  br : ∀ (k : Nat) i, c.2[k]? = some i → (c.1.byR.getD i none = none → 0 < c.1.left.getD i 0) ∧ ∀ r, c.1.byR.getD i none = some r → 0 < at2 c.1.sent i r ∧ ∃ m l, m < k ∧ c.2[m]? = some l ∧ c.1.byL.getD r none = some l
structure Grow (c c' : RC) : Prop where
  l : c'.1.left = c.1.left
  r : c'.1.room = c.1.room
  s : c'.1.sent = c.1.sent
  x : ∃ ext, c'.2 = c.2 ++ ext
  b : ∀ j l, c.1.byL.getD j none = some l → c'.1.byL.getD j none = some l
theorem Grow.rfl' (c : RC) : Grow c c := ⟨rfl, rfl, rfl, ⟨[], (List.append_nil _).symm⟩, fun _ _ h => h⟩
theorem Grow.trans {a b c : RC} (h : Grow a b) (k : Grow b c) : Grow a c := by
  obtain ⟨x, hx⟩ := h.x
  obtain ⟨y, hy⟩ := k.x
  exact ⟨k.l.trans h.l, k.r.trans h.r, k.s.trans h.s, ⟨x ++ y, by rw [hy, hx, List.append_assoc]⟩, fun j l e => k.b j l (h.b j l e)⟩
theorem Grow.get {c c' : RC} (h : Grow c c') {m a : Nat} (e : c.2[m]? = some a) : c'.2[m]? = some a := by
  obtain ⟨x, hx⟩ := h.x
  rw [hx, List.getElem?_append_left (List.getElem?_eq_some_iff.mp e).1]
  exact e
theorem Grow.mem {c c' : RC} (h : Grow c c') {a : Nat} (e : a ∈ c.2) : a ∈ c'.2 := by
  obtain ⟨x, hx⟩ := h.x
  rw [hx]
  exact List.mem_append_left _ e
theorem SI.mono {n : Nat} {o : Ties} {c : RC} {q q' : Nat} (h : SI n o c q) (hq : q ≤ q') : SI n o c q' :=
  ⟨h.d, h.lt, h.nd, h.seen, h.lf, fun j l e => let ⟨⟨m, hm, e1⟩, e2, e3⟩ := h.bl j l e; ⟨⟨m, by omega, e1⟩, e2, e3⟩, h.br⟩
theorem nodup_len : ∀ {n : Nat} {l : List Nat}, l.Nodup → (∀ a ∈ l, a < n) → l.length ≤ n
  | 0, [], _, _ => Nat.le_refl 0
  | 0, a :: l, _, h => absurd (h a (List.mem_cons_self ..)) (Nat.not_lt_zero _)
  | n + 1, l, nd, h => by
    by_cases c : n ∈ l
    · have h1 := nodup_len (n := n) (nd.erase n) fun a ha => by
        have := (nd.mem_erase_iff).mp ha
        have := h a this.2
        omega
      rw [List.length_erase_of_mem c] at h1
      omega
    · have := nodup_len (n := n) nd fun a ha => by
        have := h a ha
        have : a ≠ n := fun e => c (e ▸ ha)
        omega
      omega
theorem nodup_at {l : List Nat} (nd : l.Nodup) {i j a : Nat} (e1 : l[i]? = some a) (e2 : l[j]? = some a) : i = j := by
  obtain ⟨h1, e1⟩ := List.getElem?_eq_some_iff.mp e1
  obtain ⟨h2, e2⟩ := List.getElem?_eq_some_iff.mp e2
  have p := List.pairwise_iff_getElem.mp nd
  rcases Nat.lt_trichotomy i j with c | c | c
  · exact absurd (e1.trans e2.symm) (p i j h1 h2 c)
  · exact c
  · exact absurd (e2.trans e1.symm) (p j i h2 h1 c)
theorem SI.len {n : Nat} {o : Ties} {c : RC} {q : Nat} (h : SI n o c q) : c.2.length ≤ n := nodup_len h.nd h.lt
theorem RoS.Dim.gb {n : Nat} {R : RoS} (d : R.Dim n) (a t : Nat) : ({ R with seen := R.seen.set a true, byR := R.byR.set a (some t) } : RoS).Dim n :=
  ⟨d.l, d.r, d.s, d.sr, by show (R.seen.set a true).length = n; rw [List.length_set]; exact d.se, d.bl, by show (R.byR.set a (some t)).length = n; rw [List.length_set]; exact d.br⟩
theorem RoS.Dim.bl' {n : Nat} {R : RoS} (d : R.Dim n) (h t : Nat) : ({ R with byL := R.byL.set t (some h) } : RoS).Dim n :=
  ⟨d.l, d.r, d.s, d.sr, d.se, by show (R.byL.set t (some h)).length = n; rw [List.length_set]; exact d.bl, d.br⟩
theorem get_snoc {α : Type} {l : List α} {a x : α} {k : Nat} (e : (l ++ [a])[k]? = some x) : l[k]? = some x ∨ (k = l.length ∧ x = a) := by
  by_cases c : k < l.length
  · rw [List.getElem?_append_left c] at e
    exact .inl e
  · rw [List.getElem?_append_right (by omega)] at e
    have : k - l.length = 0 := by
      have := (List.getElem?_eq_some_iff.mp e).1
      simp at this
      omega
    rw [this] at e
    exact .inr ⟨by omega, (Option.some.inj e).symm⟩
theorem gbS_ok {n : Nat} {o : Ties} {c : RC} {q t h m a : Nat} (I : SI n o c q) (ht : c.1.byL.getD t none = some h) (hm : c.2[m]? = some h) (ha : a < n) : SI n o (gbS t c a) q ∧ Grow c (gbS t c a) ∧ (gbS t c a).1.byL = c.1.byL ∧ (0 < at2 c.1.sent a t → a ∈ (gbS t c a).2) := by
  unfold gbS
  by_cases cc : c.1.seen.getD a false = false ∧ 0 < at2 c.1.sent a t
  · rw [if_pos cc]
    have na : a ∉ c.2 := fun z => by
      rw [(I.seen a).mpr z] at cc
      cases cc.1
    refine ⟨⟨I.d.gb a t, fun x hx => ?_, ?_, fun x => ?_, fun x hx hl => List.mem_append_left _ (I.lf x hx hl), fun j l e => ?_, fun k i e => ?_⟩, ⟨rfl, rfl, rfl, ⟨[a], rfl⟩, fun _ _ h => h⟩, rfl, fun _ => by simp⟩
    · rcases List.mem_append.mp hx with z | z
      · exact I.lt x z
      · rw [List.mem_singleton.mp z]
        exact ha
    · show (c.2 ++ [a]).Nodup
      rw [List.nodup_append]
      refine ⟨I.nd, by simp, fun x hx y hy => ?_⟩
      rw [List.mem_singleton.mp hy]
      exact fun e => na (e ▸ hx)
    · show (c.1.seen.set a true).getD x false = true ↔ x ∈ c.2 ++ [a]
      rw [getD_set' (by rw [I.d.se]; exact ha)]
      by_cases e : x = a
      · rw [if_pos e]
        simp [e]
      · rw [if_neg e, I.seen x]
        simp [e]
    · obtain ⟨⟨m, h1, h2⟩, h3⟩ := I.bl j l e
      exact ⟨⟨m, h1, by show (c.2 ++ [a])[m]? = _; rw [List.getElem?_append_left (List.getElem?_eq_some_iff.mp h2).1]; exact h2⟩, h3⟩
    · have sub : ∀ {m l : Nat}, c.2[m]? = some l → (c.2 ++ [a])[m]? = some l := fun {m l} h2 => by rw [List.getElem?_append_left (List.getElem?_eq_some_iff.mp h2).1]; exact h2
      show ((c.1.byR.set a (some t)).getD i none = none → _) ∧ ∀ r, (c.1.byR.set a (some t)).getD i none = some r → _
      rw [getD_set' (by rw [I.d.br]; exact ha)]
      rcases get_snoc e with z | ⟨rfl, rfl⟩
      · have ne : i ≠ a := fun e => na (by rw [← e]; exact List.mem_of_getElem? z)
        rw [if_neg ne]
        obtain ⟨b1, b2⟩ := I.br k i z
        refine ⟨b1, fun r hr => ?_⟩
        obtain ⟨g1, m, l, g2, g3, g4⟩ := b2 r hr
        exact ⟨g1, m, l, g2, sub g3, g4⟩
      · rw [if_pos rfl]
        refine ⟨fun z => (nomatch z), fun r hr => ?_⟩
        cases hr
        exact ⟨cc.2, m, h, (List.getElem?_eq_some_iff.mp hm).1, sub hm, ht⟩
  · rw [if_neg cc]
    refine ⟨I, Grow.rfl' c, rfl, fun hs => ?_⟩
    by_cases z : c.1.seen.getD a false = true
    · exact (I.seen a).mp z
    · exact absurd ⟨by simpa using z, hs⟩ cc
theorem gb_ok {n : Nat} {o : Ties} {c : RC} {q t h m : Nat} (I : SI n o c q) (ht : c.1.byL.getD t none = some h) (hm : c.2[m]? = some h) : ∀ {k : Nat}, k ≤ n → SI n o (gb t k c) q ∧ Grow c (gb t k c) ∧ (gb t k c).1.byL = c.1.byL ∧ ∀ a, a < k → 0 < at2 c.1.sent a t → a ∈ (gb t k c).2
  | 0, _ => ⟨I, Grow.rfl' c, rfl, fun a h => absurd h (Nat.not_lt_zero _)⟩
  | k + 1, hk => by
    obtain ⟨I1, g1, b1, s1⟩ := gb_ok I ht hm (k := k) (by omega)
    obtain ⟨I2, g2, b2, s2⟩ := gbS_ok I1 (by rw [b1]; exact ht) (g1.get hm) (show k < n by omega)
    refine ⟨I2, g1.trans g2, b2.trans b1, fun a ha hs => ?_⟩
    by_cases e : a = k
    · subst e
      exact s2 (by rw [g1.s]; exact hs)
    · exact g2.mem (s1 a (by omega) hs)
/-- a node of the other side is reached -/
theorem setL_ok {n : Nat} {o : Ties} {c : RC} {p h t : Nat} (I : SI n o c (p + 1)) (hp : c.2[p]? = some h) (ht : t < n) (tie : tieB o h t = true) (hn : c.1.byL.getD t none = none) : SI n o (setL h t c) (p + 1) ∧ Grow c (setL h t c) ∧ (setL h t c).1.byL.getD t none = some h := by
  have hl : t < c.1.byL.length := by rw [I.d.bl]; exact ht
  have key : ∀ j l, c.1.byL.getD j none = some l → (c.1.byL.set t (some h)).getD j none = some l := fun j l e => by
    rw [getD_set' hl, if_neg fun z => by rw [z, hn] at e; cases e]
    exact e
  refine ⟨⟨I.d.bl' h t, I.lt, I.nd, I.seen, I.lf, fun j l e => ?_, fun k i e => ?_⟩, ⟨rfl, rfl, rfl, ⟨[], (List.append_nil _).symm⟩, key⟩, ?_⟩
  · have e : (c.1.byL.set t (some h)).getD j none = some l := e
    rw [getD_set' hl] at e
    by_cases z : j = t
    · rw [if_pos z] at e
      cases e
      exact ⟨⟨p, Nat.lt_succ_self p, hp⟩, by rw [z]; exact tie, by omega⟩
    · rw [if_neg z] at e
      exact I.bl j l e
  · obtain ⟨b1, b2⟩ := I.br k i e
    refine ⟨b1, fun r hr => ?_⟩
    obtain ⟨g1, m, l, g2, g3, g4⟩ := b2 r hr
    exact ⟨g1, m, l, g2, g3, key r l g4⟩
  · show (c.1.byL.set t (some h)).getD t none = some h
    rw [getD_set' hl, if_pos rfl]
/-- what was reached is full, and those who sent to it are reached -/
def FullR (n : Nat) (c : RC) : Prop := ∀ j, c.1.byL.getD j none ≠ none → c.1.room.getD j 0 ≤ 0 ∧ ∀ i, i < n → 0 < at2 c.1.sent i j → i ∈ c.2
theorem scS_ok {n : Nat} {o : Ties} {c : RC} {p h k : Nat} (I : SI n o c (p + 1)) (hp : c.2[p]? = some h) (hk : k < n) (F : FullR n c) : SI n o (scS n o h k c).2 (p + 1) ∧ Grow c (scS n o h k c).2 ∧
    ((scS n o h k c).1 = none → FullR n (scS n o h k c).2 ∧ (tieB o h k = true → (scS n o h k c).2.1.byL.getD k none ≠ none)) ∧ ∀ t, (scS n o h k c).1 = some t → t = k ∧ (scS n o h k c).2.1.byL.getD t none = some h ∧ 0 < c.1.room.getD t 0 := by
  unfold scS
  by_cases cc : tieB o h k = true ∧ c.1.byL.getD k none = none
  · rw [if_pos cc]
    obtain ⟨I1, g1, b1⟩ := setL_ok I hp hk cc.1 cc.2
    by_cases r : 0 < c.1.room.getD k 0
    · rw [if_pos r]
      exact ⟨I1, g1, fun z => (nomatch z), fun t e => by cases e; exact ⟨rfl, b1, r⟩⟩
    · rw [if_neg r]
      obtain ⟨I2, g2, b2, s2⟩ := gb_ok I1 b1 (g1.get hp) (Nat.le_refl n)
      refine ⟨I2, g1.trans g2, fun _ => ⟨fun j hj => ?_, fun _ => by show (gb k n (setL h k c)).1.byL.getD k none ≠ none; rw [b2, b1]; exact fun z => nomatch z⟩, fun t e => by cases e⟩
      have g := g1.trans g2
      show (gb k n (setL h k c)).1.room.getD j 0 ≤ 0 ∧ ∀ i, i < n → 0 < at2 (gb k n (setL h k c)).1.sent i j → i ∈ (gb k n (setL h k c)).2
      rw [g.r, g.s]
      by_cases e : j = k
      · subst e
        exact ⟨by omega, fun i hi hs => s2 i hi (by rw [g1.s]; exact hs)⟩
      · have hj : (gb k n (setL h k c)).1.byL.getD j none ≠ none := hj
        rw [b2] at hj
        have : (setL h k c).1.byL.getD j none = c.1.byL.getD j none := by
          show (c.1.byL.set k (some h)).getD j none = _
          rw [getD_set' (by rw [I.d.bl]; exact hk), if_neg e]
        rw [this] at hj
        obtain ⟨f1, f2⟩ := F j hj
        exact ⟨f1, fun i hi hs => g.mem (f2 i hi hs)⟩
  · rw [if_neg cc]
    refine ⟨I, Grow.rfl' c, fun _ => ⟨F, fun ht z => cc ⟨ht, z⟩⟩, fun t e => by cases e⟩
theorem scan_ok {n : Nat} {o : Ties} {c : RC} {p h : Nat} (I : SI n o c (p + 1)) (hp : c.2[p]? = some h) (F : FullR n c) : ∀ {k : Nat}, k ≤ n → SI n o (scan n o h k c).2 (p + 1) ∧ Grow c (scan n o h k c).2 ∧
    ((scan n o h k c).1 = none → FullR n (scan n o h k c).2 ∧ ∀ j, j < k → tieB o h j = true → (scan n o h k c).2.1.byL.getD j none ≠ none) ∧ ∀ t, (scan n o h k c).1 = some t → t < n ∧ (scan n o h k c).2.1.byL.getD t none = some h ∧ 0 < c.1.room.getD t 0
  | 0, _ => ⟨I, Grow.rfl' c, fun _ => ⟨F, fun j h => absurd h (Nat.not_lt_zero _)⟩, fun t e => by cases e⟩
  | k + 1, hk => by
    obtain ⟨I1, g1, n1, s1⟩ := scan_ok I hp F (k := k) (by omega)
    unfold scan
    revert I1 g1 n1 s1
    rcases scan n o h k c with ⟨r, c'⟩
    intro I1 g1 n1 s1
    cases r with
    | some t => exact ⟨I1, g1, fun z => (nomatch z), fun t' e => s1 t' e⟩
    | none =>
      obtain ⟨F1, cl⟩ := n1 rfl
      obtain ⟨I2, g2, n2, s2⟩ := scS_ok I1 (g1.get hp) (show k < n by omega) F1
      refine ⟨I2, g1.trans g2, fun z => ⟨(n2 z).1, fun j hj ht => ?_⟩, fun t e => ?_⟩
      · by_cases e : j = k
        · subst e
          exact (n2 z).2 ht
        · cases q : c'.1.byL.getD j none with
          | none => exact absurd q (cl j (by omega) ht)
          | some l =>
            have := g2.b j l q
            intro w
            have w : (scS n o h k c').2.1.byL.getD j none = none := w
            rw [this] at w
            cases w
      · obtain ⟨e1, e2, e3⟩ := s2 t e
        exact ⟨by omega, e2, by rw [← g1.r]; exact e3⟩
/-- all that the first p of the line are tied to is reached -/
def DoneT (n : Nat) (o : Ties) (c : RC) (p : Nat) : Prop := ∀ k l j, k < p → c.2[k]? = some l → j < n → tieB o l j = true → c.1.byL.getD j none ≠ none
structure SEnd (n : Nat) (o : Ties) (c : RC) (q : Nat) : Prop where
  i : SI n o c q
theorem look_ok {n : Nat} {o : Ties} : ∀ (f : Nat) {c : RC} {p : Nat}, n - p ≤ f → SI n o c p → FullR n c → DoneT n o c p → p ≤ c.2.length → ∃ k r c', Look n o k c p r c'.1 ∧ Grow c c' ∧ (∃ q, SI n o c' q) ∧
    (r = none → FullR n c' ∧ DoneT n o c' c'.2.length) ∧ ∀ t, r = some t → t < n ∧ 0 < c.1.room.getD t 0 ∧ ∃ h, c'.1.byL.getD t none = some h
  | f, c, p, hf, I, F, D, hp => by
    by_cases e : c.2.length ≤ p
    · exact ⟨0, none, c, .done e, Grow.rfl' c, ⟨p, I⟩, fun _ => ⟨F, fun k l j hk => D k l j (by omega)⟩, fun t z => (nomatch z)⟩
    · have hp : c.2[p]? = some (c.2[p]'(by omega)) := List.getElem?_eq_getElem _
      generalize c.2[p]'(by omega) = h at hp
      have hl := I.len
      obtain ⟨I1, g1, n1, s1⟩ := scan_ok (I.mono (Nat.le_succ p)) hp F (Nat.le_refl n)
      generalize hs : scan n o h n c = sc at *
      obtain ⟨r, c'⟩ := sc
      cases r with
      | some t =>
        obtain ⟨t1, t2, t3⟩ := s1 t rfl
        exact ⟨0, some t, c', .hit hp hs, g1, ⟨_, I1⟩, fun z => (nomatch z), fun t' e => by cases e; exact ⟨t1, t3, h, t2⟩⟩
      | none =>
        obtain ⟨F1, cl⟩ := n1 rfl
        cases f with
        | zero => omega
        | succ f =>
          have g1' := g1
          obtain ⟨x, hx⟩ := g1'.x
          have hlen : p + 1 ≤ c'.2.length := by
            have : c'.2.length = c.2.length + x.length := by rw [show c'.2 = _ from hx, List.length_append]
            omega
          obtain ⟨k, r, c2, L, g2, i2, n2, s2⟩ := look_ok f (c := c') (p := p + 1) (by omega) I1 F1 (fun k l j hk e3 hj ht => by
            by_cases z : k = p
            · subst z
              rw [show c'.2[k]? = some h from g1.get hp] at e3
              cases e3
              exact cl j hj ht
            · have hk' : k < c.2.length := by omega
              have e2 : c.2[k]? = some l := by
                have : c'.2[k]? = some c.2[k] := g1.get (List.getElem?_eq_getElem hk')
                rw [this] at e3
                cases e3
                exact List.getElem?_eq_getElem hk'
              cases q : c.1.byL.getD j none with
              | none => exact absurd q (D k l j (by omega) e2 hj ht)
              | some y =>
                intro w
                rw [g1.b j y q] at w
                cases w) hlen
          exact ⟨k + 1, r, c2, .next hp hs L, g1.trans g2, i2, n2, fun t e => let ⟨a, b, d⟩ := s2 t e; ⟨a, by rw [← g1.r]; exact b, d⟩⟩
theorem beg_ok {n : Nat} {o : Ties} {R : RoS} (d : R.Dim n) : SI n o (beg n R) 0 ∧ FullR n (beg n R) ∧ DoneT n o (beg n R) 0 := by
  have none_at : ∀ j : Nat, (List.replicate n (none : Option Nat)).getD j none = none := fun j => by
    rw [List.getD_eq_getElem?_getD, List.getElem?_replicate]
    split <;> rfl
  have mem : ∀ a, a ∈ (beg n R).2 ↔ a < n ∧ 0 < R.left.getD a 0 := fun a => by
    show a ∈ (List.range n).filter _ ↔ _
    rw [List.mem_filter, List.mem_range, decide_eq_true_eq]
  refine ⟨⟨⟨d.l, d.r, d.s, d.sr, by show (R.left.map _).length = n; rw [List.length_map]; exact d.l, List.length_replicate, List.length_replicate⟩, fun a ha => ((mem a).mp ha).1, List.nodup_range.filter _, fun a => ?_, fun a ha hl => (mem a).mpr ⟨ha, hl⟩, fun j l e => ?_, fun k i e => ⟨fun _ => ((mem i).mp (List.mem_of_getElem? e)).2, fun r hr => ?_⟩⟩, fun j hj => absurd (none_at j) hj, fun k l j hk => absurd hk (Nat.not_lt_zero _)⟩
  · show (R.left.map fun x => decide (0 < x)).getD a false = true ↔ _
    rw [mem, List.getD_eq_getElem?_getD, List.getElem?_map, List.getD_eq_getElem?_getD]
    by_cases c : a < R.left.length
    · rw [List.getElem?_eq_getElem c]
      have : a < n := by rw [← d.l]; exact c
      simp [this]
    · rw [List.getElem?_eq_none (by omega)]
      simp
  · have e : (List.replicate n (none : Option Nat)).getD j none = some l := e
    rw [none_at] at e
    cases e
  · have hr : (List.replicate n (none : Option Nat)).getD i none = some r := hr
    rw [none_at] at hr
    cases hr
/-- the way back from what was reached -/
theorem way_ok {n : Nat} {o : Ties} {c : RC} {q : Nat} (I : SI n o c q) : ∀ (m : Nat) {t h : Nat}, t < n → c.2[m]? = some h → c.1.byL.getD t none = some h → ∃ k s l, Wy c.1 k t h s l ∧ s < n ∧ 0 < c.1.left.getD s 0 ∧ (l.map (·.1)).Nodup ∧
    (∀ st ∈ l, (∃ m', m' ≤ m ∧ c.2[m']? = some st.1) ∧ st.2.1 < n ∧ tieB o st.1 st.2.1 = true ∧ ∀ r, st.2.2 = some r → r < n ∧ 0 < at2 c.1.sent st.1 r) := by
  intro m
  induction m using Nat.strongRecOn with
  | ind m ih =>
    intro t h ht hm hb
    obtain ⟨b1, b2⟩ := I.br m h hm
    have tie := (I.bl t h hb).2.1
    cases e : c.1.byR.getD h none with
    | none => exact ⟨0, h, _, .stop e, I.lt h (List.mem_of_getElem? hm), b1 e, by simp, fun st hs => by
        rw [List.mem_singleton.mp hs]
        exact ⟨⟨m, Nat.le_refl m, hm⟩, ht, tie, fun r z => by cases z⟩⟩
    | some r =>
      obtain ⟨g1, m', l', g2, g3, g4⟩ := b2 r e
      have hr := (I.bl r l' g4).2.2
      obtain ⟨k, s, l, w, s1, s2, nd, al⟩ := ih m' g2 hr g3 g4
      refine ⟨k + 1, s, _, .go e g4 w, s1, s2, ?_, fun st hs => ?_⟩
      · rw [List.map_cons, List.nodup_cons]
        refine ⟨fun z => ?_, nd⟩
        obtain ⟨st, hs, e3⟩ := List.mem_map.mp z
        obtain ⟨⟨m2, h1, h2⟩, _⟩ := al st hs
        rw [e3] at h2
        have := nodup_at I.nd h2 hm
        omega
      · rcases List.mem_cons.mp hs with z | z
        · rw [z]
          exact ⟨⟨m, Nat.le_refl m, hm⟩, ht, tie, fun r' z => by cases z; exact ⟨hr, g1⟩⟩
        · obtain ⟨⟨m2, h1, h2⟩, h3⟩ := al st z
          exact ⟨⟨m2, by omega, h2⟩, h3⟩
theorem scS_I {n : Nat} {o : Ties} {c : RC} {p h k : Nat} (I : SI n o c (p + 1)) (hp : c.2[p]? = some h) (hk : k < n) : SI n o (scS n o h k c).2 (p + 1) ∧ Grow c (scS n o h k c).2 := by
  unfold scS
  by_cases cc : tieB o h k = true ∧ c.1.byL.getD k none = none
  · rw [if_pos cc]
    obtain ⟨I1, g1, b1⟩ := setL_ok I hp hk cc.1 cc.2
    by_cases r : 0 < c.1.room.getD k 0
    · rw [if_pos r]
      exact ⟨I1, g1⟩
    · rw [if_neg r]
      obtain ⟨I2, g2, b2, s2⟩ := gb_ok I1 b1 (g1.get hp) (Nat.le_refl n)
      exact ⟨I2, g1.trans g2⟩
  · rw [if_neg cc]
    exact ⟨I, Grow.rfl' c⟩
theorem scan_I {n : Nat} {o : Ties} {c : RC} {p h : Nat} (I : SI n o c (p + 1)) (hp : c.2[p]? = some h) : ∀ {k : Nat}, k ≤ n → SI n o (scan n o h k c).2 (p + 1) ∧ Grow c (scan n o h k c).2
  | 0, _ => ⟨I, Grow.rfl' c⟩
  | k + 1, hk => by
    obtain ⟨I1, g1⟩ := scan_I I hp (k := k) (by omega)
    unfold scan
    revert I1 g1
    rcases scan n o h k c with ⟨r, c'⟩
    intro I1 g1
    cases r with
    | some t => exact ⟨I1, g1⟩
    | none =>
      obtain ⟨I2, g2⟩ := scS_I I1 (g1.get hp) (show k < n by omega)
      exact ⟨I2, g1.trans g2⟩
/-- a hit ends it -/
theorem scan_hit {n : Nat} {o : Ties} {h t : Nat} {c c' : RC} : ∀ {k m : Nat}, scan n o h k c = (some t, c') → k ≤ m → scan n o h m c = (some t, c')
  | k, 0, e, hm => by
    have : k = 0 := by omega
    subst this
    exact e
  | k, m + 1, e, hm => by
    by_cases q : k = m + 1
    · rw [← q]
      exact e
    · unfold scan
      rw [scan_hit e (show k ≤ m by omega)]
theorem scan_step {n : Nat} {o : Ties} {h k : Nat} {c c' : RC} (e : scan n o h k c = (none, c')) : scan n o h (k + 1) c = scS n o h k c' := by
  show (match scan n o h k c with | (some t, c') => (some t, c') | (none, c') => scS n o h k c') = _
  rw [e]
/-! ### the push -/
theorem mnI_le (i j : Int) : mnI i j ≤ i ∧ mnI i j ≤ j ∧ (0 < i → 0 < j → 0 < mnI i j) := by
  unfold mnI
  split <;> refine ⟨by omega, by omega, fun a b => by omega⟩
theorem pm_ok (s : List (List Int)) : ∀ (l : List Stp3) (x : Int), l.foldl (pmS s) x ≤ x ∧ (∀ st ∈ l, ∀ r, st.2.2 = some r → l.foldl (pmS s) x ≤ at2 s st.1 r) ∧ (0 < x → (∀ st ∈ l, ∀ r, st.2.2 = some r → 0 < at2 s st.1 r) → 0 < l.foldl (pmS s) x)
  | [], x => ⟨Int.le_refl x, fun _ h => (nomatch h), fun h _ => h⟩
  | st :: l, x => by
    obtain ⟨h1, h2, h3⟩ := pm_ok s l (pmS s x st)
    have key : pmS s x st ≤ x ∧ (∀ r, st.2.2 = some r → pmS s x st ≤ at2 s st.1 r) ∧ (0 < x → (∀ r, st.2.2 = some r → 0 < at2 s st.1 r) → 0 < pmS s x st) := by
      unfold pmS
      cases e : st.2.2 with
      | none => exact ⟨Int.le_refl x, (fun r z => nomatch z), fun h _ => h⟩
      | some r =>
        obtain ⟨a, b, c⟩ := mnI_le x (at2 s st.1 r)
        exact ⟨a, (fun r' z => by cases z; exact b), fun h g => c h (g r rfl)⟩
    refine ⟨Int.le_trans h1 key.1, fun st' hs r e => ?_, fun hx hp => h3 (key.2.2 hx (hp st (List.mem_cons_self ..))) fun st' hs => hp st' (List.mem_cons_of_mem _ hs)⟩
    rcases List.mem_cons.mp hs with z | z
    · rw [z] at e ⊢
      exact Int.le_trans h1 (key.2.1 r e)
    · exact h2 st' z r e
/-- what a step adds at a place -/
def dlS (m : Int) (st : Stp3) (i j : Nat) : Int := (if i = st.1 ∧ j = st.2.1 then m else 0) - if i = st.1 ∧ st.2.2 = some j then m else 0
def dl (m : Int) : List Stp3 → Nat → Nat → Int
  | [], _, _ => 0
  | st :: l, i, j => dlS m st i j + dl m l i j
structure Sq (n : Nat) (s : List (List Int)) : Prop where
  l : s.length = n
  r : ∀ x ∈ s, x.length = n
theorem Sq.set {n : Nat} {s : List (List Int)} (h : Sq n s) {i j : Nat} (hi : i < n) (v : Int) : Sq n (set2 s i j v) := ⟨by rw [set2_len]; exact h.l, set2_row h.l h.r hi v⟩
structure StOk (n : Nat) (o : Ties) (st : Stp3) : Prop where
  h : st.1 < n
  t : st.2.1 < n
  tie : tieB o st.1 st.2.1 = true
  r : ∀ r, st.2.2 = some r → r < n
theorem pst_ok {n : Nat} {o : Ties} {s : List (List Int)} (q : Sq n s) {st : Stp3} (k : StOk n o st) (m : Int) : Sq n (pst m s st) ∧ ∀ i j, at2 (pst m s st) i j = at2 s i j + dlS m st i j := by
  unfold pst dlS
  have q1 := q.set (j := st.2.1) k.h (at2 s st.1 st.2.1 + m)
  cases e : st.2.2 with
  | none =>
    refine ⟨q1, fun i j => ?_⟩
    show at2 (set2 s st.1 st.2.1 (at2 s st.1 st.2.1 + m)) i j = _
    rw [at2_set2 q.l q.r k.h k.t]
    by_cases c : i = st.1 ∧ j = st.2.1
    · rw [if_pos c, if_pos c, c.1, c.2]
      simp
    · rw [if_neg c, if_neg c]
      simp
  | some r =>
    have hr := k.r r e
    refine ⟨q1.set k.h _, fun i j => ?_⟩
    show at2 (set2 (set2 s st.1 st.2.1 (at2 s st.1 st.2.1 + m)) st.1 r (at2 (set2 s st.1 st.2.1 (at2 s st.1 st.2.1 + m)) st.1 r - m)) i j = _
    rw [at2_set2 q1.l q1.r k.h hr, at2_set2 q.l q.r k.h k.t, at2_set2 q.l q.r k.h k.t]
    by_cases c1 : i = st.1
    · subst c1
      by_cases c2 : j = r
      · subst c2
        by_cases c3 : j = st.2.1
        · subst c3
          simp
        · simp [c3]
          omega
      · have c2' : ¬ r = j := fun z => c2 z.symm
        by_cases c3 : j = st.2.1
        · subst c3
          simp [c2, c2']
        · simp [c2, c2', c3]
    · simp [c1]
theorem psts_ok {n : Nat} {o : Ties} (m : Int) : ∀ {l : List Stp3} {s : List (List Int)}, Sq n s → (∀ st ∈ l, StOk n o st) → Sq n (l.foldl (pst m) s) ∧ ∀ i j, at2 (l.foldl (pst m) s) i j = at2 s i j + dl m l i j
  | [], s, q, _ => ⟨q, fun i j => (Int.add_zero _).symm⟩
  | st :: l, s, q, k => by
    obtain ⟨q1, e1⟩ := pst_ok q (k st (List.mem_cons_self ..)) m
    obtain ⟨q2, e2⟩ := psts_ok m (l := l) q1 fun x hx => k x (List.mem_cons_of_mem _ hx)
    refine ⟨q2, fun i j => ?_⟩
    show at2 (l.foldl (pst m) (pst m s st)) i j = at2 s i j + (dlS m st i j + dl m l i j)
    rw [e2, e1]
    omega
theorem sumN_pick {n t : Nat} (ht : t < n) (m : Int) : sumN (fun j => if j = t then m else 0) n = m := by
  rw [sumN_one ht fun i _ h => if_neg h, if_pos rfl]
theorem sumN_dlS_row {n : Nat} {o : Ties} {st : Stp3} (k : StOk n o st) (m : Int) (i : Nat) : sumN (fun j => dlS m st i j) n = (if i = st.1 then m else 0) - if i = st.1 ∧ st.2.2 ≠ none then m else 0 := by
  have e : sumN (fun j => dlS m st i j) n = sumN (fun j => if i = st.1 ∧ j = st.2.1 then m else 0) n + sumN (fun j => -(if i = st.1 ∧ st.2.2 = some j then m else 0)) n := by
    rw [← sumN_add]
    exact sumN_congr fun j _ => by unfold dlS; omega
  rw [e, sumN_neg]
  by_cases c : i = st.1
  · subst c
    have e1 : sumN (fun j => if st.1 = st.1 ∧ j = st.2.1 then m else 0) n = m := (sumN_congr fun j _ => by simp).trans (sumN_pick k.t m)
    rw [e1]
    cases e : st.2.2 with
    | none =>
      rw [sumN_zero fun j _ => by simp]
      simp
    | some r =>
      have e2 : sumN (fun j => if st.1 = st.1 ∧ some r = some j then m else 0) n = m := (sumN_congr fun j _ => by
          by_cases z : j = r
          · simp [z]
          · have : ¬ r = j := fun y => z y.symm
            simp [z, this]).trans (sumN_pick (k.r r e) m)
      rw [e2]
      simp
      omega
  · rw [sumN_zero fun j _ => by simp [c], sumN_zero fun j _ => by simp [c]]
    simp [c]
theorem sumN_dlS_col {n : Nat} {o : Ties} {st : Stp3} (k : StOk n o st) (m : Int) (j : Nat) : sumN (fun i => dlS m st i j) n = (if j = st.2.1 then m else 0) - if st.2.2 = some j then m else 0 := by
  have e : sumN (fun i => dlS m st i j) n = sumN (fun i => if i = st.1 then (if j = st.2.1 then m else 0) - (if st.2.2 = some j then m else 0) else 0) n := sumN_congr fun i _ => by
    unfold dlS
    by_cases c : i = st.1
    · simp [c]
    · simp [c]
  rw [e, sumN_pick k.h]
theorem dl_row {n : Nat} {o : Ties} {R : RoS} {m : Int} (i : Nat) {k t h s : Nat} {l : List Stp3} (w : Wy R k t h s l) (ok : ∀ st ∈ l, StOk n o st) : sumN (fun j => dl m l i j) n = if i = s then m else 0 := by
  induction w with
  | @stop t h e =>
    have := sumN_dlS_row (ok _ (List.mem_cons_self ..)) m i
    have e2 : sumN (fun j => dl m [(h, t, none)] i j) n = sumN (fun j => dlS m (h, t, none) i j) n := sumN_congr fun j _ => Int.add_zero _
    rw [e2, this]
    simp
  | @go k t h r h' s l e b w ih =>
    have e1 := sumN_dlS_row (ok _ (List.mem_cons_self ..)) m i
    have e2 : sumN (fun j => dl m ((h, t, some r) :: l) i j) n = sumN (fun j => dlS m (h, t, some r) i j) n + sumN (fun j => dl m l i j) n := by
      rw [← sumN_add]
      rfl
    rw [e2, e1, ih fun st hs => ok st (List.mem_cons_of_mem _ hs)]
    by_cases c : i = h <;> simp [c]
theorem dl_col {n : Nat} {o : Ties} {R : RoS} {m : Int} (j : Nat) {k t h s : Nat} {l : List Stp3} (w : Wy R k t h s l) (ok : ∀ st ∈ l, StOk n o st) : sumN (fun i => dl m l i j) n = if j = t then m else 0 := by
  induction w with
  | @stop t h e =>
    have := sumN_dlS_col (ok _ (List.mem_cons_self ..)) m j
    have e2 : sumN (fun i => dl m [(h, t, none)] i j) n = sumN (fun i => dlS m (h, t, none) i j) n := sumN_congr fun j _ => Int.add_zero _
    rw [e2, this]
    simp
  | @go k t h r h' s l e b w ih =>
    have e1 := sumN_dlS_col (ok _ (List.mem_cons_self ..)) m j
    have e2 : sumN (fun i => dl m ((h, t, some r) :: l) i j) n = sumN (fun i => dlS m (h, t, some r) i j) n + sumN (fun i => dl m l i j) n := by
      rw [← sumN_add]
      rfl
    rw [e2, e1, ih fun st hs => ok st (List.mem_cons_of_mem _ hs)]
    by_cases c : j = r
    · subst c
      simp
    · have : ¬ r = j := fun y => c y.symm
      simp [c, this]
/-- nothing falls below nought -/
theorem psts_nn {n : Nat} {o : Ties} {m : Int} (m0 : 0 ≤ m) : ∀ {l : List Stp3} {s : List (List Int)}, Sq n s → (∀ st ∈ l, StOk n o st) → (l.map (·.1)).Nodup → (∀ i j, 0 ≤ at2 s i j) → (∀ st ∈ l, ∀ r, st.2.2 = some r → m ≤ at2 s st.1 r) → ∀ i j, 0 ≤ at2 (l.foldl (pst m) s) i j
  | [], s, _, _, _, h, _ => h
  | st :: l, s, q, ok, nd, h, hm => by
    obtain ⟨q1, e1⟩ := pst_ok q (ok st (List.mem_cons_self ..)) m
    rw [List.map_cons, List.nodup_cons] at nd
    refine psts_nn m0 (l := l) q1 (fun x hx => ok x (List.mem_cons_of_mem _ hx)) nd.2 (fun i j => ?_) fun x hx r e => ?_
    · rw [e1]
      have := h i j
      unfold dlS
      by_cases c : i = st.1 ∧ st.2.2 = some j
      · have := hm st (List.mem_cons_self ..) j c.2
        rw [if_pos c]
        rw [c.1]
        split <;> omega
      · rw [if_neg c]
        split <;> omega
    · rw [e1]
      have ne : x.1 ≠ st.1 := fun z => nd.1 (List.mem_map.mpr ⟨x, hx, z⟩)
      unfold dlS
      simp only [ne, false_and, if_false]
      have := hm x (List.mem_cons_of_mem _ hx) r e
      omega
/-- what is sent is sent over ties -/
theorem psts_tie {n : Nat} {o : Ties} {m : Int} (m0 : 0 ≤ m) : ∀ {l : List Stp3} {s : List (List Int)}, Sq n s → (∀ st ∈ l, StOk n o st) → (∀ i j, 0 < at2 s i j → tieB o i j = true) → ∀ i j, 0 < at2 (l.foldl (pst m) s) i j → tieB o i j = true
  | [], s, _, _, h => h
  | st :: l, s, q, ok, h => by
    have k := ok st (List.mem_cons_self ..)
    obtain ⟨q1, e1⟩ := pst_ok q k m
    refine psts_tie m0 (l := l) q1 (fun x hx => ok x (List.mem_cons_of_mem _ hx)) fun i j hij => ?_
    rw [e1] at hij
    unfold dlS at hij
    by_cases c : i = st.1 ∧ j = st.2.1
    · rw [c.1, c.2]
      exact k.tie
    · rw [if_neg c] at hij
      refine h i j ?_
      split at hij <;> omega
end Dd
/-! Roads: all that can be sent is sent; what tables, covers and stuck ones come of it. -/
namespace Dd
open PySem L2
structure Fl (n : Nat) (o : Ties) (w : Nat → Int) (R : RoS) : Prop where
  d : R.Dim n
  s0 : ∀ i j, 0 ≤ at2 R.sent i j
  tie : ∀ i j, 0 < at2 R.sent i j → tieB o i j = true
  l0 : ∀ i, 0 ≤ R.left.getD i 0
  r0 : ∀ j, 0 ≤ R.room.getD j 0
  row : ∀ i, i < n → R.left.getD i 0 + sumN (at2 R.sent i) n = w i
  col : ∀ j, j < n → R.room.getD j 0 + sumN (fun i => at2 R.sent i j) n = w j
/-- what stands when no way is left -/
structure Cls3 (n : Nat) (o : Ties) (R : RoS) : Prop where
  lf : ∀ i, i < n → 0 < R.left.getD i 0 → R.seen.getD i false = true
  lt : ∀ i, R.seen.getD i false = true → i < n
  cl : ∀ i j, R.seen.getD i false = true → j < n → tieB o i j = true → R.byL.getD j none ≠ none
  bl : ∀ j l, R.byL.getD j none = some l → R.seen.getD l false = true ∧ tieB o l j = true ∧ j < n
  rm : ∀ j, R.byL.getD j none ≠ none → R.room.getD j 0 ≤ 0 ∧ ∀ i, i < n → 0 < at2 R.sent i j → R.seen.getD i false = true
section
variable {n : Nat} {o : Ties} {w : Nat → Int}
theorem srch_ok {R : RoS} (F : Fl n o w R) : ∃ k r R', Look n o k (beg n R) 0 r R' ∧ Fl n o w R' ∧ R'.left = R.left ∧ (r = none → Cls3 n o R') ∧
    ∀ e, r = some e → e < n ∧ 0 < R.room.getD e 0 ∧ R'.room = R.room ∧ ∃ h j s l, R'.byL.getD e none = some h ∧ Wy R' j e h s l ∧ s < n ∧ 0 < R.left.getD s 0 ∧ (l.map (·.1)).Nodup ∧ ∀ st ∈ l, StOk n o st ∧ ∀ r, st.2.2 = some r → 0 < at2 R'.sent st.1 r := by
  obtain ⟨I, FR, D⟩ := beg_ok (o := o) F.d
  obtain ⟨k, r, c', L, g, ⟨q, I'⟩, hn, hs⟩ := look_ok n (c := beg n R) (p := 0) (by omega) I FR D (Nat.zero_le _)
  have e1 : c'.1.left = R.left := g.l
  have e2 : c'.1.room = R.room := g.r
  have e3 : c'.1.sent = R.sent := g.s
  refine ⟨k, r, c'.1, L, ⟨I'.d, by rw [e3]; exact F.s0, by rw [e3]; exact F.tie, by rw [e1]; exact F.l0, by rw [e2]; exact F.r0, by rw [e1, e3]; exact F.row, by rw [e2, e3]; exact F.col⟩, e1, fun z => ?_, fun e z => ?_⟩
  · obtain ⟨h1, h2⟩ := hn z
    refine ⟨fun i hi hl => (I'.seen i).mpr (I'.lf i hi hl), fun i hi => I'.lt i ((I'.seen i).mp hi), fun i j hi hj ht => ?_, fun j l e => ?_, fun j hj => ⟨(h1 j hj).1, fun i hi hs => (I'.seen i).mpr ((h1 j hj).2 i hi hs)⟩⟩
    · obtain ⟨m, hm, em⟩ := List.mem_iff_getElem.mp ((I'.seen i).mp hi)
      exact h2 m i j hm (by rw [List.getElem?_eq_getElem hm, em]) hj ht
    · obtain ⟨⟨m, _, hm⟩, ht, hj⟩ := I'.bl j l e
      exact ⟨(I'.seen l).mpr (List.mem_of_getElem? hm), ht, hj⟩
  · obtain ⟨t1, t2, h, t3⟩ := hs e z
    obtain ⟨⟨m, _, hm⟩, _, _⟩ := I'.bl e h t3
    obtain ⟨j, s, l, w1, w2, w3, w4, w5⟩ := way_ok I' m t1 hm t3
    refine ⟨t1, t2, e2, h, j, s, l, t3, w1, w2, by rw [← e1]; exact w3, w4, fun st hs => ?_⟩
    obtain ⟨⟨m', _, hm'⟩, h2, h3, h4⟩ := w5 st hs
    exact ⟨⟨I'.lt _ (List.mem_of_getElem? hm'), h2, h3, fun r hr => (h4 r hr).1⟩, fun r hr => (h4 r hr).2⟩
theorem push_ok {R : RoS} (F : Fl n o w R) {e h j s : Nat} {l : List Stp3} (he : e < n) (hr : 0 < R.room.getD e 0) (W : Wy R j e h s l) (hs : s < n) (hl : 0 < R.left.getD s 0) (nd : (l.map (·.1)).Nodup) (ok : ∀ st ∈ l, StOk n o st ∧ ∀ r, st.2.2 = some r → 0 < at2 R.sent st.1 r) : Fl n o w (pushR R e s l) ∧ (pushR R e s l).left.sum < R.left.sum := by
  obtain ⟨m1, m2, m3⟩ := pm_ok R.sent l (mnI (R.left.getD s 0) (R.room.getD e 0))
  obtain ⟨q1, q2, q3⟩ := mnI_le (R.left.getD s 0) (R.room.getD e 0)
  have mp : 0 < pushM R e s l := m3 (q3 hl hr) fun st hs r e => (ok st hs).2 r e
  have ml : pushM R e s l ≤ R.left.getD s 0 := Int.le_trans m1 q1
  have mr : pushM R e s l ≤ R.room.getD e 0 := Int.le_trans m1 q2
  have ok' : ∀ st ∈ l, StOk n o st := fun st hs => (ok st hs).1
  have sq : Sq n R.sent := ⟨F.d.s, F.d.sr⟩
  obtain ⟨sq', at'⟩ := psts_ok (pushM R e s l) sq ok'
  have sl : s < R.left.length := by rw [F.d.l]; exact hs
  have rl : e < R.room.length := by rw [F.d.r]; exact he
  refine ⟨⟨⟨by show (R.left.set _ _).length = n; rw [List.length_set]; exact F.d.l, by show (R.room.set _ _).length = n; rw [List.length_set]; exact F.d.r, sq'.l, sq'.r, F.d.se, F.d.bl, F.d.br⟩, ?_, ?_, fun i => ?_, fun j => ?_, fun i hi => ?_, fun j hj => ?_⟩, ?_⟩
  · exact psts_nn (Int.le_of_lt mp) sq ok' nd F.s0 fun st hs r e => m2 st hs r e
  · exact psts_tie (Int.le_of_lt mp) sq ok' F.tie
  · show 0 ≤ (R.left.set s _).getD i 0
    rw [getD_set' sl]
    have := F.l0 i
    split <;> omega
  · show 0 ≤ (R.room.set e _).getD j 0
    rw [getD_set' rl]
    have := F.r0 j
    split <;> omega
  · show (R.left.set s (R.left.getD s 0 - pushM R e s l)).getD i 0 + sumN (fun j => at2 (l.foldl (pst (pushM R e s l)) R.sent) i j) n = w i
    rw [getD_set' sl, sumN_congr fun j _ => at' i j, sumN_add, show sumN (dl (pushM R e s l) l i) n = _ from dl_row i W ok']
    have := F.row i hi
    by_cases c : i = s
    · subst c
      rw [if_pos rfl, if_pos rfl]
      omega
    · rw [if_neg c, if_neg c]
      omega
  · show (R.room.set e (R.room.getD e 0 - pushM R e s l)).getD j 0 + sumN (fun i => at2 (l.foldl (pst (pushM R e s l)) R.sent) i j) n = w j
    rw [getD_set' rl, sumN_congr fun i _ => at' i j, sumN_add, dl_col j W ok']
    have := F.col j hj
    by_cases c : j = e
    · subst c
      rw [if_pos rfl, if_pos rfl]
      omega
    · rw [if_neg c, if_neg c]
      omega
  · show (R.left.set s (R.left.getD s 0 - pushM R e s l)).sum < R.left.sum
    rw [sum_set sl]
    omega
theorem fill_ex : ∀ (f : Nat) {R : RoS}, R.left.sum ≤ f → Fl n o w R → ∃ k R', Fill n o k R R' ∧ Fl n o w R' ∧ Cls3 n o R'
  | f, R, hf, F => by
    obtain ⟨k, r, R1, L, F1, el, hn, hs⟩ := srch_ok F
    cases r with
    | none => exact ⟨0, R1, .done F.d L, F1, hn rfl⟩
    | some e =>
      obtain ⟨he, hr, er, h, j, s, l, hb, W, s1, s2, nd, ok⟩ := hs e rfl
      obtain ⟨F2, lt⟩ := push_ok F1 he (by rw [er]; exact hr) W s1 (by rw [el]; exact s2) nd ok
      rw [el] at lt
      cases f with
      | zero =>
        have := sum_getD (pushR R1 e s l).left
        have h0 := sumN_nn (c := fun i => (pushR R1 e s l).left.getD i 0) (n := (pushR R1 e s l).left.length) fun i _ => F2.l0 i
        omega
      | succ f =>
        obtain ⟨k', R', L', F', C'⟩ := fill_ex f (R := pushR R1 e s l) (by omega) F2
        have ll : l.length ≤ n := by
          have z := nodup_len (n := n) nd fun a ha => by
            obtain ⟨st, hs, rfl⟩ := List.mem_map.mp ha
            exact (ok st hs).1.h
          rw [List.length_map] at z
          exact z
        exact ⟨k' + 1, R', .more F.d L he hb W (fun st hs => ⟨(ok st hs).1.h, (ok st hs).1.t, (ok st hs).1.r⟩) ll s1 F1.d L', F', C'⟩
end
/-- before anything is sent -/
def ini (ws : List Int) : RoS := ⟨ws, ws, List.replicate ws.length (List.replicate ws.length 0), List.replicate ws.length false, List.replicate ws.length none, List.replicate ws.length none⟩
theorem ini_dim (ws : List Int) : (ini ws).Dim ws.length := ⟨rfl, rfl, List.length_replicate, fun r hr => by rw [List.eq_of_mem_replicate hr, List.length_replicate], List.length_replicate, List.length_replicate, List.length_replicate⟩
theorem ini_fl {ws : List Int} {o : Ties} (h0 : ∀ x ∈ ws, 0 ≤ x) : Fl ws.length o (fun i => ws.getD i 0) (ini ws) := by
  have z := fun i j => zero_at ws.length ws.length i j
  have g : ∀ i, 0 ≤ ws.getD i 0 := fun i => by
    by_cases c : i < ws.length
    · exact h0 _ (getD_mem c)
    · rw [List.getD_eq_getElem?_getD, List.getElem?_eq_none (by omega)]
      exact Int.le_refl 0
  refine ⟨ini_dim ws, fun i j => ?_, fun i j h => ?_, g, g, fun i hi => ?_, fun j hj => ?_⟩
  · show 0 ≤ at2 (List.replicate _ _) i j
    rw [z]
    exact Int.le_refl 0
  · have h : 0 < at2 (List.replicate _ _) i j := h
    rw [z] at h
    omega
  · show ws.getD i 0 + sumN _ _ = _
    rw [show sumN (at2 (ini ws).sent i) ws.length = 0 from sumN_zero fun j _ => z i j]
    omega
  · show ws.getD j 0 + sumN _ _ = _
    rw [show sumN (fun i => at2 (ini ws).sent i j) ws.length = 0 from sumN_zero fun i _ => z i j]
    omega
open Classical in
/-- the end of the filling -/
noncomputable def fin (ws : List Int) (o : Ties) : RoS := if h : ∃ R k, Fill ws.length o k (ini ws) R then h.choose else ini ws
theorem fin_eq {ws : List Int} {o : Ties} {k : Nat} {R : RoS} (h : Fill ws.length o k (ini ws) R) : fin ws o = R := by
  have e : ∃ R k, Fill ws.length o k (ini ws) R := ⟨R, k, h⟩
  unfold fin
  rw [dif_pos e]
  obtain ⟨k', h'⟩ := e.choose_spec
  exact h'.det h
theorem fin_ex {ws : List Int} (o : Ties) (h0 : ∀ x ∈ ws, 0 ≤ x) : (∃ k, Fill ws.length o k (ini ws) (fin ws o)) ∧ Fl ws.length o (fun i => ws.getD i 0) (fin ws o) ∧ Cls3 ws.length o (fin ws o) := by
  obtain ⟨k, R, L, F, C⟩ := fill_ex ws.sum.toNat (R := ini ws) (by show ws.sum ≤ _; omega) (ini_fl (o := o) h0)
  rw [fin_eq L]
  exact ⟨⟨k, L⟩, F, C⟩
def bothT (n : Nat) (R : RoS) : List (List Int) := (List.range n).map fun i => (List.range n).map fun j => at2 R.sent i j + at2 R.sent j i
def b2i (b : Bool) : Int := if b then 1 else 0
def halvL (n : Nat) (R : RoS) : List Int := (List.range n).map fun a => b2i (!R.seen.getD a false) + b2i (R.byL.getD a none != none)
def stuckL (n : Nat) (R : RoS) : Option (List Nat) := if R.left.sum = 0 then none else some ((List.range n).filter fun a => R.seen.getD a false)
section
variable {n : Nat} {o : Ties} {w : Nat → Int} {R : RoS}
theorem bothT_len : (bothT n R).length = n := by simp [bothT]
theorem bothT_row : ∀ r ∈ bothT n R, r.length = n := fun r hr => by
  obtain ⟨i, _, rfl⟩ := List.mem_map.mp hr
  simp
theorem bothT_at {i j : Nat} (hi : i < n) (hj : j < n) : at2 (bothT n R) i j = at2 R.sent i j + at2 R.sent j i := by
  show ((bothT n R).getD i []).getD j 0 = _
  unfold bothT
  rw [range_getD _ _ hi, range_getD _ _ hj]
theorem bothT_rs (F : Fl n o w R) {i : Nat} (hi : i < n) : ((bothT n R).getD i []).sum = 2 * w i - R.left.getD i 0 - R.room.getD i 0 := by
  have e : ((bothT n R).getD i []).sum = sumN (fun j => at2 (bothT n R) i j) n := rs_eq bothT_len bothT_row hi
  rw [e, sumN_congr fun j hj => bothT_at hi hj, sumN_add]
  have := F.row i hi
  have := F.col i hi
  omega
theorem both_flt {ws : List Int} (ho : TiesOk n o) (F : Fl n o (fun i => ws.getD i 0) R) : NoFlt ws o (bothT n R) n := by
  refine ⟨fun i j hi hj => ?_, fun i hi => ?_, fun i j hi hj h => ?_, fun i j hi hj => ?_, fun i hi => ?_⟩
  · rw [bothT_at hi hj]
    have := F.s0 i j
    have := F.s0 j i
    omega
  · rw [bothT_at hi hi]
    have := F.s0 i i
    by_cases c : 0 < at2 R.sent i i
    · have := F.tie i i c
      rw [tieB_self ho] at this
      cases this
    · omega
  · rw [bothT_at hi hj] at h
    have := F.s0 i j
    have := F.s0 j i
    by_cases c : 0 < at2 R.sent i j
    · exact F.tie i j c
    · rw [tieB_sym]
      exact F.tie j i (by omega)
  · rw [bothT_at hi hj, bothT_at hj hi]
    omega
  · rw [bothT_rs F hi]
    have := F.l0 i
    have := F.r0 i
    show _ ≤ 2 * ws.getD i 0
    omega
theorem halvL_len : (halvL n R).length = n := by simp [halvL]
theorem halvL_at {i : Nat} (hi : i < n) : (halvL n R).getD i 0 = b2i (!R.seen.getD i false) + b2i (R.byL.getD i none != none) := range_getD _ _ hi
theorem b2i_bd (b : Bool) : 0 ≤ b2i b ∧ b2i b ≤ 1 := by cases b <;> decide
theorem halvL_bd {x : Int} (h : x ∈ halvL n R) : 0 ≤ x ∧ x ≤ 2 := by
  obtain ⟨a, _, rfl⟩ := List.mem_map.mp h
  have := b2i_bd (!R.seen.getD a false)
  have := b2i_bd (R.byL.getD a none != none)
  show 0 ≤ b2i _ + b2i _ ∧ b2i _ + b2i _ ≤ 2
  omega
theorem halv_cov (C : Cls3 n o R) : CovOk n o (halvL n R) := fun i j hi hj ht => by
  have key : ∀ i j, j < n → tieB o i j = true → 1 ≤ b2i (!R.seen.getD i false) + b2i (R.byL.getD j none != none) := fun i j hj ht => by
    have h1 := b2i_bd (R.byL.getD j none != none)
    cases q : R.seen.getD i false with
    | false =>
      show 1 ≤ 1 + b2i _
      omega
    | true =>
      have := C.cl i j q hj ht
      have e : (R.byL.getD j none != none) = true := by simpa using this
      rw [e]
      decide
  rw [halvL_at hi, halvL_at hj]
  have h1 := key i j hj ht
  have h2 := key j i hi (by rw [tieB_sym]; exact ht)
  omega
theorem sumN_le0 {c : Nat → Int} (h : ∀ i, 0 ≤ c i) : ∀ {n k : Nat}, k < n → c k ≤ sumN c n
  | 0, k, hk => absurd hk (Nat.not_lt_zero _)
  | n + 1, k, hk => by
    show c k ≤ sumN c n + c n
    have h1 := sumN_nn (c := c) (n := n) fun i _ => h i
    have h2 := h n
    by_cases e : k = n
    · rw [e]; omega
    · have := sumN_le0 h (n := n) (k := k) (by omega)
      omega
/-- all that is sent -/
def allS (n : Nat) (R : RoS) : Int := sumN (fun i => sumN (at2 R.sent i) n) n
theorem both_sum : tsum (bothT n R) = 2 * allS n R := by
  rw [tsum_eq bothT_len bothT_row]
  have e1 : sumN (fun i => sumN (fun j => at2 (bothT n R) i j) n) n = sumN (fun i => sumN (at2 R.sent i) n + sumN (fun j => at2 R.sent j i) n) n := sumN_congr fun i hi => by
    rw [← sumN_add]
    exact sumN_congr fun j hj => bothT_at hi hj
  rw [e1, sumN_add, sumN_swap (fun i j => at2 R.sent j i)]
  show sumN (fun i => sumN (at2 R.sent i) n) n + sumN (fun j => sumN (at2 R.sent j) n) n = 2 * sumN (fun i => sumN (at2 R.sent i) n) n
  omega
theorem halv_sum {ws : List Int} (F : Fl n o (fun i => ws.getD i 0) R) (C : Cls3 n o R) : wsum n ws (halvL n R) = allS n R := by
  -- the one side: those that are not reached
  have e0 : wsum n ws (halvL n R) = sumN (fun i => if R.seen.getD i false then 0 else ws.getD i 0) n + sumN (fun j => if R.byL.getD j none = none then 0 else ws.getD j 0) n := by
    unfold wsum
    rw [← sumN_add]
    refine sumN_congr fun i hi => ?_
    rw [halvL_at hi, Int.mul_add]
    congr 1
    · cases R.seen.getD i false
      · exact Int.mul_one _
      · exact Int.mul_zero _
    · by_cases q : R.byL.getD i none = none
      · rw [if_pos q, q]
        exact Int.mul_zero _
      · rw [if_neg q, show (R.byL.getD i none != none) = true by simpa using q]
        exact Int.mul_one _
  have e1 : sumN (fun i => if R.seen.getD i false then 0 else ws.getD i 0) n = sumN (fun i => sumN (fun j => if R.seen.getD i false then 0 else at2 R.sent i j) n) n := sumN_congr fun i hi => by
    cases q : R.seen.getD i false with
    | true => exact (sumN_zero fun j _ => by simp).symm
    | false =>
      have := F.row i hi
      have h0 := F.l0 i
      have : ¬ 0 < R.left.getD i 0 := fun z => by rw [C.lf i hi z] at q; cases q
      simp only [Bool.false_eq_true, if_false]
      show ws.getD i 0 = sumN (at2 R.sent i) n
      omega
  have e2 : sumN (fun j => if R.byL.getD j none = none then 0 else ws.getD j 0) n = sumN (fun i => sumN (fun j => if R.seen.getD i false then at2 R.sent i j else 0) n) n := by
    rw [sumN_swap]
    refine sumN_congr fun j hj => ?_
    by_cases q : R.byL.getD j none = none
    · rw [if_pos q]
      refine (sumN_zero fun i hi => ?_).symm
      cases z : R.seen.getD i false with
      | false => rfl
      | true =>
        simp only [if_true]
        have h0 := F.s0 i j
        by_cases c : 0 < at2 R.sent i j
        · exact absurd q (C.cl i j z hj (F.tie i j c))
        · omega
    · rw [if_neg q]
      have := F.col j hj
      have h0 := F.r0 j
      obtain ⟨r1, r2⟩ := C.rm j q
      have e3 : sumN (fun i => if R.seen.getD i false then at2 R.sent i j else 0) n = sumN (fun i => at2 R.sent i j) n := sumN_congr fun i hi => by
        cases z : R.seen.getD i false with
        | true => rfl
        | false =>
          simp only [Bool.false_eq_true, if_false]
          have h0 := F.s0 i j
          by_cases c : 0 < at2 R.sent i j
          · rw [r2 i hi c] at z
            cases z
          · omega
      rw [e3]
      omega
  rw [e0, e1, e2, ← sumN_add]
  unfold allS
  refine sumN_congr fun i _ => ?_
  rw [← sumN_add]
  refine sumN_congr fun j _ => ?_
  cases R.seen.getD i false <;> simp
theorem left_sum {ws : List Int} (hw : ws.length = n) (F : Fl n o (fun i => ws.getD i 0) R) : R.left.sum = ws.sum - allS n R := by
  rw [sum_getD, sum_getD, F.d.l, hw]
  have : sumN (fun i => ws.getD i 0) n = sumN (fun i => R.left.getD i 0 + sumN (at2 R.sent i) n) n := sumN_congr fun i hi => (F.row i hi).symm
  rw [this, sumN_add]
  unfold allS
  omega
theorem left_nn (F : Fl n o w R) : 0 ≤ R.left.sum := by
  rw [sum_getD]
  exact sumN_nn fun i _ => F.l0 i
theorem room_sum {ws : List Int} (hw : ws.length = n) (F : Fl n o (fun i => ws.getD i 0) R) : R.room.sum = ws.sum - allS n R := by
  rw [sum_getD, sum_getD, F.d.r, hw]
  have : sumN (fun i => ws.getD i 0) n = sumN (fun j => R.room.getD j 0 + sumN (fun i => at2 R.sent i j) n) n := sumN_congr fun i hi => (F.col i hi).symm
  rw [this, sumN_add, ← sumN_swap]
  unfold allS
  omega
/-- all is laid just where nothing is left -/
theorem all_laid {ws : List Int} (hw : ws.length = n) (F : Fl n o (fun i => ws.getD i 0) R) : (∀ i, i < n → ((bothT n R).getD i []).sum = 2 * ws.getD i 0) ↔ R.left.sum = 0 := by
  have e1 := left_sum hw F
  have e2 := room_sum hw F
  constructor
  · intro h
    have : sumN (fun i => R.left.getD i 0 + R.room.getD i 0) n = 0 := sumN_zero fun i hi => by
      have := h i hi
      rw [bothT_rs F hi] at this
      omega
    rw [sumN_add] at this
    have h1 : R.left.sum = sumN (fun i => R.left.getD i 0) n := by rw [sum_getD, F.d.l]
    have h2 : R.room.sum = sumN (fun i => R.room.getD i 0) n := by rw [sum_getD, F.d.r]
    omega
  · intro h i hi
    rw [bothT_rs F hi]
    have h1 : R.left.sum = sumN (fun i => R.left.getD i 0) n := by rw [sum_getD, F.d.l]
    have h2 : R.room.sum = sumN (fun i => R.room.getD i 0) n := by rw [sum_getD, F.d.r]
    have h3 := sumN_le0 F.l0 hi
    have h4 := sumN_le0 F.r0 hi
    have := F.l0 i
    have := F.r0 i
    show 2 * ws.getD i 0 - _ - _ = _
    omega
theorem sumN_filter (p : Nat → Bool) (f : Nat → Int) : ∀ n, (((List.range n).filter p).map f).sum = sumN (fun i => if p i then f i else 0) n
  | 0 => rfl
  | n + 1 => by
    rw [List.range_succ, List.filter_append, List.map_append, List.sum_append, sumN_filter p f n]
    show _ = sumN _ n + _
    congr 1
    cases q : p n <;> simp [q]
theorem sumN_nodup (f : Nat → Int) : ∀ {ss : List Nat} {n : Nat}, ss.Nodup → (∀ a ∈ ss, a < n) → (ss.map f).sum = sumN (fun i => if i ∈ ss then f i else 0) n
  | [], n, _, _ => (sumN_zero fun i _ => by simp).symm
  | a :: ss, n, nd, h => by
    rw [List.nodup_cons] at nd
    rw [List.map_cons, List.sum_cons, sumN_nodup f nd.2 fun b hb => h b (List.mem_cons_of_mem _ hb)]
    have e : sumN (fun i => if i ∈ a :: ss then f i else 0) n = sumN (fun i => if i = a then f a else 0) n + sumN (fun i => if i ∈ ss then f i else 0) n := by
      rw [← sumN_add]
      refine sumN_congr fun i _ => ?_
      by_cases c : i = a
      · subst c
        simp [nd.1]
      · simp [c]
    rw [e, sumN_pick (h a (List.mem_cons_self ..))]
/-- the stuck ones shut -/
theorem stuck_shuts {ws : List Int} (F : Fl n o (fun i => ws.getD i 0) R) (C : Cls3 n o R) : wOf ws ((List.range n).filter fun a => R.seen.getD a false) = R.left.sum + wOf ws (nearL o n ((List.range n).filter fun a => R.seen.getD a false)) := by
  unfold wOf nearL
  rw [sumN_filter, sumN_filter]
  have near : ∀ j, j < n → (((List.range n).filter fun a => R.seen.getD a false).any (fun b => tieB o j b) = true ↔ R.byL.getD j none ≠ none) := fun j hj => by
    rw [List.any_eq_true]
    constructor
    · rintro ⟨i, hi, ht⟩
      rw [List.mem_filter, List.mem_range] at hi
      exact C.cl i j hi.2 hj (by rw [tieB_sym]; exact ht)
    · intro h
      cases q : R.byL.getD j none with
      | none => exact absurd q h
      | some l =>
        obtain ⟨b1, b2, _⟩ := C.bl j l q
        exact ⟨l, by rw [List.mem_filter, List.mem_range]; exact ⟨C.lt l b1, b1⟩, by rw [tieB_sym]; exact b2⟩
  have e1 : sumN (fun i => if R.seen.getD i false = true then ws.getD i 0 else 0) n = sumN (fun i => R.left.getD i 0) n + sumN (fun i => sumN (fun j => if R.seen.getD i false = true then at2 R.sent i j else 0) n) n := by
    rw [← sumN_add]
    refine sumN_congr fun i hi => ?_
    have := F.row i hi
    have h0 := F.l0 i
    cases q : R.seen.getD i false with
    | true =>
      simp only [if_true]
      exact this.symm
    | false =>
      have : ¬ 0 < R.left.getD i 0 := fun z => by rw [C.lf i hi z] at q; cases q
      rw [sumN_zero fun j _ => by simp]
      simp only [Bool.false_eq_true, if_false]
      omega
  have e2 : sumN (fun j => if ((List.range n).filter fun a => R.seen.getD a false).any (fun b => tieB o j b) = true then ws.getD j 0 else 0) n = sumN (fun i => sumN (fun j => if R.seen.getD i false = true then at2 R.sent i j else 0) n) n := by
    rw [sumN_swap]
    refine sumN_congr fun j hj => ?_
    by_cases q : R.byL.getD j none = none
    · rw [if_neg fun z => (near j hj).mp z q]
      refine (sumN_zero fun i hi => ?_).symm
      cases z : R.seen.getD i false with
      | false => rfl
      | true =>
        simp only [if_true]
        have h0 := F.s0 i j
        by_cases c : 0 < at2 R.sent i j
        · exact absurd q (C.cl i j z hj (F.tie i j c))
        · omega
    · rw [if_pos ((near j hj).mpr q)]
      have := F.col j hj
      have h0 := F.r0 j
      obtain ⟨r1, r2⟩ := C.rm j q
      have e3 : sumN (fun i => if R.seen.getD i false = true then at2 R.sent i j else 0) n = sumN (fun i => at2 R.sent i j) n := sumN_congr fun i hi => by
        cases z : R.seen.getD i false with
        | true => rfl
        | false =>
          simp only [Bool.false_eq_true, if_false]
          have h0 := F.s0 i j
          by_cases c : 0 < at2 R.sent i j
          · rw [r2 i hi c] at z
            cases z
          · omega
      rw [e3]
      omega
  rw [e1, e2, sum_getD, F.d.l]
/-- where nothing is left nobody shuts -/
theorem none_shuts {ws : List Int} (F : Fl n o (fun i => ws.getD i 0) R) (h : R.left.sum = 0) {ss : List Nat} (nd : ss.Nodup) (lt : ∀ a ∈ ss, a < n) : wOf ws ss ≤ wOf ws (nearL o n ss) := by
  unfold wOf nearL
  rw [sumN_filter, sumN_nodup _ nd lt]
  have h1 : R.left.sum = sumN (fun i => R.left.getD i 0) n := by rw [sum_getD, F.d.l]
  have e1 : sumN (fun i => if i ∈ ss then ws.getD i 0 else 0) n = sumN (fun i => sumN (fun j => if i ∈ ss then at2 R.sent i j else 0) n) n := sumN_congr fun i hi => by
    have := F.row i hi
    have h3 := sumN_le0 F.l0 hi
    have := F.l0 i
    by_cases c : i ∈ ss
    · simp only [c, if_true]
      show ws.getD i 0 = sumN (at2 R.sent i) n
      omega
    · simp only [c, if_false]
      exact (sumN_zero fun _ _ => rfl).symm
  rw [e1, sumN_swap]
  refine sumN_le fun j hj => ?_
  have hc := F.col j hj
  have h0 := F.r0 j
  by_cases c : ss.any (fun b => tieB o j b) = true
  · rw [if_pos c]
    have : sumN (fun i => if i ∈ ss then at2 R.sent i j else 0) n ≤ sumN (fun i => at2 R.sent i j) n := sumN_le fun i _ => by
      have := F.s0 i j
      split <;> omega
    omega
  · rw [if_neg c, sumN_zero fun i hi => ?_]
    · exact Int.le_refl 0
    · by_cases q : i ∈ ss
      · rw [if_pos q]
        have := F.s0 i j
        by_cases z : 0 < at2 R.sent i j
        · refine absurd ?_ c
          rw [List.any_eq_true]
          exact ⟨i, q, by rw [tieB_sym]; exact F.tie i j z⟩
        · omega
      · rw [if_neg q]
end
end Dd
/-! Roads as an object of the store. -/
namespace Dd
open PySem L2
abbrev ks_Roads : List Str := ["size", "may", "left", "room", "sent", "seen", "by_left", "by_right"]
def mayB (n : Nat) (o : Ties) : List (List Bool) := (List.range n).map fun i => (List.range n).map fun j => tieB o i j
def mayT (n : Nat) (o : Ties) : T := .node ((mayB n o).map booT)
def mayD (n : Nat) (o : Ties) : List PyData := (mayB n o).map fun r => .list (boolsD r)
theorem mayT_dat (n : Nat) (o : Ties) : (mayT n o).dat = .list (mayD n o) := by
  unfold mayT mayD
  rw [dat_eq, List.map_map]
  congr 1
  exact List.map_congr_left fun r _ => booT_dat r
/-- the object -/
def roT (C : Addr) (n : Nat) (o : Ties) (R : RoS) : T := .ins C ks_Roads [int n, mayT n o, nodeI R.left, nodeI R.room, nodeT R.sent, booT R.seen, optT R.byL, optT R.byR]
section
variable {C : Addr} {n : Nat} {o : Ties} {R : RoS} {P : T → Prop} {a0 a1 a2 a3 a4 a5 a6 a7 : T}
theorem fd_Roads_0 : asF C ks_Roads 0 P (.leaf (T.ins C ks_Roads [a0, a1, a2, a3, a4, a5, a6, a7]).dat) = P (.leaf a0.dat) := asF_ins (u := a0) rfl rfl
theorem fd_Roads_1 : asF C ks_Roads 1 P (.leaf (T.ins C ks_Roads [a0, a1, a2, a3, a4, a5, a6, a7]).dat) = P (.leaf a1.dat) := asF_ins (u := a1) rfl rfl
theorem fd_Roads_2 : asF C ks_Roads 2 P (.leaf (T.ins C ks_Roads [a0, a1, a2, a3, a4, a5, a6, a7]).dat) = P (.leaf a2.dat) := asF_ins (u := a2) rfl rfl
theorem fd_Roads_3 : asF C ks_Roads 3 P (.leaf (T.ins C ks_Roads [a0, a1, a2, a3, a4, a5, a6, a7]).dat) = P (.leaf a3.dat) := asF_ins (u := a3) rfl rfl
theorem fd_Roads_4 : asF C ks_Roads 4 P (.leaf (T.ins C ks_Roads [a0, a1, a2, a3, a4, a5, a6, a7]).dat) = P (.leaf a4.dat) := asF_ins (u := a4) rfl rfl
theorem fd_Roads_5 : asF C ks_Roads 5 P (.leaf (T.ins C ks_Roads [a0, a1, a2, a3, a4, a5, a6, a7]).dat) = P (.leaf a5.dat) := asF_ins (u := a5) rfl rfl
theorem fd_Roads_6 : asF C ks_Roads 6 P (.leaf (T.ins C ks_Roads [a0, a1, a2, a3, a4, a5, a6, a7]).dat) = P (.leaf a6.dat) := asF_ins (u := a6) rfl rfl
theorem fd_Roads_7 : asF C ks_Roads 7 P (.leaf (T.ins C ks_Roads [a0, a1, a2, a3, a4, a5, a6, a7]).dat) = P (.leaf a7.dat) := asF_ins (u := a7) rfl rfl
theorem may_at {i : Nat} (hi : i < n) : atI (mayD n o) (i : Int) = some (.list (boolsD ((List.range n).map fun j => tieB o i j))) := atI_nat (by
  unfold mayD mayB
  rw [List.map_map, List.getElem?_map, List.getElem?_range hi]
  rfl)
theorem may_at2 {i j : Nat} (hj : j < n) : atI (boolsD ((List.range n).map fun j => tieB o i j)) (j : Int) = some (.bool (tieB o i j)) := by
  rw [atI_bools (by simpa using hj), range_getD _ _ hj]
end
/-- the steps of a way -/
def stpD (st : Stp3) : PyData := .tuple [.int (st.1 : Nat), .int (st.2.1 : Nat), deadD st.2.2]
def stpsT (l : List Stp3) : T := .node (l.map fun st => .leaf (stpD st))
def stpsD (l : List Stp3) : List PyData := l.map stpD
theorem stpsT_dat (l : List Stp3) : (stpsT l).dat = .list (stpsD l) := by
  unfold stpsT stpsD
  rw [dat_eq, List.map_map]
  rfl
theorem fins_map {n : Nat} (c : RC) (hl : c.1.left.length = n) : (beg n c.1).1.seen.length = n := by
  show (c.1.left.map _).length = n
  rw [List.length_map]
  exact hl
theorem gbS_dim {n t a : Nat} {c : RC} (d : c.1.Dim n) : (gbS t c a).1.Dim n ∧ (gbS t c a).2.length ≤ c.2.length + 1 := by
  unfold gbS
  split
  · exact ⟨d.gb a t, by simp⟩
  · exact ⟨d, by omega⟩
theorem gb_dim {n t : Nat} {c : RC} (d : c.1.Dim n) : ∀ k, (gb t k c).1.Dim n ∧ (gb t k c).2.length ≤ c.2.length + k
  | 0 => ⟨d, Nat.le_refl _⟩
  | k + 1 => by
    obtain ⟨h1, h2⟩ := gb_dim d k
    obtain ⟨h3, h4⟩ := gbS_dim (t := t) (a := k) h1
    exact ⟨h3, by show (gbS t (gb t k c) k).2.length ≤ _; omega⟩
theorem Look.inv {n : Nat} {o : Ties} {k : Nat} {c : RC} {p h : Nat} {r : Option Nat} {R : RoS} (L : Look n o k c p r R) (e : c.2[p]? = some h) : (∃ t c', scan n o h n c = (some t, c') ∧ r = some t ∧ R = c'.1) ∨ ∃ k' c', scan n o h n c = (none, c') ∧ Look n o k' c' (p + 1) r R := by
  cases L with
  | done l => have := (List.getElem?_eq_some_iff.mp e).1; omega
  | hit e2 s => rw [e] at e2; cases e2; exact .inl ⟨_, _, s, rfl, rfl⟩
  | next e2 s g => rw [e] at e2; cases e2; exact .inr ⟨_, _, s, g⟩
theorem Look.end_ {n : Nat} {o : Ties} {k : Nat} {c : RC} {p : Nat} {r : Option Nat} {R : RoS} (L : Look n o k c p r R) (l : c.2.length ≤ p) : r = none ∧ R = c.1 := by
  cases L with
  | done l => exact ⟨rfl, rfl⟩
  | hit e2 s => have := (List.getElem?_eq_some_iff.mp e2).1; omega
  | next e2 s g => have := (List.getElem?_eq_some_iff.mp e2).1; omega
theorem natI_at {l : List Nat} {i h : Nat} (e : l[i]? = some h) : atI (intsD (natI l)) (i : Int) = some (.int (h : Nat)) := atI_nat (by
  unfold intsD natI
  rw [List.map_map, List.getElem?_map, e]
  rfl)
theorem stpsT_frz (l : List Stp3) : (stpsT l).frz = .leaf (.list (stpsD l)) := by
  show T.leaf (stpsT l).dat = _
  rw [stpsT_dat]
theorem stpsT_node {l : List Stp3} {us : List T} : (stpsT l = T.node us) = ((l.map fun st => T.leaf (stpD st)) = us) := propext ⟨fun h => T.node.inj h, fun h => by rw [← h]; rfl⟩
theorem ixN_last {n : Nat} : ixN (n + 1) (-1) = some n := by
  unfold ixN
  rw [if_neg (by decide), if_pos (by omega)]
  congr 1
  omega
theorem atI_last {l : List Stp3} {x : Stp3} : atI (stpsD (l ++ [x])) (-1) = some (stpD x) := by
  unfold atI stpsD
  rw [List.length_map, List.length_append, show l.length + [x].length = l.length + 1 from rfl, ixN_last]
  show (List.map stpD (l ++ [x]))[l.length]? = _
  rw [List.getElem?_map, List.getElem?_append_right (Nat.le_refl _), Nat.sub_self]
  rfl
theorem Wy.last {R : RoS} {k t h s : Nat} {l : List Stp3} (w : Wy R k t h s l) : ∃ l0 x, l = l0 ++ [x] ∧ x.1 = s := by
  induction w with
  | stop e => exact ⟨[], _, rfl, rfl⟩
  | go e b w ih =>
    obtain ⟨l0, x, e1, e2⟩ := ih
    exact ⟨_ :: l0, x, by rw [e1]; rfl, e2⟩
theorem set_snoc {α : Type} (a b : α) : ∀ l : List α, (l ++ [a]).set l.length b = l ++ [b]
  | [] => rfl
  | x :: l => congrArg (x :: ·) (set_snoc a b l)
theorem stps_get {l : List Stp3} {i : Nat} {d : PyData} (e : (stpsD l)[i]? = some d) : ∃ st, l[i]? = some st ∧ d = stpD st := by
  unfold stpsD at e
  rw [List.getElem?_map] at e
  cases q : l[i]? with
  | none => rw [q] at e; cases e
  | some st => rw [q] at e; cases e; exact ⟨st, rfl, rfl⟩
theorem foldl_take {α β : Type} {f : β → α → β} {b : β} {l : List α} {i : Nat} {x : α} (e : l[i]? = some x) : (l.take (i + 1)).foldl f b = f ((l.take i).foldl f b) x := by
  rw [List.take_add_one, e, List.foldl_append]
  rfl
theorem stps_len (l : List Stp3) : (stpsD l).length = l.length := List.length_map _
theorem psts_sq {n : Nat} {s : List (List Int)} (m : Int) (q : Sq n s) : ∀ l : List Stp3, (∀ st ∈ l, st.1 < n) → Sq n (l.foldl (pst m) s)
  | [], _ => q
  | st :: l, h => by
    refine psts_sq m ?_ l fun x hx => h x (List.mem_cons_of_mem _ hx)
    have hh := h st (List.mem_cons_self ..)
    unfold pst
    split
    · exact q.set hh _
    · exact (q.set hh _).set hh _
end Dd
/-! Greatest sums: compared over ties, stretched, turned, joined. -/
namespace Dd
open PySem L2
noncomputable def grS (ws : List Int) (o : Ties) : Int := tsum (bothT ws.length (fin ws o))
section
variable {ws : List Int} {o : Ties} {rows : List (List Int)} {cs : List Int}
theorem gr_eq (h0 : ∀ x ∈ ws, 0 ≤ x) : grS ws o = 2 * wsum ws.length ws (halvL ws.length (fin ws o)) := by
  obtain ⟨_, F, C⟩ := fin_ex o h0
  unfold grS
  rw [both_sum, halv_sum F C]
theorem gr_lo (h0 : ∀ x ∈ ws, 0 ≤ x) (hl : rows.length = ws.length) (hr : ∀ r ∈ rows, r.length = ws.length) (nf : NoFlt ws o rows ws.length) : tsum rows ≤ grS ws o := by
  obtain ⟨_, F, C⟩ := fin_ex o h0
  rw [gr_eq h0]
  exact weak_dual hl hr nf (fun k hk => (halvL_bd (n := ws.length) (R := fin ws o) (getD_mem (by rw [halvL_len]; exact hk))).1) (halv_cov C)
theorem gr_hi (ho : TiesOk ws.length o) (h0 : ∀ x ∈ ws, 0 ≤ x) (c0 : ∀ k, k < ws.length → 0 ≤ cs.getD k 0) (hc : CovOk ws.length o cs) : grS ws o ≤ 2 * wsum ws.length ws cs := by
  obtain ⟨_, F, C⟩ := fin_ex o h0
  exact weak_dual bothT_len bothT_row (both_flt ho F) c0 hc
theorem gr_left (h0 : ∀ x ∈ ws, 0 ≤ x) : 2 * (fin ws o).left.sum = 2 * ws.sum - grS ws o := by
  obtain ⟨_, F, C⟩ := fin_ex o h0
  unfold grS
  rw [both_sum, left_sum rfl F]
  omega
theorem gr_nn (h0 : ∀ x ∈ ws, 0 ≤ x) : 0 ≤ grS ws o ∧ grS ws o ≤ 2 * ws.sum := by
  obtain ⟨_, F, C⟩ := fin_ex o h0
  have h1 := gr_left (o := o) h0
  have h2 := left_nn F
  have h3 : 0 ≤ allS ws.length (fin ws o) := sumN_nn fun i _ => sumN_nn fun j _ => F.s0 i j
  have : grS ws o = 2 * allS ws.length (fin ws o) := both_sum
  omega
theorem gr_none (h0 : ∀ x ∈ ws, 0 ≤ x) : stuckL ws.length (fin ws o) = none ↔ grS ws o = 2 * ws.sum := by
  have h1 := gr_left (o := o) h0
  unfold stuckL
  by_cases c : (fin ws o).left.sum = 0
  · rw [if_pos c]
    exact ⟨fun _ => by omega, fun _ => rfl⟩
  · rw [if_neg c]
    exact ⟨fun z => (nomatch z), fun z => absurd (by omega) c⟩
/-- more ties, more -/
theorem gr_mono {o o' : Ties} (ho : TiesOk ws.length o) (h0 : ∀ x ∈ ws, 0 ≤ x) (h : ∀ i j, i < ws.length → j < ws.length → tieB o i j = true → tieB o' i j = true) : grS ws o ≤ grS ws o' := by
  obtain ⟨_, F, C⟩ := fin_ex o h0
  have nf := both_flt ho F
  exact gr_lo h0 bothT_len bothT_row ⟨nf.nn, nf.self, fun i j hi hj hp => h i j hi hj (nf.tie i j hi hj hp), nf.sym, nf.sum⟩
/-- every two tied -/
def AllT (n : Nat) (o : Ties) : Prop := ∀ i j, i < n → j < n → tieB o i j = decide (i ≠ j)
theorem wsum_getD {n : Nat} {xs cs : List Int} {f : Nat → Int} (h : ∀ i, i < n → cs.getD i 0 = f i) : wsum n xs cs = sumN (fun i => xs.getD i 0 * f i) n := sumN_congr fun i hi => by rw [h i hi]
theorem gr_light (ho : TiesOk ws.length o) (ha : AllT ws.length o) (h0 : ∀ x ∈ ws, 0 ≤ x) (no : ∀ k, k < ws.length → ¬ ws.sum < 2 * ws.getD k 0) : tsum (whT ws none) = 2 * ws.sum ∧ grS ws o = 2 * ws.sum ∧ NoFlt ws o (whT ws none) ws.length := by
  have nf := whT_flt h0 (o := none) (fun k z => nomatch z) fun _ => no
  have nf' : NoFlt ws o (whT ws none) ws.length := ⟨nf.nn, nf.self, fun i j hi hj hp => by rw [ha i j hi hj]; exact nf.tie i j hi hj hp, nf.sym, nf.sum⟩
  have ts : tsum (whT ws none) = 2 * ws.sum := by
    rw [tsum_eq (whT_len ws none) (whT_row ws none)]
    have e : sumN (fun i => sumN (fun j => at2 (whT ws none) i j) ws.length) ws.length = sumN (fun i => 2 * ws.getD i 0) ws.length := sumN_congr fun i hi => by
      rw [← rs_eq (whT_len ws none) (whT_row ws none) hi]
      exact rgT_sum h0 hi
    rw [e, sumN_mul, ← sum_getD]
  have lo := gr_lo h0 (whT_len ws none) (whT_row ws none) nf'
  have := gr_nn (o := o) h0
  exact ⟨ts, by omega, nf'⟩
theorem gr_heavy (ho : TiesOk ws.length o) (ha : AllT ws.length o) (h0 : ∀ x ∈ ws, 0 ≤ x) {h : Nat} (hh : h < ws.length) (hw : ws.sum < 2 * ws.getD h 0) : tsum (whT ws (some h)) = 4 * (ws.sum - ws.getD h 0) ∧ grS ws o = 4 * (ws.sum - ws.getD h 0) ∧ NoFlt ws o (whT ws (some h)) ws.length := by
  have nf := whT_flt h0 (o := some h) (fun k z => by cases z; exact ⟨hh, hw⟩) fun z => nomatch z
  have nf' : NoFlt ws o (whT ws (some h)) ws.length := ⟨nf.nn, nf.self, fun i j hi hj hp => by rw [ha i j hi hj]; exact nf.tie i j hi hj hp, nf.sym, nf.sum⟩
  have ts : tsum (whT ws (some h)) = 4 * (ws.sum - ws.getD h 0) := by
    rw [tsum_eq (whT_len ws _) (whT_row ws _)]
    have e : sumN (fun i => sumN (fun j => at2 (whT ws (some h)) i j) ws.length) ws.length = sumN (fun i => 2 * ws.getD i 0 + if i = h then 2 * (ws.sum - ws.getD h 0) - 2 * ws.getD h 0 else 0) ws.length := sumN_congr fun i hi => by
      rw [← rs_eq (whT_len ws _) (whT_row ws _) hi]
      have := st_sum hh hi
      show ((stT ws h).getD i []).sum = _
      rw [this]
      by_cases c : i = h
      · subst c
        rw [if_pos rfl, if_pos rfl]
        omega
      · rw [if_neg c, if_neg c]
        omega
    rw [e, sumN_add, sumN_mul, ← sum_getD, sumN_pick hh]
    omega
  have lo := gr_lo h0 (whT_len ws (some h)) (whT_row ws (some h)) nf'
  have hi := gr_hi (cs := (List.range ws.length).map fun i => if i = h then 0 else 2) ho h0 (fun k hk => by rw [range_getD _ _ hk]; split <;> decide) fun i j hi hj ht => by
    rw [range_getD _ _ hi, range_getD _ _ hj]
    rw [ha i j hi hj, decide_eq_true_eq] at ht
    split
    · split
      · omega
      · decide
    · split <;> decide
  have we : wsum ws.length ws ((List.range ws.length).map fun i => if i = h then 0 else 2) = 2 * (ws.sum - ws.getD h 0) := by
    rw [wsum_getD (f := fun i => if i = h then 0 else 2) fun i hi => range_getD _ _ hi]
    have e : sumN (fun i => ws.getD i 0 * if i = h then (0 : Int) else 2) ws.length = sumN (fun i => 2 * ws.getD i 0 + -(if i = h then 2 * ws.getD h 0 else 0)) ws.length := sumN_congr fun i hi => by
      by_cases c : i = h
      · subst c
        rw [if_pos rfl, if_pos rfl]
        omega
      · rw [if_neg c, if_neg c]
        omega
    rw [e, sumN_add, sumN_neg, sumN_mul, ← sum_getD, sumN_pick hh]
    omega
  rw [we] at hi
  exact ⟨ts, by omega, nf'⟩
/-- what a table lays can be laid -/
theorem gr_full (ho : TiesOk ws.length o) (h0 : ∀ x ∈ ws, 0 ≤ x) (hl : rows.length = ws.length) (hr : ∀ r ∈ rows, r.length = ws.length) (nf : NoFlt ws o rows ws.length) (hs : ∀ i, i < ws.length → (rows.getD i []).sum = 2 * ws.getD i 0) : grS ws o = 2 * ws.sum := by
  have ts : tsum rows = 2 * ws.sum := by
    rw [tsum_eq hl hr]
    have e : sumN (fun i => sumN (fun j => at2 rows i j) ws.length) ws.length = sumN (fun i => 2 * ws.getD i 0) ws.length := sumN_congr fun i hi => by
      rw [← rs_eq hl hr hi]
      exact hs i hi
    rw [e, sumN_mul, ← sum_getD]
  have := gr_lo h0 hl hr nf
  have := gr_nn (o := o) h0
  omega
theorem gr_rows (h0 : ∀ x ∈ ws, 0 ≤ x) (hg : grS ws o = 2 * ws.sum) {i : Nat} (hi : i < ws.length) : ((bothT ws.length (fin ws o)).getD i []).sum = 2 * ws.getD i 0 := by
  obtain ⟨_, F, C⟩ := fin_ex o h0
  have h1 := gr_left (o := o) h0
  exact (all_laid rfl F).mpr (by omega) i hi
/-- one weight more -/
theorem gr_more (ho : TiesOk ws.length o) (h0 : ∀ x ∈ ws, 0 ≤ x) {k : Nat} (hk : k < ws.length) {m : Int} (m0 : 0 ≤ m) : grS ws o ≤ grS (ws.set k (ws.getD k 0 + m)) o ∧ grS (ws.set k (ws.getD k 0 + m)) o ≤ grS ws o + 4 * m := by
  have wl : (ws.set k (ws.getD k 0 + m)).length = ws.length := List.length_set
  have h0' : ∀ x ∈ ws.set k (ws.getD k 0 + m), 0 ≤ x := fun x hx => by
    rcases mem_set hx with z | z
    · exact h0 x z
    · have := h0 _ (getD_mem (d := 0) hk)
      omega
  have g : ∀ i, (ws.set k (ws.getD k 0 + m)).getD i 0 = ws.getD i 0 + if i = k then m else 0 := fun i => by
    rw [getD_set' hk]
    by_cases c : i = k
    · rw [if_pos c, if_pos c, c]
    · rw [if_neg c, if_neg c, Int.add_zero]
  obtain ⟨_, F, C⟩ := fin_ex o h0
  have nf := both_flt ho F
  constructor
  · refine gr_lo (rows := bothT ws.length (fin ws o)) h0' (by rw [wl]; exact bothT_len) (by rw [wl]; exact bothT_row) ?_
    rw [wl]
    refine ⟨nf.nn, nf.self, nf.tie, nf.sym, fun i hi => ?_⟩
    have := nf.sum i hi
    rw [g]
    split <;> omega
  · have hb : ∀ i, i < ws.length → 0 ≤ (halvL ws.length (fin ws o)).getD i 0 ∧ (halvL ws.length (fin ws o)).getD i 0 ≤ 2 := fun i hi => halvL_bd (n := ws.length) (R := fin ws o) (getD_mem (by rw [halvL_len]; exact hi))
    have hi := gr_hi (ws := ws.set k (ws.getD k 0 + m)) (o := o) (cs := halvL ws.length (fin ws o)) (by rw [wl]; exact ho) h0' (by rw [wl]; exact fun i hi => (hb i hi).1) (by rw [wl]; exact halv_cov C)
    rw [wl] at hi
    have e : wsum ws.length (ws.set k (ws.getD k 0 + m)) (halvL ws.length (fin ws o)) = wsum ws.length ws (halvL ws.length (fin ws o)) + m * (halvL ws.length (fin ws o)).getD k 0 := by
      unfold wsum
      have e1 : sumN (fun i => (ws.set k (ws.getD k 0 + m)).getD i 0 * (halvL ws.length (fin ws o)).getD i 0) ws.length = sumN (fun i => ws.getD i 0 * (halvL ws.length (fin ws o)).getD i 0 + if i = k then m * (halvL ws.length (fin ws o)).getD k 0 else 0) ws.length := sumN_congr fun i hi => by
        rw [g, Int.add_mul]
        by_cases c : i = k
        · rw [if_pos c, if_pos c, c]
        · rw [if_neg c, if_neg c, Int.zero_mul]
      rw [e1, sumN_add, sumN_pick hk]
    rw [e] at hi
    have hq := gr_eq (o := o) h0
    have hm : m * (halvL ws.length (fin ws o)).getD k 0 ≤ m * 2 := Int.mul_le_mul_of_nonneg_left (hb k hk).2 m0
    omega
/-- all weights times a number -/
theorem gr_times (ho : TiesOk ws.length o) (h0 : ∀ x ∈ ws, 0 ≤ x) {m : Int} (m0 : 0 ≤ m) : grS (ws.map fun x => m * x) o = m * grS ws o := by
  have wl : (ws.map fun x => m * x).length = ws.length := List.length_map _
  have h0' : ∀ x ∈ ws.map fun x => m * x, 0 ≤ x := fun x hx => by
    obtain ⟨y, hy, rfl⟩ := List.mem_map.mp hx
    exact Int.mul_nonneg m0 (h0 y hy)
  have g : ∀ i, i < ws.length → (ws.map fun x => m * x).getD i 0 = m * ws.getD i 0 := fun i hi => by
    rw [List.getD_eq_getElem?_getD, List.getElem?_map, List.getElem?_eq_getElem hi, List.getD_eq_getElem?_getD, List.getElem?_eq_getElem hi]
    rfl
  obtain ⟨_, F, C⟩ := fin_ex o h0
  have nf := both_flt ho F
  have bl : (bothT ws.length (fin ws o)).length = ws.length := bothT_len
  have br : ∀ r ∈ bothT ws.length (fin ws o), r.length = ws.length := bothT_row
  refine Int.le_antisymm ?_ ?_
  · have hi := gr_hi (ws := ws.map fun x => m * x) (o := o) (cs := halvL ws.length (fin ws o)) (by rw [wl]; exact ho) h0' (by rw [wl]; exact fun i hi => (halvL_bd (n := ws.length) (R := fin ws o) (getD_mem (by rw [halvL_len]; exact hi))).1) (by rw [wl]; exact halv_cov C)
    rw [wl] at hi
    have e : wsum ws.length (ws.map fun x => m * x) (halvL ws.length (fin ws o)) = m * wsum ws.length ws (halvL ws.length (fin ws o)) := by
      unfold wsum
      rw [← sumN_mul]
      exact sumN_congr fun i hi => by rw [g i hi, Int.mul_assoc]
    rw [e] at hi
    rw [gr_eq h0, Int.mul_left_comm]
    exact hi
  · have rl : ((bothT ws.length (fin ws o)).map fun r => r.map fun x => m * x).length = ws.length := by rw [List.length_map]; exact bl
    have rr : ∀ r ∈ (bothT ws.length (fin ws o)).map fun r => r.map fun x => m * x, r.length = ws.length := fun r hr => by
      obtain ⟨r', hr', rfl⟩ := List.mem_map.mp hr
      rw [List.length_map]
      exact br r' hr'
    have rg : ∀ i, i < ws.length → ((bothT ws.length (fin ws o)).map fun r => r.map fun x => m * x).getD i [] = ((bothT ws.length (fin ws o)).getD i []).map fun x => m * x := fun i hi => by
      rw [List.getD_eq_getElem?_getD, List.getElem?_map, List.getElem?_eq_getElem (by rw [bl]; exact hi), List.getD_eq_getElem?_getD, List.getElem?_eq_getElem (by rw [bl]; exact hi)]
      rfl
    have a2 : ∀ i j, i < ws.length → j < ws.length → at2 ((bothT ws.length (fin ws o)).map fun r => r.map fun x => m * x) i j = m * at2 (bothT ws.length (fin ws o)) i j := fun i j hi hj => by
      unfold at2
      rw [rg i hi]
      have : j < ((bothT ws.length (fin ws o)).getD i []).length := by rw [getD_len br (by rw [bl]; exact hi)]; exact hj
      generalize (bothT ws.length (fin ws o)).getD i [] = row at this ⊢
      rw [List.getD_eq_getElem?_getD, List.getElem?_map, List.getElem?_eq_getElem this, List.getD_eq_getElem?_getD, List.getElem?_eq_getElem this]
      rfl
    have ts : tsum ((bothT ws.length (fin ws o)).map fun r => r.map fun x => m * x) = m * grS ws o := by
      unfold grS
      rw [tsum_eq rl rr, tsum_eq bl br, ← sumN_mul]
      refine sumN_congr fun i hi => ?_
      rw [← sumN_mul]
      exact sumN_congr fun j hj => a2 i j hi hj
    rw [← ts]
    refine gr_lo h0' (by rw [wl]; exact rl) (by rw [wl]; exact rr) ?_
    rw [wl]
    refine ⟨fun i j hi hj => ?_, fun i hi => ?_, fun i j hi hj hp => ?_, fun i j hi hj => ?_, fun i hi => ?_⟩
    · rw [a2 i j hi hj]
      exact Int.mul_nonneg m0 (nf.nn i j hi hj)
    · rw [a2 i i hi hi, nf.self i hi, Int.mul_zero]
    · rw [a2 i j hi hj] at hp
      refine nf.tie i j hi hj ?_
      have := nf.nn i j hi hj
      by_cases z : at2 (bothT ws.length (fin ws o)) i j = 0
      · rw [z, Int.mul_zero] at hp
        omega
      · omega
    · rw [a2 i j hi hj, a2 j i hj hi, nf.sym i j hi hj]
    · have e1 : (((bothT ws.length (fin ws o)).map fun r => r.map fun x => m * x).getD i []).sum = m * ((bothT ws.length (fin ws o)).getD i []).sum := by
        have x1 := rs_eq rl rr hi
        have x2 := rs_eq bl br hi
        unfold rs at x1 x2
        rw [x1, x2, ← sumN_mul]
        exact sumN_congr fun j hj => a2 i j hi hj
      rw [e1, g i hi]
      have := Int.mul_le_mul_of_nonneg_left (nf.sum i hi) m0
      rw [Int.mul_left_comm] at this
      exact this
end
end Dd
/-! sorted, len(set(..)), index. -/
namespace Dd
open PySem L2
/-- whole numbers in order -/
def insr (x : Int) : List Int → List Int
  | [] => [x]
  | y :: ys => if x ≤ y then x :: y :: ys else y :: insr x ys
def srt : List Int → List Int
  | [] => []
  | x :: xs => insr x (srt xs)
theorem insr_perm (x : Int) : ∀ ys : List Int, (insr x ys).Perm (x :: ys)
  | [] => .refl _
  | y :: ys => by
    unfold insr
    split
    · exact .refl _
    · exact ((insr_perm x ys).cons y).trans (.swap x y ys)
theorem srt_perm : ∀ xs : List Int, (srt xs).Perm xs
  | [] => .refl _
  | x :: xs => (insr_perm x (srt xs)).trans ((srt_perm xs).cons x)
theorem insr_up {x : Int} : ∀ {ys : List Int}, ys.Pairwise (· ≤ ·) → (insr x ys).Pairwise (· ≤ ·)
  | [], _ => List.pairwise_singleton ..
  | y :: ys, h => by
    unfold insr
    obtain ⟨h1, h2⟩ := List.pairwise_cons.mp h
    split
    · rename_i c
      exact List.pairwise_cons.mpr ⟨fun z hz => by
        rcases List.mem_cons.mp hz with e | e
        · omega
        · have := h1 z e
          omega, h⟩
    · rename_i c
      refine List.pairwise_cons.mpr ⟨fun z hz => ?_, insr_up h2⟩
      rcases List.mem_cons.mp ((insr_perm x ys).mem_iff.mp hz) with e | e
      · omega
      · exact h1 z e
theorem srt_up : ∀ xs : List Int, (srt xs).Pairwise (· ≤ ·)
  | [] => .nil
  | x :: xs => insr_up (srt_up xs)
theorem up_uniq : ∀ {as bs : List Int}, as.Perm bs → as.Pairwise (· ≤ ·) → bs.Pairwise (· ≤ ·) → as = bs
  | [], bs, h, _, _ => (List.nil_perm.mp h).symm
  | a :: as, [], h, _, _ => by
    have := h.length_eq
    cases this
  | a :: as, b :: bs, h, ha, hb => by
    obtain ⟨a1, a2⟩ := List.pairwise_cons.mp ha
    obtain ⟨b1, b2⟩ := List.pairwise_cons.mp hb
    have e : a = b := by
      have h1 : a ∈ b :: bs := h.mem_iff.mp (List.mem_cons_self ..)
      have h2 : b ∈ a :: as := h.mem_iff.mpr (List.mem_cons_self ..)
      rcases List.mem_cons.mp h1 with e | e
      · exact e
      · rcases List.mem_cons.mp h2 with f | f
        · exact f.symm
        · have := a1 b f
          have := b1 a e
          omega
    subst e
    rw [up_uniq (List.perm_cons a |>.mp h) a2 b2]
theorem srt_of_up {xs : List Int} (h : xs.Pairwise (· ≤ ·)) : srt xs = xs := up_uniq (srt_perm xs) (srt_up xs) h
theorem srt_len (xs : List Int) : (srt xs).length = xs.length := (srt_perm xs).length_eq
theorem srt_two (a b : Int) : srt [a, b] = if a ≤ b then [a, b] else [b, a] := rfl
def cSorted : CD := fun ds P => ∃ ns : List Int, ds = [.list (intsD ns)] ∧ ns.length < 64 ∧ P (nodeI (srt ns))
theorem ok_sorted {K : PySem.W.Frag} : CdOk K (rSorted K) cSorted := fun b G H vs ds P Q g r h k => by
  obtain ⟨ns, rfl, h64, p⟩ := h
  cases r with
  | cons r1 r2 =>
    cases r2
    cases r1 with
    | lst h1 h2 =>
      have e := rp_ints h2
      subst e
      refine ⟨_, ns, rfl, .inl (.inl (g.ex _ _ h1)), h64, fun ns' p hp up ha => ?_⟩
      have e : ns' = srt ns := up_uniq (hp.trans (srt_perm ns).symm) up (srt_up ns)
      subst e
      exact new_lst g (rp_ints' _) (by rw [← nodeI_eq] at *; exact ‹P _›) k ha
theorem e_sorted {ns : List Int} {P : T → Prop} : cSorted [.list (intsD ns)] P = (ns.length < 64 ∧ P (nodeI (srt ns))) := propext ⟨fun ⟨m, e, h⟩ => by
  injection e with e
  injection e with e
  rw [intsD_inj e]
  exact h, fun h => ⟨ns, rfl, h⟩⟩
theorem e_sorted2 {a b : Int} {P : T → Prop} : cSorted [.list [.int a, .int b]] P = P (nodeI (srt [a, b])) := (e_sorted (ns := [a, b])).trans (propext ⟨fun h => h.2, fun h => ⟨show 2 < 64 by decide, h⟩⟩)
section
variable {X : Cx} {E : SX} {e e2 : Expr} {w wa wb we wk : WE} {ws : WA} {pos p p2 q apos : Pos}
theorem d_sorted (hm : X.mg "sorted" = none) (ha : PA X [e] (aOf X.K X.mg E ws)) (hg : Gl X "sorted" := by rfl) (he : starEach [e] X.env = (false, eval e X.env) :: starEach [] X.env := by rfl) (hpl : (backTo pos (starEach [] X.env)).any (·.1) = false := by rfl) : PE X (.Call (.Name "sorted" p) [e] [] pos) (tOf X.K X.mg E (dBlt cSorted ws)) :=
  d_blt cr_sorted ok_sorted hg hm (by decide +kernel) ha (by decide) (by decide) he hpl
/-- len(set(xs)), no number twice -/
def dLenSet (wa : WE) : WE := fun x ρ P => wa x ρ fun t => ∃ ns : List Int, t.dat = .list (intsD ns) ∧ ns.length < 64 ∧ ns.Nodup ∧ P (int ns.length)
theorem d_lenSet (hc : X.calm = true) (hm : X.mg "len" = none) (hm2 : X.mg "set" = none) (ha : PE X e (tOf X.K X.mg E wa)) (hg : Gl X "len" := by rfl) (hg2 : Gl X "set" := by rfl)
    (na : starEach [e] X.env = (false, eval e X.env) :: starEach [] X.env := by rfl) : PE X (.Call (.Name "len" p) [.Call (.Name "set" p2) [e] [] q] [] pos) (tOf X.K X.mg E (dLenSet wa)) := PE.of (pe_lenSetI hc hg hm hg2 hm2 ha na) fun σ H Q ⟨b, B, G, ρ, xp, P, p, hr, k⟩ =>
  tOfD_of ⟨b, B, G, ρ, xp, fun d => ∃ ns : List Int, d = .list (intsD ns) ∧ ns.length < 64 ∧ ns.Nodup ∧ P (int ns.length), p, hr, fun G1 H1 v d hd s1 hr1 rd => by
    obtain ⟨ns, rfl, h1, h2, hp⟩ := hd
    cases rd with
    | lst g1 r1 =>
      have e := rp_ints r1
      subst e
      exact ⟨_, ns, rfl, .inl (.inl (s1.good.ex _ _ g1)), h1, h2, (k.stp hr.good s1).leaf s1.good hp (.int _)⟩⟩
/-- xs.index(x), whole numbers -/
def asLI (P : List Int → Prop) (t : T) : Prop := ∃ ns : List Int, t.dat = .list (intsD ns) ∧ P ns
theorem e_asLI {P : List Int → Prop} {ns : List Int} : asLI P (.leaf (.list (intsD ns))) = P ns := propext ⟨fun ⟨m, e, h⟩ => by
  have e : PyData.list (intsD ns) = .list (intsD m) := e
  injection e with e
  rw [intsD_inj e]
  exact h, fun h => ⟨ns, rfl, h⟩⟩
def dIndex (wa : WE) (ws : WA) : WE := fun x ρ P => wa x ρ (asLI fun ns => ws x ρ fun ds => ∃ i j, ds = [.int i] ∧ ns[j]? = some i ∧ (∀ m, m < j → ns[m]? ≠ some i) ∧ P (int (j : Nat)))
theorem flat_ints : ∀ ns : List Int, (ns.map V.int).all flatV = true
  | [] => rfl
  | _ :: ns => by rw [List.map_cons, List.all_cons, flat_ints ns]; rfl
theorem d_index (ha : PE X e (tOf X.K X.mg E wa)) (hb : PA X [e2] (aOf X.K X.mg E ws)) (hbase : attributeBase e "index" X.env (eval e X.env) = eval e X.env := by rfl)
    (hfew : ((backTo pos (starEach [e2] X.env)).all (fun x => !x.1) && (backToKw pos (keywordEach [] X.env)).all (fun x => x.1.isSome)
      && decide ([e2].length + ([] : List Keyword).length + (if ([] : List Keyword).isEmpty then 0 else 1) < 30)) = true := by rfl)
    (hline : (apos.endLine == pos.line) = true := by rfl) (hs : starEach [e2] X.env = (false, eval e2 X.env) :: starEach [] X.env := by rfl) (hplain : (backTo pos (starEach [] X.env)).any (·.1) = false := by rfl) :
    PE X (.Call (.Attribute e "index" apos) [e2] [] pos) (tOf X.K X.mg E (dIndex wa ws)) := PE.of (pe_bm PySem.F.plainAttrs_list PySem.F.slot_list_index PySem.F.type_list_index mt_index ha hb hbase hfew hline hs hplain) fun σ H Q ⟨b, B, G, ρ, xp, P, p, hr, k⟩ =>
  tOfD_of ⟨b, B, G, ρ, xp, fun d => ∃ ns : List Int, d = .list (intsD ns) ∧ ws xp ρ fun ds => ∃ i j, ds = [.int i] ∧ ns[j]? = some i ∧ (∀ m, m < j → ns[m]? ≠ some i) ∧ P (int (j : Nat)), p, hr, fun G1 H1 v d hd s1 hr1 rd => by
    obtain ⟨ns, rfl, hw⟩ := hd
    cases rd with
    | lst g1 r1 =>
      have e := rp_ints r1
      subst e
      refine ⟨.inl ⟨rfl, _, .inl (.inl (s1.good.ex _ _ g1))⟩, b, B, G1, ρ, xp, _, hw, hr1, fun G2 H2 vs ds hd s2 r2 => ?_⟩
      obtain ⟨i, j, rfl, h1, h2, hp⟩ := hd
      cases r2 with
      | cons q1 q2 =>
        cases q2
        cases q1
        refine ⟨_, _, .int i, j, .int i, rfl, rfl, .inl (.inl (s2.good.ex _ _ (s2.ex _ _ g1))), rfl, flat_ints ns, by rw [List.getElem?_map, h1]; rfl, by show (i == i) = true; exact beq_self_eq_true i, fun m z hm hz => ?_, ((k.stp hr.good s1).stp hr1.good s2).leaf s2.good hp (.int _)⟩
        rw [List.getElem?_map] at hz
        cases hq : ns[m]? with
        | none => rw [hq] at hz; cases hz
        | some y =>
          rw [hq] at hz
          cases hz
          show (y == i) = false
          exact beq_eq_false_iff_ne.mpr fun z => h2 m hm (by rw [hq, z])⟩
end
end Dd
/-! Texts joined, cut and repeated; dicts as data. -/
namespace Dd
open PySem L2
/-! ### text + text, text * number, text[i:j] -/
def rdAddS : R2D := fun d e P => match d, e with
  | .str a, .str b => a.length + b.length ≤ lim ∧ P (.leaf (.str (a ++ b)))
  | _, _ => False
theorem e_addS {a b : Str} {P : T → Prop} : rdAddS (.str a) (.str b) P = (a.length + b.length ≤ lim ∧ P (.leaf (.str (a ++ b)))) := rfl
theorem ok_addS {K : PySem.W.Frag} : RdOk K (fun x y H Q => ∃ i j, x = .str i ∧ y = .str j ∧ i.length + j.length ≤ sizeLine ∧ Q (.str (i ++ j)) H) rdAddS := fun b G H x y d e P Q g rx ry h k => by
  unfold rdAddS at h
  split at h
  · obtain ⟨hl, p⟩ := h
    cases rx
    cases ry
    exact ⟨_, _, rfl, rfl, lim_le hl, k G H _ _ [] p g.stp (.leaf (.str _)) fun _ z => nomatch z⟩
  · exact h.elim
def mulS (z : Str) (n : Int) : Str := if z.length = 0 then z else ⟨(List.replicate n.toNat z.cps).foldl (· ++ ·) #[]⟩
theorem mulS_tl (z : Str) (n : Int) (h : z.length ≠ 0) : (mulS z n).cps.toList = (List.replicate n.toNat z.cps.toList).flatten := by
  unfold mulS
  rw [if_neg h]
  show ((List.replicate n.toNat z.cps).foldl (· ++ ·) #[]).toList = _
  have key : ∀ (k : Nat) (acc : Array Nat), ((List.replicate k z.cps).foldl (· ++ ·) acc).toList = acc.toList ++ (List.replicate k z.cps.toList).flatten := fun k => by
    induction k with
    | zero => intro acc; simp
    | succ k ih =>
      intro acc
      rw [List.replicate_succ, List.foldl_cons, ih, List.replicate_succ, List.flatten_cons, Array.toList_append, List.append_assoc]
  rw [key]
  rfl
theorem mulS_len (z : Str) (n : Int) (h : z.length ≠ 0) : (mulS z n).length = n.toNat * z.length := by
  have e := congrArg List.length (mulS_tl z n h)
  rw [List.length_flatten, List.map_replicate, Array.length_toList] at e
  show (mulS z n).cps.size = _
  rw [e, List.sum_replicate_nat, Array.length_toList]
  rfl
theorem op_mul_str {X : Cx} : OpR X (binaryOp .Mult) (fun x y H Q => ∃ z n, x = .str z ∧ y = .int n ∧ 2 ≤ n ∧ n ≤ 1000 ∧ z.length ≤ 1000 ∧ Q (.str (mulS z n)) H) := by
  intro pins s σ H x y v u Q I rx ry h
  obtain ⟨z, n, rfl, rfl, h2, h1, hz, q⟩ := h
  obtain ⟨t, rfl⟩ := rx
  obtain ⟨t', rfl⟩ := ry
  refine P.mul_str ?_ (fun _ _ => ?_) (fun _ _ => ?_) ?_
  · rw [decide_eq_false (by omega), decide_eq_false (by omega)] <;> rfl
  · have h3 : ((2 : Int) ^ 63 - 1) / 1000 ≤ (2 ^ 63 - 1) / n := by
      refine (Int.le_ediv_iff_mul_le (by omega)).mpr ?_
      have h4 : ((2 : Int) ^ 63 - 1) / 1000 * n ≤ (2 ^ 63 - 1) / 1000 * 1000 := Int.mul_le_mul_of_nonneg_left h1 (by decide)
      have h5 : ((2 : Int) ^ 63 - 1) / 1000 * 1000 ≤ 2 ^ 63 - 1 := by decide
      omega
    have h6 : (1000 : Int) < (2 ^ 63 - 1) / 1000 := by decide
    omega
  · have h3 : z.length * n.toNat ≤ 1000 * 1000 := Nat.mul_le_mul hz (by omega)
    unfold Builtin.Str.tooLong
    rw [decide_eq_false]
    exact fun c => absurd (Nat.lt_of_lt_of_le c h3) (by decide)
  · rw [if_neg (by omega)]
    unfold mulS at q
    by_cases c : z.length = 0
    · rw [if_pos c] at q
      rw [if_pos (by rw [Bool.or_eq_true, beq_iff_eq (a := z.length)]; exact .inr c)]
      exact ⟨.str z, H, I, ⟨_, rfl⟩, q⟩
    · rw [if_neg c] at q
      rw [if_neg (by rw [Bool.or_eq_true, beq_iff_eq, beq_iff_eq]; omega)]
      have hl := mulS_len z n c
      unfold mulS at hl
      rw [if_neg c] at hl
      refine ⟨?_, .str _, H, I.tok _, ⟨_, rfl⟩, q⟩
      rw [hl]
      have h3 : n.toNat * z.length ≤ 1000 * 1000 := Nat.mul_le_mul (by omega) hz
      exact Nat.le_trans h3 (by decide)
def rdMulS : R2D := fun d e P => match d, e with
  | .str a, .int n => (2 ≤ n ∧ n ≤ 1000 ∧ a.length ≤ 1000) ∧ P (.leaf (.str (mulS a n)))
  | _, _ => False
theorem e_mulS {a : Str} {n : Int} {P : T → Prop} : rdMulS (.str a) (.int n) P = ((2 ≤ n ∧ n ≤ 1000 ∧ a.length ≤ 1000) ∧ P (.leaf (.str (mulS a n)))) := rfl
theorem ok_mulS {K : PySem.W.Frag} : RdOk K (fun x y H Q => ∃ z n, x = .str z ∧ y = .int n ∧ 2 ≤ n ∧ n ≤ 1000 ∧ z.length ≤ 1000 ∧ Q (.str (mulS z n)) H) rdMulS := fun b G H x y d e P Q g rx ry h k => by
  unfold rdMulS at h
  split at h
  · obtain ⟨⟨h1, h2, h3⟩, p⟩ := h
    cases rx
    cases ry
    exact ⟨_, _, rfl, rfl, h1, h2, h3, k G H _ _ [] p g.stp (.leaf (.str _)) fun _ z => nomatch z⟩
  · exact h.elim
section
variable {X : Cx} {E : SX} {e e2 e3 : Expr} {w wa wb we wk wd : WE} {ws : WA} {pos p p2 q apos : Pos}
theorem d_addS (ha : PE X e (tOf X.K X.mg E wa)) (hb : PE X e2 (tOf X.K X.mg E wb)) : PE X (.BinOp e .Add e2 pos) (tOf X.K X.mg E (dOp rdAddS wa wb)) := d_bin op_add_str ok_addS ha hb
theorem d_mulS (ha : PE X e (tOf X.K X.mg E wa)) (hb : PE X e2 (tOf X.K X.mg E wb)) : PE X (.BinOp e .Mult e2 pos) (tOf X.K X.mg E (dOp rdMulS wa wb)) := d_bin op_mul_str ok_mulS ha hb
def dSlS (w : WE) (wl wh : WO) : WE := fun x ρ P => w x ρ (asS fun z => wl x ρ fun l => wh x ρ fun u => z.length ≤ lim ∧ P (.leaf (.str (cutS z l u))))
theorem d_slS {lo hi : Option Expr} {wl wh : WO} (he : PE X e (tOf X.K X.mg E w)) (hl : PO X lo (oOf X.K X.mg E wl)) (hu : PO X hi (oOf X.K X.mg E wh)) : PE X (.Subscript e (.Slice lo hi none p2) pos) (tOf X.K X.mg E (dSlS w wl wh)) := PE.of (pe_slice sl_str he hl hu) fun σ H Q ⟨b, B, G, ρ, xp, P, p, hr, k⟩ =>
  ⟨b, B, G, ρ, xp, _, p, hr, fun G1 H1 v t fp ht s1 tr fr => by
    unfold asS at ht
    split at ht
    · rename_i z
      cases tr with
      | leaf r =>
        cases r
        refine ⟨b, B, G1, ρ, xp, _, ht, hr.stp s1, fun G2 H2 l p2 s2 => ⟨b, B, G2, ρ, xp, _, p2, (hr.stp s1).stp s2, fun G3 H3 u p3 s3 => ?_⟩⟩
        exact ⟨z, rfl, lim_le p3.1, (((k.stp hr.good s1).stp (hr.stp s1).good s2).stp s2.good s3).leaf s3.good p3.2 (.str _)⟩
    · exact ht.elim⟩
end
theorem room1 {k : Nat} {A : Around} (hr : Room k A) : A.units + 1 < cLine := by
  have := room65 hr
  omega
/-! ### dicts as data -/
def valP {κ : Type} [DecidableEq κ] (fs : List (κ × PyData)) (k : κ) : Option PyData := (fs.find? fun kv => decide (kv.1 = k)).map (·.2)
theorem valP_nil {κ : Type} [DecidableEq κ] {k : κ} : valP ([] : List (κ × PyData)) k = none := rfl
theorem valP_cons {κ : Type} [DecidableEq κ] {p : κ × PyData} {fs : List (κ × PyData)} {k : κ} : valP (p :: fs) k = if p.1 = k then some p.2 else valP fs k := by
  unfold valP
  rw [List.find?_cons]
  by_cases c : p.1 = k
  · rw [if_pos c, decide_eq_true c]
    rfl
  · rw [if_neg c, decide_eq_false c]
theorem rp_val {κ : Type} [DecidableEq κ] {b : Option Addr} {G : Hp} (k : κ) : ∀ {us : List (κ × V)} {fs : List (κ × PyData)}, us.map (·.1) = fs.map (·.1) → RpAll b G (us.map (·.2)) (fs.map (·.2)) → (∀ d, valP fs k = some d → ∃ v, valV us k = some v ∧ Rp b G v d) ∧ (valP fs k = none → valV us k = none)
  | [], [], _, _ => ⟨fun _ h => (nomatch h), fun _ => rfl⟩
  | [], _ :: _, h, _ => nomatch h
  | _ :: _, [], h, _ => nomatch h
  | u :: us, f :: fs, h, r => by
    rw [List.map_cons, List.map_cons] at h
    injection h with h1 h2
    rw [List.map_cons, List.map_cons] at r
    cases r with
    | cons r1 r2 =>
      rw [valP_cons]
      by_cases c : f.1 = k
      · rw [if_pos c, valV_pos (h1.trans c)]
        exact ⟨fun d e => by cases e; exact ⟨_, rfl, r1⟩, fun e => (nomatch e)⟩
      · rw [if_neg c, valV_neg (fun z => c (h1.symm.trans z))]
        exact rp_val k h2 r2
theorem rp_key {b : Option Addr} {G : Hp} {v : V} {k : Key} (h : Rp b G v (keyD k)) : v = kV k := by
  cases k <;> cases h <;> rfl
theorem dicD_inj {fs gs : List (Key × PyData)} (h : dicD fs = dicD gs) : fs = gs := by
  simp only [PyData.dict.injEq, List.cons.injEq, true_and] at h
  induction fs generalizing gs with
  | nil =>
    cases gs with
    | nil => rfl
    | cons _ _ => cases h
  | cons a r ih =>
    cases gs with
    | nil => cases h
    | cons a' r' =>
      simp only [List.map_cons, List.cons.injEq, Prod.mk.injEq] at h
      obtain ⟨⟨e1, e2⟩, e3⟩ := h
      have e4 : a.1 = a'.1 := by
        generalize a.1 = x at e1
        generalize a'.1 = y at e1
        cases x <;> cases y <;> cases e1 <;> rfl
      rw [ih e3, show a = a' from Prod.ext e4 e2]
theorem rp_dic {b : Option Addr} {G : Hp} {v : V} {fs : List (Key × PyData)} (h : Rp b G v (dicD fs)) : ∃ a us, v = .ref a ∧ Rd G a (.dK us) ∧ us.map (·.1) = fs.map (·.1) ∧ RpAll b G (us.map (·.2)) (fs.map (·.2)) := by
  generalize eD : dicD fs = D at h
  cases h with
  | dic h1 h2 h3 =>
    cases dicD_inj eD
    exact ⟨_, _, rfl, h1, h2, h3⟩
  | _ => cases eD
/-- a dict's display: keys and values from the left, values settled -/
abbrev WD := XP → Rho → (List (Key × PyData) → Prop) → Prop
def dpNil : WD := fun _ _ P => P []
def dpCons (wk wv : WE) (wr : WD) : WD := fun x ρ P => wk x ρ fun tk => ∃ k, tk.dat = keyD k ∧ wv x ρ fun tv => wr x ρ fun fs => P ((k, tv.dat) :: fs)
structure PDs (X : Cx) (E : SX) (keys : List (Option Expr)) (values : List Expr) (w : WD) : Prop where
  ex : ∃ trs, (∀ pos, PPs X pos keys values trs) ∧ ∀ (σ : L2.St) (H : Hp) (Q : List (V × V) → Hp → Prop) (b : Option Addr) (B G : Hp) (ρ : Rho) (xp : XP) (P : List (Key × PyData) → Prop), w xp ρ P → Site X.K X.mg (E σ) b B G H σ ρ xp →
    (∀ (G' H' : Hp) (ps : List (V × V)) (fs : List (Key × PyData)), P fs → Stp X.K b G H G' H' → ps.map (·.1) = fs.map (fun kv => kV kv.1) → RpAll b G' (ps.map (·.2)) (fs.map (·.2)) → Q ps H') → tPairs trs σ H Q
section
variable {X : Cx} {E : SX} {e e2 e3 : Expr} {w wa wb we wk wv wd : WE} {wr : WD} {ws : WA} {pos p p2 q apos : Pos} {keys : List (Option Expr)} {values : List Expr}
theorem pd_nil : PDs X E [] [] dpNil := ⟨[], fun _ => pps_nil, fun σ H Q b B G ρ xp P p hr k => k G H [] [] p hr.good.stp rfl .nil⟩
theorem pd_cons (hk : PE X e (tOf X.K X.mg E wk)) (hv : PE X e2 (tOf X.K X.mg E wv)) (hr : PDs X E keys values wr) : PDs X E (some e :: keys) (e2 :: values) (dpCons wk wv wr) := by
  obtain ⟨trs, h1, h2⟩ := hr.ex
  refine ⟨_, fun pos => pps_cons hk hv (h1 pos), fun σ H Q b B G ρ xp P p hs k => ?_⟩
  show tOf X.K X.mg E wk σ H _
  refine tOfD_of ⟨b, B, G, ρ, xp, fun d => ∃ k, d = keyD k ∧ wv xp ρ fun tv => wr xp ρ fun fs => P ((k, tv.dat) :: fs), p, hs, fun G1 H1 x d hd s1 hs1 rx => ?_⟩
  obtain ⟨ky, rfl, pv⟩ := hd
  have ex := rp_key rx
  subst ex
  show tOf X.K X.mg E wv σ H1 _
  refine tOfD_of ⟨b, B, G1, ρ, xp, fun dv => wr xp ρ fun fs => P ((ky, dv) :: fs), pv, hs1, fun G2 H2 y dv hd s2 hs2 ry => ?_⟩
  refine h2 σ H2 _ b B G2 ρ xp _ hd hs2 fun G3 H3 ps fs hp s3 e3 r3 => ?_
  exact k G3 H3 _ _ hp ((s1.trans hs.good s2).trans hs.good s3) (by rw [List.map_cons, List.map_cons, e3]) (.cons (ry.mono s3.ex) r3)
theorem Stp.fresh {K : PySem.W.Frag} {b : Option Addr} {G H G' H' : Hp} {a : Addr} {o : HO} (s : Stp K b G H G' H') (ha : H a = none) (ga : G' a = none) (nb : b ≠ some a) : Stp K b G H G' (upd H' a o) := by
  refine ⟨s.ex, ⟨fun c u e => ?_, fun c q => ?_⟩, fun c u nc e => ?_, s.out, fun c q => ?_⟩
  · rw [upd_ne (ne_of_none e ga)]
    exact s.good.ex c u e
  · have nc : c ≠ a := fun z => nb (z ▸ q)
    obtain ⟨n, cc, cells, pos, rest, seed, h1, h2, h3⟩ := s.good.box c q
    exact ⟨n, cc, cells, pos, rest, seed, by rw [upd_ne nc]; exact h1, h2, h3⟩
  · rw [upd_ne (ne_of_none e ha)]
    exact s.keep c u nc e
  · have nc : c ≠ a := fun z => nb (z ▸ q)
    rw [← s.cel c q]
    exact boxc_eq (upd_ne nc)
def dDisp (wr : WD) : WE := fun x ρ P => wr x ρ fun fs => ((fs.map (·.1)).Nodup ∧ fs.length ≤ 15) ∧ P (.dic (fs.map (·.1)) (fs.map fun kv => .leaf kv.2))
theorem merge_nd : ∀ {kvs acc : List (Key × V)}, ((acc ++ kvs).map (·.1)).Nodup → mergeK acc kvs = acc ++ kvs
  | [], acc, _ => (List.append_nil _).symm
  | p :: r, acc, h => by
    show mergeK (putK acc p.1 p.2) r = _
    have e : putK acc p.1 p.2 = acc ++ [p] := by
      unfold putK
      rw [if_neg]
      intro z
      obtain ⟨q, hq, eq⟩ := List.any_eq_true.mp z
      rw [List.map_append, List.map_cons, List.nodup_append] at h
      exact h.2.2 _ (List.mem_map.mpr ⟨q, hq, of_decide_eq_true eq⟩) _ (List.mem_cons_self ..) rfl
    rw [e, merge_nd (by rw [List.append_assoc]; exact h), List.append_assoc]
    rfl
theorem kv_zip : ∀ {ps : List (V × V)} {fs : List (Key × PyData)}, ps.map (·.1) = fs.map (fun kv => kV kv.1) → ∃ kvs : List (Key × V), ps = kvs.map (fun kv => (kV kv.1, kv.2)) ∧ kvs.map (·.1) = fs.map (·.1) ∧ kvs.map (·.2) = ps.map (·.2)
  | [], [], _ => ⟨[], rfl, rfl, rfl⟩
  | [], _ :: _, h => nomatch h
  | _ :: _, [], h => nomatch h
  | p :: ps, f :: fs, h => by
    rw [List.map_cons, List.map_cons] at h
    injection h with h1 h2
    obtain ⟨kvs, e1, e2, e3⟩ := kv_zip h2
    refine ⟨(f.1, p.2) :: kvs, ?_, ?_, ?_⟩
    · rw [List.map_cons, ← e1]
      congr 1
      exact Prod.ext h1 rfl
    · rw [List.map_cons, List.map_cons, e2]
    · rw [List.map_cons, List.map_cons, e3]
theorem d_disp (h : PDs X E keys values wr) (hall : keys.all (·.isSome) = true := by rfl) (hl : keys.length = values.length := by rfl) (h0 : keys ≠ [] := by exact fun z => nomatch z) (h15 : keys.length ≤ 15 := by decide) : PE X (.Dict keys values pos) (tOf X.K X.mg E (dDisp wr)) := by
  obtain ⟨trs, h1, h2⟩ := h.ex
  refine PE.of (pe_disp (h1 pos) hall hl h0 h15) fun σ H Q ⟨b, B, G, ρ, xp, P, p, hr, k⟩ a ha => ?_
  have so := hr.good.own (.dK []) ha
  refine h2 σ _ _ b B G ρ xp _ p (hr.stp so) fun G2 H2 ps fs hp s2 e2 r2 => ?_
  obtain ⟨⟨nd, n15⟩, hp⟩ := hp
  have nb : b ≠ some a := fun c => by
    obtain ⟨_, _, _, _, _, _, q, _⟩ := hr.good.box a c
    rw [ha] at q
    cases q
  have hGa : G a = none := by
    cases q : G a with
    | none => rfl
    | some u =>
      have := hr.good.ex a u q
      rw [ha] at this
      cases this
  have e2a : H2 a = some (.dK []) := s2.keep a _ nb (upd_same ..)
  have g2a : G2 a = none := s2.out a _ hGa (upd_same ..)
  obtain ⟨kvs, rfl, k1, k2⟩ := kv_zip e2
  rw [List.map_map] at r2
  have r2 : RpAll b G2 (kvs.map (·.2)) (fs.map (·.2)) := r2
  have s02 := so.trans hr.good s2
  refine ⟨e2a, kvs, rfl, ?_, ?_⟩
  · have e := congrArg List.length k1
    rw [List.length_map, List.length_map] at e
    omega
  · rw [merge_nd (by rw [List.nil_append, k1]; exact nd), List.nil_append]
    refine k G2 _ _ _ [a] hp (s02.fresh ha g2a nb) (.dic (upd_same ..) g2a nb k1 ?_ (fun z => (nomatch z))) fun c hc => by rw [List.mem_singleton.mp hc]; exact ha
    have := TrAll.leaves (H := upd H2 a (.dK kvs)) r2
    rw [List.map_map] at this
    exact this
/-- d.get(k, x), keys numbers or texts -/
def dGet2 (w wk wd : WE) : WE := fun x ρ P => w x ρ fun t => ∃ fs : List (Key × PyData), t.dat = dicD fs ∧ wk x ρ fun tk => ∃ k, tk.dat = keyD k ∧ wd x ρ fun td => P (.leaf ((valP fs k).getD td.dat))
theorem d_get2k (hu : X.A.units + 1 < cLine) (ho : PE X e (tOf X.K X.mg E w)) (he : PE X e2 (tOf X.K X.mg E wk)) (hf : PE X e3 (tOf X.K X.mg E wd)) (m : M2 X e "get" apos e2 e3 pos := by exact ⟨rfl, rfl, rfl, rfl⟩) : PE X (.Call (.Attribute e "get" apos) [e2, e3] [] pos) (tOf X.K X.mg E (dGet2 w wk wd)) :=
  PE.of (pe_dget2 hu ho he hf m) fun σ H Q ⟨b, B, G, ρ, xp, P, p, hr, k⟩ =>
  tOfD_of ⟨b, B, G, ρ, xp, fun d => ∃ fs : List (Key × PyData), d = dicD fs ∧ wk xp ρ fun tk => ∃ k, tk.dat = keyD k ∧ wd xp ρ fun td => P (.leaf ((valP fs k).getD td.dat)), p, hr, fun G1 H1 v d hd s1 hr1 rd => by
    obtain ⟨fs, rfl, pk⟩ := hd
    obtain ⟨a, us, rfl, ra, ks, rs⟩ := rp_dic rd
    have ra1 : Rd H1 a (.dK us) := rd_mono s1.good.ex ra
    refine ⟨a, rfl, .inl ⟨us, ra1⟩, tOfD_of ⟨b, B, G1, ρ, xp, fun dk => ∃ k, dk = keyD k ∧ wd xp ρ fun td => P (.leaf ((valP fs k).getD td.dat)), pk, hr1, fun G2 H2 y dk hk s2 hr2 ry => ?_⟩⟩
    obtain ⟨ky, rfl, pd⟩ := hk
    have ey := rp_key ry
    subst ey
    refine tOfD_of ⟨b, B, G2, ρ, xp, fun dd => P (.leaf ((valP fs ky).getD dd)), pd, hr2, fun G3 H3 z dd hp s3 hr3 rz => ?_⟩
    have e13 : Ex G1 G3 := s2.ex.trans s3.ex
    refine ⟨valV us ky, .inl ⟨us, ky, rd_mono s3.good.ex (rd_mono e13 ra), rfl, rfl⟩, (((k.stp hr.good s1).stp hr1.good s2).stp hr2.good s3).leaf s3.good hp ?_⟩
    obtain ⟨v1, v2⟩ := rp_val ky ks (rs.mono e13)
    cases c : valP fs ky with
    | none => rw [v2 c]; exact rz
    | some d =>
      obtain ⟨v, ev, rv⟩ := v1 d c
      rw [ev]
      exact rv⟩
end
theorem keyD_inj {k l : Key} (h : keyD k = keyD l) : k = l := by
  cases k <;> cases l <;> cases h <;> rfl
theorem e_keyS {s : Str} {P : Key → Prop} : (∃ k, PyData.str s = keyD k ∧ P k) = P (.inr s) := propext ⟨fun ⟨k, e, p⟩ => by
  cases keyD_inj (k := .inr s) e
  exact p, fun p => ⟨_, rfl, p⟩⟩
theorem e_keyI {i : Int} {P : Key → Prop} : (∃ k, PyData.int i = keyD k ∧ P k) = P (.inl i) := propext ⟨fun ⟨k, e, p⟩ => by
  cases keyD_inj (k := .inl i) e
  exact p, fun p => ⟨_, rfl, p⟩⟩
theorem dat_dic {ks : List Key} {ts : List T} : (T.dic ks ts).dat = dicD (ks.zip (ts.map T.dat)) := by
  show dicD (ks.zip (T.dats ts)) = _
  rw [dats_eq]
theorem e_dicX {gs : List (Key × PyData)} {P : List (Key × PyData) → Prop} : (∃ fs, dicD gs = dicD fs ∧ P fs) = P gs := propext ⟨fun ⟨fs, e, p⟩ => by
  cases dicD_inj e
  exact p, fun p => ⟨_, rfl, p⟩⟩
end Dd
namespace Dd
open PySem L2
local macro_rules | `(tactic| walk_at "dd") => `(tactic| try simp only [e_keyS, e_keyI, dat_dic, e_dicX, List.zip_cons_cons, List.zip_nil_left, List.zip_nil_right, e_addS, e_mulS, dSlS, dDisp, dpNil, dpCons, dGet2, e_sorted, e_sorted2, dLenSet, dIndex, e_asLI, dSeq, dIf, dOp, dVar, dC, dFr, dBlt, dRet, dRetV, dAsg, dAsgG, dApp, dFrz, dDrop, dNext, dBreak, dCont, dPar, dNot, dAnd, dOr, dIfE, dLst, dTup, dCall, dIsi, dSl, dYes, dSet2, dLR1, dBor, dBorT, dAug2, dAppV, dClr, e_min1, e_max1, e_mulL, e_addL, e_addT, e_sumI, e_flat, frz_nil, frz_cons, frz_leaf, frz_node, frz_own, frz_ins, frz_dic, frz_diT, frz_sto, frz_I, frz_T, Option.map_some, Option.map_none, flat_i, flat_b, flat_n, flat_s, nodeT_dat,  aNil, aCons, oN, iR1, iR2, iEn, iZi, gN, gs0, gsC, gT, gL, dRowsA, dRowsC, dIns, dBorF, dOix, dRev, dFor3, dSplit, iStrD, dInTab, dAtTab, iZs, e_stri, e_strs, e_notInS, dTry, dRaise, dOwn, own_dat, T.own.injEq, dCallM, startM, dIsX, dJoin, asS_s, e_ixs, e_inT, e_notInT, e_inS, e_tupl, e_tupt, asL_I, asL_T, e_in, e_notIn, tiesT_dat, asB_b, asI_i, asL_l, asL_n, asL_c, asU_u, e_tst, e_andV, e_orV, e_notV, e_neg, e_chain, e_aug, e_setI, e_augI, e_oS, e_iL, e_iT, e_I, e_I0, e_add, e_mul, e_ixl, e_ixt, e_eqi, e_eqs, e_eqb, e_eql, e_eqt, e_nei, e_nes, e_neb, e_nel, e_net, e_isNn, e_isNi, e_isNl, e_isNt, e_isNb, e_isNs, e_notNn, e_notNi, e_notNl, e_notNt, e_lenl, e_lent, e_lens, e_max2, e_min2, e_listl, e_listt, e_take, e_great, dat_leaf, dat_n0, dat_n1, dat_n2, dat_n3, dat_n4, dat_n5, dat_n6, dat_n7, dat_n8, dat_leaves0, nodeI_dat, len_intsD, wipeR, List.map_cons, List.map_nil, List.set_cons_zero, List.set_cons_succ, List.getElem?_cons_zero, List.getElem?_cons_succ, List.getElem?_nil, Option.some.injEq, T.leaf.injEq, T.node.injEq, exists_eq_left', exists_eq_left, startR, List.length_cons, List.length_nil, Nat.reduceAdd, Nat.reduceSub, Nat.zero_add, Nat.sub_self, List.replicate, List.cons_append, List.nil_append, List.append_nil, decide_eq_true_eq, decide_eq_false_iff_not, Bool.not_eq_true', Bool.not_eq_false', Bool.not_true, Bool.not_false, reduceCtorEq, true_implies, false_implies, and_true, true_and, Int.zero_add, Int.toNat_natCast, implies_true, false_and, and_false, ite_true, ite_false])
local macro_rules | `(tactic| walk_at "ds") => `(tactic| try simp only [e_keyS, e_keyI, dat_dic, e_dicX, List.zip_cons_cons, List.zip_nil_left, List.zip_nil_right, e_addS, e_mulS, dSlS, dDisp, dpNil, dpCons, dGet2, e_sorted, e_sorted2, dLenSet, dIndex, e_asLI, dSeq, dIf, dOp, dVar, dC, dFr, dBlt, dRet, dRetV, dAsg, dAsgG, dApp, dFrz, dDrop, dNext, dBreak, dCont, dPar, dNot, dAnd, dOr, dIfE, dLst, dTup, dCall, dIsi, dSl, dYes, dSet2, dLR1, dBor, dBorT, dAug2, dAppV, dClr, e_min1, e_max1, e_mulL, e_addL, e_addT, e_sumI, e_flat, frz_nil, frz_cons, frz_leaf, frz_node, frz_own, frz_ins, frz_dic, frz_diT, frz_sto, frz_I, frz_T, Option.map_some, Option.map_none, flat_i, flat_b, flat_n, flat_s, nodeT_dat,  aNil, aCons, oN, iR1, iR2, iEn, iZi, gN, gs0, gsC, gT, gL, dRowsA, dRowsC, dIns, dBorF, dOix, dRev, dFor3, dSplit, iStrD, dInTab, dAtTab, iZs, e_stri, e_strs, e_notInS, dTry, dRaise, dOwn, own_dat, T.own.injEq, dCallM, startM, dIsX, dJoin, asS_s, e_ixs, e_inT, e_notInT, e_inS, e_tupl, e_tupt, asL_I, asL_T, e_in, e_notIn, tiesT_dat, asB_b, asI_i, asL_l, asL_n, asL_c, asU_u, e_tst, e_andV, e_orV, e_notV, e_neg, e_chain, e_aug, e_setI, e_augI, e_oS, e_iL, e_iT, e_I, e_I0, e_add, e_mul, e_ixl, e_ixt, e_eqi, e_eqs, e_eqb, e_eql, e_eqt, e_nei, e_nes, e_neb, e_nel, e_net, e_isNn, e_isNi, e_isNl, e_isNt, e_isNb, e_isNs, e_notNn, e_notNi, e_notNl, e_notNt, e_lenl, e_lent, e_lens, e_max2, e_min2, e_listl, e_listt, e_take, e_great, dat_leaf, dat_n0, dat_n1, dat_n2, dat_n3, dat_n4, dat_n5, dat_n6, dat_n7, dat_n8, dat_leaves0, nodeI_dat, len_intsD, wipeR, List.map_cons, List.map_nil, List.set_cons_zero, List.set_cons_succ, List.getElem?_cons_zero, List.getElem?_cons_succ, List.getElem?_nil, Option.some.injEq, T.leaf.injEq, T.node.injEq, exists_eq_left', exists_eq_left, startR, List.length_cons, List.length_nil, Nat.reduceAdd, Nat.reduceSub, Nat.zero_add, Nat.sub_self, List.replicate, List.cons_append, List.nil_append, List.append_nil, decide_eq_true_eq, decide_eq_false_iff_not, Bool.not_eq_true', Bool.not_eq_false', Bool.not_true, Bool.not_false, reduceCtorEq, true_implies, false_implies, and_true, true_and, Int.zero_add, Int.toNat_natCast, implies_true, false_and, and_false, ite_true, ite_false, e_res, asO_o, e_fldV, e_pV, e_pF, e_pI, e_setP, e_augP, e_appP, e_setF, e_setN, e_meth, xMake, xPu, xPuA, xPuT, xaNil, xCall, atSto, dAsgX, dDropX, dRetX, dRetXV, dRetN, dIfX, dProm, dAsgGX, T.sto.injEq, T.fro.injEq, stput_same, stput_put, sub_nil, put_nil, objD_eq, e_obj, e_intb, deadD_isN, deadD_notN, booT_dat, optT_dat, mayT_dat, stpsT_dat, roT, fd_Roads_0, fd_Roads_1, fd_Roads_2, fd_Roads_3, fd_Roads_4, fd_Roads_5, fd_Roads_6, fd_Roads_7, sub_ins, put_ins, Option.elim_some, T.ins.injEq, nodeI_node, nodeT_node, booT_node, optT_node, foldI, foldB, foldO, foldA, natI_snoc, optT_rep, booT_rep, e_rtS, e_nxS, stpsT_frz, stpsT_node, frz_I, frz_T, frz_B, frz_O])
def topS (i : Nat) : Stmt := PySem.Challenge.pw_outlivers_k52_rows_read_or_refused.main.body.getD i (.Pass ⟨0, 0, 0, 0⟩)
def tab_SHAPES : List (Str × Str) := [("join", "nc"), ("pay", "nc"), ("draw", "nc"), ("tie", "nn"), ("untie", "nn"), ("bet", "nnc"), ("drop", "nn"), ("blanks", "c"), ("strike", "c")]
abbrev st_XNoDeed : Stmt := clsI (topS 3)
theorem sc_XNoDeed : FnScope ["self"] ["self"] (defScope st_XNoDeed) := ⟨rfl, rfl, rfl, by decide +kernel, rfl, by decide +kernel, by decide +kernel⟩
abbrev st_p_is_name : Stmt := topS 8
theorem sc_p_is_name : FnScope ["word", "sign"] ["word"] (defScope st_p_is_name) := ⟨rfl, rfl, rfl, by decide +kernel, rfl, by decide +kernel, by decide +kernel⟩
/-- whether a text is a name -/
def nameB (z : Str) : Bool := decide (1 ≤ z.length ∧ z.length ≤ 8) && z.cps.toList.all fun c => decide (c ∈ ("abcdefghijklmnopqrstuvwxyz" : Str).cps.toList)
theorem for_signs {z L : Str} {C : Ctl} (h1 : (z.cps.toList.all fun c => decide (c ∈ L.cps.toList)) = true → ∀ y, C.nx [some (.leaf (.str z)), y]) (h2 : (z.cps.toList.all fun c => decide (c ∈ L.cps.toList)) = false → C.rt (boo false)) :
    dFor (iStrD (dVar 0)) (gN 1) (dIf (dTst (dOp rdNotInS (dVar 1) (dC (.str L)))) (dRet (dC (.bool false))) dNext) C [some (.leaf (.str z)), none] := by
  refine for_of (z.cps.toList.map fun c => .str ⟨#[c]⟩) (fun i ρ' => (∃ y, ρ' = [some (.leaf (.str z)), y]) ∧ ∀ j c, j < i → z.cps.toList[j]? = some c → c ∈ L.cps.toList) (fun P h => by walk_at "dd"; exact h) ⟨⟨none, rfl⟩, fun j c hj => absurd hj (Nat.not_lt_zero _)⟩ ?_ ?_
  · rintro i d ρ' hd ⟨⟨y, rfl⟩, hi⟩
    rw [List.getElem?_map] at hd
    cases hc : z.cps.toList[i]? with
    | none =>
      rw [hc] at hd
      cases hd
    | some c =>
      rw [hc] at hd
      cases hd
      walk_at "dd"
      refine ⟨fun h => ?_, fun h => ⟨⟨_, rfl⟩, fun j c' hj e => ?_⟩⟩
      · refine h2 ?_
        rw [List.all_eq_false]
        exact ⟨c, List.mem_of_getElem? hc, by simpa using h⟩
      · by_cases e2 : j = i
        · subst e2
          rw [hc] at e
          cases e
          simpa using h
        · exact hi j c' (by omega) e
  · rintro ρ' ⟨⟨y, rfl⟩, hi⟩
    rw [List.length_map] at hi
    refine h1 ?_ y
    rw [List.all_eq_true]
    intro c hc
    obtain ⟨j, hj⟩ := List.mem_iff_getElem?.mp hc
    exact decide_eq_true (hi j c (List.getElem?_eq_some_iff.mp hj).1 hj)
def S_p_is_name : Spec := fun ds P _ => ∃ z : Str, ds = [.str z] ∧ z.length ≤ lim ∧ P (boo (nameB z))
section
variable {P : Program} {w : World} {K : PySem.W.Frag} {mg : Str → Option Value} {base : Heap}
theorem ok_p_is_name {f : Addr} {fd : FuncData} (F : Fun K "is_name" "is_name" st_p_is_name f fd) (m_len : mg "len" = none) (m_LONGEST : ConI K mg "LONGEST" 8) (m_LETTERS : ConS mg "LETTERS" "abcdefghijklmnopqrstuvwxyz") :
    FnOk P w K mg base CX0 1 f fd ["word"] (spOf K mg S_p_is_name) := by
  refine fn_ok F sc_p_is_name ?len (fun cdv A outer s H E hr => s_cons (s_if (t_not (t_chain (rd := rdLe) (rd' := rdLe) op_le op_le (ok_I0 fun _ _ => rfl) (ok_I0 fun _ _ => rfl) d_int (d_len m_len (a_cons (d_var 0) a_nil)) (d_con m_LONGEST))) (s_one (s_ret d_bl))
      s_nil)
    (s_cons (s_for (ts := [1]) PassesOwn.never rfl (i_strD (d_var 0)) (g_name 1 sc_p_is_name.nd)
      (s_one (s_if (t_notInS (d_var 1) (d_conS m_LETTERS)) (s_one (s_ret d_bl))
      s_nil)))
    (s_one (s_ret d_bl)))) ?spec ?nx
  case len =>
    rintro ds P xp ⟨z, rfl, _⟩
    rfl
  case nx => exact fun _ _ _ h => h
  case spec =>
    rintro ds P ⟨z, rfl, hz, q⟩
    walk_at "dd"
    have no : ¬ (1 ≤ z.length ∧ z.length ≤ 8) → nameB z = false := fun h => by unfold nameB; rw [decide_eq_false h]; rfl
    refine ⟨hz, fun h1 => ⟨fun h2 => ?_, fun h2 => ?_⟩, fun h1 => ?_⟩
    · rw [no (by omega)] at q
      exact q
    · have yes : nameB z = z.cps.toList.all fun c => decide (c ∈ ("abcdefghijklmnopqrstuvwxyz" : Str).cps.toList) := by unfold nameB; rw [decide_eq_true (show 1 ≤ z.length ∧ z.length ≤ 8 by omega)]; rfl
      rw [yes] at q
      refine for_signs (fun h y => ?_) fun h => ?_
      · rw [h] at q
        exact q
      · rw [h] at q
        exact q
    · rw [no (by omega)] at q
      exact q
end
abbrev st_p_is_number : Stmt := topS 13
theorem sc_p_is_number : FnScope ["word", "sign"] ["word"] (defScope st_p_is_number) := ⟨rfl, rfl, rfl, by decide +kernel, rfl, by decide +kernel, by decide +kernel⟩
def numB (z : Str) : Bool := decide (1 ≤ z.length ∧ z.length ≤ 10) && (z.cps.toList.all fun c => decide (c ∈ ("0123456789" : Str).cps.toList)) && (decide (z = "0") || decide (z.cps.toList[0]? ≠ some 48))
theorem numB_len {z : Str} (h : numB z = true) : z.length ≤ 10 := by
  unfold numB at h
  rw [Bool.and_eq_true, Bool.and_eq_true, decide_eq_true_eq] at h
  exact h.1.1.2
theorem numB_int {z : Str} (h : numB z = true) : PySem.intText? z = some ((NumText.digitsVal z.cps.toList : Nat) : Int) := by
  have hl := numB_len h
  unfold numB at h
  rw [Bool.and_eq_true, Bool.and_eq_true, decide_eq_true_eq, List.all_eq_true] at h
  refine intText_digits (fun c hc => ?_) (fun e => ?_) (by omega)
  · have m : c ∈ (Str.ofString "0123456789").cps.toList := of_decide_eq_true (h.1.2 c hc)
    have all : ∀ c ∈ (Str.ofString "0123456789").cps.toList, 48 ≤ c ∧ c ≤ 57 := by decide +kernel
    exact all c m
  · have e2 : z.length = 0 := by
      show z.cps.size = 0
      rw [← Array.length_toList, e]
      rfl
    omega
def S_p_is_number : Spec := fun ds P _ => ∃ z : Str, ds = [.str z] ∧ z.length ≤ lim ∧ P (boo (numB z))
section
variable {P : Program} {w : World} {K : PySem.W.Frag} {mg : Str → Option Value} {base : Heap}
theorem ok_p_is_number {f : Addr} {fd : FuncData} (F : Fun K "is_number" "is_number" st_p_is_number f fd) (m_len : mg "len" = none) (m_MOST_FIGURES : ConI K mg "MOST_FIGURES" 10) (m_FIGURES : ConS mg "FIGURES" "0123456789") :
    FnOk P w K mg base CX0 1 f fd ["word"] (spOf K mg S_p_is_number) := by
  refine fn_ok F sc_p_is_number ?len (fun cdv A outer s H E hr => s_cons (s_if (t_not (t_chain (rd := rdLe) (rd' := rdLe) op_le op_le (ok_I0 fun _ _ => rfl) (ok_I0 fun _ _ => rfl) d_int (d_len m_len (a_cons (d_var 0) a_nil)) (d_con m_MOST_FIGURES))) (s_one (s_ret d_bl))
      s_nil)
    (s_cons (s_for (ts := [1]) PassesOwn.never rfl (i_strD (d_var 0)) (g_name 1 sc_p_is_number.nd)
      (s_one (s_if (t_notInS (d_var 1) (d_conS m_FIGURES)) (s_one (s_ret d_bl))
      s_nil)))
    (s_one (s_ret (d_or (d_eq hr.units (d_var 0) d_str) (d_one (d_ne hr.units (d_ats (d_var 0) d_int) d_str))))))) ?spec ?nx
  case len =>
    rintro ds P xp ⟨z, rfl, _⟩
    rfl
  case nx => exact fun _ _ _ h => h
  case spec =>
    rintro ds P ⟨z, rfl, hz, q⟩
    walk_at "dd"
    have no : ¬ (1 ≤ z.length ∧ z.length ≤ 10) → numB z = false := fun h => by unfold numB; rw [decide_eq_false h]; rfl
    refine ⟨hz, fun h1 => ⟨fun h2 => ?_, fun h2 => ?_⟩, fun h1 => ?_⟩
    · rw [no (by omega)] at q
      exact q
    · have yes : numB z = ((z.cps.toList.all fun c => decide (c ∈ ("0123456789" : Str).cps.toList)) && (decide (z = "0") || decide (z.cps.toList[0]? ≠ some 48))) := by unfold numB; rw [decide_eq_true (show 1 ≤ z.length ∧ z.length ≤ 10 by omega)]; rfl
      rw [yes] at q
      refine for_signs (fun h y => ?_) fun h => ?_
      · rw [h] at q
        walk_at "dd"
        have hne : z.cps.toList ≠ [] := fun e => by
          have e2 : z.length = 0 := by
            show z.cps.size = 0
            rw [← Array.length_toList, e]
            rfl
          omega
        obtain ⟨c, r, hcr⟩ := List.exists_cons_of_ne_nil hne
        rw [hcr] at q ⊢
        refine ⟨fun e => ?_, fun e => ⟨hz, c, ?_, ?_⟩⟩
        · rw [decide_eq_true e] at q
          exact q
        · unfold L2.atI
          rw [ixN_of (by omega) (by simp)] <;> rfl
        · rw [decide_eq_false e] at q
          have e2 : decide ((⟨#[c]⟩ : Str) ≠ Str.ofString "0") = decide ((c :: r)[0]? ≠ some 48) := by
            refine decide_eq_decide.mpr ⟨fun h k => h ?_, fun h k => h ?_⟩
            · have k : c = 48 := by simpa using k
              rw [k] <;> rfl
            · have k2 : (⟨#[c]⟩ : Str) = ⟨#[48]⟩ := k
              have k3 : c = 48 := by simpa using k2
              rw [k3] <;> rfl
          rw [e2]
          exact q
      · rw [h] at q
        exact q
    · rw [no (by omega)] at q
      exact q
end
abbrev st_p_number_in : Stmt := topS 14
theorem sc_p_number_in : FnScope ["word"] ["word"] (defScope st_p_number_in) := ⟨rfl, rfl, rfl, by decide +kernel, rfl, by decide +kernel, by decide +kernel⟩
def S_p_number_in : Spec := fun ds P xp => ∃ z : Str, ds = [.str z] ∧ z.length ≤ lim ∧ (numB z = true → ∃ n, PySem.intText? z = some n ∧ P (int n)) ∧ (numB z = false → xp "NoDeed" .none)
section
variable {P : Program} {w : World} {K : PySem.W.Frag} {mg : Str → Option Value} {base : Heap}
theorem ok_p_number_in {f : Addr} {fd : FuncData} (F : Fun K "number_in" "number_in" st_p_number_in f fd) (C_p_is_number : Cal P w K mg base "is_number" ["word"] 1 S_p_is_number) (X_NoDeed : ExcF P w K mg base "NoDeed") (m_int : mg "int" = none) :
    FnOk P w K mg base (L2.CX P w) 3 f fd ["word"] (spOf K mg S_p_number_in) := by
  refine fn_okX F sc_p_number_in ?len (fun cdv A outer s H E hr => s_cons (s_if (t_not (t_val (d_callC C_p_is_number hr (a_cons (d_var 0) a_nil)))) (s_one (s_raise X_NoDeed hr rfl (takes_of rfl rfl rfl rfl)))
      s_nil)
    (s_one (s_ret (d_intS m_int (a_cons (d_var 0) a_nil))))) ?spec
  case len =>
    rintro ds P xp ⟨z, rfl, _⟩
    rfl
  case spec =>
    rintro ds P xp ⟨z, rfl, hz, q1, q2⟩
    walk_at "dd"
    refine ⟨z, rfl, hz, ?_⟩
    walk_at "dd"
    refine ⟨fun h => q2 h, fun h => ?_⟩
    obtain ⟨n, hn, p⟩ := q1 h
    refine ⟨z, n, rfl, hn, ?_, p⟩
    have := numB_len h
    omega
end
abbrev st_p_deed_of : Stmt := topS 15
theorem sc_p_deed_of : FnScope ["text", "words", "shape", "parts", "kind", "word"] ["text"] (defScope st_p_deed_of) := ⟨rfl, rfl, rfl, by decide +kernel, rfl, by decide +kernel, by decide +kernel⟩
def partD (k : Nat) (w : Str) : Option PyData := if k = 99 then (if numB w then (PySem.intText? w).map .int else none) else if nameB w then some (.str w) else none
def partsD : List Nat → List Str → Option (List PyData)
  | k :: ks, w :: ws => (partD k w).bind fun d => (partsD ks ws).map (d :: ·)
  | _, _ => some []
def deedW : List Str → Option PyData
  | [] => none
  | w :: ws => match tab_SHAPES.lookup w with
    | none => none
    | some sh => if ws.length = sh.cps.toList.length then (partsD sh.cps.toList ws).map fun ds => .tuple (.str w :: ds) else none
theorem partsD_step : ∀ (i : Nat) (ks : List Nat) (ws : List Str), partsD ks ws = (partsD (ks.take i) (ws.take i)).bind fun a => (partsD (ks.drop i) (ws.drop i)).map (a ++ ·)
  | 0, ks, ws => by
    show _ = (some ([] : List PyData)).bind _
    simp
  | i + 1, [], ws => by
    simp [partsD]
  | i + 1, k :: ks, [] => by
    simp [partsD]
  | i + 1, k :: ks, w :: ws => by
    show (partD k w).bind (fun d => (partsD ks ws).map (d :: ·)) = ((partD k w).bind fun d => (partsD (ks.take i) (ws.take i)).map (d :: ·)).bind fun a => (partsD (ks.drop i) (ws.drop i)).map (a ++ ·)
    rw [partsD_step i ks ws]
    cases partD k w with
    | none => rfl
    | some d =>
      cases partsD (ks.take i) (ws.take i) with
      | none => rfl
      | some a =>
        show Option.map _ (Option.map _ _) = Option.map _ _
        rw [Option.map_map]
        rfl
theorem partsD_ok {i : Nat} {ks : List Nat} {ws : List Str} {k : Nat} {w : Str} {a : List PyData} {d : PyData} (hk : ks[i]? = some k) (hw : ws[i]? = some w) (h : partsD (ks.take i) (ws.take i) = some a) (hd : partD k w = some d) : partsD (ks.take (i + 1)) (ws.take (i + 1)) = some (a ++ [d]) := by
  obtain ⟨i1, e1⟩ := List.getElem?_eq_some_iff.mp hk
  obtain ⟨i2, e2⟩ := List.getElem?_eq_some_iff.mp hw
  rw [partsD_step i, List.take_take, List.take_take, Nat.min_eq_left (Nat.le_succ i), h, List.drop_take, List.drop_take, List.drop_eq_getElem_cons i1, List.drop_eq_getElem_cons i2, e1, e2, show i + 1 - i = 1 by omega, List.take_succ_cons, List.take_succ_cons]
  show Option.map _ ((partD k w).bind _) = _
  rw [hd]
  rfl
theorem partsD_no {i : Nat} {ks : List Nat} {ws : List Str} {k : Nat} {w : Str} (hk : ks[i]? = some k) (hw : ws[i]? = some w) (hd : partD k w = none) : partsD ks ws = none := by
  obtain ⟨i1, e1⟩ := List.getElem?_eq_some_iff.mp hk
  obtain ⟨i2, e2⟩ := List.getElem?_eq_some_iff.mp hw
  rw [partsD_step i, List.drop_eq_getElem_cons i1, List.drop_eq_getElem_cons i2, e1, e2]
  have e : partsD (k :: ks.drop (i + 1)) (w :: ws.drop (i + 1)) = none := by
    show (partD k w).bind _ = _
    rw [hd]
    rfl
  rw [e]
  cases partsD (ks.take i) (ws.take i) <;> rfl
theorem partsD_len : ∀ {ks : List Nat} {ws : List Str} {a : List PyData}, partsD ks ws = some a → a.length ≤ ks.length
  | [], _, _, h => by
    cases h
    exact Nat.zero_le _
  | _ :: _, [], _, h => by
    cases h
    exact Nat.zero_le _
  | k :: ks, w :: ws, a, h => by
    have h : (partD k w).bind (fun d => (partsD ks ws).map (d :: ·)) = some a := h
    cases e : partD k w with
    | none =>
      rw [e] at h
      cases h
    | some d =>
      rw [e] at h
      cases e2 : partsD ks ws with
      | none =>
        have h : Option.map (d :: ·) (partsD ks ws) = some a := h
        rw [e2] at h
        cases h
      | some b =>
        have h : Option.map (d :: ·) (partsD ks ws) = some a := h
        rw [e2] at h
        cases h
        have := partsD_len e2
        show b.length + 1 ≤ ks.length + 1
        omega
theorem cut1 (x : Str) (xs : List Str) : cutD (strsD (x :: xs)) (some 1) none = strsD xs := by
  unfold cutD
  rw [show ((1 : Int)) = ((1 : Nat) : Int) from rfl, HT.sIx_nat, HT.sIx_none, strs_len, List.length_cons, Nat.min_eq_left (by omega)]
  show ((PyData.str x :: strsD xs).drop 1).take _ = _
  rw [List.drop_succ_cons, List.drop_zero]
  exact List.take_of_length_le (by rw [strs_len]; omega)
def S_p_deed_of : Spec := fun ds P xp => ∃ ws : List Str, ds = [.str (Txt.join " " ws)] ∧ ws ≠ [] ∧ ws.length < 1000 ∧ (∀ w ∈ ws, 32 ∉ TL.tl w ∧ w.length ≤ 10000) ∧ (Txt.join " " ws).length ≤ 10000 ∧ (∀ d, deedW ws = some d → P (.leaf d)) ∧ (deedW ws = none → xp "NoDeed" .none)
theorem tab_sh {w v : Str} (h : tab_SHAPES.lookup w = some v) : v.cps.all (· < 128) = true ∧ v.length ≤ 3 := by
  have all : ∀ kv ∈ tab_SHAPES, (kv.2.cps.all (· < 128) = true ∧ kv.2.length ≤ 3) := by decide +kernel
  have key : ∀ (tab : List (Str × Str)), tab.lookup w = some v → ∃ kv ∈ tab, kv.2 = v := fun tab => by
    induction tab with
    | nil => intro h; cases h
    | cons kv tab ih =>
      intro h
      rw [List.lookup_cons] at h
      split at h
      · cases h
        exact ⟨kv, List.mem_cons_self .., rfl⟩
      · obtain ⟨x, hx, e⟩ := ih h
        exact ⟨x, List.mem_cons_of_mem _ hx, e⟩
  obtain ⟨kv, hm, rfl⟩ := key _ h
  exact all kv hm
section
variable {P : Program} {w : World} {K : PySem.W.Frag} {mg : Str → Option Value} {base : Heap}
theorem ok_p_deed_of {f : Addr} {fd : FuncData} (F : Fun K "deed_of" "deed_of" st_p_deed_of f fd) (C_p_is_name : Cal P w K mg base "is_name" ["word"] 1 S_p_is_name) (C_p_number_in : CalX P w K mg base "number_in" ["word"] 3 S_p_number_in) (X_NoDeed : ExcF P w K mg base "NoDeed") (m_zip : mg "zip" = none) (m_tuple : mg "tuple" = none) (m_len : mg "len" = none) (m_SHAPES : ConD K w mg "SHAPES" tab_SHAPES) :
    FnOk P w K mg base (L2.CX P w) 4 f fd ["text"] (spOf K mg S_p_deed_of) := by
  refine fn_okX F sc_p_deed_of ?len (fun cdv A outer s H E hr => s_cons (s_asg 1 sc_p_deed_of.nd (d_fr (d_split (d_var 0) d_str)))
    (s_cons (s_if (t_notInTab m_SHAPES (d_at (d_var 1) d_int)) (s_one (s_raise X_NoDeed hr rfl (takes_of rfl rfl rfl rfl)))
      s_nil)
    (s_cons (s_asg 2 sc_p_deed_of.nd (d_atTab m_SHAPES (d_at (d_var 1) d_int)))
    (s_cons (s_if (t_ne hr.units (d_len m_len (a_cons (d_var 1) a_nil)) (d_add (d_len m_len (a_cons (d_var 2) a_nil)) d_int)) (s_one (s_raise X_NoDeed hr rfl (takes_of rfl rfl rfl rfl)))
      s_nil)
    (s_cons (s_asg 3 sc_p_deed_of.nd (d_lst (a_cons (d_at (d_var 1) d_int) a_nil)))
    (s_cons (s_for (ts := [4, 5]) (passes_of rfl) rfl (i_zipS m_zip (a_cons (d_var 2) (a_cons (d_sl (d_var 1) (o_some d_int) o_none) a_nil))) (g_tup (n := 2) rfl (gs_cons (g_name 4 sc_p_deed_of.nd) (gs_cons (g_name 5 sc_p_deed_of.nd) gs_nil)))
      (s_one (s_if (t_eq hr.units (d_var 4) d_str) (s_one (s_app 3 (d_callX C_p_number_in hr (takes_of rfl rfl rfl rfl) (a_cons (d_var 5) a_nil))))
      (s_one (s_if (t_val (d_callC C_p_is_name hr (a_cons (d_var 5) a_nil))) (s_one (s_app 3 (d_var 5)))
      (s_one (s_raise X_NoDeed hr rfl (takes_of rfl rfl rfl rfl))))))))
    (s_frz 3 (s_one (s_ret (d_tuple m_tuple (a_cons (d_var 3) a_nil))))))))))) ?spec
  case len =>
    rintro ds P xp ⟨z, rfl, _⟩
    rfl
  case spec =>
    rintro ds P xp ⟨ws, rfl, hne, hl, hw, hz, q1, q2⟩
    have sp : Txt.split (Txt.join " " ws) " " = ws := TL.split_join (y := " ") (s := 32) (S := []) rfl (by decide +kernel) hne fun p hp => (hw p hp).1
    walk_at "dd"
    rw [sp]
    obtain ⟨w, rest, rfl⟩ := List.exists_cons_of_ne_nil hne
    have at0 : atI (strsD (w :: rest)) 0 = some (.str w) := by
      unfold L2.atI
      rw [ixN_of (by omega) (by show (0 : Int) < ((strsD (w :: rest)).length : Nat); rw [strs_len, List.length_cons]; omega)] <;> rfl
    refine ⟨by decide, Nat.le_trans hz (by decide), _, at0, ?_⟩
    walk_at "dd"
    cases ht : tab_SHAPES.lookup w with
    | none =>
      refine ⟨fun _ => q2 ?_, fun h => (by cases h)⟩
      show (match tab_SHAPES.lookup w with
        | none => none
        | some sh => _) = none
      rw [ht]
    | some v =>
      have ed : deedW (w :: rest) = if rest.length = v.cps.toList.length then (partsD v.cps.toList rest).map fun ds => .tuple (.str w :: ds) else none := by
        show (match tab_SHAPES.lookup w with
          | none => none
          | some sh => _) = _
        rw [ht]
      obtain ⟨va, vl⟩ := tab_sh ht
      have vl2 : v.cps.toList.length = v.length := Array.length_toList
      refine ⟨fun h => (by cases h), fun _ => ⟨_, at0, ?_⟩⟩
      walk_at "dd"
      refine ⟨v, ht, Nat.le_trans vl (by decide), fun h => q2 ?_, fun h => ⟨_, at0, by decide, ?_⟩⟩
      · rw [ed, if_neg]
        rw [strs_len, List.length_cons] at h
        omega
      · rw [strs_len, List.length_cons] at h
        have hr : rest.length = v.cps.toList.length := by omega
        rw [if_pos hr] at ed
        rw [ed] at q1 q2
        refine for_of (zipSD v.cps.toList (strsD rest)) (fun i ρ' => ∃ (acc : List PyData) (y4 y5 : Option T), ρ' = [some (.leaf (.str (Txt.join " " (w :: rest)))), some (.leaf (.list (strsD (w :: rest)))), some (.leaf (.str v)), some (.node ((PyData.str w :: acc).map .leaf)), y4, y5] ∧ partsD (v.cps.toList.take i) (rest.take i) = some acc) (fun P h => ?_) ⟨[], none, none, rfl, rfl⟩ ?_ ?_
        · skip
          walk_at "dd"
          refine ⟨v, strsD rest, ?_, va, h⟩
          rw [show cutD (strsD (w :: rest)) (some 1) none = strsD rest from cut1 _ _]
        · rintro i d ρ' hd ⟨acc, y4, y5, rfl, hp⟩
          have hi : i < (zipSD v.cps.toList (strsD rest)).length := (List.getElem?_eq_some_iff.mp hd).1
          rw [zipSD_len, strs_len] at hi
          have i1 : i < v.cps.toList.length := by omega
          have i2 : i < rest.length := by omega
          have g1 := List.getElem?_eq_getElem i1
          have g2 := List.getElem?_eq_getElem i2
          generalize v.cps.toList[i] = k at g1
          generalize hw' : rest[i] = w' at g2
          have hd2 := zipSD_get v.cps.toList (strsD rest) i k (.str w') g1 (by unfold strsD; rw [List.getElem?_map, g2]; rfl)
          rw [hd] at hd2
          cases hd2
          have wl : w'.length ≤ lim := Nat.le_trans (hw w' (List.mem_cons_of_mem _ (List.mem_of_getElem? g2))).2 (by decide)
          have al := partsD_len hp
          rw [List.length_take] at al
          have none_of : partD k w' = none → xp "NoDeed" .none := fun h => q2 (by rw [partsD_no g1 g2 h]; rfl)
          walk_at "dd"
          have lm : (List.map T.leaf acc).length + 1 < lim := by
            rw [List.length_map]
            exact Nat.lt_of_le_of_lt (show acc.length + 1 ≤ 10 by omega) (by decide)
          have c99 : (⟨#[k]⟩ : Str) = Str.ofString "c" → k = 99 := fun e => by
            have e : (⟨#[k]⟩ : Str) = ⟨#[99]⟩ := e
            simpa using e
          refine ⟨fun e => ⟨lm, w', rfl, wl, fun hn => ⟨_, numB_int hn, acc ++ [.int ((NumText.digitsVal w'.cps.toList : Nat) : Int)], some (.leaf (.str ⟨#[k]⟩)), some (.leaf (.str w')), ?_, partsD_ok g1 g2 hp ?_⟩, fun hn => none_of ?_⟩, fun e => ⟨w', rfl, wl, ?_⟩⟩
          · rw [List.map_append]
            rfl
          · unfold partD
            rw [if_pos (c99 e), if_pos hn, numB_int hn] <;> rfl
          · unfold partD
            rw [if_pos (c99 e), hn] <;> rfl
          · have k99 : k ≠ 99 := fun z => e (by rw [z] <;> rfl)
            walk_at "dd"
            refine ⟨fun hn => ⟨lm, acc ++ [.str w'], some (.leaf (.str ⟨#[k]⟩)), some (.leaf (.str w')), ?_, partsD_ok g1 g2 hp ?_⟩, fun hn => none_of ?_⟩
            · rw [List.map_append]
              rfl
            · unfold partD
              rw [if_neg k99, if_pos hn]
            · unfold partD
              rw [if_neg k99, hn] <;> rfl
        · rintro ρ' ⟨acc, y4, y5, rfl, hp⟩
          rw [zipSD_len, strs_len, hr, Nat.min_self, List.take_length, ← hr, List.take_length] at hp
          rw [hp] at q1
          walk_at "dd"
          rw [show (T.node (T.leaf (.str w) :: List.map T.leaf acc)).dat = .list (.str w :: acc) from dat_leaves0 (.str w :: acc)]
          walk_at "dd"
          exact q1 _ rfl
end
abbrev st_l_box : Stmt := topS 17
theorem sc_l_box : FnScope ["_law_script"] ["_law_script"] (defScope st_l_box) := ⟨rfl, rfl, rfl, by decide +kernel, rfl, by decide +kernel, by decide +kernel⟩
section
variable {P : Program} {w : World} {K : PySem.W.Frag} {mg : Str → Option Value} {base : Heap}
theorem ok_l_box {f : Addr} {fd : FuncData} (F : Fun K "_law_box" "_law_box" st_l_box f fd) (m_list : mg "list" = none) : FnOk P w K mg base CX0 1 f fd ["_law_script"] (spBox K) := by
  refine F.ok sc_l_box (fun vs H Q E h => ?_) (fun cdv A outer s H vs Q E hr h => ?_)
  · obtain ⟨a, ns, rfl, _⟩ := h
    rfl
  · obtain ⟨a, ns, rfl, hS, q⟩ := h
    refine ⟨_, pss_one (ps_ret (pe_lst (pa_cons (pe_callTy call_list_of (by rfl) m_list (by decide +kernel) (pa_cons (pe_slice sl_list (pv 0) po_none (po_some pe_int)) pa_nil)) (pa_cons pe_int (pa_cons pe_int (pa_cons pe_int pa_nil)))))), ?_⟩
    refine ⟨_, rfl, 63, rfl, a, _, rfl, hS, fun t ht => ?_⟩
    refine ⟨t, _, rfl, .inl (.inl (.inl upd_same)), fun c hc => ?_⟩
    refine ⟨by show 4 ≤ sizeLine; decide, fun p hp => ?_⟩
    have pc : p ≠ c := fun z => by
      rw [z, upd_same] at hp
      cases hp
    have hcut : cutV (ns.map V.int) none (some 63) = (ns.take 63).map V.int := by
      unfold cutV
      rw [HT.sIx_none]
      rw [show HT.sIx (ns.map V.int).length (ns.map V.int).length (some 63) = min 63 (ns.map V.int).length from HT.sIx_nat _ _ 63]
      rw [List.drop_zero, Nat.sub_zero, List.map_take]
      by_cases h : 63 ≤ (ns.map V.int).length
      · rw [Nat.min_eq_left h]
      · rw [Nat.min_eq_right (by omega), List.take_of_length_le (Nat.le_refl _), List.take_of_length_le (by omega)]
    refine q p c _ (ns.take 63) upd_same ?_ pc (by simp; omega)
    rw [upd_ne (Ne.symm pc), upd_same, hcut]
end
abbrev st_l_take : Stmt := topS 18
theorem sc_l_take : FnScope ["_law_box_here", "_law_many", "_law_rest", "_law_cell", "_law_seed"] ["_law_box_here", "_law_many"] (defScope st_l_take) := ⟨rfl, rfl, rfl, by decide +kernel, rfl, by decide +kernel, by decide +kernel⟩
theorem box_step {K : PySem.W.Frag} {G H H' : Hp} {a c : Addr} {cells : List Int} {pos : Nat} {rest seed : Int} (g : Good K (some a) G H) (e0 : boxc H a = some (.ref c)) (e : H' a = some (.lst [.ref c, .int pos, .int rest, .int seed])) (o : ∀ x, x ≠ a → H' x = H x) (hc : G c = some (.lst (cells.map V.int)))
    (h1 : cells.length ≤ 63) (h2 : pos ≤ 63) (h3 : 0 ≤ rest) (h4 : 0 ≤ seed) (h5 : seed < 2147483629) : Stp K (some a) G H G H' := by
  have gn : G a = none := (g.box a rfl).1
  refine ⟨fun _ _ e => e, ⟨fun x u q => ?_, fun x q => ?_⟩, fun x u n q => ?_, fun x u n _ => n, fun x q => ?_⟩
  · have na : x ≠ a := fun z => by
      rw [z, gn] at q
      cases q
    rw [o x na]
    exact g.ex x u q
  · cases q
    exact ⟨gn, c, cells, pos, rest, seed, e, hc, h1, h2, h3, h4, h5⟩
  · rw [o x fun z => n (by rw [z])]
    exact q
  · cases q
    rw [e0]
    unfold boxc
    rw [e] <;> rfl
theorem at3 {α : Type} {a b c d : α} : atI [a, b, c, d] 3 = some d := rfl
theorem at2' {α : Type} {a b c d : α} : atI [a, b, c, d] 2 = some c := rfl
theorem at1' {α : Type} {a b c d : α} : atI [a, b, c, d] 1 = some b := rfl
theorem at0' {α : Type} {a b c d : α} : atI [a, b, c, d] 0 = some a := rfl
section
variable {P : Program} {w : World} {K : PySem.W.Frag} {mg : Str → Option Value} {base : Heap}
theorem ok_l_take {f : Addr} {fd : FuncData} (F : Fun K "_law_take" "_law_take" st_l_take f fd) (ml : mg "len" = none) : FnOk P w K mg base CX0 1 f fd ["_law_box_here", "_law_many"] (spOf K mg S_l_take) := by
  refine F.ok sc_l_take (sp_len fun ds P xp h => ?_) (fun cdv A outer s H vs Q E hr h => ?_)
  · obtain ⟨n, rfl, _⟩ := h
    rfl
  · obtain ⟨b, G, ds, P, xp, ⟨n, rfl, n0, n1, hP⟩, g, r, k, _⟩ := h
    cases r with
    | cons r1 r2 =>
      cases r1 with
      | @box a hb =>
        subst hb
        cases r2 with
        | cons r3 r4 =>
          cases r3
          cases r4
          obtain ⟨gn, c, cells, pos, rest, seed, hH, hG, hl, hp, h0, hs0, hs1⟩ := g.box a rfl
          refine ⟨_, pss_cons (ps_if (pt_cmpR op_gt (pe_ix ix_list (pv 0) pe_int (fun _ _ => rfl)) pe_int (nomark _))
              (pss_cons (ps_set (i := 2) sc_l_take.nd rfl (.inl rfl) (pe_ix ix_list (pv 0) pe_int (fun _ _ => rfl)))
              (pss_cons (ps_asg (pe_op op_fdivW (pv 2) (pv 1)) (pg_sub (pv 0) pe_int set_list))
              (pss_one (ps_ret (pe_op op_mod (pv 2) (pv 1)))))) pss_nil)
            (pss_cons (ps_set (i := 3) sc_l_take.nd rfl (.inl rfl) pe_int)
            (pss_cons (ps_if (pt_cmpR op_lt (pe_ix ix_list (pv 0) pe_int (fun _ _ => rfl)) (pe_callB call_len_seq (by rfl) ml PySem.boot_len (pa_cons (pe_ix ix_list (pv 0) pe_int (fun _ _ => rfl)) pa_nil)) (nomark _))
              (pss_cons (ps_set (i := 3) sc_l_take.nd rfl (.inl rfl) (pe_ix ix_list (pe_ix ix_list (pv 0) pe_int (fun _ _ => rfl)) (pe_ix ix_list (pv 0) pe_int (fun _ _ => rfl)) (fun _ _ => rfl)))
              (pss_one (ps_augS (pv 0) pe_int get_list pe_int ip_add set_list))) pss_nil)
            (pss_cons (ps_if (pt_cmpR op_ge (pv 3) (pe_op op_pow pe_int pe_int) (nomark _))
              (pss_cons (ps_asg (pe_op op_fdivW (pv 3) (pv 1)) (pg_sub (pv 0) pe_int set_list))
              (pss_one (ps_ret (pe_op op_mod (pv 3) (pv 1))))) pss_nil)
            (pss_cons (ps_set (i := 4) sc_l_take.nd rfl (.inl rfl) (pe_ix ix_list (pv 0) pe_int (fun _ _ => rfl)))
            (pss_cons (ps_set (i := 4) sc_l_take.nd rfl (.inl rfl) (pe_op op_add (pe_op op_add (pe_op op_pow (pv 4) pe_int) (pe_op op_mul pe_int (pv 4))) (pe_op op_mul pe_int (pe_op op_mod (pv 3) pe_int))))
            (pss_cons (ps_asg (pe_op op_mod (pe_op op_add (pv 4) pe_int) pe_int) (pg_sub (pv 0) pe_int set_list))
            (pss_one (ps_ret (pe_op op_mod (pe_op op_fdiv (pe_ix ix_list (pv 0) pe_int (fun _ _ => rfl)) pe_int) (pv 1)))))))))), ?_⟩
          have L : ∀ {H' : Hp} {xs : List V}, H' a = some (.lst xs) → SqL K H' a xs := fun h => .inl (.inl h)
          -- the end: r a drawn number, H' the heap
          have fin : ∀ (H' : Hp) (pos' : Nat) (rest' seed' r : Int), H' a = some (.lst [.ref c, .int pos', .int rest', .int seed']) → (∀ x, x ≠ a → H' x = H x) → pos' ≤ 63 → 0 ≤ rest' → 0 ≤ seed' → seed' < 2147483629 → 0 ≤ r → r < n → Q (.int r) H' := fun H' pos' rest' seed' r e o q1 q2 q3 q4 q5 q6 =>
            k G H' _ _ [] (hP r q5 q6) (box_step g (by unfold boxc; rw [hH] <;> rfl) e o hG hl q1 q2 q3 q4) (.leaf (.int r)) fun _ z => nomatch z
          have mod0 : ∀ x : Int, 0 ≤ x % n := fun x => Int.emod_nonneg _ (by omega)
          have modn : ∀ x : Int, x % n < n := fun x => Int.emod_lt_of_pos _ n0
          refine ⟨_, rfl, a, _, 2, _, rfl, rfl, L hH, at2', rest, 0, rfl, rfl, _, rfl, ?_⟩
          refine ite2 (fun c0 => ?_) (fun c0 => ?_)
          · have c3 : (0 : Int) < rest := of_decide_eq_true c0
            refine ⟨_, rfl, a, _, 2, _, rfl, rfl, L hH, at2', ?_⟩
            refine ⟨_, rfl, _, rfl, _, _, rfl, rfl, (wide_div (b := 200) n0 (Nat.lt_of_lt_of_le (show n.natAbs < 1000000000000000000000000000000 by omega) (by decide)) (by decide) (by decide)), _, rfl, a, _, 2, 2, rfl, rfl, hH, rfl, ?_⟩
            refine ⟨_, rfl, _, rfl, _, _, rfl, rfl, n0, ?_⟩
            exact fin _ pos (rest / n) seed _ upd_same (fun x nx => upd_ne nx) hp (Int.ediv_nonneg (by omega) (by omega)) hs0 hs1 (mod0 _) (modn _)
          -- cell = 0; box[1] < len(box[0])
          refine ⟨_, rfl, a, _, 1, _, rfl, rfl, L hH, at1', _, rfl, a, _, 0, _, rfl, rfl, L hH, at0', c, _, rfl, .inl (.inl (.inl (g.ex _ _ hG))), _, _, rfl, rfl, _, rfl, ?_⟩
          refine ite2 (fun c1 => ?_) (fun c1 => ?_)
          · have c3 : (pos : Int) < ((cells.map V.int).length : Nat) := of_decide_eq_true c1
            rw [List.length_map] at c3
            have c4 : pos < cells.length := by omega
            have ec : atI (cells.map V.int) (pos : Int) = some (.int cells[pos]) := atI_nat (by rw [List.getElem?_map, List.getElem?_eq_getElem c4] <;> rfl)
            refine ⟨_, rfl, a, _, 0, _, rfl, rfl, L hH, at0', _, rfl, a, _, 1, _, rfl, rfl, L hH, at1', c, _, _, _, rfl, rfl, .inl (.inl (g.ex _ _ hG)), ec, ?_⟩
            refine ⟨_, rfl, a, _, 1, _, rfl, rfl, hH, by decide, rfl, _, _, rfl, rfl, a, _, 1, 1, rfl, rfl, hH, rfl, ?_⟩
            generalize hcell : cells[pos] = cell
            have ho : ∀ x, x ≠ a → upd H a (.lst ([V.ref c, .int pos, .int rest, .int seed].set 1 (.int ((pos : Int) + 1)))) x = H x := fun x nx => upd_ne nx
            have hH1 : upd H a (.lst ([V.ref c, .int pos, .int rest, .int seed].set 1 (.int ((pos : Int) + 1)))) a = some (.lst [.ref c, .int ((pos + 1 : Nat) : Int), .int rest, .int seed]) := upd_same
            have hp1 : pos + 1 ≤ 63 := by omega
            revert ho hH1 hp1
            generalize upd H a (.lst ([V.ref c, .int pos, .int rest, .int seed].set 1 (.int ((pos : Int) + 1)))) = H1
            generalize pos + 1 = pos1
            intro ho hH1 hp1
            -- cell >= 10 ** 18
            refine ⟨_, rfl, 10, 18, rfl, rfl, ⟨by decide, by decide, by decide⟩, _, _, rfl, rfl, _, rfl, ?_⟩
            refine ite2 (fun c2 => ?_) (fun c2 => ?_)
            · have c3 : (10 : Int) ^ (18 : Int).toNat ≤ cell := of_decide_eq_true c2
              have hc : 0 ≤ cell := Int.le_trans (by decide) c3
              refine ⟨_, rfl, _, rfl, _, _, rfl, rfl, (wide_div (b := 200) n0 (Nat.lt_of_lt_of_le (show n.natAbs < 1000000000000000000000000000000 by omega) (by decide)) (by decide) (by decide)), _, rfl, a, _, 2, 2, rfl, rfl, hH1, rfl, ?_⟩
              refine ⟨_, rfl, _, rfl, _, _, rfl, rfl, n0, ?_⟩
              exact fin _ pos1 (cell / n) seed _ upd_same (fun x nx => by rw [upd_ne nx]; exact ho x nx) hp1 (Int.ediv_nonneg hc (by omega)) hs0 hs1 (mod0 _) (modn _)
            · refine ⟨_, rfl, a, _, 3, _, rfl, rfl, L hH1, at3, ?_⟩
              refine ⟨_, rfl, seed, 3, rfl, rfl, ⟨by decide, by decide, by show seed.natAbs < 2 ^ 64; omega⟩, _, rfl, 48271, seed, rfl, rfl, .inl ⟨by decide, by decide⟩, _, _, rfl, rfl, _, rfl, cell, 2147483629, rfl, rfl, (by show (0 : Int) < 2147483629; decide), 69621, _, rfl, rfl, .inl ⟨by decide, by decide⟩, _, _, rfl, rfl, ?_⟩
              refine ⟨_, rfl, _, 11, rfl, rfl, _, 2147483629, rfl, rfl, (by show (0 : Int) < 2147483629; decide), _, rfl, a, _, 3, 3, rfl, rfl, hH1, rfl, ?_⟩
              refine ⟨_, rfl, a, _, 3, _, rfl, rfl, L upd_same, at3, _, 64, rfl, rfl, ⟨by decide, by decide⟩, _, rfl, _, n, rfl, rfl, n0, ?_⟩
              exact fin _ pos1 rest _ _ upd_same (fun x nx => by rw [upd_ne nx]; exact ho x nx) hp1 h0 (Int.emod_nonneg _ (by decide)) (Int.emod_lt_of_pos _ (by decide)) (mod0 _) (modn _)
          · -- 0 >= 10 ** 18
            refine ⟨_, rfl, 10, 18, rfl, rfl, ⟨by decide, by decide, by decide⟩, _, _, rfl, rfl, _, rfl, ?_⟩
            refine ite2 (fun c2 => ?_) (fun c2 => ?_)
            · have c3 : (10 : Int) ^ (18 : Int).toNat ≤ (0 : Int) := of_decide_eq_true c2
              have hc : 0 ≤ (0 : Int) := Int.le_trans (by decide) c3
              refine ⟨_, rfl, _, rfl, _, _, rfl, rfl, (wide_div (b := 200) n0 (Nat.lt_of_lt_of_le (show n.natAbs < 1000000000000000000000000000000 by omega) (by decide)) (by decide) (by decide)), _, rfl, a, _, 2, 2, rfl, rfl, hH, rfl, ?_⟩
              refine ⟨_, rfl, _, rfl, _, _, rfl, rfl, n0, ?_⟩
              exact fin _ pos ((0 : Int) / n) seed _ upd_same (fun x nx => upd_ne nx) hp (Int.ediv_nonneg hc (by omega)) hs0 hs1 (mod0 _) (modn _)
            · refine ⟨_, rfl, a, _, 3, _, rfl, rfl, L hH, at3, ?_⟩
              refine ⟨_, rfl, seed, 3, rfl, rfl, ⟨by decide, by decide, by show seed.natAbs < 2 ^ 64; omega⟩, _, rfl, 48271, seed, rfl, rfl, .inl ⟨by decide, by decide⟩, _, _, rfl, rfl, _, rfl, (0 : Int), 2147483629, rfl, rfl, (by show (0 : Int) < 2147483629; decide), 69621, _, rfl, rfl, .inl ⟨by decide, by decide⟩, _, _, rfl, rfl, ?_⟩
              refine ⟨_, rfl, _, 11, rfl, rfl, _, 2147483629, rfl, rfl, (by show (0 : Int) < 2147483629; decide), _, rfl, a, _, 3, 3, rfl, rfl, hH, rfl, ?_⟩
              refine ⟨_, rfl, a, _, 3, _, rfl, rfl, L upd_same, at3, _, 64, rfl, rfl, ⟨by decide, by decide⟩, _, rfl, _, n, rfl, rfl, n0, ?_⟩
              exact fin _ pos rest _ _ upd_same (fun x nx => upd_ne nx) hp h0 (Int.emod_nonneg _ (by decide)) (Int.emod_lt_of_pos _ (by decide)) (mod0 _) (modn _)
end
abbrev st_l_same : Stmt := topS 19
theorem sc_l_same : FnScope ["_law_found", "_law_due", "_law_one", "_law_other"] ["_law_found", "_law_due"] (defScope st_l_same) := ⟨rfl, rfl, rfl, by decide +kernel, rfl, by decide +kernel, by decide +kernel⟩
def S_same : Nat → Spec
  | 0 => fun _ _ _ => False
  | n + 1 => fun ds P _ => ∃ d, ds = [d, d] ∧ Sm n d ∧ P (boo true)
theorem zipD_same : ∀ (xs : List PyData) (i : Nat) (d : PyData), (zipD xs xs)[i]? = some d → ∃ x, x ∈ xs ∧ d = .tuple [x, x]
  | [], i, d, h => by simp [zipD] at h
  | x :: xs, 0, d, h => by
    simp [zipD] at h
    exact ⟨x, List.mem_cons_self .., h.symm⟩
  | x :: xs, i + 1, d, h => by
    obtain ⟨y, hy, e⟩ := zipD_same xs i d (by simpa [zipD] using h)
    exact ⟨y, List.mem_cons_of_mem _ hy, e⟩
section
variable {P : Program} {w : World} {K : PySem.W.Frag} {mg : Str → Option Value} {base : Heap}
theorem all_true {n : Nat} : (List.replicate n true).all id = true := by simp
theorem ok_same_all {f : Addr} {fd : FuncData} (hb : Binds K fd ["_law_found", "_law_due"] []) (hm : mg "_law_same" = some (.ref f)) (F : Fun K "_law_same" "_law_same" st_l_same f fd) (m_isinstance : mg "isinstance" = none) (m_list : mg "list" = none) (m_tuple : mg "tuple" = none) (m_all : mg "all" = none) (m_bool : mg "bool" = none) (m_int : mg "int" = none) (m_str : mg "str" = none) (m_len : mg "len" = none) (m_zip : mg "zip" = none) :
    ∀ n : Nat, n ≤ 30 → FnOk P w K mg base CX0 n f fd ["_law_found", "_law_due"] (spOf K mg (S_same n))
  | 0, _ => ⟨fun vs H Q E ⟨_, _, _, _, _, h, _⟩ => h.elim, fun A outer s H args us vs Q E _ _ _ _ ⟨_, _, _, _, _, h, _⟩ => h.elim⟩
  | n + 1, hn => by
    have C_l_same : Cal P w K mg base "_law_same" ["_law_found", "_law_due"] n (S_same n) := ⟨f, fd, ok_same_all hb hm F m_isinstance m_list m_tuple m_all m_bool m_int m_str m_len m_zip n (by omega), hm, F.kp, hb⟩
    refine fn_ok F sc_l_same ?len (fun cdv A outer s H E hr => s_cons (s_if ((w_or (t_val (d_isi (n := "list") m_isinstance m_list (by decide +kernel) (d_var 1))) (w_or1 (t_val (d_isi (n := "tuple") m_isinstance m_tuple (by decide +kernel) (d_var 1))))).pt) (s_cons (s_if ((w_or (t_ne hr.units (d_isi (n := "list") m_isinstance m_list (by decide +kernel) (d_var 0)) (d_isi (n := "list") m_isinstance m_list (by decide +kernel) (d_var 1))) (w_or1 (t_ne hr.units (d_isi (n := "tuple") m_isinstance m_tuple (by decide +kernel) (d_var 0)) (d_isi (n := "tuple") m_isinstance m_tuple (by decide +kernel) (d_var 1))))).pt) (s_one (s_ret d_bl))
      s_nil)
    (s_one (s_ret (d_and (d_eq hr.units (d_len m_len (a_cons (d_var 0) a_nil)) (d_len m_len (a_cons (d_var 1) a_nil))) (d_one (d_all rfl m_all (a_cons (d_lc (own := [("_law_one", 2), ("_law_other", 3)]) rfl sc_l_same.nd (i_zip m_zip (a_cons (d_var 0) (a_cons (d_var 1) a_nil))) (blkOk_by (N := ["_law_found", "_law_due", "_law_one", "_law_other"]) (sc := defScope st_l_same) (by decide +kernel)) (fun _ _ _ _ _ => g_tup (n := 2) rfl (gs_cons (g_name 2 sc_l_same.nd) (gs_cons (g_name 3 sc_l_same.nd) gs_nil))) (fun _ _ _ _ _ => ts_nil) (fun _ _ _ _ _ => d_callC C_l_same hr (a_cons (d_var 2) (a_cons (d_var 3) a_nil)) (hj := Nat.le_refl _))) a_nil)))))))
      s_nil)
    (s_cons (s_if ((w_or (t_isN (d_var 0) d_non) (w_or1 (t_isN (d_var 1) d_non))).pt) (s_one (s_ret (d_and (d_isN (d_var 0) d_non) (d_one (d_isN (d_var 1) d_non)))))
      s_nil)
    (s_cons (s_if ((w_or (t_ne hr.units (d_isi (n := "bool") m_isinstance m_bool (by decide +kernel) (d_var 0)) (d_isi (n := "bool") m_isinstance m_bool (by decide +kernel) (d_var 1))) (w_or1 (t_ne hr.units (d_isi (n := "int") m_isinstance m_int (by decide +kernel) (d_var 0)) (d_isi (n := "int") m_isinstance m_int (by decide +kernel) (d_var 1))))).pt) (s_one (s_ret d_bl))
      s_nil)
    (s_one (s_ret (d_and (d_eq hr.units (d_isi (n := "str") m_isinstance m_str (by decide +kernel) (d_var 0)) (d_isi (n := "str") m_isinstance m_str (by decide +kernel) (d_var 1))) (d_one (d_eq hr.units (d_var 0) (d_var 1))))))))) ?spec ?nx
    case len =>
      rintro ds P xp ⟨d, rfl, _⟩
      rfl
    case nx => exact fun _ _ _ h => h
    case spec =>
      rintro ds P ⟨d, rfl, hd, q⟩
      have hs := hd.shaped (by omega)
      have k1 : kitB "list" "list" = some true := by decide
      have k2 : kitB "tuple" "list" = some false := by decide
      have k3 : kitB "int" "list" = some false := by decide
      have k4 : kitB "bool" "list" = some false := by decide
      have k5 : kitB "str" "list" = some false := by decide
      have k6 : kitB "NoneType" "list" = some false := by decide
      have t1 : kitB "list" "tuple" = some false := by decide
      have t2 : kitB "tuple" "tuple" = some true := by decide
      have t3 : kitB "int" "tuple" = some false := by decide
      have t4 : kitB "bool" "tuple" = some false := by decide
      have t5 : kitB "str" "tuple" = some false := by decide
      have t6 : kitB "NoneType" "tuple" = some false := by decide
      have b3 : kitB "int" "bool" = some false := by decide
      have b4 : kitB "bool" "bool" = some true := by decide
      have b5 : kitB "str" "bool" = some false := by decide
      have i3 : kitB "int" "int" = some true := by decide
      have i4 : kitB "bool" "int" = some true := by decide
      have i5 : kitB "str" "int" = some false := by decide
      have s3 : kitB "int" "str" = some false := by decide
      have s4 : kitB "bool" "str" = some false := by decide
      have s5 : kitB "str" "str" = some true := by decide
      have seq : ∀ (m : Nat) (xs : List PyData) (v : PyData) (xp : XP), n = m + 1 → (v = .list xs ∨ v = .tuple xs) → xs.length < 1000 → (∀ x ∈ xs, Sm m x) → dLc (iZi (aCons (dVar 0) (aCons (dVar 1) aNil))) (gT 2 (gsC (gN 2) (gsC (gN 3) gs0))) dYes (dCall (S_same n) (aCons (dVar 2) (aCons (dVar 3) aNil))) [2, 3] xp [some (.leaf v), some (.leaf v), none, none] (fun t => cAll [t.dat] P) := fun m xs v xp hn2 hv hx hxs => by
        subst hn2
        refine lc_map (zipD xs xs) (fun _ => boo true) (fun P h => ?_) (by rw [zipD_len]; exact lt_lim (by omega)) (fun i d Q R e hQ => ?_) ?_
        · rcases hv with hv | hv <;> subst hv <;> walk_at "dd" <;> exact h
        · obtain ⟨x, hx, rfl⟩ := zipD_same xs i d e
          walk_at "dd"
          exact ⟨x, rfl, hxs x hx, hQ⟩
        · refine ⟨List.replicate (zipD xs xs).length true, ?_, ?_⟩
          · rw [dat_eq, List.map_map, List.map_replicate]
            rw [show (T.dat ∘ fun _ => boo true) = Function.const PyData (PyData.bool true) from rfl, List.map_const]
          · rw [all_true]
            exact q
      cases d with
      | none =>
        walk_at "dd"
        simp only [tyN, k6, t6, Option.some.injEq, exists_eq_left', asB_b, reduceCtorEq]
        walk_at "dd"
        exact q
      | bool b =>
        walk_at "dd"
        simp only [tyN, k4, t4, b4, i4, s4, Option.some.injEq, exists_eq_left', asB_b, reduceCtorEq]
        walk_at "dd"
        simpa using q
      | int i =>
        walk_at "dd"
        simp only [tyN, k3, t3, b3, i3, s3, Option.some.injEq, exists_eq_left', asB_b, reduceCtorEq]
        walk_at "dd"
        simpa using q
      | str x =>
        walk_at "dd"
        simp only [tyN, k5, t5, b5, i5, s5, Option.some.injEq, exists_eq_left', asB_b, reduceCtorEq]
        walk_at "dd"
        simpa using q
      | list xs =>
        cases n with
        | zero => exact hd.elim
        | succ m =>
          have sq := seq m xs (.list xs) noX rfl (.inl rfl) hd.1 hd.2
          walk_at "dd"
          simp only [tyN, k1, t1, Option.some.injEq, exists_eq_left', asB_b, reduceCtorEq]
          walk_at "dd"
          simpa using sq
      | tuple xs =>
        cases n with
        | zero => exact hd.elim
        | succ m =>
          have sq := seq m xs (.tuple xs) noX rfl (.inr rfl) hd.1 hd.2
          walk_at "dd"
          simp only [tyN, k2, t2, Option.some.injEq, exists_eq_left', asB_b, reduceCtorEq]
          walk_at "dd"
          simpa using sq
      | dict kvs => cases n <;> exact hd.elim
theorem ok_l_same {f : Addr} {fd : FuncData} (hb : Binds K fd ["_law_found", "_law_due"] []) (hm : mg "_law_same" = some (.ref f)) (F : Fun K "_law_same" "_law_same" st_l_same f fd) (m_isinstance : mg "isinstance" = none) (m_list : mg "list" = none) (m_tuple : mg "tuple" = none) (m_all : mg "all" = none) (m_bool : mg "bool" = none) (m_int : mg "int" = none) (m_str : mg "str" = none) (m_len : mg "len" = none) (m_zip : mg "zip" = none) :
    FnOk P w K mg base CX0 8 f fd ["_law_found", "_law_due"] (spOf K mg (S_same 8)) := ok_same_all hb hm F m_isinstance m_list m_tuple m_all m_bool m_int m_str m_len m_zip 8 (by decide)
end
abbrev st_l_names : Stmt := topS 20
theorem sc_l_names : FnScope ["_law_box_here", "_law_many", "_law_letters", "_law_size", "_law_place", "_law_alike", "_law_first", "_law_rows", "_law_k", "_law_row_here", "_law_step", "_law_one"] ["_law_box_here", "_law_many"] (defScope st_l_names) := ⟨rfl, rfl, rfl, by decide +kernel, rfl, by decide +kernel, by decide +kernel⟩
def S_l_names : Spec := fun ds P _ => ∃ n : Int, ds = [.dict [], .int n] ∧ 0 ≤ n ∧ n ≤ 26 ∧ ∀ ns : List Str, (ns.length : Int) = n → (∀ z ∈ ns, IsName z) → ns.Nodup → P (.node ((strsD ns).map .leaf))
theorem abc_at : ∀ k : Int, 0 ≤ k → k < 26 → L2.atI (Str.ofString "abcdefghijklmnopqrstuvwxyz").cps.toList k = some (97 + k.toNat) := by
  have h : ∀ k : Fin 26, L2.atI (Str.ofString "abcdefghijklmnopqrstuvwxyz").cps.toList ((k.val : Nat) : Int) = some (97 + k.val) := by decide +kernel
  intro k k0 k1
  have := h ⟨k.toNat, by omega⟩
  simp only [] at this
  rw [Int.toNat_of_nonneg k0] at this
  exact this
def nameOf (cs : List Int) : Str := Txt.join (Str.ofString "") (cs.map fun a => sgn (97 + a.toNat))
theorem tl_nameOf (cs : List Int) : TL.tl (nameOf cs) = cs.map fun a => 97 + a.toNat := by
  have h := join_sgn (cs.map fun a => 97 + a.toNat)
  rw [List.map_map] at h
  exact h
theorem name_ok {cs : List Int} (h1 : 1 ≤ cs.length) (h2 : cs.length ≤ 8) (h : ∀ a ∈ cs, 0 ≤ a ∧ a < 26) : IsName (nameOf cs) := by
  refine ⟨?_, ?_, fun c hc => ?_⟩
  · rw [TL.len_tl, tl_nameOf, List.length_map]; exact h1
  · rw [TL.len_tl, tl_nameOf, List.length_map]; exact h2
  · have hc : c ∈ TL.tl (nameOf cs) := hc
    rw [tl_nameOf] at hc
    obtain ⟨a, ha, rfl⟩ := List.mem_map.mp hc
    have := h a ha
    omega
def nmAt (z : Str) (p : Nat) : Nat := (TL.tl z).getD p 0
theorem nmAt_of {cs : List Int} {p : Nat} (hp : p < cs.length) : nmAt (nameOf cs) p = 97 + (cs.getD p 0).toNat := by
  unfold nmAt
  rw [tl_nameOf, List.getD_eq_getElem?_getD, List.getElem?_map, List.getElem?_eq_getElem hp, List.getD_eq_getElem?_getD, List.getElem?_eq_getElem hp]
  rfl
theorem names_nodup {ns : List Str} {p : Nat} {f : Int} (hl : ns.length ≤ 26) (h : ∀ k (hk : k < ns.length), nmAt ns[k] p = 97 + ((f + 11 * (k : Int)) % 26).toNat) : ns.Nodup := by
  refine List.pairwise_iff_getElem.mpr fun i j hi hj hij e => ?_
  have h1 := h i hi
  have h2 := h j hj
  rw [e, h2] at h1
  omega
section
variable {P : Program} {w : World} {K : PySem.W.Frag} {mg : Str → Option Value} {base : Heap}
theorem ok_l_names {f : Addr} {fd : FuncData} (F : Fun K "_law_names" "_law_names" st_l_names f fd) (C_l_take : Cal P w K mg base "_law_take" ["_law_box_here", "_law_many"] 1 S_l_take) (m_range : mg "range" = none) (m_list : mg "list" = none) :
    FnOk P w K mg base CX0 2 f fd ["_law_box_here", "_law_many"] (spOf K mg S_l_names) := by
  refine fn_ok F sc_l_names ?len (fun cdv A outer s H E hr => s_cons (s_asg 2 sc_l_names.nd d_str)
    (s_cons (s_asg 3 sc_l_names.nd (d_fr (d_add d_int (d_callC C_l_take hr (a_cons (d_var 0) (a_cons d_int a_nil))))))
    (s_cons (s_asg 4 sc_l_names.nd (d_fr (d_callC C_l_take hr (a_cons (d_var 0) (a_cons (d_var 3) a_nil)))))
    (s_cons (s_asg 5 sc_l_names.nd (d_eq hr.units (d_callC C_l_take hr (a_cons (d_var 0) (a_cons d_int a_nil))) d_int))
    (s_cons (s_setLc (own := [("_law_k", 8)]) (i := 6) rfl sc_l_names.nd rfl rfl (sw_true rfl rfl rfl (by decide +kernel)) (i_rng1 m_range (a_cons (d_var 3) a_nil)) (blkOk_by (N := ["_law_box_here", "_law_many", "_law_letters", "_law_size", "_law_place", "_law_alike", "_law_first", "_law_rows", "_law_k", "_law_row_here", "_law_step", "_law_one"]) (sc := defScope st_l_names) (by decide +kernel)) (fun _ _ _ _ _ => g_name 8 sc_l_names.nd) (fun _ _ _ _ _ => ts_nil) (fun _ _ _ _ _ => d_callC C_l_take hr (a_cons (d_var 0) (a_cons d_int a_nil))))
    (s_frz 6 (s_cons (s_asg 7 sc_l_names.nd (d_lst a_nil))
    (s_cons (s_for (ts := [8]) PassesOwn.never rfl (i_rng1 m_range (a_cons (d_var 1) a_nil)) (g_name 8 sc_l_names.nd)
      (s_cons (s_asg 9 sc_l_names.nd (d_list m_list (a_cons (d_var 6) a_nil)))
    (s_cut (s_if (t_not (t_val (d_var 5))) (s_one (s_setLc (own := [("_law_step", 10)]) (i := 9) rfl sc_l_names.nd rfl rfl (sw_true rfl rfl rfl (by decide +kernel)) (i_rng1 m_range (a_cons (d_add (d_add (d_var 4) d_int) (d_callC C_l_take hr (a_cons (d_var 0) (a_cons (d_sub (d_var 3) (d_var 4)) a_nil)))) a_nil)) (blkOk_by (N := ["_law_box_here", "_law_many", "_law_letters", "_law_size", "_law_place", "_law_alike", "_law_first", "_law_rows", "_law_k", "_law_row_here", "_law_step", "_law_one"]) (sc := defScope st_l_names) (by decide +kernel)) (fun _ _ _ _ _ => g_name 10 sc_l_names.nd) (fun _ _ _ _ _ => ts_nil) (fun _ _ _ _ _ => d_callC C_l_take hr (a_cons (d_var 0) (a_cons d_int a_nil)))))
      s_nil)
    (s_cons (s_setI 9 (hj := d_var 4) (he := d_mod (d_add (d_at (d_var 6) (d_var 4)) (d_mul d_int (d_var 8))) d_int))
    (s_frz 9 (s_one (s_app 7 (d_join d_str (d_lc (own := [("_law_one", 11)]) rfl sc_l_names.nd (i_list (d_var 9)) (blkOk_by (N := ["_law_box_here", "_law_many", "_law_letters", "_law_size", "_law_place", "_law_alike", "_law_first", "_law_rows", "_law_k", "_law_row_here", "_law_step", "_law_one"]) (sc := defScope st_l_names) (by decide +kernel)) (fun _ _ _ _ _ => g_name 11 sc_l_names.nd) (fun _ _ _ _ _ => ts_nil) (fun _ _ _ _ _ => d_ats (d_var 2) (d_var 11)))))))))))
    (s_one (s_retV 7)))))))))) ?spec ?nx
  case len =>
    rintro ds P xp ⟨n, rfl, _⟩
    rfl
  case nx => exact fun _ _ _ h => h
  case spec =>
    rintro ds P ⟨n, rfl, n0, n1, q⟩
    walk_at "dd"
    refine ⟨by decide, by decide, fun r r0 r1 => ⟨by omega, by omega, fun p p0 p1 => ⟨by decide, by decide, fun u u0 u1 => ?_⟩⟩⟩
    -- a list of drawn letters
    let Dr : Nat → List T → Prop := fun i acc => ∃ cs : List Int, acc = cs.map (fun i => T.leaf (.int i)) ∧ cs.length = i ∧ ∀ a ∈ cs, 0 ≤ a ∧ a < 26
    have dr : ∀ {i : Nat} {acc : List T}, Dr i acc → ∀ a : Int, 0 ≤ a → a < 26 → Dr (i + 1) (acc ++ [.leaf (.int a)]) := fun {i acc} ⟨cs, e, hl, hc⟩ a a0 a1 => by
      subst e
      rw [snocI]
      refine ⟨_, rfl, by rw [List.length_append, hl]; rfl, fun x hx => ?_⟩
      rcases List.mem_append.mp hx with z | z
      · exact hc x z
      · rw [List.mem_singleton.mp z]
        exact ⟨a0, a1⟩
    refine lc_inv (rngD 0 (1 + r).toNat) Dr (fun P h => by walk_at "dd"; exact ⟨by omega, h⟩) (by rw [rngD_len]; exact lt_lim (by omega)) ⟨[], rfl, rfl, fun _ z => (nomatch z)⟩ ?_ ?_
    · rintro i d acc hd hacc
      walk_at "dd"
      exact ⟨by decide, by decide, fun a a0 a1 => dr hacc a a0 a1⟩
    · rintro acc ⟨fs, rfl, hfl, hf⟩
      rw [rngD_len] at hfl
      rw [show T.node (fs.map fun i => T.leaf (.int i)) = nodeI fs from rfl]
      have fp := hf _ (getD_mem (d := 0) (show p.toNat < fs.length by omega))
      walk_at "dd"
      refine ⟨Nat.zero_le _, ?_⟩
      refine for_rng 0 n.toNat (fun i ρ' => ∃ (ns : List Str) (y8 y9 : Option T), ρ' = [some (.leaf bx), some (int n), some (.leaf (.str (Str.ofString "abcdefghijklmnopqrstuvwxyz"))), some (int (1 + r)), some (int p), some (boo (decide (u = 0))), some (.leaf (.list (intsD fs))), some (.node ((strsD ns).map .leaf)), y8, y9, none, none] ∧ ns.length = i ∧ (∀ z ∈ ns, IsName z) ∧ ∀ k (hk : k < ns.length), nmAt ns[k] p.toNat = 97 + ((fs.getD p.toNat 0 + 11 * (k : Int)) % 26).toNat) (fun P h => by walk_at "dd"; exact ⟨by omega, h⟩) ⟨[], none, none, rfl, rfl, fun _ z => (nomatch z), fun k hk => absurd hk (Nat.not_lt_zero _)⟩ ?_ ?_
      · rintro i ρ' hi ⟨ns, y8, y9, rfl, hl, hn, hk⟩
        walk_at "dd"
        refine ⟨fun ρ' => ∃ cs : List Int, ρ' = [some (.leaf bx), some (int n), some (.leaf (.str (Str.ofString "abcdefghijklmnopqrstuvwxyz"))), some (int (1 + r)), some (int p), some (boo (decide (u = 0))), some (.leaf (.list (intsD fs))), some (.node ((strsD ns).map .leaf)), some (int i), some (nodeI cs), none, none] ∧ p.toNat < cs.length ∧ cs.length ≤ 8 ∧ ∀ a ∈ cs, 0 ≤ a ∧ a < 26, ?_, ?_⟩
        · walk_at "dd"
          refine ⟨fun _ => lc_raw ?_, fun _ => ⟨fs, by rw [node_ints], by omega, by omega, hf⟩⟩
          walk_at "dd"
          refine ⟨by omega, by omega, fun v v0 v1 => ⟨by omega, by rw [rngD_len]; exact lt_lim (by omega), Dr, ⟨[], rfl, rfl, fun _ z => (nomatch z)⟩, ?_, ?_⟩⟩
          · rintro i d acc hd hacc
            walk_at "dd"
            exact ⟨by decide, by decide, fun a a0 a1 => dr hacc a a0 a1⟩
          · rintro acc ⟨cs, rfl, hcl, hc⟩
            rw [rngD_len] at hcl
            exact ⟨cs, rfl, by omega, by omega, hc⟩
        · rintro ρ' ⟨cs, rfl, hp, hl8, hc⟩
          unfold nodeI
          walk_at "dd"
          refine ⟨_, atI_ints p0 (by omega), ?_⟩
          walk_at "dd"
          obtain ⟨w, hw⟩ : ∃ w, w = (fs.getD p.toNat 0 + 11 * (i : Int)) % 26 := ⟨_, rfl⟩
          have w0 : 0 ≤ w := by rw [hw]; exact Int.emod_nonneg _ (by decide)
          have w1 : w < 26 := by rw [hw]; exact Int.emod_lt_of_pos _ (by decide)
          rw [← hw]
          refine ⟨small_mul (by decide) (small_lt (by omega) (by omega)), by decide, p.toNat, by rw [List.length_map]; exact ixN_of p0 (by omega), ?_⟩
          rw [mapI1_set]
          have hcs : ∀ a ∈ cs.set p.toNat w, 0 ≤ a ∧ a < 26 := fun a ha => by
            rcases mem_set ha with z | z
            · exact hc a z
            · rw [z]; exact ⟨w0, w1⟩
          have hcl : (cs.set p.toNat w).length = cs.length := List.length_set
          have hcg : (cs.set p.toNat w).getD p.toNat 0 = w := by rw [getD_set hp, if_pos rfl]
          generalize cs.set p.toNat w = ds at hcs hcl hcg
          rw [show T.node (ds.map fun i => T.leaf (.int i)) = nodeI ds from rfl]
          walk_at "dd"
          refine ⟨by rw [List.length_map, strs_len, hl]; exact lt_lim (by omega), ?_⟩
          refine lc_ints ds (fun a => .leaf (.str (sgn (97 + a.toNat)))) (fun P h => by walk_at "dd"; exact h) (lt_lim (by omega)) (fun a Q R ha hQ => ?_) ?_
          · walk_at "dd"
            exact ⟨by decide +kernel, _, abc_at a (hcs a ha).1 (hcs a ha).2, hQ⟩
          · rw [show T.node (ds.map fun a => T.leaf (.str (sgn (97 + a.toNat)))) = .node ((strsD (ds.map fun a => sgn (97 + a.toNat))).map .leaf) by unfold strsD; rw [List.map_map, List.map_map]; rfl, asX_n]
            refine ⟨?_, ?_⟩
            · have this := sum_sgn (ds.map fun a => 97 + a.toNat)
              simp only [List.map_map, List.length_map] at this
              rw [List.map_map, List.length_map]
              have e : (ds.map ((fun x => x.length) ∘ fun a => sgn (97 + a.toNat))).sum = ds.length := this
              rw [e]
              show _ + _ * 0 ≤ _
              omega
            · refine ⟨ns ++ [nameOf ds], some (int i), some (.leaf (.list (intsD ds))), ?_, by rw [List.length_append, hl]; rfl, fun z hz => ?_, fun k hk2 => ?_⟩
              · unfold strsD
                rw [List.map_append, List.map_append]
                rfl
              · rcases List.mem_append.mp hz with y | y
                · exact hn z y
                · rw [List.mem_singleton.mp y]
                  exact name_ok (by omega) (by omega) hcs
              · rw [List.getElem_append]
                split
                · rename_i h
                  exact hk k h
                · have hk2 : k < ns.length + 1 := by rw [List.length_append] at hk2; exact hk2
                  have ek : k = i := by omega
                  rw [List.getElem_singleton, nmAt_of (by omega), hcg, hw, ek]
      · rintro ρ' ⟨ns, y8, y9, rfl, hl, hn, hk⟩
        walk_at "dd"
        exact q ns (by omega) hn (names_nodup (by omega) hk)
end
abbrev st_l_named : Stmt := topS 21
theorem sc_l_named : FnScope ["_law_word", "_law_sign"] ["_law_word"] (defScope st_l_named) := ⟨rfl, rfl, rfl, by decide +kernel, rfl, by decide +kernel, by decide +kernel⟩
theorem lc_signs {z L : Str} {P : T → Prop} {x : XP} (hz : z.length ≤ 10000) (h : P (boo (z.cps.toList.all fun c => decide (c ∈ L.cps.toList)))) : dLc (iStrD (dVar 0)) (gN 1) dYes (dOp rdInS (dVar 1) (dC (.str L))) [1] x [some (T.leaf (.str z)), none] fun t => cAll [t.dat] P := by
  refine lc_over (fun c => .str ⟨#[c]⟩) z.cps.toList (fun c => boo (decide (c ∈ L.cps.toList))) (fun P h => by walk_at "dd"; exact h) (by rw [Array.length_toList]; exact Nat.lt_of_le_of_lt hz (by decide)) (fun c Q R hc hQ => ?_) ?_
  · walk_at "dd"
    exact hQ
  · refine ⟨_, by rw [node_bools], ?_⟩
    rw [List.all_map]
    exact h
def S_l_named : Spec := fun ds P _ => ∃ z : Str, ds = [.str z] ∧ z.length ≤ 10000 ∧ P (boo (nameB z))
section
variable {P : Program} {w : World} {K : PySem.W.Frag} {mg : Str → Option Value} {base : Heap}
theorem ok_l_named {f : Addr} {fd : FuncData} (F : Fun K "_law_named" "_law_named" st_l_named f fd) (m_all : mg "all" = none) (m_len : mg "len" = none) :
    FnOk P w K mg base CX0 1 f fd ["_law_word"] (spOf K mg S_l_named) := by
  refine fn_ok F sc_l_named ?len (fun cdv A outer s H E hr => s_one (s_ret (d_and (d_chain (rd := rdLe) (rd' := rdLe) op_le op_le (ok_I0 fun _ _ => rfl) (ok_I0 fun _ _ => rfl) d_int (d_len m_len (a_cons (d_var 0) a_nil)) d_int) (d_one (d_all rfl m_all (a_cons (d_lc (own := [("_law_sign", 1)]) rfl sc_l_named.nd (i_strD (d_var 0)) (blkOk_by (N := ["_law_word", "_law_sign"]) (sc := defScope st_l_named) (by decide +kernel)) (fun _ _ _ _ _ => g_name 1 sc_l_named.nd) (fun _ _ _ _ _ => ts_nil) (fun _ _ _ _ _ => d_inS (d_var 1) d_str)) a_nil)))))) ?spec ?nx
  case len =>
    rintro ds P xp ⟨z, rfl, _⟩
    rfl
  case nx => exact fun _ _ _ h => h
  case spec =>
    rintro ds P ⟨z, rfl, hz, q⟩
    walk_at "dd"
    have no : ¬ (1 ≤ z.length ∧ z.length ≤ 8) → nameB z = false := fun h => by unfold nameB; rw [decide_eq_false h]; rfl
    refine ⟨Nat.le_trans hz (by decide), fun h1 => ⟨fun h2 => lc_signs hz ?_, fun h2 => ?_⟩, fun h1 => ?_⟩
    · have yes : nameB z = z.cps.toList.all fun c => decide (c ∈ ("abcdefghijklmnopqrstuvwxyz" : Str).cps.toList) := by unfold nameB; rw [decide_eq_true (show 1 ≤ z.length ∧ z.length ≤ 8 by omega)]; rfl
      rw [yes] at q
      exact q
    · rw [no (by omega)] at q
      exact q
    · rw [no (by omega)] at q
      exact q
end
abbrev st_l_is_number : Stmt := topS 22
theorem sc_l_is_number : FnScope ["_law_word", "_law_sign"] ["_law_word"] (defScope st_l_is_number) := ⟨rfl, rfl, rfl, by decide +kernel, rfl, by decide +kernel, by decide +kernel⟩
def S_l_is_number : Spec := fun ds P _ => ∃ z : Str, ds = [.str z] ∧ z.length ≤ 10000 ∧ P (boo (numB z))
section
variable {P : Program} {w : World} {K : PySem.W.Frag} {mg : Str → Option Value} {base : Heap}
theorem ok_l_is_number {f : Addr} {fd : FuncData} (F : Fun K "_law_is_number" "_law_is_number" st_l_is_number f fd) (m_all : mg "all" = none) (m_len : mg "len" = none) :
    FnOk P w K mg base CX0 1 f fd ["_law_word"] (spOf K mg S_l_is_number) := by
  refine fn_ok F sc_l_is_number ?len (fun cdv A outer s H E hr => s_cons (s_if ((w_or (t_not (t_chain (rd := rdLe) (rd' := rdLe) op_le op_le (ok_I0 fun _ _ => rfl) (ok_I0 fun _ _ => rfl) d_int (d_len m_len (a_cons (d_var 0) a_nil)) d_int)) (w_or1 (t_not (t_val (d_all rfl m_all (a_cons (d_lc (own := [("_law_sign", 1)]) rfl sc_l_is_number.nd (i_strD (d_var 0)) (blkOk_by (N := ["_law_word", "_law_sign"]) (sc := defScope st_l_is_number) (by decide +kernel)) (fun _ _ _ _ _ => g_name 1 sc_l_is_number.nd) (fun _ _ _ _ _ => ts_nil) (fun _ _ _ _ _ => d_inS (d_var 1) d_str)) a_nil)))))).pt) (s_one (s_ret d_bl))
      s_nil)
    (s_one (s_ret (d_or (d_eq hr.units (d_var 0) d_str) (d_one (d_ne hr.units (d_ats (d_var 0) d_int) d_str)))))) ?spec ?nx
  case len =>
    rintro ds P xp ⟨z, rfl, _⟩
    rfl
  case nx => exact fun _ _ _ h => h
  case spec =>
    rintro ds P ⟨z, rfl, hz, q⟩
    walk_at "dd"
    have hz' : z.length ≤ lim := Nat.le_trans hz (by decide)
    have no : ¬ (1 ≤ z.length ∧ z.length ≤ 10) → numB z = false := fun h => by unfold numB; rw [decide_eq_false h]; rfl
    refine ⟨hz', fun h1 => ⟨fun h2 => ?_, fun h2 => ?_⟩, fun h1 => ?_⟩
    · rw [no (by omega)] at q
      exact q
    · have yes : numB z = ((z.cps.toList.all fun c => decide (c ∈ ("0123456789" : Str).cps.toList)) && (decide (z = "0") || decide (z.cps.toList[0]? ≠ some 48))) := by unfold numB; rw [decide_eq_true (show 1 ≤ z.length ∧ z.length ≤ 10 by omega)]; rfl
      rw [yes] at q
      refine lc_signs hz ?_
      walk_at "dd"
      refine ⟨fun h => ?_, fun h => ?_⟩
      · rw [show (z.cps.toList.all fun c => decide (c ∈ ("0123456789" : Str).cps.toList)) = false from h] at q
        exact q
      · rw [show (z.cps.toList.all fun c => decide (c ∈ ("0123456789" : Str).cps.toList)) = true from h] at q
        have hne : z.cps.toList ≠ [] := fun e => by
          have e2 : z.length = 0 := by
            show z.cps.size = 0
            rw [← Array.length_toList, e]
            rfl
          omega
        obtain ⟨c, r, hcr⟩ := List.exists_cons_of_ne_nil hne
        rw [hcr] at q ⊢
        refine ⟨fun e => ?_, fun e => ⟨hz', c, ?_, ?_⟩⟩
        · rw [decide_eq_true e] at q
          exact q
        · unfold L2.atI
          rw [ixN_of (by omega) (by simp)] <;> rfl
        · rw [decide_eq_false e] at q
          have e2 : decide ((⟨#[c]⟩ : Str) ≠ Str.ofString "0") = decide ((c :: r)[0]? ≠ some 48) := by
            refine decide_eq_decide.mpr ⟨fun h k => h ?_, fun h k => h ?_⟩
            · have k : c = 48 := by simpa using k
              rw [k] <;> rfl
            · have k2 : (⟨#[c]⟩ : Str) = ⟨#[48]⟩ := k
              have k3 : c = 48 := by simpa using k2
              rw [k3] <;> rfl
          rw [e2]
          exact q
    · rw [no (by omega)] at q
      exact q
end
abbrev st_l_read : Stmt := topS 23
theorem sc_l_read : FnScope ["_law_text", "_law_words", "_law_shape", "_law_parts", "_law_at", "_law_word"] ["_law_text"] (defScope st_l_read) := ⟨rfl, rfl, rfl, by decide +kernel, rfl, by decide +kernel, by decide +kernel⟩
theorem valP_tab (w : Str) : ∀ tab : List (Str × Str), valP (tab.map fun p => ((Sum.inr p.1 : Key), PyData.str p.2)) (.inr w) = (tab.lookup w).map .str
  | [] => rfl
  | p :: tab => by
    rw [List.map_cons, valP_cons, List.lookup_cons]
    by_cases c : w = p.1
    · rw [if_pos (by rw [c]), show (w == p.1) = true from beq_iff_eq.mpr c]
      rfl
    · rw [if_neg (fun z => c (Sum.inr.inj z).symm), show (w == p.1) = false from beq_eq_false_iff_ne.mpr c]
      exact valP_tab w tab
theorem e_sh9 (w : Str) : valP [((Sum.inr (Str.ofString "join") : Key), PyData.str (Str.ofString "nc")), ((Sum.inr (Str.ofString "pay") : Key), PyData.str (Str.ofString "nc")), ((Sum.inr (Str.ofString "draw") : Key), PyData.str (Str.ofString "nc")), ((Sum.inr (Str.ofString "tie") : Key), PyData.str (Str.ofString "nn")), ((Sum.inr (Str.ofString "untie") : Key), PyData.str (Str.ofString "nn")), ((Sum.inr (Str.ofString "bet") : Key), PyData.str (Str.ofString "nnc")), ((Sum.inr (Str.ofString "drop") : Key), PyData.str (Str.ofString "nn")), ((Sum.inr (Str.ofString "blanks") : Key), PyData.str (Str.ofString "c")), ((Sum.inr (Str.ofString "strike") : Key), PyData.str (Str.ofString "c"))] (.inr w) = (tab_SHAPES.lookup w).map .str := valP_tab w tab_SHAPES
theorem tab_ne {w v : Str} (h : tab_SHAPES.lookup w = some v) : v ≠ "" := by
  have all : ∀ kv ∈ tab_SHAPES, (decide (kv.2 = "") = false) := by decide +kernel
  have key : ∀ (tab : List (Str × Str)), tab.lookup w = some v → ∃ kv ∈ tab, kv.2 = v := fun tab => by
    induction tab with
    | nil => intro h; cases h
    | cons kv tab ih =>
      intro h
      rw [List.lookup_cons] at h
      split at h
      · cases h
        exact ⟨kv, List.mem_cons_self .., rfl⟩
      · obtain ⟨x, hx, e⟩ := ih h
        exact ⟨x, List.mem_cons_of_mem _ hx, e⟩
  obtain ⟨kv, hm, rfl⟩ := key _ h
  exact of_decide_eq_false (all kv hm)
theorem tab_nc {w v : Str} (h : tab_SHAPES.lookup w = some v) : ∀ c ∈ v.cps.toList, c = 99 ∨ c = 110 := by
  have all : ∀ kv ∈ tab_SHAPES, ∀ c ∈ kv.2.cps.toList, c = 99 ∨ c = 110 := by decide +kernel
  have key : ∀ (tab : List (Str × Str)), tab.lookup w = some v → ∃ kv ∈ tab, kv.2 = v := fun tab => by
    induction tab with
    | nil => intro h; cases h
    | cons kv tab ih =>
      intro h
      rw [List.lookup_cons] at h
      split at h
      · cases h
        exact ⟨kv, List.mem_cons_self .., rfl⟩
      · obtain ⟨x, hx, e⟩ := ih h
        exact ⟨x, List.mem_cons_of_mem _ hx, e⟩
  obtain ⟨kv, hm, rfl⟩ := key _ h
  exact all kv hm
def S_l_read : Spec := fun ds P _ => ∃ ws : List Str, ds = [.str (Txt.join " " ws)] ∧ ws ≠ [] ∧ ws.length < 1000 ∧ (∀ w ∈ ws, 32 ∉ TL.tl w ∧ w.length ≤ 10000) ∧ (Txt.join " " ws).length ≤ 10000 ∧ P (.leaf ((deedW ws).getD .none))
section
variable {P : Program} {w : World} {K : PySem.W.Frag} {mg : Str → Option Value} {base : Heap}
theorem ok_l_read {f : Addr} {fd : FuncData} (F : Fun K "_law_read" "_law_read" st_l_read f fd) (C_l_is_number : Cal P w K mg base "_law_is_number" ["_law_word"] 1 S_l_is_number) (C_l_named : Cal P w K mg base "_law_named" ["_law_word"] 1 S_l_named) (m_range : mg "range" = none) (m_tuple : mg "tuple" = none) (m_len : mg "len" = none) (m_int : mg "int" = none) :
    FnOk P w K mg base CX0 2 f fd ["_law_text"] (spOf K mg S_l_read) := by
  refine fn_ok F sc_l_read ?len (fun cdv A outer s H E hr => s_cons (s_asg 1 sc_l_read.nd (d_fr (d_split (d_var 0) d_str)))
    (s_cons (s_asg 2 sc_l_read.nd (d_fr (d_get2k (room1 hr) (d_disp (pd_cons d_str d_str (pd_cons d_str d_str (pd_cons d_str d_str (pd_cons d_str d_str (pd_cons d_str d_str (pd_cons d_str d_str (pd_cons d_str d_str (pd_cons d_str d_str (pd_cons d_str d_str pd_nil)))))))))) (d_at (d_var 1) d_int) d_str)))
    (s_cons (s_if ((w_or (t_eq hr.units (d_var 2) d_str) (w_or1 (t_ne hr.units (d_len m_len (a_cons (d_var 1) a_nil)) (d_add (d_len m_len (a_cons (d_var 2) a_nil)) d_int)))).pt) (s_one (s_ret d_non))
      s_nil)
    (s_cons (s_asg 3 sc_l_read.nd (d_lst (a_cons (d_at (d_var 1) d_int) a_nil)))
    (s_cons (s_for (ts := [4]) PassesOwn.never rfl (i_rng1 m_range (a_cons (d_len m_len (a_cons (d_var 2) a_nil)) a_nil)) (g_name 4 sc_l_read.nd)
      (s_cons (s_asg 5 sc_l_read.nd (d_at (d_var 1) (d_add (d_var 4) d_int)))
    (s_one (s_if ((w_and (t_eq hr.units (d_ats (d_var 2) (d_var 4)) d_str) (w_and1 (t_val (d_callC C_l_is_number hr (a_cons (d_var 5) a_nil))))).pt) (s_one (s_app 3 (d_intS m_int (a_cons (d_var 5) a_nil))))
      (s_one (s_if ((w_and (t_eq hr.units (d_ats (d_var 2) (d_var 4)) d_str) (w_and1 (t_val (d_callC C_l_named hr (a_cons (d_var 5) a_nil))))).pt) (s_one (s_app 3 (d_var 5)))
      (s_one (s_ret d_non))))))))
    (s_frz 3 (s_one (s_ret (d_tuple m_tuple (a_cons (d_var 3) a_nil)))))))))) ?spec ?nx
  case len =>
    rintro ds P xp ⟨z, rfl, _⟩
    rfl
  case nx => exact fun _ _ _ h => h
  case spec =>
    rintro ds P ⟨ws, rfl, hne, hl, hw, hz, q⟩
    have sp : Txt.split (Txt.join " " ws) " " = ws := TL.split_join (y := " ") (s := 32) (S := []) rfl (by decide +kernel) hne fun p hp => (hw p hp).1
    walk_at "dd"
    rw [sp]
    obtain ⟨w, rest, rfl⟩ := List.exists_cons_of_ne_nil hne
    have at0 : atI (strsD (w :: rest)) 0 = some (.str w) := by
      unfold L2.atI
      rw [ixN_of (by omega) (by show (0 : Int) < ((strsD (w :: rest)).length : Nat); rw [strs_len, List.length_cons]; omega)] <;> rfl
    refine ⟨by decide, Nat.le_trans hz (by decide), ⟨by decide +kernel, by decide⟩, _, at0, ?_⟩
    walk_at "dd"
    rw [e_sh9]
    cases ht : tab_SHAPES.lookup w with
    | none =>
      have e : deedW (w :: rest) = none := by
        show (match tab_SHAPES.lookup w with
          | none => none
          | some sh => _) = none
        rw [ht]
      rw [e] at q
      simp only [Option.getD_none, Option.map_none] at q ⊢
      walk_at "dd"
      exact ⟨q, fun z => absurd True.intro z⟩
    | some v =>
      have ed : deedW (w :: rest) = if rest.length = v.cps.toList.length then (partsD v.cps.toList rest).map fun ds => .tuple (.str w :: ds) else none := by
        show (match tab_SHAPES.lookup w with
          | none => none
          | some sh => _) = _
        rw [ht]
      obtain ⟨va, vl⟩ := tab_sh ht
      have vne := tab_ne ht
      have vl2 : v.cps.toList.length = v.length := Array.length_toList
      simp only [Option.getD_some, Option.map_some]
      walk_at "dd"
      rw [strs_len, List.length_cons]
      refine ⟨fun z => absurd z vne, fun _ => ⟨Nat.le_trans vl (by decide), fun h => ?_, fun h => ⟨_, at0, by decide, ?_⟩⟩⟩
      · rw [ed, if_neg (by omega)] at q
        exact q
      have hr : rest.length = v.cps.toList.length := by omega
      rw [ed, if_pos hr] at q
      refine for_rng 0 v.cps.toList.length (fun i ρ' => ∃ (acc : List PyData) (y4 y5 : Option T), ρ' = [some (.leaf (.str (Txt.join " " (w :: rest)))), some (.leaf (.list (strsD (w :: rest)))), some (.leaf (.str v)), some (.node ((PyData.str w :: acc).map .leaf)), y4, y5] ∧ partsD (v.cps.toList.take i) (rest.take i) = some acc) (fun P h => ?_) ⟨[], none, none, rfl, rfl⟩ ?_ ?_
      · walk_at "dd"
        exact ⟨Nat.le_trans vl (by decide), by omega, by rw [vl2] at h; simpa using h⟩
      · rintro i ρ' hi ⟨acc, y4, y5, rfl, hp⟩
        have i2 : i < rest.length := by omega
        have g1 := List.getElem?_eq_getElem hi
        have g2 := List.getElem?_eq_getElem i2
        have hk := tab_nc ht _ (List.getElem_mem hi)
        generalize v.cps.toList[i] = k at g1 hk
        generalize rest[i] = w' at g2
        have wl : w'.length ≤ 10000 := (hw w' (List.mem_cons_of_mem _ (List.mem_of_getElem? g2))).2
        have al := partsD_len hp
        rw [List.length_take] at al
        have none_of : partD k w' = none → P (.leaf .none) := fun h => by
          rw [partsD_no g1 g2 h] at q
          exact q
        have lm : (List.map T.leaf acc).length + 1 < lim := by
          rw [List.length_map]
          exact Nat.lt_of_le_of_lt (show acc.length + 1 ≤ 10 by omega) (by decide)
        have at1 : atI (strsD (w :: rest)) ((i : Int) + 1) = some (.str w') := by
          rw [show (i : Int) + 1 = ((i + 1 : Nat) : Int) by omega]
          refine atI_nat ?_
          show ((PyData.str w :: strsD rest)[i + 1]?) = _
          rw [List.getElem?_cons_succ]
          unfold strsD
          rw [List.getElem?_map, g2]
          rfl
        have vi : atI v.cps.toList (i : Int) = some k := by
          unfold L2.atI
          rw [ixN_of (by omega) (by omega), Int.toNat_natCast]
          exact g1
        walk_at "dd"
        refine ⟨_, at1, ?_⟩
        walk_at "dd"
        have vli : v.length ≤ lim := Nat.le_trans vl (by decide)
        have c99 : ((⟨#[k]⟩ : Str) = Str.ofString "c") ↔ k = 99 := by
          rw [show Str.ofString "c" = (⟨#[99]⟩ : Str) from rfl]
          simp
        have c110 : ((⟨#[k]⟩ : Str) = Str.ofString "n") ↔ k = 110 := by
          rw [show Str.ofString "n" = (⟨#[110]⟩ : Str) from rfl]
          simp
        have last : ∀ d : PyData, partD k w' = some d → ∃ (acc_1 : List PyData) (y4 y5 : Option T), [some (T.leaf (.str (Txt.join " " (w :: rest)))), some (T.leaf (.list (strsD (w :: rest)))), some (T.leaf (.str v)), some (T.node (T.leaf (.str w) :: (List.map T.leaf acc ++ [T.leaf d]))), some (T.leaf (.int (i : Nat))), some (T.leaf (.str w'))] = [some (T.leaf (.str (Txt.join " " (w :: rest)))), some (T.leaf (.list (strsD (w :: rest)))), some (T.leaf (.str v)), some (T.node (T.leaf (.str w) :: List.map T.leaf acc_1)), y4, y5] ∧ partsD (v.cps.toList.take (i + 1)) (rest.take (i + 1)) = some acc_1 := fun d hd =>
          ⟨acc ++ [d], _, _, by rw [List.map_append]; rfl, partsD_ok g1 g2 hp hd⟩
        rcases hk with e | e
        · have nn : k ≠ 110 := by omega
          refine ⟨vli, k, vi, fun _ => ⟨w', rfl, wl, ?_⟩, fun z => absurd (c99.mpr e) z⟩
          cases hb : numB w' with
          | true =>
            walk_at "dd"
            refine ⟨lm, _, _, rfl, numB_int hb, (by have := numB_len hb; omega), last _ ?_⟩
            unfold partD
            rw [if_pos e, if_pos hb, numB_int hb] <;> rfl
          | false =>
            walk_at "dd"
            refine ⟨vli, k, vi, fun z => absurd (c110.mp z) nn, fun _ => none_of ?_⟩
            unfold partD
            rw [if_pos e, hb] <;> rfl
        · have nn : k ≠ 99 := by omega
          refine ⟨vli, k, vi, fun z => absurd (c99.mp z) nn, fun _ => ⟨vli, k, vi, fun _ => ⟨w', rfl, wl, ?_⟩, fun z => absurd (c110.mpr e) z⟩⟩
          cases hb : nameB w' with
          | true =>
            walk_at "dd"
            refine ⟨lm, last _ ?_⟩
            unfold partD
            rw [if_neg nn, if_pos hb]
          | false =>
            walk_at "dd"
            refine none_of ?_
            unfold partD
            rw [if_neg nn, hb] <;> rfl
      · rintro ρ' ⟨acc, y4, y5, rfl, hp⟩
        rw [List.take_length, ← hr, List.take_length] at hp
        rw [hp] at q
        walk_at "dd"
        rw [show (T.node (T.leaf (.str w) :: List.map T.leaf acc)).dat = .list (.str w :: acc) from dat_leaves0 (.str w :: acc)]
        walk_at "dd"
        exact q
end
abbrev st_l_row : Stmt := topS 24
theorem sc_l_row : FnScope ["_law_box_here", "_law_names_here", "_law_word", "_law_number"] ["_law_box_here"] (defScope st_l_row) := ⟨rfl, rfl, rfl, by decide +kernel, rfl, by decide +kernel, by decide +kernel⟩
theorem num_len10 {i : Int} (h0 : 0 ≤ i) (h : i < 10 ^ 10) : (Str.ofString (toString i)).length ≤ 10 := PyProof.Rows.toString_length_le h0 (by decide) h
def S_l_row : Spec := fun ds P _ => ds = [.dict []] ∧ ∀ ws : List Str, ws ≠ [] → ws.length ≤ 4 → (∀ w ∈ ws, w.length ≤ 10) → P (.node ((strsD ws).map .leaf))
section
variable {P : Program} {w : World} {K : PySem.W.Frag} {mg : Str → Option Value} {base : Heap}
theorem ok_l_row {f : Addr} {fd : FuncData} (F : Fun K "_law_row" "_law_row" st_l_row f fd) (C_l_names : Cal P w K mg base "_law_names" ["_law_box_here", "_law_many"] 2 S_l_names) (C_l_take : Cal P w K mg base "_law_take" ["_law_box_here", "_law_many"] 1 S_l_take) (m_str : mg "str" = none) (m_int : mg "int" = none) :
    FnOk P w K mg base CX0 3 f fd ["_law_box_here"] (spOf K mg S_l_row) := by
  refine fn_ok F sc_l_row ?len (fun cdv A outer s H E hr => s_cons (s_asg 1 sc_l_row.nd (d_fr (d_callC C_l_names hr (a_cons (d_var 0) (a_cons d_int a_nil)))))
    (s_cons (s_asg 2 sc_l_row.nd (d_at (d_lst (a_cons d_str (a_cons d_str (a_cons d_str (a_cons d_str (a_cons d_str (a_cons d_str (a_cons d_str (a_cons d_str (a_cons d_str a_nil)))))))))) (d_callC C_l_take hr (a_cons (d_var 0) (a_cons d_int a_nil)))))
    (s_cons (s_asg 3 sc_l_row.nd (d_fr (d_strC m_str (a_cons (d_at (d_lst (a_cons d_int (a_cons (d_callC C_l_take hr (a_cons (d_var 0) (a_cons (d_pow d_int d_int) a_nil))) (a_cons (d_callC C_l_take hr (a_cons (d_var 0) (a_cons d_int a_nil))) (a_cons d_int a_nil))))) (d_callC C_l_take hr (a_cons (d_var 0) (a_cons d_int a_nil)))) a_nil))))
    (s_cons (s_if (t_inT (d_var 2) (d_tup (a_cons d_str (a_cons d_str a_nil)))) (s_one (s_ret (d_lst (a_cons (d_var 2) (a_cons (d_var 3) a_nil)))))
      s_nil)
    (s_cons (s_if (t_inT (d_var 2) (d_tup (a_cons d_str (a_cons d_str (a_cons d_str a_nil))))) (s_one (s_ret (d_lst (a_cons (d_var 2) (a_cons (d_at (d_var 1) d_int) (a_cons (d_var 3) a_nil))))))
      s_nil)
    (s_one (s_ret (d_add (d_lst (a_cons (d_var 2) (a_cons (d_at (d_var 1) d_int) (a_cons (d_at (d_var 1) d_int) a_nil)))) (d_sl (d_lst (a_cons (d_var 3) a_nil)) o_none (o_some (d_intb m_int (a_cons (d_eq hr.units (d_var 2) d_str) a_nil)))))))))))) ?spec ?nx
  case len =>
    rintro ds P xp ⟨rfl, _⟩
    rfl
  case nx => exact fun _ _ _ h => h
  case spec =>
    rintro ds P ⟨rfl, q⟩
    walk_at "dd"
    refine ⟨2, rfl, by decide, by decide, fun ns hn hN _ => ?_⟩
    obtain ⟨a, b, rfl⟩ : ∃ a b, ns = [a, b] := by
      match ns, hn with
      | [a, b], _ => exact ⟨a, b, rfl⟩
    have ha := (hN a (List.mem_cons_self ..)).2.1
    have hb := (hN b (List.mem_cons_of_mem _ (List.mem_cons_self ..))).2.1
    walk_at "dd"
    refine ⟨by decide, by decide, by decide, fun r r0 r1 => ?_⟩
    obtain ⟨w, hw, wl⟩ : ∃ w : Str, atI [PyData.str "join", .str "pay", .str "draw", .str "tie", .str "untie", .str "bet", .str "drop", .str "blanks", .str "strike"] r = some (.str w) ∧ w.length ≤ 10 := by
      have : r = 0 ∨ r = 1 ∨ r = 2 ∨ r = 3 ∨ r = 4 ∨ r = 5 ∨ r = 6 ∨ r = 7 ∨ r = 8 := by omega
      rcases this with e | e | e | e | e | e | e | e | e <;> subst e <;> exact ⟨_, rfl, by decide⟩
    have dl : (T.node [T.leaf (.str (Str.ofString "join")), T.leaf (.str (Str.ofString "pay")), T.leaf (.str (Str.ofString "draw")), T.leaf (.str (Str.ofString "tie")), T.leaf (.str (Str.ofString "untie")), T.leaf (.str (Str.ofString "bet")), T.leaf (.str (Str.ofString "drop")), T.leaf (.str (Str.ofString "blanks")), T.leaf (.str (Str.ofString "strike"))]).dat = .list [PyData.str "join", .str "pay", .str "draw", .str "tie", .str "untie", .str "bet", .str "drop", .str "blanks", .str "strike"] := rfl
    rw [dl]
    refine ⟨_, hw, ?_⟩
    walk_at "dd"
    refine ⟨⟨by decide, by decide, by decide⟩, by decide, by decide, fun u u0 u1 => ⟨by decide, by decide, fun v v0 v1 => ⟨by decide, by decide, by decide, fun k k0 k1 => ?_⟩⟩⟩
    have u1 : u < 10 ^ 10 := u1
    obtain ⟨n, hn, n0, n1⟩ : ∃ n : Int, atI [PyData.int 0, .int u, .int v, .int 9999999999] k = some (.int n) ∧ 0 ≤ n ∧ n < 10 ^ 10 := by
      have : k = 0 ∨ k = 1 ∨ k = 2 ∨ k = 3 := by omega
      rcases this with e | e | e | e <;> subst e
      · exact ⟨0, rfl, by decide, by decide⟩
      · exact ⟨u, rfl, u0, u1⟩
      · exact ⟨v, rfl, v0, by omega⟩
      · exact ⟨_, rfl, by decide, by decide⟩
    have nl := num_len10 n0 n1
    refine ⟨_, hn, ?_⟩
    walk_at "dd"
    refine ⟨Nat.lt_of_lt_of_le (show n.natAbs < 10 ^ 10 by omega) (by decide), ?_⟩
    generalize Str.ofString (toString n) = t at nl
    have lit : ∀ ws : List Str, T.node (ws.map fun w => T.leaf (.str w)) = T.node ((strsD ws).map .leaf) := fun ws => by
      unfold strsD
      rw [List.map_map]
      rfl
    have fin : ∀ ws : List Str, ws ≠ [] → ws.length ≤ 4 → (∀ x ∈ ws, x = a ∨ x = b ∨ x = w ∨ x = t) → P (.node ((strsD ws).map .leaf)) := fun ws h1 h2 h3 => q ws h1 h2 fun x hx => by
      rcases h3 x hx with e | e | e | e <;> subst e <;> omega
    have mm : ∀ (ws : List Str), (∀ x ∈ ws, x ∈ [a, b, w, t]) → ∀ x ∈ ws, x = a ∨ x = b ∨ x = w ∨ x = t := fun ws h x hx => by
      have := h x hx
      simpa using this
    refine ⟨by decide, rfl, fun _ => ⟨by decide, fin [w, t] (by simp) (by simp) (mm _ (by simp))⟩, fun _ => ⟨by decide, rfl, fun _ => ⟨_, rfl, by decide, fin [w, a, t] (by simp) (by simp) (mm _ (by simp))⟩, fun _ => ⟨_, rfl, _, rfl, by decide, by decide, ?_⟩⟩⟩
    by_cases c : w = Str.ofString "bet"
    · rw [decide_eq_true c]
      walk_at "dd"
      exact ⟨show 3 + 1 ≤ lim by decide, fin [w, a, b, t] (by simp) (by simp) (mm _ (by simp))⟩
    · rw [decide_eq_false c]
      walk_at "dd"
      exact ⟨show 3 + 0 ≤ lim by decide, fin [w, a, b] (by simp) (by simp) (mm _ (by simp))⟩
end
abbrev st_l_spoilt : Stmt := topS 25
theorem sc_l_spoilt : FnScope ["_law_box_here", "_law_words", "_law_way", "_law_at", "_law_here", "_law_some", "_law_signs", "_law_sign", "_law_place", "_law_word"] ["_law_box_here", "_law_words"] (defScope st_l_spoilt) := ⟨rfl, rfl, rfl, by decide +kernel, rfl, by decide +kernel, by decide +kernel⟩
theorem two_way {p q a x : Prop} (hx : x) (ha : p → q → a) : (p → (q → a) ∧ (¬q → x)) ∧ (¬p → x) := ⟨fun h => ⟨ha h, fun _ => hx⟩, fun _ => hx⟩
theorem cutS_hi (ws : List Str) {r : Int} (r0 : 0 ≤ r) : cutD (strsD ws) none (some r) = strsD (ws.take r.toNat) := by
  obtain ⟨R, rfl⟩ := Int.eq_ofNat_of_zero_le r0
  unfold cutD
  rw [HT.sIx_none, HT.sIx_nat, List.drop_zero, Nat.sub_zero, Int.toNat_natCast]
  unfold strsD
  rw [← List.map_take, List.length_map]
  by_cases c : R ≤ ws.length
  · rw [Nat.min_eq_left c]
  · rw [Nat.min_eq_right (by omega), List.take_of_length_le (by omega), List.take_of_length_le (by omega)]
theorem cutS_lo (ws : List Str) {r : Int} (r0 : 0 ≤ r) : cutD (strsD ws) (some r) none = strsD (ws.drop r.toNat) := by
  obtain ⟨R, rfl⟩ := Int.eq_ofNat_of_zero_le r0
  unfold cutD
  rw [HT.sIx_nat, HT.sIx_none, Int.toNat_natCast]
  unfold strsD
  rw [← List.map_drop, ← List.map_take, List.length_map]
  by_cases c : R ≤ ws.length
  · rw [Nat.min_eq_left c, List.take_of_length_le (by rw [List.length_drop]; omega)]
  · rw [Nat.min_eq_right (by omega), Nat.sub_self, List.take_zero, List.drop_of_length_le (by omega)]
theorem strsD_app (a b : List Str) : strsD a ++ strsD b = strsD (a ++ b) := (List.map_append).symm
theorem strsD_one (a : Str) : [PyData.str a] = strsD [a] := rfl
theorem cutT_len (z : Str) (lo hi : Option Int) : (cutS z lo hi).length ≤ z.length := cutS_length z lo hi
def S_l_spoilt : Spec := fun ds P _ => ∃ (ws : List Str) (M : Nat), ds = [.dict [], .list (strsD ws)] ∧ ws ≠ [] ∧ ws.length < 100 ∧ M ≤ 900 ∧ (∀ w ∈ ws, w.length ≤ M) ∧
  ∀ vs : List Str, vs ≠ [] → vs.length ≤ ws.length + 1 → (∀ w ∈ vs, w.length ≤ 3 * M + 1) → P (.node ((strsD vs).map .leaf))
section
variable {P : Program} {w : World} {K : PySem.W.Frag} {mg : Str → Option Value} {base : Heap}
theorem ok_l_spoilt {f : Addr} {fd : FuncData} (F : Fun K "_law_spoilt" "_law_spoilt" st_l_spoilt f fd) (C_l_take : Cal P w K mg base "_law_take" ["_law_box_here", "_law_many"] 1 S_l_take) (m_len : mg "len" = none) :
    FnOk P w K mg base CX0 2 f fd ["_law_box_here", "_law_words"] (spOf K mg S_l_spoilt) := by
  refine fn_ok F sc_l_spoilt ?len (fun cdv A outer s H E hr => s_cons (s_asg 2 sc_l_spoilt.nd (d_fr (d_callC C_l_take hr (a_cons (d_var 0) (a_cons d_int a_nil)))))
    (s_cons (s_asg 3 sc_l_spoilt.nd (d_fr (d_callC C_l_take hr (a_cons (d_var 0) (a_cons (d_len m_len (a_cons (d_var 1) a_nil)) a_nil)))))
    (s_cons (s_if ((w_and (t_eq hr.units (d_var 2) d_int) (w_and1 (t_gt (d_len m_len (a_cons (d_var 1) a_nil)) d_int))).pt) (s_one (s_ret (d_add (d_sl (d_var 1) o_none (o_some (d_var 3))) (d_sl (d_var 1) (o_some (d_add (d_var 3) d_int)) o_none))))
      s_nil)
    (s_cons (s_if (t_eq hr.units (d_var 2) d_int) (s_one (s_ret (d_add (d_add (d_sl (d_var 1) o_none (o_some (d_var 3))) (d_lst (a_cons (d_at (d_var 1) (d_var 3)) a_nil))) (d_sl (d_var 1) (o_some (d_var 3)) o_none))))
      s_nil)
    (s_cons (s_if (t_eq hr.units (d_var 2) d_int) (s_one (s_ret (d_add (d_add (d_sl (d_var 1) o_none (o_some (d_add (d_var 3) d_int))) (d_lst (a_cons d_str a_nil))) (d_sl (d_var 1) (o_some (d_add (d_var 3) d_int)) o_none))))
      s_nil)
    (s_cons (s_if (t_eq hr.units (d_var 2) d_int) (s_cons (s_asg 4 sc_l_spoilt.nd (d_at (d_var 1) (d_var 3)))
    (s_cons (s_asg 5 sc_l_spoilt.nd (d_fr (d_lst (a_cons (d_addS d_str (d_var 4)) (a_cons (d_addS (d_var 4) d_str) (a_cons (d_addS (d_var 4) d_str) (a_cons (d_addS d_str (d_var 4)) (a_cons (d_mulS (d_var 4) d_int) a_nil))))))))
    (s_one (s_ret (d_add (d_add (d_sl (d_var 1) o_none (o_some (d_var 3))) (d_lst (a_cons (d_at (d_var 5) (d_callC C_l_take hr (a_cons (d_var 0) (a_cons d_int a_nil)))) a_nil))) (d_sl (d_var 1) (o_some (d_add (d_var 3) d_int)) o_none))))))
      s_nil)
    (s_cons (s_asg 6 sc_l_spoilt.nd d_str)
    (s_cons (s_asg 7 sc_l_spoilt.nd (d_ats (d_var 6) (d_callC C_l_take hr (a_cons (d_var 0) (a_cons (d_len m_len (a_cons (d_var 6) a_nil)) a_nil)))))
    (s_cons (s_asg 8 sc_l_spoilt.nd (d_fr (d_callC C_l_take hr (a_cons (d_var 0) (a_cons (d_add (d_len m_len (a_cons (d_at (d_var 1) (d_var 3)) a_nil)) d_int) a_nil)))))
    (s_cons (s_asg 9 sc_l_spoilt.nd (d_fr (d_addS (d_addS (d_slS (d_at (d_var 1) (d_var 3)) o_none (o_some (d_var 8))) (d_var 7)) (d_slS (d_at (d_var 1) (d_var 3)) (o_some (d_add (d_var 8) (d_mod (d_var 2) d_int))) o_none))))
    (s_one (s_ret (d_add (d_add (d_sl (d_var 1) o_none (o_some (d_var 3))) (d_lst (a_cons (d_var 9) a_nil))) (d_sl (d_var 1) (o_some (d_add (d_var 3) d_int)) o_none)))))))))))))) ?spec ?nx
  case len =>
    rintro ds P xp ⟨ws, M, rfl, _⟩
    rfl
  case nx => exact fun _ _ _ h => h
  case spec =>
    rintro ds P ⟨ws, M, rfl, hne, hl, hM, hw, q⟩
    walk_at "dd"
    have hp : 0 < ws.length := List.length_pos_iff.mpr hne
    rw [strs_len]
    refine ⟨by decide, by decide, fun r r0 r1 => ⟨by omega, by omega, fun k k0 k1 => ?_⟩⟩
    obtain ⟨K, rfl⟩ := Int.eq_ofNat_of_zero_le k0
    have hK : K < ws.length := by omega
    have ck : cutD (strsD ws) none (some (K : Int)) = strsD (ws.take K) := cutS_hi ws k0
    have ck1 : cutD (strsD ws) none (some ((K : Int) + 1)) = strsD (ws.take (K + 1)) := cutS_hi ws (by omega)
    have cd : cutD (strsD ws) (some (K : Int)) none = strsD (ws.drop K) := cutS_lo ws k0
    have cd1 : cutD (strsD ws) (some ((K : Int) + 1)) none = strsD (ws.drop (K + 1)) := cutS_lo ws (by omega)
    have atK : atI (strsD ws) (K : Int) = some (.str ws[K]) := atI_nat (by unfold strsD; rw [List.getElem?_map, List.getElem?_eq_getElem hK]; rfl)
    have wK : ws[K].length ≤ M := hw _ (List.getElem_mem hK)
    rw [ck, ck1, cd, cd1, atK]
    generalize ws[K] = w at wK
    have lt1 : (ws.take K).length = K := by rw [List.length_take]; omega
    have lt2 : (ws.take (K + 1)).length = K + 1 := by rw [List.length_take]; omega
    have lt3 : (ws.drop K).length = ws.length - K := List.length_drop
    have lt4 : (ws.drop (K + 1)).length = ws.length - (K + 1) := List.length_drop
    have m1 : ∀ x ∈ ws.take K, x.length ≤ M := fun x h => hw x (List.mem_of_mem_take h)
    have m2 : ∀ x ∈ ws.take (K + 1), x.length ≤ M := fun x h => hw x (List.mem_of_mem_take h)
    have m3 : ∀ x ∈ ws.drop K, x.length ≤ M := fun x h => hw x (List.mem_of_mem_drop h)
    have m4 : ∀ x ∈ ws.drop (K + 1), x.length ≤ M := fun x h => hw x (List.mem_of_mem_drop h)
    have e0 : (Str.ofString "").length = 0 := by decide +kernel
    generalize ws.take K = a at *
    generalize ws.take (K + 1) = a1 at *
    generalize ws.drop K = b at *
    generalize ws.drop (K + 1) = b1 at *
    have lm : ∀ {n : Nat}, n ≤ 300 → n ≤ lim := fun h => Nat.le_trans h (by decide)
    have fin3 : ∀ (p s : List Str) (x : Str), (∀ x ∈ p, x.length ≤ M) → (∀ x ∈ s, x.length ≤ M) → x.length ≤ 3 * M + 1 → p.length + s.length ≤ ws.length → P (.node ((strsD p ++ [PyData.str x] ++ strsD s).map .leaf)) := fun p s x hp hs hx hn => by
      rw [strsD_one, strsD_app, strsD_app]
      refine q _ (by simp) (by rw [List.length_append, List.length_append, List.length_singleton]; omega) fun y hy => ?_
      rcases List.mem_append.mp hy with z | z
      · rcases List.mem_append.mp z with z | z
        · have := hp y z; omega
        · rw [List.mem_singleton.mp z]; exact hx
      · have := hs y z; omega
    have len3 : ∀ (p s : List Str) (x : PyData), p.length + s.length ≤ ws.length → (strsD p).length + 1 ≤ lim ∧ (strsD p ++ [x]).length + (strsD s).length ≤ lim := fun p s x h => by
      rw [List.length_append, strs_len, strs_len, List.length_singleton]
      exact ⟨lm (by omega), lm (by omega)⟩
    have signs : (Str.ofString " !\"#$&'()*+,-./0123456789:;<=>?@ABCDEFGHIJKLMNOPQRSTUVWXYZ[\\]^_`abcdefghijklmnopqrstuvwxyz{|}~\n").length = 95 := by decide +kernel
    generalize Str.ofString " !\"#$&'()*+,-./0123456789:;<=>?@ABCDEFGHIJKLMNOPQRSTUVWXYZ[\\]^_`abcdefghijklmnopqrstuvwxyz{|}~\n" = S at signs ⊢
    have app_len : ∀ x y : Str, (x ++ y).length = x.length + y.length := fun x y => by
      show (x ++ y).cps.size = _
      exact Array.size_append
    refine two_way ?_ fun _ h2 => ?_
    rotate_left
    · rw [strs_len, strs_len, strsD_app]
      refine ⟨lm (by omega), q _ (fun e => ?_) (by rw [List.length_append]; omega) fun y hy => ?_⟩
      · have := congrArg List.length e
        rw [List.length_append, List.length_nil] at this
        omega
      · rcases List.mem_append.mp hy with z | z
        · have := m1 y z; omega
        · have := m4 y z; omega
    refine ⟨fun _ => ⟨_, rfl, by decide, (len3 a b .none (by omega)).1, (len3 a b _ (by omega)).2, fin3 a b w m1 m3 (by omega) (by omega)⟩, fun _ => ⟨fun _ => ⟨by decide, (len3 a1 b1 .none (by omega)).1, (len3 a1 b1 _ (by omega)).2, fin3 a1 b1 _ m2 m4 (by omega) (by omega)⟩, fun _ => ⟨fun _ => ⟨_, rfl, ?_⟩, fun _ => ?_⟩⟩⟩
    · walk_at "dd"
      have l0 : (Str.ofString "0").length = 1 := by decide +kernel
      have la : (Str.ofString "a").length = 1 := by decide +kernel
      have lmi : (Str.ofString "-").length = 1 := by decide +kernel
      rw [l0, la, lmi]
      refine ⟨Nat.le_trans (show 1 + w.length ≤ 1000 by omega) (by decide), Nat.le_trans (show w.length + 1 ≤ 1000 by omega) (by decide), Nat.le_trans (show w.length + 1 ≤ 1000 by omega) (by decide), Nat.le_trans (show 1 + w.length ≤ 1000 by omega) (by decide), ⟨by decide, by decide, by omega⟩, by decide, by decide, by decide, fun j j0 j1 => ?_⟩
      have hm : (mulS w 3).length ≤ 3 * M + 1 := by
        by_cases c : w.length = 0
        · unfold mulS
          rw [if_pos c]
          omega
        · rw [mulS_len w 3 c]
          show 3 * w.length ≤ _
          omega
      have a1' := app_len (Str.ofString "0") w
      have a2' := app_len w (Str.ofString "a")
      have a3' := app_len w (Str.ofString "0")
      have a4' := app_len (Str.ofString "-") w
      rw [l0] at a1' a3'
      rw [la] at a2'
      rw [lmi] at a4'
      obtain ⟨x, ex, hx⟩ : ∃ x : Str, atI [PyData.str (Str.ofString "0" ++ w), .str (w ++ Str.ofString "a"), .str (w ++ Str.ofString "0"), .str (Str.ofString "-" ++ w), .str (mulS w 3)] j = some (.str x) ∧ x.length ≤ 3 * M + 1 := by
        have : j = 0 ∨ j = 1 ∨ j = 2 ∨ j = 3 ∨ j = 4 := by omega
        rcases this with e | e | e | e | e <;> subst e
        · exact ⟨_, rfl, by omega⟩
        · exact ⟨_, rfl, by omega⟩
        · exact ⟨_, rfl, by omega⟩
        · exact ⟨_, rfl, by omega⟩
        · exact ⟨_, rfl, hm⟩
      exact ⟨_, ex, by decide, (len3 a b1 .none (by omega)).1, (len3 a b1 _ (by omega)).2, fin3 a b1 x m1 m4 hx (by omega)⟩
    · rw [signs]
      refine ⟨by decide, by decide, by decide, fun j j0 j1 => ⟨by decide, ?_⟩⟩
      have hS : S.cps.toList.length = 95 := by rw [Array.length_toList]; exact signs
      obtain ⟨J, rfl⟩ := Int.eq_ofNat_of_zero_le j0
      have hJ : J < S.cps.toList.length := by omega
      refine ⟨S.cps.toList[J], by unfold L2.atI; rw [ixN_of (by omega) (by omega), Int.toNat_natCast]; exact List.getElem?_eq_getElem hJ, ?_⟩
      generalize S.cps.toList[J] = c
      refine ⟨_, rfl, ?_⟩
      walk_at "dd"
      have l1 : ∀ c : Nat, (⟨#[c]⟩ : Str).length = 1 := fun _ => rfl
      refine ⟨Nat.le_trans (show w.length ≤ 1000 by omega) (by decide), by omega, by omega, fun p p0 p1 => ?_⟩
      have c1 : ∀ i, (cutS w none (some i)).length ≤ w.length := fun i => cutS_length w none (some i)
      have c2 : ∀ i, (cutS w (some i) none).length ≤ w.length := fun i => cutS_length w (some i) none
      have wl : w.length ≤ lim := Nat.le_trans (show w.length ≤ 1000 by omega) (by decide)
      rw [app_len, l1]
      have h1 := c1 p
      have h2 := c2 (p + r % 2)
      refine ⟨wl, Nat.le_trans (show _ ≤ 1000 by omega) (by decide), by decide, wl, Nat.le_trans (show _ ≤ 3000 by omega) (by decide), by decide, (len3 a b1 .none (by omega)).1, (len3 a b1 _ (by omega)).2, fin3 a b1 _ m1 m4 ?_ (by omega)⟩
      rw [app_len, app_len, l1]
      omega
end
abbrev st_l_told_of_row : Stmt := topS 26
theorem sc_l_told_of_row : FnScope ["_law_text", "_law_found", "_law_kinds", "e"] ["_law_text"] (defScope st_l_told_of_row) := ⟨rfl, rfl, rfl, by decide +kernel, rfl, by decide +kernel, by decide +kernel⟩
def S_l_told_of_row : Spec := fun ds P _ => ∃ ws : List Str, ds = [.str (Txt.join " " ws)] ∧ ws ≠ [] ∧ ws.length < 1000 ∧ (∀ w ∈ ws, 32 ∉ TL.tl w ∧ w.length ≤ 10000) ∧ (Txt.join " " ws).length ≤ 10000 ∧
  P (.leaf (.tuple [(deedW ws).getD .none, match deedW ws with | none => .list [.bool true, .bool false, .bool false] | some _ => .list []]))
section
variable {P : Program} {w : World} {K : PySem.W.Frag} {mg : Str → Option Value} {base : Heap}
theorem ok_l_told_of_row {f : Addr} {fd : FuncData} (F : Fun K "_law_told_of_row" "_law_told_of_row" st_l_told_of_row f fd) (C_p_deed_of : CalX P w K mg base "deed_of" ["text"] 4 S_p_deed_of) (E_OutError : ∃ C, mg "OutError" = some (.ref C) ∧ ExTab K mg ["NoDeed"] (.ref C)) (I_NoDeed : ∃ C, mg "NoDeed" = some (.ref C) ∧ IsTab K mg ["NoDeed"] (.ref C) (fun n => n == "NoDeed")) (I_NoPage : ∃ C, mg "NoPage" = some (.ref C) ∧ IsTab K mg ["NoDeed"] (.ref C) (fun n => n == "NoPage")) (I_BadName : ∃ C, mg "BadName" = some (.ref C) ∧ IsTab K mg ["NoDeed"] (.ref C) (fun n => n == "BadName")) (m_isinstance : mg "isinstance" = none) :
    FnOk P w K mg base CX0 5 f fd ["_law_text"] (spOf K mg S_l_told_of_row) := by
  refine fn_ok F sc_l_told_of_row ?len (fun cdv A outer s H E hr => s_cons (s_asg 1 sc_l_told_of_row.nd d_non)
    (s_cons (s_asg 2 sc_l_told_of_row.nd (d_fr (d_lst a_nil)))
    (s_cut (s_tryO (i := 3) ["NoDeed"] E_OutError sc_l_told_of_row.nd takes0 (fun E' pn xe tk ps => s_one (s_asg 1 sc_l_told_of_row.nd (d_fr (d_callX C_p_deed_of hr tk (a_cons (d_var 0) a_nil)))))
      (fun a d C n pl oe pn hx hm hz hf => s_one (s_asg 2 sc_l_told_of_row.nd (d_fr (d_lst (a_cons (d_isO (pl := pl) I_NoDeed hx hm hz hf m_isinstance (d_var 3)) (a_cons (d_isO (pl := pl) I_NoPage hx hm hz hf m_isinstance (d_var 3)) (a_cons (d_isO (pl := pl) I_BadName hx hm hz hf m_isinstance (d_var 3)) a_nil))))))))
    (s_one (s_ret (d_tup (a_cons (d_var 1) (a_cons (d_var 2) a_nil)))))))) ?spec ?nx
  case len =>
    rintro ds P xp ⟨ws, rfl, _⟩
    rfl
  case nx => exact fun _ _ _ h => h
  case spec =>
    rintro ds P ⟨ws, rfl, hne, hl, hw, hz, q⟩
    walk_at "dd"
    refine ⟨by decide, fun ρ' => ∃ y3, ρ' = [some (.leaf (.str (Txt.join " " ws))), some (.leaf ((deedW ws).getD .none)), some (.leaf (match deedW ws with | none => .list [.bool true, .bool false, .bool false] | some _ => .list [])), y3], ?_, ?_⟩
    · walk_at "dd"
      refine ⟨ws, rfl, hne, hl, hw, hz, fun d hd => ?_, fun hd => ?_⟩
      · rw [hd]
        exact ⟨_, rfl⟩
      · rw [hd]
        have e1 : ("NoDeed" == ("NoDeed" : Str)) = true := by decide +kernel
        have e2 : (("NoDeed" : Str) == "NoPage") = false := by decide +kernel
        have e3 : (("NoDeed" : Str) == "BadName") = false := by decide +kernel
        refine ⟨by simp, fun a d => ⟨by decide, none, ?_⟩⟩
        rw [e2, e3, beq_self_eq_true] <;> rfl
    · rintro ρ' ⟨y3, rfl⟩
      walk_at "dd"
      exact ⟨by decide, q⟩
end
abbrev st_law : Stmt := topS 27
theorem sc_law : FnScope ["_law_script", "_law_box_here", "_law_turn", "_law_words", "_law_k", "_law_text", "_law_due"] ["_law_script"] (defScope st_law) := ⟨rfl, rfl, rfl, by decide +kernel, rfl, by decide +kernel, by decide +kernel⟩
/-- the words of a text -/
def wds : List Nat → List (List Nat)
  | [] => [[]]
  | c :: L => if c = 32 then [] :: wds L else match wds L with
    | [] => [[c]]
    | p :: r => (c :: p) :: r
theorem wds_ne : ∀ L, wds L ≠ []
  | [] => fun h => nomatch h
  | c :: L => by
    unfold wds
    split
    · exact fun h => nomatch h
    · split
      · exact fun h => nomatch h
      · exact fun h => nomatch h
theorem wds_join : ∀ L, TL.joinL [32] (wds L) = L
  | [] => rfl
  | c :: L => by
    have ih := wds_join L
    have ne := wds_ne L
    unfold wds
    by_cases h : c = 32
    · rw [if_pos h]
      cases e : wds L with
      | nil => exact absurd e ne
      | cons p r =>
        rw [e] at ih
        show [] ++ ([32] ++ TL.joinL [32] (p :: r)) = _
        rw [ih, h]
        rfl
    · rw [if_neg h]
      cases e : wds L with
      | nil => exact absurd e ne
      | cons p r =>
        rw [e] at ih
        cases r with
        | nil =>
          have ih : p = L := ih
          show c :: p = _
          rw [ih]
        | cons q r =>
          have ih : p ++ ([32] ++ TL.joinL [32] (q :: r)) = L := ih
          show c :: p ++ ([32] ++ TL.joinL [32] (q :: r)) = _
          rw [List.cons_append, ih]
theorem wds_ok : ∀ L, (∀ p ∈ wds L, 32 ∉ p ∧ p.length ≤ L.length) ∧ (wds L).length ≤ L.length + 1
  | [] => ⟨fun p h => by rw [List.mem_singleton.mp h]; exact ⟨fun z => (nomatch z), Nat.le_refl _⟩, Nat.le_refl _⟩
  | c :: L => by
    obtain ⟨h1, h2⟩ := wds_ok L
    have ne := wds_ne L
    unfold wds
    by_cases h : c = 32
    · rw [if_pos h]
      refine ⟨fun p hp => ?_, by rw [List.length_cons, List.length_cons]; omega⟩
      rcases List.mem_cons.mp hp with z | z
      · rw [z]
        exact ⟨fun z => (nomatch z), Nat.zero_le _⟩
      · have := h1 p z
        exact ⟨this.1, by rw [List.length_cons]; omega⟩
    · rw [if_neg h]
      cases e : wds L with
      | nil => exact absurd e ne
      | cons p r =>
        rw [e] at h1 h2
        refine ⟨fun q hq => ?_, by rw [List.length_cons] at h2; rw [List.length_cons, List.length_cons]; omega⟩
        rcases List.mem_cons.mp hq with z | z
        · have := h1 p (List.mem_cons_self ..)
          rw [z]
          refine ⟨fun w => ?_, by rw [List.length_cons, List.length_cons]; omega⟩
          rcases List.mem_cons.mp w with w | w
          · exact h w.symm
          · exact this.1 w
        · have := h1 q (List.mem_cons_of_mem _ z)
          exact ⟨this.1, by rw [List.length_cons]; omega⟩
theorem ex_words (z : Str) : ∃ ws : List Str, z = Txt.join " " ws ∧ ws ≠ [] ∧ ws.length ≤ z.length + 1 ∧ ∀ w ∈ ws, 32 ∉ TL.tl w ∧ w.length ≤ z.length := by
  obtain ⟨h1, h2⟩ := wds_ok (TL.tl z)
  rw [← TL.len_tl] at h1 h2
  have mk : ∀ p : List Nat, TL.tl ⟨p.toArray⟩ = p := fun p => rfl
  refine ⟨(wds (TL.tl z)).map fun p => ⟨p.toArray⟩, ?_, fun e => wds_ne _ (List.map_eq_nil_iff.mp e), by rw [List.length_map]; exact h2, fun w hw => ?_⟩
  · refine TL.ext_tl ?_
    rw [TL.join_eq, TL.tl_join, List.map_map]
    have e : (TL.tl ∘ fun p : List Nat => (⟨p.toArray⟩ : Str)) = id := rfl
    rw [e, List.map_id]
    exact (wds_join (TL.tl z)).symm
  · obtain ⟨p, hp, rfl⟩ := List.mem_map.mp hw
    obtain ⟨a, b⟩ := h1 p hp
    exact ⟨a, by rw [TL.len_tl]; exact b⟩
theorem joinL_len52 (s : List Nat) : ∀ ps : List (List Nat), (TL.joinL s ps).length ≤ (ps.map List.length).sum + ps.length * s.length
  | [] => Nat.zero_le _
  | [p] => by
    show p.length ≤ _
    simp
  | p :: q :: r => by
    have ih := joinL_len52 s (q :: r)
    show (p ++ (s ++ TL.joinL s (q :: r))).length ≤ _
    rw [List.length_append, List.length_append, List.map_cons, List.sum_cons, List.length_cons, Nat.succ_mul]
    omega
theorem sum_le52 {M : Nat} : ∀ {ws : List Str}, (∀ w ∈ ws, w.length ≤ M) → (ws.map (·.length)).sum ≤ ws.length * M
  | [], _ => Nat.zero_le _
  | w :: ws, h => by
    have := sum_le52 (ws := ws) fun x hx => h x (List.mem_cons_of_mem _ hx)
    have := h w (List.mem_cons_self ..)
    rw [List.map_cons, List.sum_cons, List.length_cons, Nat.succ_mul]
    omega
theorem join_len52 (ws : List Str) : (Txt.join " " ws).length ≤ (ws.map (·.length)).sum + ws.length := by
  have e : TL.tl (Txt.join " " ws) = TL.joinL [32] (ws.map TL.tl) := by
    rw [TL.join_eq, TL.tl_join]
    rfl
  have := joinL_len52 [32] (ws.map TL.tl)
  rw [← e, ← TL.len_tl, List.map_map, List.length_map, List.length_singleton, Nat.mul_one] at this
  have e2 : (ws.map (List.length ∘ TL.tl)) = ws.map (·.length) := List.map_congr_left fun w _ => (TL.len_tl w).symm
  rw [e2] at this
  exact this
theorem sm_part {k : Nat} {w : Str} {d : PyData} (h : partD k w = some d) : Sm 0 d := by
  unfold partD at h
  split at h
  · split at h
    · cases e : PySem.intText? w with
      | none => rw [e] at h; cases h
      | some i => rw [e] at h; cases h; exact sm_int
    · cases h
  · split at h
    · rename_i hn
      cases h
      unfold nameB at hn
      rw [Bool.and_eq_true, List.all_eq_true] at hn
      have all : ∀ c ∈ (Str.ofString "abcdefghijklmnopqrstuvwxyz").cps.toList, c < 1114112 := by decide +kernel
      exact sm_str fun c hc => all c (of_decide_eq_true (hn.2 c hc))
    · cases h
theorem sm_parts : ∀ {ks : List Nat} {ws : List Str} {ds : List PyData}, partsD ks ws = some ds → ∀ x ∈ ds, Sm 0 x
  | [], _, _, h => by cases h; exact fun _ z => (nomatch z)
  | _ :: _, [], _, h => by cases h; exact fun _ z => (nomatch z)
  | k :: ks, w :: ws, ds, h => by
    have h : (partD k w).bind (fun d => (partsD ks ws).map (d :: ·)) = some ds := h
    cases e : partD k w with
    | none => rw [e] at h; cases h
    | some d =>
      rw [e] at h
      cases e2 : partsD ks ws with
      | none =>
        have h : Option.map (d :: ·) (partsD ks ws) = some ds := h
        rw [e2] at h
        cases h
      | some b =>
        have h : Option.map (d :: ·) (partsD ks ws) = some ds := h
        rw [e2] at h
        cases h
        intro x hx
        rcases List.mem_cons.mp hx with z | z
        · rw [z]; exact sm_part e
        · exact sm_parts e2 x z
theorem sm_deedW {ws : List Str} : Sm 1 ((deedW ws).getD .none) := by
  cases ws with
  | nil => exact True.intro
  | cons w rest =>
    show Sm 1 ((match tab_SHAPES.lookup w with
      | none => none
      | some sh => if rest.length = sh.cps.toList.length then (partsD sh.cps.toList rest).map fun ds => PyData.tuple (.str w :: ds) else none).getD .none)
    cases ht : tab_SHAPES.lookup w with
    | none => exact True.intro
    | some sh =>
      show Sm 1 ((if rest.length = sh.cps.toList.length then (partsD sh.cps.toList rest).map fun ds => PyData.tuple (.str w :: ds) else none).getD .none)
      by_cases c : rest.length = sh.cps.toList.length
      · rw [if_pos c]
        cases e : partsD sh.cps.toList rest with
        | none => exact True.intro
        | some ds =>
          have l1 := partsD_len e
          have l2 := (tab_sh ht).2
          have l3 : sh.cps.toList.length = sh.length := Array.length_toList
          have hm : w ∈ tab_SHAPES.map (·.1) := by
            have key : ∀ tab : List (Str × Str), tab.lookup w = some sh → w ∈ tab.map (·.1) := fun tab => by
              induction tab with
              | nil => intro h; cases h
              | cons p tab ih =>
                intro h
                rw [List.lookup_cons] at h
                by_cases c : w = p.1
                · rw [c]; exact List.mem_cons_self ..
                · rw [show (w == p.1) = false from beq_eq_false_iff_ne.mpr c] at h
                  exact List.mem_cons_of_mem _ (ih h)
            exact key _ ht
          have all : ∀ x ∈ tab_SHAPES.map (·.1), ∀ c ∈ x.cps.toList, c < 1114112 := by decide +kernel
          refine ⟨by show ds.length + 1 < 1000; omega, fun x hx => ?_⟩
          rcases List.mem_cons.mp hx with z | z
          · rw [z]
            exact sm_str (all w hm)
          · exact sm_parts e x z
      · rw [if_neg c]
        exact True.intro
theorem deed_tup {ws : List Str} {d : PyData} (h : deedW ws = some d) : ∃ ds, d = .tuple ds := by
  cases ws with
  | nil => cases h
  | cons w rest =>
    have h : (match tab_SHAPES.lookup w with
      | none => none
      | some sh => if rest.length = sh.cps.toList.length then (partsD sh.cps.toList rest).map fun ds => PyData.tuple (.str w :: ds) else none) = some d := h
    cases ht : tab_SHAPES.lookup w with
    | none => rw [ht] at h; cases h
    | some sh =>
      rw [ht] at h
      have h : (if rest.length = sh.cps.toList.length then (partsD sh.cps.toList rest).map fun ds => PyData.tuple (.str w :: ds) else none) = some d := h
      by_cases c : rest.length = sh.cps.toList.length
      · rw [if_pos c] at h
        cases e : partsD sh.cps.toList rest with
        | none => rw [e] at h; cases h
        | some ds => rw [e] at h; cases h; exact ⟨_, rfl⟩
      · rw [if_neg c] at h
        cases h
theorem sm_b3 {a b c : Bool} : Sm 1 (.list [.bool a, .bool b, .bool c]) := ⟨show 3 < 1000 by decide, fun x hx => by
  simp only [List.mem_cons, List.not_mem_nil, or_false] at hx
  rcases hx with e | e | e <;> subst e <;> exact True.intro⟩
theorem sm_told {ws : List Str} : Sm 7 (.tuple [(deedW ws).getD .none, match deedW ws with | none => .list [.bool true, .bool false, .bool false] | some _ => .list []]) := by
  refine ⟨by show 2 < 1000; decide, fun x hx => ?_⟩
  rcases List.mem_cons.mp hx with z | z
  · rw [z]
    exact sm_deedW.mono (by decide)
  · rw [List.mem_singleton.mp z]
    cases deedW ws with
    | none => exact sm_b3.mono (by decide)
    | some d => exact ⟨by decide, fun _ z => (nomatch z)⟩
section
variable {P : Program} {w : World} {K : PySem.W.Frag} {mg : Str → Option Value} {base : Heap}
theorem ok_law {f fb : Addr} {fd fdb : FuncData} (F : Fun K "law" "law" st_law f fd) (B : FnOk P w K mg base CX0 1 fb fdb ["_law_script"] (spBox K)) (mB : mg "_law_box" = some (.ref fb)) (kB : PySem.W.keepIn K (.ref fb) = true) (bB : Binds K fdb ["_law_script"] []) (C_l_same : Cal P w K mg base "_law_same" ["_law_found", "_law_due"] 8 (S_same 8)) (C_l_row : Cal P w K mg base "_law_row" ["_law_box_here"] 3 S_l_row) (C_l_told_of_row : Cal P w K mg base "_law_told_of_row" ["_law_text"] 5 S_l_told_of_row) (C_l_take : Cal P w K mg base "_law_take" ["_law_box_here", "_law_many"] 1 S_l_take) (C_l_spoilt : Cal P w K mg base "_law_spoilt" ["_law_box_here", "_law_words"] 2 S_l_spoilt) (C_l_read : Cal P w K mg base "_law_read" ["_law_text"] 2 S_l_read) (m_range : mg "range" = none) :
    FnOk P w K mg base CX0 9 f fd ["_law_script"] (spOf0 K) := by
  refine law_ok F sc_law rfl B mB kB bB (by decide) (fun cdv A outer s H E hr => ps_set (i := 1) sc_law.nd rfl (by first | exact .inl rfl | exact .inr rfl) (pe_call B (hr.mono (by decide)) (by rfl) mB kB bB .nil pass0 (pa_cons (pv 0) pa_nil))) (fun cdv A outer s H E hr => s_cons (s_if (t_not (t_val (d_callC C_l_same hr (a_cons (d_callC C_l_told_of_row hr (a_cons d_str a_nil)) (a_cons (d_tup (a_cons d_non (a_cons (d_lst (a_cons d_bl (a_cons d_bl (a_cons d_bl a_nil)))) a_nil))) a_nil))))) (s_one (s_ret d_bl))
      s_nil)
    (s_cons (s_for (ts := [2]) PassesOwn.never rfl (i_rng1 m_range (a_cons d_int a_nil)) (g_name 2 sc_law.nd)
      (s_cons (s_asg 3 sc_law.nd (d_fr (d_callC C_l_row hr (a_cons (d_var 1) a_nil))))
    (s_cons (s_for (ts := [4]) PassesOwn.never rfl (i_rng1 m_range (a_cons (d_callC C_l_take hr (a_cons (d_var 1) (a_cons d_int a_nil))) a_nil)) (g_name 4 sc_law.nd)
      (s_one (s_asg 3 sc_law.nd (d_fr (d_callC C_l_spoilt hr (a_cons (d_var 1) (a_cons (d_var 3) a_nil)))))))
    (s_cons (s_asg 5 sc_law.nd (d_fr (d_join d_str (d_var 3))))
    (s_cons (s_asg 6 sc_law.nd (d_tup (a_cons (d_callC C_l_read hr (a_cons (d_var 5) a_nil)) (a_cons (d_lst a_nil) a_nil))))
    (s_cut (s_if (t_isN (d_at (d_var 6) d_int) d_non) (s_one (s_asg 6 sc_law.nd (d_tup (a_cons d_non (a_cons (d_lst (a_cons d_bl (a_cons d_bl (a_cons d_bl a_nil)))) a_nil)))))
      s_nil)
    (s_one (s_if (t_not (t_val (d_callC C_l_same hr (a_cons (d_callC C_l_told_of_row hr (a_cons (d_var 5) a_nil)) (a_cons (d_var 6) a_nil))))) (s_one (s_ret d_bl))
      s_nil))))))))
    (s_one (s_ret d_bl)))) ?spec
  case spec =>
    walk_at "dd"
    have d0 : deedW [Str.ofString ""] = none := by
      show (match tab_SHAPES.lookup (Str.ofString "") with
        | none => none
        | some sh => if ([] : List Str).length = sh.cps.toList.length then (partsD sh.cps.toList []).map fun ds => PyData.tuple (.str (Str.ofString "") :: ds) else none) = none
      rw [show tab_SHAPES.lookup (Str.ofString "") = none by decide +kernel]
    have j0 : Txt.join " " [Str.ofString ""] = Str.ofString "" := rfl
    refine ⟨[Str.ofString ""], by rw [j0], by simp, by decide, fun w h => by rw [List.mem_singleton.mp h]; exact ⟨by decide +kernel, by decide⟩, by rw [j0]; decide, ?_⟩
    have s0 := sm_told (ws := [Str.ofString ""])
    rw [d0] at s0 ⊢
    refine ⟨by decide, by decide, _, rfl, s0, ?_⟩
    walk_at "dd"
    refine for_rng 0 3 (fun i ρ' => ∃ y2 y3 y4 y5 y6, ρ' = [none, some (T.leaf bx), y2, y3, y4, y5, y6]) (fun P h => by walk_at "dd"; exact ⟨by decide, h⟩) ⟨_, _, _, _, _, rfl⟩ ?_ ?_
    · rintro i ρ' hi ⟨y2, y3, y4, y5, y6, rfl⟩
      walk_at "dd"
      refine ⟨rfl, fun ws hne hl hw => ?_⟩
      walk_at "dd"
      refine for_raw ?_
      walk_at "dd"
      refine ⟨by decide, by decide, fun n n0 n1 => ⟨by omega, fun j ρ' => ∃ (vs : List Str) (y4 : Option T), ρ' = [none, some (T.leaf bx), some (T.leaf (.int (i : Nat))), some (T.leaf (.list (strsD vs))), y4, y5, y6] ∧ vs ≠ [] ∧ vs.length ≤ 4 + j ∧ ∀ w ∈ vs, w.length + 1 ≤ 11 * 3 ^ j, ⟨ws, _, rfl, hne, hl, fun w h => by have := hw w h; omega⟩, ?_, ?_⟩⟩
      · rintro j d ρ' hd ⟨vs, y4, rfl, h1, h2, h3⟩
        have hj : j < 2 := by
          have := (List.getElem?_eq_some_iff.mp hd).1
          rw [rngD_len] at this
          omega
        have p4 : 3 ^ j ≤ 3 ^ 1 := Nat.pow_le_pow_right (by decide) (by omega)
        walk_at "dd"
        have : 1 ≤ 3 ^ j := Nat.one_le_pow _ _ (by decide)
        refine ⟨vs, 11 * 3 ^ j - 1, rfl, h1, by omega, by omega, fun w hw' => by have := h3 w hw'; omega, fun us u1 u2 u3 => ?_⟩
        walk_at "dd"
        refine ⟨us, _, rfl, u1, by omega, fun w hw' => ?_⟩
        have := u3 w hw'
        rw [Nat.pow_succ]
        omega
      · rintro ρ' ⟨vs, y4, rfl, h1, h2, h3⟩
        rw [rngD_len] at h2 h3
        have p4 : 3 ^ n.toNat ≤ 3 ^ 2 := Nat.pow_le_pow_right (by decide) (by omega)
        have h4 : ∀ w ∈ vs, w.length ≤ 98 := fun w hw' => by have := h3 w hw'; omega
        have h5 := sum_le52 h4
        have h6 := join_len52 vs
        have h7 : vs.length * 98 ≤ 6 * 98 := Nat.mul_le_mul_right _ (by omega)
        walk_at "dd"
        refine asX_l ?_
        rw [show (Str.ofString " ").length = 1 from by decide +kernel]
        refine ⟨by omega, ?_⟩
        have hz : (Txt.join " " vs).length ≤ 900 := by omega
        generalize Txt.join " " vs = z at hz
        obtain ⟨us, rfl, u1, u2, u3⟩ := ex_words z
        have u4 : ∀ w ∈ us, 32 ∉ TL.tl w ∧ w.length ≤ 10000 := fun w hw' => ⟨(u3 w hw').1, by have := (u3 w hw').2; omega⟩
        refine ⟨us, rfl, u1, by omega, u4, by omega, ?_⟩
        have sm := sm_told (ws := us)
        refine ⟨by decide, by decide, fun ρ' => ρ' = [none, some (T.leaf bx), some (T.leaf (.int (i : Nat))), some (T.leaf (.list (strsD vs))), y4, some (T.leaf (.str (Txt.join " " us))), some (T.leaf (.tuple [(deedW us).getD .none, match deedW us with | none => .list [.bool true, .bool false, .bool false] | some _ => .list []]))], ?_, ?_⟩
        · cases hd : deedW us with
          | none =>
            walk_at "dd"
            refine ⟨_, rfl, ?_⟩
            simp only [Option.getD_none]
            walk_at "dd"
            exact ⟨by decide, by decide⟩
          | some d =>
            obtain ⟨ds, rfl⟩ := deed_tup hd
            walk_at "dd"
            refine ⟨_, rfl, ?_⟩
            simp only [Option.getD_some]
            walk_at "dd"
        · rintro ρ' rfl
          walk_at "dd"
          refine ⟨us, rfl, u1, by omega, u4, by omega, ?_⟩
          refine ⟨_, rfl, sm, ?_⟩
          walk_at "dd"
          exact ⟨_, _, _, _, _, rfl⟩
    · rintro ρ' ⟨y2, y3, y4, y5, y6, rfl⟩
      walk_at "dd"
end
theorem all_mk {l : PySem.W.OpenLaw} {w : World} {K : PySem.W.Frag} {h : Heap} {mg : Str → Option Value} {fa : Addr} (X : K.In h) (G : h.Ns mainGlobals mg) (hfa : mg "law" = some (.ref fa))
    {f1 : Addr} {od1 an1 : Option Addr} {sl1 : Array (Option Value)} {oc1 kV1 dc1 pm1 cd1 ct1 : Value}
    (a1 : PySem.W.nsIn K mainGlobals "is_name" = some (some (.ref f1))) (l1 : K.lookup f1 = some ⟨oc1, od1, .func (PySem.W.fnOf "is_name" "is_name" (defArgs st_p_is_name) (defBody st_p_is_name) (defScope st_p_is_name) .none kV1 dc1 pm1 an1 cd1 ct1), sl1⟩) (c1 : PySem.W.codeIn K cd1 "is_name" = true) (k1 : PySem.W.keepIn K (.ref f1) = true)
    {f2 : Addr} {od2 an2 : Option Addr} {sl2 : Array (Option Value)} {oc2 kV2 dc2 pm2 cd2 ct2 : Value}
    (a2 : PySem.W.nsIn K mainGlobals "is_number" = some (some (.ref f2))) (l2 : K.lookup f2 = some ⟨oc2, od2, .func (PySem.W.fnOf "is_number" "is_number" (defArgs st_p_is_number) (defBody st_p_is_number) (defScope st_p_is_number) .none kV2 dc2 pm2 an2 cd2 ct2), sl2⟩) (c2 : PySem.W.codeIn K cd2 "is_number" = true) (k2 : PySem.W.keepIn K (.ref f2) = true)
    {f3 : Addr} {od3 an3 : Option Addr} {sl3 : Array (Option Value)} {oc3 kV3 dc3 pm3 cd3 ct3 : Value}
    (a3 : PySem.W.nsIn K mainGlobals "number_in" = some (some (.ref f3))) (l3 : K.lookup f3 = some ⟨oc3, od3, .func (PySem.W.fnOf "number_in" "number_in" (defArgs st_p_number_in) (defBody st_p_number_in) (defScope st_p_number_in) .none kV3 dc3 pm3 an3 cd3 ct3), sl3⟩) (c3 : PySem.W.codeIn K cd3 "number_in" = true) (k3 : PySem.W.keepIn K (.ref f3) = true)
    {f4 : Addr} {od4 an4 : Option Addr} {sl4 : Array (Option Value)} {oc4 kV4 dc4 pm4 cd4 ct4 : Value}
    (a4 : PySem.W.nsIn K mainGlobals "deed_of" = some (some (.ref f4))) (l4 : K.lookup f4 = some ⟨oc4, od4, .func (PySem.W.fnOf "deed_of" "deed_of" (defArgs st_p_deed_of) (defBody st_p_deed_of) (defScope st_p_deed_of) .none kV4 dc4 pm4 an4 cd4 ct4), sl4⟩) (c4 : PySem.W.codeIn K cd4 "deed_of" = true) (k4 : PySem.W.keepIn K (.ref f4) = true)
    {f5 : Addr} {od5 an5 : Option Addr} {sl5 : Array (Option Value)} {oc5 kV5 dc5 pm5 cd5 ct5 : Value}
    (a5 : PySem.W.nsIn K mainGlobals "_law_box" = some (some (.ref f5))) (l5 : K.lookup f5 = some ⟨oc5, od5, .func (PySem.W.fnOf "_law_box" "_law_box" (defArgs st_l_box) (defBody st_l_box) (defScope st_l_box) .none kV5 dc5 pm5 an5 cd5 ct5), sl5⟩) (c5 : PySem.W.codeIn K cd5 "_law_box" = true) (k5 : PySem.W.keepIn K (.ref f5) = true)
    {f6 : Addr} {od6 an6 : Option Addr} {sl6 : Array (Option Value)} {oc6 kV6 dc6 pm6 cd6 ct6 : Value}
    (a6 : PySem.W.nsIn K mainGlobals "_law_take" = some (some (.ref f6))) (l6 : K.lookup f6 = some ⟨oc6, od6, .func (PySem.W.fnOf "_law_take" "_law_take" (defArgs st_l_take) (defBody st_l_take) (defScope st_l_take) .none kV6 dc6 pm6 an6 cd6 ct6), sl6⟩) (c6 : PySem.W.codeIn K cd6 "_law_take" = true) (k6 : PySem.W.keepIn K (.ref f6) = true)
    {f7 : Addr} {od7 an7 : Option Addr} {sl7 : Array (Option Value)} {oc7 kV7 dc7 pm7 cd7 ct7 : Value}
    (a7 : PySem.W.nsIn K mainGlobals "_law_same" = some (some (.ref f7))) (l7 : K.lookup f7 = some ⟨oc7, od7, .func (PySem.W.fnOf "_law_same" "_law_same" (defArgs st_l_same) (defBody st_l_same) (defScope st_l_same) .none kV7 dc7 pm7 an7 cd7 ct7), sl7⟩) (c7 : PySem.W.codeIn K cd7 "_law_same" = true) (k7 : PySem.W.keepIn K (.ref f7) = true)
    {f8 : Addr} {od8 an8 : Option Addr} {sl8 : Array (Option Value)} {oc8 kV8 dc8 pm8 cd8 ct8 : Value}
    (a8 : PySem.W.nsIn K mainGlobals "_law_names" = some (some (.ref f8))) (l8 : K.lookup f8 = some ⟨oc8, od8, .func (PySem.W.fnOf "_law_names" "_law_names" (defArgs st_l_names) (defBody st_l_names) (defScope st_l_names) .none kV8 dc8 pm8 an8 cd8 ct8), sl8⟩) (c8 : PySem.W.codeIn K cd8 "_law_names" = true) (k8 : PySem.W.keepIn K (.ref f8) = true)
    {f9 : Addr} {od9 an9 : Option Addr} {sl9 : Array (Option Value)} {oc9 kV9 dc9 pm9 cd9 ct9 : Value}
    (a9 : PySem.W.nsIn K mainGlobals "_law_named" = some (some (.ref f9))) (l9 : K.lookup f9 = some ⟨oc9, od9, .func (PySem.W.fnOf "_law_named" "_law_named" (defArgs st_l_named) (defBody st_l_named) (defScope st_l_named) .none kV9 dc9 pm9 an9 cd9 ct9), sl9⟩) (c9 : PySem.W.codeIn K cd9 "_law_named" = true) (k9 : PySem.W.keepIn K (.ref f9) = true)
    {f10 : Addr} {od10 an10 : Option Addr} {sl10 : Array (Option Value)} {oc10 kV10 dc10 pm10 cd10 ct10 : Value}
    (a10 : PySem.W.nsIn K mainGlobals "_law_is_number" = some (some (.ref f10))) (l10 : K.lookup f10 = some ⟨oc10, od10, .func (PySem.W.fnOf "_law_is_number" "_law_is_number" (defArgs st_l_is_number) (defBody st_l_is_number) (defScope st_l_is_number) .none kV10 dc10 pm10 an10 cd10 ct10), sl10⟩) (c10 : PySem.W.codeIn K cd10 "_law_is_number" = true) (k10 : PySem.W.keepIn K (.ref f10) = true)
    {f11 : Addr} {od11 an11 : Option Addr} {sl11 : Array (Option Value)} {oc11 kV11 dc11 pm11 cd11 ct11 : Value}
    (a11 : PySem.W.nsIn K mainGlobals "_law_read" = some (some (.ref f11))) (l11 : K.lookup f11 = some ⟨oc11, od11, .func (PySem.W.fnOf "_law_read" "_law_read" (defArgs st_l_read) (defBody st_l_read) (defScope st_l_read) .none kV11 dc11 pm11 an11 cd11 ct11), sl11⟩) (c11 : PySem.W.codeIn K cd11 "_law_read" = true) (k11 : PySem.W.keepIn K (.ref f11) = true)
    {f12 : Addr} {od12 an12 : Option Addr} {sl12 : Array (Option Value)} {oc12 kV12 dc12 pm12 cd12 ct12 : Value}
    (a12 : PySem.W.nsIn K mainGlobals "_law_row" = some (some (.ref f12))) (l12 : K.lookup f12 = some ⟨oc12, od12, .func (PySem.W.fnOf "_law_row" "_law_row" (defArgs st_l_row) (defBody st_l_row) (defScope st_l_row) .none kV12 dc12 pm12 an12 cd12 ct12), sl12⟩) (c12 : PySem.W.codeIn K cd12 "_law_row" = true) (k12 : PySem.W.keepIn K (.ref f12) = true)
    {f13 : Addr} {od13 an13 : Option Addr} {sl13 : Array (Option Value)} {oc13 kV13 dc13 pm13 cd13 ct13 : Value}
    (a13 : PySem.W.nsIn K mainGlobals "_law_spoilt" = some (some (.ref f13))) (l13 : K.lookup f13 = some ⟨oc13, od13, .func (PySem.W.fnOf "_law_spoilt" "_law_spoilt" (defArgs st_l_spoilt) (defBody st_l_spoilt) (defScope st_l_spoilt) .none kV13 dc13 pm13 an13 cd13 ct13), sl13⟩) (c13 : PySem.W.codeIn K cd13 "_law_spoilt" = true) (k13 : PySem.W.keepIn K (.ref f13) = true)
    {f14 : Addr} {od14 an14 : Option Addr} {sl14 : Array (Option Value)} {oc14 kV14 dc14 pm14 cd14 ct14 : Value}
    (a14 : PySem.W.nsIn K mainGlobals "_law_told_of_row" = some (some (.ref f14))) (l14 : K.lookup f14 = some ⟨oc14, od14, .func (PySem.W.fnOf "_law_told_of_row" "_law_told_of_row" (defArgs st_l_told_of_row) (defBody st_l_told_of_row) (defScope st_l_told_of_row) .none kV14 dc14 pm14 an14 cd14 ct14), sl14⟩) (c14 : PySem.W.codeIn K cd14 "_law_told_of_row" = true) (k14 : PySem.W.keepIn K (.ref f14) = true)
    {f15 : Addr} {od15 an15 : Option Addr} {sl15 : Array (Option Value)} {oc15 kV15 dc15 pm15 cd15 ct15 : Value}
    (a15 : PySem.W.nsIn K mainGlobals "law" = some (some (.ref f15))) (l15 : K.lookup f15 = some ⟨oc15, od15, .func (PySem.W.fnOf "law" "law" (defArgs st_law) (defBody st_law) (defScope st_law) .none kV15 dc15 pm15 an15 cd15 ct15), sl15⟩) (c15 : PySem.W.codeIn K cd15 "law" = true) (k15 : PySem.W.keepIn K (.ref f15) = true)
    (z0 : PySem.W.nsIn K mainGlobals "all" = some none)
    (z1 : PySem.W.nsIn K mainGlobals "bool" = some none)
    (z2 : PySem.W.nsIn K mainGlobals "int" = some none)
    (z3 : PySem.W.nsIn K mainGlobals "isinstance" = some none)
    (z4 : PySem.W.nsIn K mainGlobals "len" = some none)
    (z5 : PySem.W.nsIn K mainGlobals "list" = some none)
    (z6 : PySem.W.nsIn K mainGlobals "range" = some none)
    (z7 : PySem.W.nsIn K mainGlobals "str" = some none)
    (z8 : PySem.W.nsIn K mainGlobals "tuple" = some none)
    (z9 : PySem.W.nsIn K mainGlobals "zip" = some none)
    {t0 : Tok} (y0 : PySem.W.nsIn K mainGlobals "FIGURES" = some (some (.str "0123456789" t0)))
    {t1 : Tok} (y1 : PySem.W.nsIn K mainGlobals "LETTERS" = some (some (.str "abcdefghijklmnopqrstuvwxyz" t1)))
    {t2 : Tok} (y2 : PySem.W.nsIn K mainGlobals "LONGEST" = some (some (.int 8 t2)))
    {t3 : Tok} (y3 : PySem.W.nsIn K mainGlobals "MOST_FIGURES" = some (some (.int 10 t3)))
    {DSHAPES : Addr} {esSHAPES : Array DictEntry} {nnSHAPES : Nat} (y4 : PySem.W.nsIn K mainGlobals "SHAPES" = some (some (.ref DSHAPES))) (kLSHAPES : K.lookup DSHAPES = some ⟨.type "dict", none, .dict esSHAPES nnSHAPES, #[]⟩) (kKSHAPES : PySem.W.KeysLit w.params esSHAPES.toList) (klSHAPES : (DSHAPES == sysModules) = false) (kESHAPES : esSHAPES.toList.map entS = tab_SHAPES.map some)
    {XBadName : Addr} (aXBadName : PySem.W.nsIn K mainGlobals "BadName" = some (some (.ref XBadName)))
    {XNoDeed : Addr} (aXNoDeed : PySem.W.nsIn K mainGlobals "NoDeed" = some (some (.ref XNoDeed)))
    {XNoPage : Addr} (aXNoPage : PySem.W.nsIn K mainGlobals "NoPage" = some (some (.ref XNoPage)))
    {XOutError : Addr} (aXOutError : PySem.W.nsIn K mainGlobals "OutError" = some (some (.ref XOutError)))
    {n1NoDeed n2NoDeed : Str} {NNoDeed BNoDeed INoDeed : Addr} {bsNoDeed subNoDeed : List Value} {snNoDeed : List Str} {abNoDeed : Bool} {coNoDeed : Option Bool} {ddNoDeed odNoDeed anNoDeed : Option Addr} {k0NoDeed k1NoDeed k2NoDeed k3NoDeed k5NoDeed : Option Value} {ocNoDeed kVNoDeed dcNoDeed pmNoDeed cdNoDeed ctNoDeed : Value} {slNoDeed : Array (Option Value)}
    (xLNoDeed : K.lookup XNoDeed = some (excClassObj n1NoDeed n2NoDeed XNoDeed NNoDeed bsNoDeed [.ref BNoDeed, .type "ValueError", .type "Exception", .type "BaseException", .type "object"] true snNoDeed subNoDeed abNoDeed coNoDeed ddNoDeed k0NoDeed k1NoDeed k2NoDeed k3NoDeed k5NoDeed "ValueError.__new__"))
    (saNoDeed : PySem.W.findIn K (.ref XNoDeed) "__setattr__" = some (some (.builtin "object.__setattr__")))
    (gaNoDeed : PySem.W.findIn K (.ref XNoDeed) "__getattribute__" = some (some (.builtin "BaseException.__getattribute__")))
    (ggNoDeed : PySem.W.findIn K (.ref XNoDeed) "__getattr__" = some none)
    (nwNoDeed : PySem.W.findIn K (.ref XNoDeed) "word" = some none)
    (iCNoDeed : PySem.W.findIn K (.ref XNoDeed) "__init__" = some (some (.ref INoDeed)))
    (tINoDeed : PySem.W.typeIn K (.ref INoDeed) = some (.type "function"))
    (lINoDeed : K.lookup INoDeed = some ⟨ocNoDeed, odNoDeed, .func (PySem.W.fnOf "__init__" "NoDeed.__init__" (defArgs st_XNoDeed) (defBody st_XNoDeed) (defScope st_XNoDeed) .none kVNoDeed dcNoDeed pmNoDeed anNoDeed cdNoDeed ctNoDeed), slNoDeed⟩)
    (cINoDeed : PySem.W.codeIn K cdNoDeed "NoDeed.__init__" = true)
    (kINoDeed : PySem.W.keepIn K (.ref INoDeed) = true)
    (kCNoDeed : PySem.W.keepIn K (.ref XNoDeed) = true)
    (eCNoDeed : PySem.W.subIn K (.ref XNoDeed) (.type "BaseException") = some true)
    (tCNoDeed : PySem.W.typeIn K (.ref XNoDeed) = some (.type "type"))
    (cCNoDeed : PySem.W.isClsIn K XNoDeed = true)
    (sDNoDeed : PySem.W.subIn K (.ref XNoDeed) (.ref XNoDeed) = some true)
    (haNoDeed : PySem.W.findIn K (.ref XNoDeed) "__class__" = some (some (.builtin "object.__class__")))
    (hmNoDeed : PySem.W.mroIn K XNoDeed (.type "object") = some true)
    (hnX : PySem.W.specialIn K (.builtin "object.__class__") "__get__" = some (some (.builtin "getset_descriptor.__get__"))) (htX : PySem.W.takesIn K (.builtin "object.__class__") = some true)
    (dEOutError : PySem.W.hasDictIn K XOutError = true) (eEOutError : PySem.W.subIn K (.ref XOutError) (.type "BaseException") = some true) (tEOutError : PySem.W.typeIn K (.ref XOutError) = some (.type "type"))
    (sEOutErrorNoDeed : PySem.W.subIn K (.ref XNoDeed) (.ref XOutError) = some true)
    (iIBadName : PySem.W.isClsIn K XBadName = true) (tI_BadName : PySem.W.typeIn K (.ref XBadName) = some (.type "type"))
    (kIBadNameNoDeed : PySem.W.subIn K (.ref XNoDeed) (.ref XBadName) = some false)
    (iINoDeed : PySem.W.isClsIn K XNoDeed = true) (tI_NoDeed : PySem.W.typeIn K (.ref XNoDeed) = some (.type "type"))
    (kINoDeedNoDeed : PySem.W.subIn K (.ref XNoDeed) (.ref XNoDeed) = some true)
    (iINoPage : PySem.W.isClsIn K XNoPage = true) (tI_NoPage : PySem.W.typeIn K (.ref XNoPage) = some (.type "type"))
    (kINoPageNoDeed : PySem.W.subIn K (.ref XNoDeed) (.ref XNoPage) = some false)
    : ∃ fd : FuncData, (∀ (s : Shared) (v : Value), BindsTo s fd ⟨[v], []⟩ [("_law_script", v)]) ∧ ∀ base : Heap, K.In base → base.Ns mainGlobals mg → FnOk l.prog w K mg base CX0 9 fa fd ["_law_script"] (spOf0 K) := by
  have e := hfa.symm.trans (PySem.W.mg_of X G a15)
  cases e
  have F1 := fun_mk (st := st_p_is_name) l1 c1 k1
  have F2 := fun_mk (st := st_p_is_number) l2 c2 k2
  have F3 := fun_mk (st := st_p_number_in) l3 c3 k3
  have F4 := fun_mk (st := st_p_deed_of) l4 c4 k4
  have F5 := fun_mk (st := st_l_box) l5 c5 k5
  have F6 := fun_mk (st := st_l_take) l6 c6 k6
  have F7 := fun_mk (st := st_l_same) l7 c7 k7
  have F8 := fun_mk (st := st_l_names) l8 c8 k8
  have F9 := fun_mk (st := st_l_named) l9 c9 k9
  have F10 := fun_mk (st := st_l_is_number) l10 c10 k10
  have F11 := fun_mk (st := st_l_read) l11 c11 k11
  have F12 := fun_mk (st := st_l_row) l12 c12 k12
  have F13 := fun_mk (st := st_l_spoilt) l13 c13 k13
  have F14 := fun_mk (st := st_l_told_of_row) l14 c14 k14
  have F15 := fun_mk (st := st_law) l15 c15 k15
  have b1 := F1.binds (ps := ["word"]) fun _ _ _ _ _ _ us hl => match us, hl with | [_], _ => rfl
  have b2 := F2.binds (ps := ["word"]) fun _ _ _ _ _ _ us hl => match us, hl with | [_], _ => rfl
  have b3 := F3.binds (ps := ["word"]) fun _ _ _ _ _ _ us hl => match us, hl with | [_], _ => rfl
  have b4 := F4.binds (ps := ["text"]) fun _ _ _ _ _ _ us hl => match us, hl with | [_], _ => rfl
  have b5 := F5.binds (ps := ["_law_script"]) fun _ _ _ _ _ _ us hl => match us, hl with | [_], _ => rfl
  have b6 := F6.binds (ps := ["_law_box_here", "_law_many"]) fun _ _ _ _ _ _ us hl => match us, hl with | [_, _], _ => rfl
  have b7 := F7.binds (ps := ["_law_found", "_law_due"]) fun _ _ _ _ _ _ us hl => match us, hl with | [_, _], _ => rfl
  have b8 := F8.binds (ps := ["_law_box_here", "_law_many"]) fun _ _ _ _ _ _ us hl => match us, hl with | [_, _], _ => rfl
  have b9 := F9.binds (ps := ["_law_word"]) fun _ _ _ _ _ _ us hl => match us, hl with | [_], _ => rfl
  have b10 := F10.binds (ps := ["_law_word"]) fun _ _ _ _ _ _ us hl => match us, hl with | [_], _ => rfl
  have b11 := F11.binds (ps := ["_law_text"]) fun _ _ _ _ _ _ us hl => match us, hl with | [_], _ => rfl
  have b12 := F12.binds (ps := ["_law_box_here"]) fun _ _ _ _ _ _ us hl => match us, hl with | [_], _ => rfl
  have b13 := F13.binds (ps := ["_law_box_here", "_law_words"]) fun _ _ _ _ _ _ us hl => match us, hl with | [_, _], _ => rfl
  have b14 := F14.binds (ps := ["_law_text"]) fun _ _ _ _ _ _ us hl => match us, hl with | [_], _ => rfl
  have m_all := PySem.W.mg_none_of X G z0
  have m_bool := PySem.W.mg_none_of X G z1
  have m_int := PySem.W.mg_none_of X G z2
  have m_isinstance := PySem.W.mg_none_of X G z3
  have m_len := PySem.W.mg_none_of X G z4
  have m_list := PySem.W.mg_none_of X G z5
  have m_range := PySem.W.mg_none_of X G z6
  have m_str := PySem.W.mg_none_of X G z7
  have m_tuple := PySem.W.mg_none_of X G z8
  have m_zip := PySem.W.mg_none_of X G z9
  have m_FIGURES : ConS mg "FIGURES" "0123456789" := ⟨_, PySem.W.mg_of X G y0⟩
  have m_LETTERS : ConS mg "LETTERS" "abcdefghijklmnopqrstuvwxyz" := ⟨_, PySem.W.mg_of X G y1⟩
  have m_LONGEST : ConI K mg "LONGEST" 8 := ⟨_, PySem.W.mg_of X G y2⟩
  have m_MOST_FIGURES : ConI K mg "MOST_FIGURES" 10 := ⟨_, PySem.W.mg_of X G y3⟩
  have m_SHAPES : ConD K w mg "SHAPES" tab_SHAPES := conD_of (PySem.W.mg_of X G y4) ⟨kLSHAPES, kKSHAPES, klSHAPES⟩ kESHAPES
  have FINoDeed := fun_mk (st := st_XNoDeed) lINoDeed cINoDeed kINoDeed
  have bINoDeed := FINoDeed.binds (ps := ["self"]) fun _ _ _ _ _ _ us hl => match us, hl with | [_], _ => rfl
  have ONoDeed : OexC K XNoDeed := ⟨⟨_, _, _, _, _, _, _, _, _, _, _, _, _, _, _, xLNoDeed, rfl⟩, saNoDeed, eCNoDeed, tCNoDeed, kCNoDeed⟩
  have TNoDeed : ExcT K XNoDeed := ⟨cCNoDeed, gaNoDeed, ggNoDeed, eCNoDeed, haNoDeed, hnX, htX, hmNoDeed⟩
  have E_OutError : ∃ C, mg "OutError" = some (.ref C) ∧ ExTab K mg ["NoDeed"] (.ref C) := ⟨XOutError, PySem.W.mg_of X G aXOutError, by
    intro n D hn hm
    simp only [List.mem_cons, List.not_mem_nil, or_false] at hn
    rcases hn with rfl
    · cases hm.symm.trans (PySem.W.mg_of X G aXNoDeed)
      exact PySem.W.exm_ref eEOutError dEOutError tEOutError sEOutErrorNoDeed
  ⟩
  have I_BadName : ∃ C, mg "BadName" = some (.ref C) ∧ IsTab K mg ["NoDeed"] (.ref C) (fun n => n == "BadName") := ⟨XBadName, PySem.W.mg_of X G aXBadName, by
    intro n D hn hm
    simp only [List.mem_cons, List.not_mem_nil, or_false] at hn
    rcases hn with rfl
    · cases hm.symm.trans (PySem.W.mg_of X G aXNoDeed)
      exact ⟨TNoDeed, kit_own iIBadName tI_BadName sDNoDeed kIBadNameNoDeed⟩
  ⟩
  have I_NoDeed : ∃ C, mg "NoDeed" = some (.ref C) ∧ IsTab K mg ["NoDeed"] (.ref C) (fun n => n == "NoDeed") := ⟨XNoDeed, PySem.W.mg_of X G aXNoDeed, by
    intro n D hn hm
    simp only [List.mem_cons, List.not_mem_nil, or_false] at hn
    rcases hn with rfl
    · cases hm.symm.trans (PySem.W.mg_of X G aXNoDeed)
      exact ⟨TNoDeed, kit_own iINoDeed tI_NoDeed sDNoDeed kINoDeedNoDeed⟩
  ⟩
  have I_NoPage : ∃ C, mg "NoPage" = some (.ref C) ∧ IsTab K mg ["NoDeed"] (.ref C) (fun n => n == "NoPage") := ⟨XNoPage, PySem.W.mg_of X G aXNoPage, by
    intro n D hn hm
    simp only [List.mem_cons, List.not_mem_nil, or_false] at hn
    rcases hn with rfl
    · cases hm.symm.trans (PySem.W.mg_of X G aXNoDeed)
      exact ⟨TNoDeed, kit_own iINoPage tI_NoPage sDNoDeed kINoPageNoDeed⟩
  ⟩
  refine ⟨PySem.W.fnOf "law" "law" (defArgs st_law) (defBody st_law) (defScope st_law) .none kV15 dc15 pm15 an15 cd15 ct15, fun s v => .of_eq rfl, fun base _ _ => ?_⟩
  have X_NoDeed : ExcF l.prog w K mg base "NoDeed" := ⟨XNoDeed, INoDeed, _, PySem.W.mg_of X G aXNoDeed, ONoDeed, nwNoDeed, iCNoDeed, tINoDeed, exc_init FINoDeed sc_XNoDeed rfl rfl, bINoDeed⟩
  have C_p_is_name : Cal l.prog w K mg base "is_name" ["word"] 1 S_p_is_name := Cal.mk' F1 (ok_p_is_name F1 m_len m_LONGEST m_LETTERS) (PySem.W.mg_of X G a1) b1
  have C_p_is_number : Cal l.prog w K mg base "is_number" ["word"] 1 S_p_is_number := Cal.mk' F2 (ok_p_is_number F2 m_len m_MOST_FIGURES m_FIGURES) (PySem.W.mg_of X G a2) b2
  have C_p_number_in : CalX l.prog w K mg base "number_in" ["word"] 3 S_p_number_in := CalX.mk' F3 (ok_p_number_in F3 C_p_is_number X_NoDeed m_int) (PySem.W.mg_of X G a3) b3
  have C_p_deed_of : CalX l.prog w K mg base "deed_of" ["text"] 4 S_p_deed_of := CalX.mk' F4 (ok_p_deed_of F4 C_p_is_name C_p_number_in X_NoDeed m_zip m_tuple m_len m_SHAPES) (PySem.W.mg_of X G a4) b4
  have B_box : FnOk l.prog w K mg base CX0 1 f5 _ ["_law_script"] (spBox K) := ok_l_box F5 m_list
  have C_l_take : Cal l.prog w K mg base "_law_take" ["_law_box_here", "_law_many"] 1 S_l_take := Cal.mk' F6 (ok_l_take F6 m_len) (PySem.W.mg_of X G a6) b6
  have C_l_same : Cal l.prog w K mg base "_law_same" ["_law_found", "_law_due"] 8 (S_same 8) := Cal.mk' F7 (ok_l_same b7 (PySem.W.mg_of X G a7) F7 m_isinstance m_list m_tuple m_all m_bool m_int m_str m_len m_zip) (PySem.W.mg_of X G a7) b7
  have C_l_names : Cal l.prog w K mg base "_law_names" ["_law_box_here", "_law_many"] 2 S_l_names := Cal.mk' F8 (ok_l_names F8 C_l_take m_range m_list) (PySem.W.mg_of X G a8) b8
  have C_l_named : Cal l.prog w K mg base "_law_named" ["_law_word"] 1 S_l_named := Cal.mk' F9 (ok_l_named F9 m_all m_len) (PySem.W.mg_of X G a9) b9
  have C_l_is_number : Cal l.prog w K mg base "_law_is_number" ["_law_word"] 1 S_l_is_number := Cal.mk' F10 (ok_l_is_number F10 m_all m_len) (PySem.W.mg_of X G a10) b10
  have C_l_read : Cal l.prog w K mg base "_law_read" ["_law_text"] 2 S_l_read := Cal.mk' F11 (ok_l_read F11 C_l_is_number C_l_named m_range m_tuple m_len m_int) (PySem.W.mg_of X G a11) b11
  have C_l_row : Cal l.prog w K mg base "_law_row" ["_law_box_here"] 3 S_l_row := Cal.mk' F12 (ok_l_row F12 C_l_names C_l_take m_str m_int) (PySem.W.mg_of X G a12) b12
  have C_l_spoilt : Cal l.prog w K mg base "_law_spoilt" ["_law_box_here", "_law_words"] 2 S_l_spoilt := Cal.mk' F13 (ok_l_spoilt F13 C_l_take m_len) (PySem.W.mg_of X G a13) b13
  have C_l_told_of_row : Cal l.prog w K mg base "_law_told_of_row" ["_law_text"] 5 S_l_told_of_row := Cal.mk' F14 (ok_l_told_of_row F14 C_p_deed_of E_OutError I_NoDeed I_NoPage I_BadName m_isinstance) (PySem.W.mg_of X G a14) b14
  exact ok_law F15 B_box (PySem.W.mg_of X G a5) k5 b5 C_l_same C_l_row C_l_told_of_row C_l_take C_l_spoilt C_l_read m_range
end Dd
open PySem PySem.W PyProof.Rows
set_option maxRecDepth 100000 in
set_option maxHeartbeats 0 in
theorem PySem.Challenge.cw_outlivers_k52_rows_read_or_refused_holds : PySem.Challenge.rw_outlivers_k52_rows_read_or_refused.Holds := by
  w_on; o_law; k_head; (case hw => w_witness2)
  k_fill
  refine L2.walk_of (l := PySem.Challenge.rw_outlivers_k52_rows_read_or_refused) (n := 63) (k := 9) (x := "_law_script") (CX := fun _ => L2.CX0) (sp := fun w => Dd.spOf0 _) rfl (by decide) rfl ⟨rfl, by decide, by decide⟩ (fun w h Y => PySem.W.kIn_of Y) ?F (fun _ _ a ns hl _ hS => ⟨a, ns, rfl, hS, hl, fun _ => rfl⟩) (fun _ _ _ _ _ h => h)
  case F =>
    intro w mg fa h KX G hmg
    refine' Dd.all_mk KX G hmg ?a1 ?l1 ?c1 ?k1 ?a2 ?l2 ?c2 ?k2 ?a3 ?l3 ?c3 ?k3 ?a4 ?l4 ?c4 ?k4 ?a5 ?l5 ?c5 ?k5 ?a6 ?l6 ?c6 ?k6 ?a7 ?l7 ?c7 ?k7 ?a8 ?l8 ?c8 ?k8 ?a9 ?l9 ?c9 ?k9 ?a10 ?l10 ?c10 ?k10 ?a11 ?l11 ?c11 ?k11 ?a12 ?l12 ?c12 ?k12 ?a13 ?l13 ?c13 ?k13 ?a14 ?l14 ?c14 ?k14 ?a15 ?l15 ?c15 ?k15 ?z0 ?z1 ?z2 ?z3 ?z4 ?z5 ?z6 ?z7 ?z8 ?z9 ?y0 ?y1 ?y2 ?y3 ?y4 ?kLSHAPES ?kKSHAPES ?klSHAPES ?kESHAPES ?aXBadName ?aXNoDeed ?aXNoPage ?aXOutError ?xLNoDeed ?saNoDeed ?gaNoDeed ?ggNoDeed ?nwNoDeed ?iCNoDeed ?tINoDeed ?lINoDeed ?cINoDeed ?kINoDeed ?kCNoDeed ?eCNoDeed ?tCNoDeed ?cCNoDeed ?sDNoDeed ?haNoDeed ?hmNoDeed ?hnX ?htX ?dEOutError ?eEOutError ?tEOutError ?sEOutErrorNoDeed ?iIBadName ?tI_BadName ?kIBadNameNoDeed ?iINoDeed ?tI_NoDeed ?kINoDeedNoDeed ?iINoPage ?tI_NoPage ?kINoPageNoDeed
    (case a1 => k_is)
    (case l1 => k_is)
    (case c1 => k_is)
    (case k1 => k_is)
    (case a2 => k_is)
    (case l2 => k_is)
    (case c2 => k_is)
    (case k2 => k_is)
    (case a3 => k_is)
    (case l3 => k_is)
    (case c3 => k_is)
    (case k3 => k_is)
    (case a4 => k_is)
    (case l4 => k_is)
    (case c4 => k_is)
    (case k4 => k_is)
    (case a5 => k_is)
    (case l5 => k_is)
    (case c5 => k_is)
    (case k5 => k_is)
    (case a6 => k_is)
    (case l6 => k_is)
    (case c6 => k_is)
    (case k6 => k_is)
    (case a7 => k_is)
    (case l7 => k_is)
    (case c7 => k_is)
    (case k7 => k_is)
    (case a8 => k_is)
    (case l8 => k_is)
    (case c8 => k_is)
    (case k8 => k_is)
    (case a9 => k_is)
    (case l9 => k_is)
    (case c9 => k_is)
    (case k9 => k_is)
    (case a10 => k_is)
    (case l10 => k_is)
    (case c10 => k_is)
    (case k10 => k_is)
    (case a11 => k_is)
    (case l11 => k_is)
    (case c11 => k_is)
    (case k11 => k_is)
    (case a12 => k_is)
    (case l12 => k_is)
    (case c12 => k_is)
    (case k12 => k_is)
    (case a13 => k_is)
    (case l13 => k_is)
    (case c13 => k_is)
    (case k13 => k_is)
    (case a14 => k_is)
    (case l14 => k_is)
    (case c14 => k_is)
    (case k14 => k_is)
    (case a15 => k_is)
    (case l15 => k_is)
    (case c15 => k_is)
    (case k15 => k_is)
    (case z0 => k_is)
    (case z1 => k_is)
    (case z2 => k_is)
    (case z3 => k_is)
    (case z4 => k_is)
    (case z5 => k_is)
    (case z6 => k_is)
    (case z7 => k_is)
    (case z8 => k_is)
    (case z9 => k_is)
    (case y0 => k_is)
    (case y1 => k_is)
    (case y2 => k_is)
    (case y3 => k_is)
    (case y4 => k_is)
    (case kLSHAPES => k_is)
    (case kKSHAPES => repeat (first | exact trivial | refine ⟨⟨_, _, rfl, rfl⟩, ?_⟩))
    (case klSHAPES => first | rfl | decide +kernel | k_is)
    (case kESHAPES => first | rfl | decide +kernel)
    (case aXBadName => k_is)
    (case aXNoDeed => k_is)
    (case aXNoPage => k_is)
    (case aXOutError => k_is)
    (case xLNoDeed => k_is)
    (case saNoDeed => k_is)
    (case gaNoDeed => k_is)
    (case ggNoDeed => k_is)
    (case nwNoDeed => k_is)
    (case iCNoDeed => k_is)
    (case tINoDeed => k_is)
    (case lINoDeed => k_is)
    (case cINoDeed => k_is)
    (case kINoDeed => k_is)
    (case kCNoDeed => k_is)
    (case eCNoDeed => k_is)
    (case tCNoDeed => k_is)
    (case cCNoDeed => k_is)
    (case sDNoDeed => k_is)
    (case haNoDeed => k_is)
    (case hmNoDeed => k_is)
    (case hnX => k_is)
    (case htX => k_is)
    (case dEOutError => k_is)
    (case eEOutError => k_is)
    (case tEOutError => k_is)
    (case sEOutErrorNoDeed => k_is)
    (case iIBadName => k_is)
    (case tI_BadName => k_is)
    (case kIBadNameNoDeed => k_is)
    (case iINoDeed => k_is)
    (case tI_NoDeed => k_is)
    (case kINoDeedNoDeed => k_is)
    (case iINoPage => k_is)
    (case tI_NoPage => k_is)
    (case kINoPageNoDeed => k_is)
#print axioms PySem.Challenge.cw_outlivers_k52_rows_read_or_refused_holds

