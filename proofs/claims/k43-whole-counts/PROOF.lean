import PyProof.Rows.All
import Wide.All
import OpenK.AllK
import Wide.FinOn
import HandS.ForMost
import HandS.Wide
import HandS.SortKw
import HandS.SortInts
import HandS.SortRule
import HandS.Style
import HandS.StrMore
import HandS.Conv
import HandS.More
import HandS.IsInst
import HandS.RevRange
import HandS.Flow
import PyProof.DictCompW
import KE.KDictWalk
import KE.KDictDisplayH
import HandS.Iter
import HandS.Dict
import HandS.DictComp
import PySem.Challenge.RW_barebough_k43_whole_counts
set_option Elab.async false
set_option linter.all false
set_option maxRecDepth 100000
set_option autoImplicit false
set_option maxHeartbeats 4000000
/-! Dl1: a data layer over the hand layer. D: immutable data; G: the part of the heap that holds it and never changes again; W: what others own and must stay; Sl: what a slot holds (data, an own list, a raw value). -/
namespace Dl
open PySem PySem.Spec L2

inductive D where
  | non | bl (b : Bool) | int (i : Int) | str (s : Str)
  | lst (xs : List D) | tup (xs : List D)
  | dk (ks : List Key) (xs : List D) | dt (ks : List (List Key)) (xs : List D)
  | dz (ks : List (List Key)) (xs : List D)
  | obj (C : Addr) (fs : List Str) (xs : List D)

def Ex (H H' : Hp) : Prop := ∀ a o, H a = some o → H' a = some o
theorem Ex.refl (H : Hp) : Ex H H := fun _ _ h => h
theorem Ex.trans {H H1 H2 : Hp} (a : Ex H H1) (b : Ex H1 H2) : Ex H H2 := fun x o h => b x o (a x o h)
theorem Ex.new {H : Hp} {p : Addr} {o : HO} (h : H p = none) : Ex H (upd H p o) := fun a u e => by
  rw [upd_ne (ne_of_none e h)]
  exact e

mutual
inductive Rp (G : Hp) : V → D → Prop
  | non : Rp G .non .non
  | bl (b : Bool) : Rp G (.bl b) (.bl b)
  | int (i : Int) : Rp G (.int i) (.int i)
  | str (x : Str) : Rp G (.str x) (.str x)
  | lst {a : Addr} {vs : List V} {ds : List D} : G a = some (.lst vs) → RpL G vs ds → Rp G (.ref a) (.lst ds)
  | tup {a : Addr} {vs : List V} {ds : List D} : G a = some (.tup vs) → RpL G vs ds → Rp G (.ref a) (.tup ds)
  | dk {a : Addr} {ks : List Key} {vs : List V} {ds : List D} : G a = some (.dK (ks.zip vs)) → ks.length = vs.length → RpL G vs ds → Rp G (.ref a) (.dk ks ds)
  | dt {a : Addr} {ks : List (List Key)} {vs : List V} {ds : List D} : G a = some (.dT (ks.zip vs)) → ks.length = vs.length → RpL G vs ds → Rp G (.ref a) (.dt ks ds)
  | dz {a : Addr} {o : Obj} {ks : List (List Key)} {vs : List V} {ds : List D} : G a = some (.frz o (.dT (ks.zip vs))) → ks.length = vs.length → RpL G vs ds → Rp G (.ref a) (.dz ks ds)
  | obj {a C dx : Addr} {fs : List Str} {vs : List V} {ds : List D} : G a = some (.ins C dx (fs.zip vs)) → fs.length = vs.length → RpL G vs ds → Rp G (.ref a) (.obj C fs ds)
inductive RpL (G : Hp) : List V → List D → Prop
  | nil : RpL G [] []
  | cons {v : V} {vs : List V} {d : D} {ds : List D} : Rp G v d → RpL G vs ds → RpL G (v :: vs) (d :: ds)
end

mutual
theorem Rp.mono {G G' : Hp} (e : Ex G G') : ∀ {v : V} {d : D}, Rp G v d → Rp G' v d
  | _, _, .non => .non
  | _, _, .bl b => .bl b
  | _, _, .int i => .int i
  | _, _, .str x => .str x
  | _, _, .lst h r => .lst (e _ _ h) (RpL.mono e r)
  | _, _, .tup h r => .tup (e _ _ h) (RpL.mono e r)
  | _, _, .dk h l r => .dk (e _ _ h) l (RpL.mono e r)
  | _, _, .dt h l r => .dt (e _ _ h) l (RpL.mono e r)
  | _, _, .dz h l r => .dz (e _ _ h) l (RpL.mono e r)
  | _, _, .obj h l r => .obj (e _ _ h) l (RpL.mono e r)
theorem RpL.mono {G G' : Hp} (e : Ex G G') : ∀ {vs : List V} {ds : List D}, RpL G vs ds → RpL G' vs ds
  | _, _, .nil => .nil
  | _, _, .cons h r => .cons (Rp.mono e h) (RpL.mono e r)
end
theorem RpL.length {G : Hp} : ∀ {vs : List V} {ds : List D}, RpL G vs ds → vs.length = ds.length
  | _, _, .nil => rfl
  | _, _, .cons _ r => by simp only [List.length_cons, RpL.length r]
theorem RpL.get {G : Hp} : ∀ {vs : List V} {ds : List D} {i : Nat} {d : D}, RpL G vs ds → ds[i]? = some d → ∃ v, vs[i]? = some v ∧ Rp G v d
  | _, _, i, _, .nil, h => by simp at h
  | _, _, 0, _, .cons r _, h => by simp at h; subst h; exact ⟨_, rfl, r⟩
  | _, _, i + 1, _, .cons _ r, h => by
    simp only [List.getElem?_cons_succ] at h ⊢
    exact RpL.get r h
theorem RpL.get' {G : Hp} : ∀ {vs : List V} {ds : List D} {i : Nat} {v : V}, RpL G vs ds → vs[i]? = some v → ∃ d, ds[i]? = some d ∧ Rp G v d
  | _, _, i, _, .nil, h => by simp at h
  | _, _, 0, _, .cons r _, h => by simp at h; subst h; exact ⟨_, rfl, r⟩
  | _, _, i + 1, _, .cons _ r, h => by
    simp only [List.getElem?_cons_succ] at h ⊢
    exact RpL.get' r h
theorem RpL.append {G : Hp} : ∀ {vs ws : List V} {ds es : List D}, RpL G vs ds → RpL G ws es → RpL G (vs ++ ws) (ds ++ es)
  | _, _, _, _, .nil, h => h
  | _, _, _, _, .cons r t, h => .cons r (RpL.append t h)
theorem RpL.one {G : Hp} {v : V} {d : D} (r : Rp G v d) : RpL G [v] [d] := .cons r .nil
theorem RpL.take {G : Hp} : ∀ {vs : List V} {ds : List D} (n : Nat), RpL G vs ds → RpL G (vs.take n) (ds.take n)
  | _, _, 0, _ => by simp only [List.take_zero]; exact .nil
  | _, _, _ + 1, .nil => by simp only [List.take_nil]; exact .nil
  | _, _, n + 1, .cons r t => by simp only [List.take_succ_cons]; exact .cons r (RpL.take n t)
theorem RpL.drop {G : Hp} : ∀ {vs : List V} {ds : List D} (n : Nat), RpL G vs ds → RpL G (vs.drop n) (ds.drop n)
  | _, _, 0, h => h
  | _, _, _ + 1, .nil => .nil
  | _, _, n + 1, .cons _ t => by simp only [List.drop_succ_cons]; exact RpL.drop n t
theorem RpL.set {G : Hp} {v : V} {d : D} (r : Rp G v d) : ∀ {vs : List V} {ds : List D} (n : Nat), RpL G vs ds → RpL G (vs.set n v) (ds.set n d)
  | _, _, _, .nil => .nil
  | _, _, 0, .cons _ t => .cons r t
  | _, _, n + 1, .cons h t => .cons h (RpL.set r n t)
theorem RpL.reverse {G : Hp} : ∀ {vs : List V} {ds : List D}, RpL G vs ds → RpL G vs.reverse ds.reverse
  | _, _, .nil => .nil
  | _, _, .cons r t => by simp only [List.reverse_cons]; exact RpL.append (RpL.reverse t) (.one r)
theorem RpL.rep {G : Hp} {vs : List V} {ds : List D} (h : RpL G vs ds) : ∀ k : Nat, RpL G (List.replicate k vs).flatten (List.replicate k ds).flatten
  | 0 => .nil
  | k + 1 => by simp only [List.replicate_succ, List.flatten_cons]; exact RpL.append h (RpL.rep h k)
theorem RpL.ints {G : Hp} : ∀ {vs : List V} {ns : List Int}, RpL G vs (ns.map D.int) → vs = ns.map V.int
  | _, [], h => by cases h; rfl
  | _, n :: ns, h => by
    cases h with
    | cons r t => cases r; rw [RpL.ints t]; rfl
theorem RpL.strs {G : Hp} : ∀ {vs : List V} {ns : List Str}, RpL G vs (ns.map D.str) → vs = ns.map V.str
  | _, [], h => by cases h; rfl
  | _, n :: ns, h => by
    cases h with
    | cons r t => cases r; rw [RpL.strs t]; rfl
theorem RpL.bls {G : Hp} : ∀ {vs : List V} {ns : List Bool}, RpL G vs (ns.map D.bl) → vs = ns.map V.bl
  | _, [], h => by cases h; rfl
  | _, n :: ns, h => by
    cases h with
    | cons r t => cases r; rw [RpL.bls t]; rfl
theorem rpL_ints {G : Hp} : ∀ ns : List Int, RpL G (ns.map V.int) (ns.map D.int)
  | [] => .nil
  | n :: ns => .cons (.int n) (rpL_ints ns)
theorem rpL_strs {G : Hp} : ∀ ns : List Str, RpL G (ns.map V.str) (ns.map D.str)
  | [] => .nil
  | n :: ns => .cons (.str n) (rpL_strs ns)

/-- an object of one's own, its items data -/
def RpO (G : Hp) (o : Option HO) : D → Prop
  | .lst ds => ∃ vs, o = some (.lst vs) ∧ RpL G vs ds
  | .dk ks ds => ∃ vs, o = some (.dK (ks.zip vs)) ∧ ks.length = vs.length ∧ RpL G vs ds
  | .dt ks ds => ∃ vs, o = some (.dT (ks.zip vs)) ∧ ks.length = vs.length ∧ RpL G vs ds
  | .obj C fs ds => ∃ dx vs, o = some (.ins C dx (fs.zip vs)) ∧ fs.length = vs.length ∧ RpL G vs ds
  | _ => False
theorem RpO.mono {G G' : Hp} {o : Option HO} (e : Ex G G') : ∀ {d : D}, RpO G o d → RpO G' o d
  | .lst _, ⟨vs, h, r⟩ => ⟨vs, h, r.mono e⟩
  | .dk _ _, ⟨vs, h, l, r⟩ => ⟨vs, h, l, r.mono e⟩
  | .dt _ _, ⟨vs, h, l, r⟩ => ⟨vs, h, l, r.mono e⟩
  | .obj _ _ _, ⟨dx, vs, h, l, r⟩ => ⟨dx, vs, h, l, r.mono e⟩
theorem RpO.some {G : Hp} {o : Option HO} : ∀ {d : D}, RpO G o d → ∃ u, o = some u
  | .lst _, ⟨vs, h, r⟩ => ⟨_, h⟩
  | .dk _ _, ⟨vs, h, l, r⟩ => ⟨_, h⟩
  | .dt _ _, ⟨vs, h, l, r⟩ => ⟨_, h⟩
  | .obj _ _ _, ⟨dx, vs, h, l, r⟩ => ⟨_, h⟩
/-- it is frozen -/
theorem RpO.rp {G G' : Hp} {a : Addr} (e : Ex G G') : ∀ {d : D}, RpO G (G' a) d → Rp G' (.ref a) d
  | .lst _, ⟨vs, h, r⟩ => .lst h (r.mono e)
  | .dk _ _, ⟨vs, h, l, r⟩ => .dk h l (r.mono e)
  | .dt _ _, ⟨vs, h, l, r⟩ => .dt h l (r.mono e)
  | .obj _ _ _, ⟨dx, vs, h, l, r⟩ => .obj h l (r.mono e)
theorem Ex.up {G : Hp} {p : Addr} {o : HO} (h : G p = none) : Ex G (upd G p o) := Ex.new h
def isT : HO → Bool
  | .tup _ => true
  | _ => false
theorem RpO.nt {G : Hp} {o : Option HO} : ∀ {d : D}, RpO G o d → ∃ u, o = Option.some u ∧ isT u = false
  | .lst _, ⟨vs, h, r⟩ => ⟨_, h, rfl⟩
  | .dk _ _, ⟨vs, h, l, r⟩ => ⟨_, h, rfl⟩
  | .dt _ _, ⟨vs, h, l, r⟩ => ⟨_, h, rfl⟩
  | .obj _ _ _, ⟨dx, vs, h, l, r⟩ => ⟨_, h, rfl⟩
/-- a pure step: the heap has grown, what is frozen has grown by new objects alone -/
structure Stp (G H G' H' : Hp) : Prop where
  gg : Ex G G'
  hh : Ex H H'
  gh : Ex G' H'
  fr : ∀ a o, H a = some o → isT o = false → G a = none → G' a = none
theorem Stp.refl {G H : Hp} (e : Ex G H) : Stp G H G H := ⟨Ex.refl G, Ex.refl H, e, fun _ _ _ _ h => h⟩
theorem Stp.trans {G H G1 H1 G2 H2 : Hp} (a : Stp G H G1 H1) (b : Stp G1 H1 G2 H2) : Stp G H G2 H2 :=
  ⟨a.gg.trans b.gg, a.hh.trans b.hh, b.gh, fun x o h t n => b.fr x o (a.hh x o h) t (a.fr x o h t n)⟩
/-- a new object, frozen at once -/
theorem Stp.new {G H : Hp} {p : Addr} {o : HO} (e : Ex G H) (h : H p = none) : Stp G H (upd G p o) (upd H p o) where
  gg := fun a u k => by
    rw [upd_ne (ne_of_none (e a u k) h)]
    exact k
  hh := Ex.new h
  gh := fun a u k => by
    by_cases q : a = p
    · subst q; rw [upd_same] at k ⊢; exact k
    · rw [upd_ne q] at k ⊢; exact e a u k
  fr := fun a u k t n => by
    rw [upd_ne (ne_of_none k h)]
    exact n
/-- a new object, not frozen -/
theorem Stp.own {G H : Hp} {p : Addr} {o : HO} (e : Ex G H) (h : H p = none) : Stp G H G (upd H p o) :=
  ⟨Ex.refl G, Ex.new h, e.trans (Ex.new h), fun _ _ _ _ n => n⟩
/-- what was new is frozen -/
theorem Stp.freeze {G H G' H' : Hp} {p : Addr} {o : HO} (s : Stp G H G' H') (h : H p = none) (h' : H' p = some o) (g' : G' p = none) : Stp G H (upd G' p o) H' where
  gg := fun a u k => by
    have k' := s.gg a u k
    rw [upd_ne (ne_of_none k' g')]
    exact k'
  hh := s.hh
  gh := fun a u k => by
    by_cases q : a = p
    · subst q; rw [upd_same] at k; cases k; exact h'
    · rw [upd_ne q] at k; exact s.gh a u k
  fr := fun a u k t n => by
    rw [upd_ne (ne_of_none k h)]
    exact s.fr a u k t n

inductive Sl where
  | un | dat (d : D) | own (d : D) | raw (v : V) | scr (K : PySem.W.Frag) (ns : List Int)
  | mem (p : Addr) (d : D) | two (d : D) (p : Addr) (e : D)
abbrev Ga := List Sl

structure Ok (G W : Hp) (Γ : Ga) (σ : St) (H : Hp) : Prop where
  g : Ex G H
  w : Ex W H
  dis : ∀ a o, W a = some o → isT o = false → G a = none
  len : σ.length = Γ.length
  dat : ∀ (i : Nat) d, Γ[i]? = some (.dat d) → ∃ v, σ[i]? = some (some v) ∧ Rp G v d
  raw : ∀ (i : Nat) v, Γ[i]? = some (.raw v) → σ[i]? = some (some v)
  own : ∀ (i : Nat) d, Γ[i]? = some (.own d) → ∃ a, σ[i]? = some (some (.ref a)) ∧ G a = none ∧ W a = none ∧ RpO G (H a) d
  scr : ∀ (i : Nat) K ns, Γ[i]? = some (.scr K ns) → ∃ a, σ[i]? = some (some (.ref a)) ∧ SqL K W a (ns.map V.int)
  sep : ∀ (i j : Nat) di dj, i ≠ j → Γ[i]? = some (.own di) → Γ[j]? = some (.own dj) → σ[i]? ≠ σ[j]?
  mem : ∀ (i : Nat) p d, Γ[i]? = some (.mem p d) → σ[i]? = some (some (.ref p)) ∧ G p = none ∧ W p = none ∧ RpO G (H p) d
  sepM : ∀ (i j : Nat) p d e, Γ[i]? = some (.mem p d) → Γ[j]? = some (.own e) → σ[j]? ≠ some (some (.ref p))
theorem Ok.stp {G W H G' H' : Hp} {Γ : Ga} {σ : St} (k : Ok G W Γ σ H) (s : Stp G H G' H') : Ok G' W Γ σ H' where
  g := s.gh
  w := k.w.trans s.hh
  dis := fun a o h t => s.fr a o (k.w a o h) t (k.dis a o h t)
  len := k.len
  dat := fun i d h => by
    obtain ⟨v, h1, h2⟩ := k.dat i d h
    exact ⟨v, h1, h2.mono s.gg⟩
  raw := k.raw
  own := fun i ds h => by
    obtain ⟨a, h1, h2, h3, h4⟩ := k.own i ds h
    obtain ⟨u, hu, nt⟩ := h4.nt
    exact ⟨a, h1, s.fr a _ hu nt h2, h3, by rw [s.hh a _ hu, ← hu]; exact h4.mono s.gg⟩
  scr := k.scr
  sep := k.sep
  mem := fun i p d h => by
    obtain ⟨h1, h2, h3, h4⟩ := k.mem i p d h
    obtain ⟨u, hu, nt⟩ := h4.nt
    exact ⟨h1, s.fr p _ hu nt h2, h3, by rw [s.hh p _ hu, ← hu]; exact h4.mono s.gg⟩
  sepM := k.sepM

/-! ### expressions -/
def EvD (te : TE) (Γ : Ga) (d : D) : Prop := ∀ G W σ H, Ok G W Γ σ H → ∀ Q : VK, (∀ v G' H', Stp G H G' H' → Rp G' v d → Q v H') → te σ H Q
/-- a new object, its own -/
def EvN (te : TE) (Γ : Ga) (d : D) : Prop := ∀ G W σ H, Ok G W Γ σ H → ∀ Q : VK,
  (∀ a G' H', Stp G H G' H' → H a = none → G' a = none → RpO G' (H' a) d → Q (.ref a) H') → te σ H Q
def EvT (tt : TT) (Γ : Ga) (b : Bool) : Prop := ∀ G W σ H, Ok G W Γ σ H → ∀ Q : Bool → Hp → Prop, (∀ G' H', Stp G H G' H' → Q b H') → tt σ H Q
def EvA (ta : TA) (Γ : Ga) (ds : List D) : Prop := ∀ G W σ H, Ok G W Γ σ H → ∀ Q : List V → Hp → Prop, (∀ vs G' H', Stp G H G' H' → RpL G' vs ds → Q vs H') → ta σ H Q
/-- what is read: data, or a list that stands in H with items that are data -/
inductive RpB (G H : Hp) : V → D → Prop
  | dat {v : V} {d : D} : Rp G v d → RpB G H v d
  | own {a : Addr} {d : D} : RpO G (H a) d → RpB G H (.ref a) d
inductive RpLB (G H : Hp) : List V → List D → Prop
  | nil : RpLB G H [] []
  | cons {v : V} {vs : List V} {d : D} {ds : List D} : RpB G H v d → RpLB G H vs ds → RpLB G H (v :: vs) (d :: ds)
theorem RpB.stp {G H G' H' : Hp} {v : V} {d : D} (s : Stp G H G' H') (r : RpB G H v d) : RpB G' H' v d := by
  cases r with
  | dat r => exact .dat (r.mono s.gg)
  | own h =>
    obtain ⟨u, hu⟩ := h.some
    exact .own (by rw [s.hh _ _ hu, ← hu]; exact h.mono s.gg)
theorem RpLB.stp {G H G' H' : Hp} (s : Stp G H G' H') : ∀ {vs : List V} {ds : List D}, RpLB G H vs ds → RpLB G' H' vs ds
  | _, _, .nil => .nil
  | _, _, .cons h t => .cons (h.stp s) (RpLB.stp s t)
theorem RpL.toB {G H : Hp} : ∀ {vs : List V} {ds : List D}, RpL G vs ds → RpLB G H vs ds
  | _, _, .nil => .nil
  | _, _, .cons h t => .cons (.dat h) (RpL.toB t)
theorem RpB.inH {G H : Hp} (e : Ex G H) {v : V} {d : D} (r : RpB G H v d) : Rp H v d := by
  cases r with
  | dat r => exact r.mono e
  | own h => exact h.rp e
theorem RpLB.inH {G H : Hp} (e : Ex G H) : ∀ {vs : List V} {ds : List D}, RpLB G H vs ds → RpL H vs ds
  | _, _, .nil => .nil
  | _, _, .cons h t => .cons (h.inH e) (RpLB.inH e t)
theorem RpB.lst {G H : Hp} (e : Ex G H) {v : V} {ds : List D} (r : RpB G H v (.lst ds)) : ∃ a vs, v = .ref a ∧ H a = some (.lst vs) ∧ RpL G vs ds := by
  cases r with
  | dat r =>
    cases r with
    | lst h t => exact ⟨_, _, rfl, e _ _ h, t⟩
  | own h =>
    obtain ⟨vs, h, t⟩ := h
    exact ⟨_, _, rfl, h, t⟩
theorem RpB.tup {G H : Hp} (e : Ex G H) {v : V} {ds : List D} (r : RpB G H v (.tup ds)) : ∃ a vs, v = .ref a ∧ H a = some (.tup vs) ∧ RpL G vs ds := by
  cases r with
  | dat r =>
    cases r with
    | tup h t => exact ⟨_, _, rfl, e _ _ h, t⟩
  | own h => exact h.elim
/-- read: the value is data, or an own list -/
def EvB (te : TE) (Γ : Ga) (d : D) : Prop := ∀ G W σ H, Ok G W Γ σ H → ∀ Q : VK, (∀ v G' H', Stp G H G' H' → RpB G' H' v d → Q v H') → te σ H Q
def EvAB (ta : TA) (Γ : Ga) (ds : List D) : Prop := ∀ G W σ H, Ok G W Γ σ H → ∀ Q : List V → Hp → Prop, (∀ vs G' H', Stp G H G' H' → RpLB G' H' vs ds → Q vs H') → ta σ H Q
section
variable {te ta tb tc : TE} {tt tu : TT} {Γ : Ga} {d e x y : D} {ds es : List D} {K : PySem.W.Frag}
theorem EvD.rd (h : EvD te Γ d) : EvB te Γ d := fun G W σ H k Q q => h G W σ H k Q fun v G' H' s r => q v G' H' s (.dat r)
theorem EvA.rd {ta : TA} (h : EvA ta Γ ds) : EvAB ta Γ ds := fun G W σ H k Q q => h G W σ H k Q fun v G' H' s r => q v G' H' s r.toB
theorem RpO.frz {G H G' H' : Hp} {a : Addr} (s : Stp G H G' H') (ha : H a = none) (ga : G' a = none) (h : RpO G' (H' a) d) : ∃ G2, Stp G H G2 H' ∧ Ex G' G2 ∧ Rp G2 (.ref a) d := by
  obtain ⟨u, hu⟩ := h.some
  refine ⟨upd G' a u, s.freeze ha hu ga, Ex.up ga, RpO.rp (Ex.up ga) ?_⟩
  rw [upd_same, ← hu]
  exact h
theorem EvN.dt (h : EvN te Γ d) : EvD te Γ d := fun G W σ H k Q q => h G W σ H k Q fun a G' H' s ha ga h' => by
  obtain ⟨G2, s2, _, r⟩ := h'.frz s ha ga
  exact q (.ref a) G2 H' s2 r
theorem EvD.of (h : EvD te Γ d) (e' : d = e) : EvD te Γ e := e' ▸ h
theorem EvN.of (h : EvN te Γ d) (e' : d = e) : EvN te Γ e := e' ▸ h
theorem EvT.of {b c : Bool} (h : EvT tt Γ b) (e' : b = c) : EvT tt Γ c := e' ▸ h
/-- names -/
theorem ev_var {i : Nat} (h : Γ[i]? = some (.dat d)) : EvD (tVar i) Γ d := fun G W σ H k Q q => by
  obtain ⟨v, h1, h2⟩ := k.dat i d h
  exact ⟨v, h1, q v G H (.refl k.g) h2⟩
theorem eb_own {i : Nat} (h : Γ[i]? = some (.own d)) : EvB (tVar i) Γ d := fun G W σ H k Q q => by
  obtain ⟨a, h1, h2, h3, h4⟩ := k.own i d h
  exact ⟨.ref a, h1, q _ G H (.refl k.g) (.own h4)⟩
theorem ev_int {i : Int} : EvD (tC (.int i)) Γ (.int i) := fun G W σ H k Q q => q _ G H (.refl k.g) (.int i)
theorem ev_bl {b : Bool} : EvD (tC (.bl b)) Γ (.bl b) := fun G W σ H k Q q => q _ G H (.refl k.g) (.bl b)
theorem ev_str {x : Str} : EvD (tC (.str x)) Γ (.str x) := fun G W σ H k Q q => q _ G H (.refl k.g) (.str x)
theorem ev_non : EvD (tC .non) Γ .non := fun G W σ H k Q q => q _ G H (.refl k.g) .non
/-- operators by values -/
theorem ev_op {r : R2} (ha : EvB ta Γ x) (hb : EvB tb Γ y) (hr : ∀ G W σ H, Ok G W Γ σ H → ∀ v w, RpB G H v x → RpB G H w y → ∀ Q : VK, (∀ z G' H', Stp G H G' H' → Rp G' z d → Q z H') → r v w H Q) : EvD (tOp r ta tb) Γ d :=
  fun G W σ H k Q q => ha G W σ H k _ fun v G1 H1 s1 r1 => hb G1 W σ H1 (k.stp s1) _ fun w G2 H2 s2 r2 =>
    hr G2 W σ H2 ((k.stp s1).stp s2) v w (r1.stp s2) r2 Q fun z G' H' s3 rz => q z G' H' ((s1.trans s2).trans s3) rz
theorem en_op {r : R2} (ha : EvB ta Γ x) (hb : EvB tb Γ y) (hr : ∀ G W σ H, Ok G W Γ σ H → ∀ v w, RpB G H v x → RpB G H w y → ∀ Q : VK, (∀ a G' H', Stp G H G' H' → H a = none → G' a = none → RpO G' (H' a) d → Q (.ref a) H') → r v w H Q) : EvN (tOp r ta tb) Γ d :=
  fun G W σ H k Q q => ha G W σ H k _ fun v G1 H1 s1 r1 => hb G1 W σ H1 (k.stp s1) _ fun w G2 H2 s2 r2 =>
    hr G2 W σ H2 ((k.stp s1).stp s2) v w (r1.stp s2) r2 Q fun a G' H' s3 ha ga h' =>
      q a G' H' ((s1.trans s2).trans s3) (by
        cases e : H a with
        | none => rfl
        | some o => have := (s1.trans s2).hh a o e; rw [ha] at this; cases this) ga h'
theorem rpI {G H : Hp} {v : V} {i : Int} (r : RpB G H v (.int i)) : v = .int i := by
  cases r with
  | dat r => cases r; rfl
  | own h => exact h.elim
theorem rpB {G H : Hp} {v : V} {i : Bool} (r : RpB G H v (.bl i)) : v = .bl i := by
  cases r with
  | dat r => cases r; rfl
  | own h => exact h.elim
theorem rpS {G H : Hp} {v : V} {i : Str} (r : RpB G H v (.str i)) : v = .str i := by
  cases r with
  | dat r => cases r; rfl
  | own h => exact h.elim
theorem rpN {G H : Hp} {v : V} (r : RpB G H v .non) : v = .non := by
  cases r with
  | dat r => cases r; rfl
  | own h => exact h.elim
theorem rqI {G : Hp} {v : V} {i : Int} (r : Rp G v (.int i)) : v = .int i := by cases r; rfl
theorem rqB {G : Hp} {v : V} {i : Bool} (r : Rp G v (.bl i)) : v = .bl i := by cases r; rfl
theorem rqS {G : Hp} {v : V} {i : Str} (r : Rp G v (.str i)) : v = .str i := by cases r; rfl
theorem rqN {G : Hp} {v : V} (r : Rp G v .non) : v = .non := by cases r; rfl
theorem ev_I0 {g : Int → Int → Int} {i j : Int} (ha : EvD ta Γ (.int i)) (hb : EvD tb Γ (.int j)) : EvD (tOp (rI0 fun i j => .int (g i j)) ta tb) Γ (.int (g i j)) :=
  ev_op ha.rd hb.rd fun G W σ H k v w rv rw Q q => by
    cases rpI rv; cases rpI rw
    exact ⟨i, j, rfl, rfl, q _ G H (.refl k.g) (.int _)⟩
theorem ev_I {C : Int → Int → Prop} {g : Int → Int → Int} {i j : Int} (ha : EvD ta Γ (.int i)) (hb : EvD tb Γ (.int j)) (hc : C i j) : EvD (tOp (rI C fun i j => .int (g i j)) ta tb) Γ (.int (g i j)) :=
  ev_op ha.rd hb.rd fun G W σ H k v w rv rw Q q => by
    cases rpI rv; cases rpI rw
    exact ⟨i, j, rfl, rfl, hc, q _ G H (.refl k.g) (.int _)⟩
theorem ev_C0 {g : Int → Int → Bool} {i j : Int} (ha : EvD ta Γ (.int i)) (hb : EvD tb Γ (.int j)) : EvD (tOp (rI0 fun i j => .bl (g i j)) ta tb) Γ (.bl (g i j)) :=
  ev_op ha.rd hb.rd fun G W σ H k v w rv rw Q q => by
    cases rpI rv; cases rpI rw
    exact ⟨i, j, rfl, rfl, q _ G H (.refl k.g) (.bl _)⟩
theorem ev_neg {i : Int} (ha : EvD ta Γ (.int i)) : EvD (tUn (rU fun i => .int (-i)) ta) Γ (.int (-i)) :=
  fun G W σ H k Q q => ha G W σ H k _ fun v G1 H1 s1 r1 => by
    cases rqI r1
    exact ⟨i, rfl, q _ G1 H1 s1 (.int _)⟩
end
end Dl
/-! Dl2: rules for expressions over Dl1. -/
namespace Dl
open PySem PySem.Spec L2

/-! ### lists of ints, least and greatest, sorted -/
abbrev dI (ns : List Int) : D := .lst (ns.map D.int)
abbrev dS (ns : List Str) : D := .lst (ns.map D.str)
abbrev tupI (ns : List Int) : D := .tup (ns.map D.int)
abbrev maps {α : Type} (f : α → D) (xs : List α) : D := .lst (xs.map f)
def maxI : List Int → Int
  | [] => 0
  | n :: ns => ns.foldl max n
def minI : List Int → Int
  | [] => 0
  | n :: ns => ns.foldl min n
theorem foldl_max_ge : ∀ (ns : List Int) (a : Int), a ≤ ns.foldl max a ∧ ∀ y ∈ ns, y ≤ ns.foldl max a
  | [], a => ⟨Int.le_refl _, fun _ h => nomatch h⟩
  | n :: ns, a => by
    obtain ⟨h1, h2⟩ := foldl_max_ge ns (max a n)
    simp only [List.foldl_cons]
    refine ⟨by omega, fun y hy => ?_⟩
    rcases List.mem_cons.mp hy with rfl | hy
    · omega
    · exact h2 y hy
theorem foldl_max_mem : ∀ (ns : List Int) (a : Int), ns.foldl max a = a ∨ ns.foldl max a ∈ ns
  | [], a => .inl rfl
  | n :: ns, a => by
    simp only [List.foldl_cons]
    rcases foldl_max_mem ns (max a n) with h | h
    · rw [h]
      rcases Int.le_total a n with q | q
      · right; rw [Int.max_eq_right q]; exact List.mem_cons_self
      · left; exact Int.max_eq_left q
    · exact .inr (List.mem_cons_of_mem _ h)
theorem foldl_min_le : ∀ (ns : List Int) (a : Int), ns.foldl min a ≤ a ∧ ∀ y ∈ ns, ns.foldl min a ≤ y
  | [], a => ⟨Int.le_refl _, fun _ h => nomatch h⟩
  | n :: ns, a => by
    obtain ⟨h1, h2⟩ := foldl_min_le ns (min a n)
    simp only [List.foldl_cons]
    refine ⟨by omega, fun y hy => ?_⟩
    rcases List.mem_cons.mp hy with rfl | hy
    · omega
    · exact h2 y hy
theorem foldl_min_mem : ∀ (ns : List Int) (a : Int), ns.foldl min a = a ∨ ns.foldl min a ∈ ns
  | [], a => .inl rfl
  | n :: ns, a => by
    simp only [List.foldl_cons]
    rcases foldl_min_mem ns (min a n) with h | h
    · rw [h]
      rcases Int.le_total a n with q | q
      · left; exact Int.min_eq_left q
      · right; rw [Int.min_eq_right q]; exact List.mem_cons_self
    · exact .inr (List.mem_cons_of_mem _ h)
theorem maxI_ge {ns : List Int} {y : Int} (h : y ∈ ns) : y ≤ maxI ns := by
  cases ns with
  | nil => cases h
  | cons n ns =>
    obtain ⟨h1, h2⟩ := foldl_max_ge ns n
    rcases List.mem_cons.mp h with rfl | h
    · exact h1
    · exact h2 y h
theorem maxI_mem {ns : List Int} (h : 0 < ns.length) : maxI ns ∈ ns := by
  cases ns with
  | nil => cases h
  | cons n ns =>
    show ns.foldl max n ∈ n :: ns
    rcases foldl_max_mem ns n with e | e
    · rw [e]; exact List.mem_cons_self
    · exact List.mem_cons_of_mem _ e
theorem minI_le {ns : List Int} {y : Int} (h : y ∈ ns) : minI ns ≤ y := by
  cases ns with
  | nil => cases h
  | cons n ns =>
    obtain ⟨h1, h2⟩ := foldl_min_le ns n
    rcases List.mem_cons.mp h with rfl | h
    · exact h1
    · exact h2 y h
theorem minI_mem {ns : List Int} (h : 0 < ns.length) : minI ns ∈ ns := by
  cases ns with
  | nil => cases h
  | cons n ns =>
    show ns.foldl min n ∈ n :: ns
    rcases foldl_min_mem ns n with e | e
    · rw [e]; exact List.mem_cons_self
    · exact List.mem_cons_of_mem _ e
theorem maxI_uniq {ns : List Int} {m : Int} (h : m ∈ ns) (k : ∀ y ∈ ns, y ≤ m) : m = maxI ns :=
  Int.le_antisymm (maxI_ge h) (k _ (maxI_mem (List.length_pos_of_mem h)))
theorem minI_uniq {ns : List Int} {m : Int} (h : m ∈ ns) (k : ∀ y ∈ ns, m ≤ y) : m = minI ns :=
  Int.le_antisymm (k _ (minI_mem (List.length_pos_of_mem h))) (minI_le h)
def asc (ns : List Int) : List Int := ns.mergeSort fun a b => decide (a ≤ b)
def dsc (ns : List Int) : List Int := ns.mergeSort fun a b => decide (b ≤ a)
theorem asc_perm (ns : List Int) : (asc ns).Perm ns := List.mergeSort_perm _ _
theorem dsc_perm (ns : List Int) : (dsc ns).Perm ns := List.mergeSort_perm _ _
theorem asc_sorted (ns : List Int) : (asc ns).Pairwise (· ≤ ·) := by
  have h := List.pairwise_mergeSort (le := fun a b : Int => decide (a ≤ b)) (fun a b c h1 h2 => by simp at *; omega) (fun a b => by simp; omega) ns
  exact h.imp fun h => by simpa using h
theorem dsc_sorted (ns : List Int) : (dsc ns).Pairwise (· ≥ ·) := by
  have h := List.pairwise_mergeSort (le := fun a b : Int => decide (b ≤ a)) (fun a b c h1 h2 => by simp at *; omega) (fun a b => by simp; omega) ns
  exact h.imp fun h => by simpa using h
theorem asc_uniq {ns ms : List Int} (p : ms.Perm ns) (s : ms.Pairwise (· ≤ ·)) : ms = asc ns :=
  (p.trans (asc_perm ns).symm).eq_of_pairwise (le := (· ≤ ·)) (fun a b _ _ h1 h2 => Int.le_antisymm h1 h2) s (asc_sorted ns)
theorem dsc_uniq {ns ms : List Int} (p : ms.Perm ns) (s : ms.Pairwise (· ≥ ·)) : ms = dsc ns :=
  (p.trans (dsc_perm ns).symm).eq_of_pairwise (le := (· ≥ ·)) (fun a b _ _ h1 h2 => Int.le_antisymm h2 h1) s (dsc_sorted ns)

section
variable {te ta tb tc : TE} {tt tu : TT} {Γ : Ga} {d e x y : D} {ds es : List D} {K : PySem.W.Frag} {X : Cx}
/-! ### joined rules: which of them holds is chosen by the reading -/
theorem PSet.or {r r' : TSet} (h : PSet X r) (h' : PSet X r') : PSet X (fun o i v H Q => r o i v H Q ∨ r' o i v H Q) := fun pins s σ H o i v ov iv u Q I ro ri rv q => by
  rcases q with q | q
  · exact h pins s σ H o i v ov iv u Q I ro ri rv q
  · exact h' pins s σ H o i v ov iv u Q I ro ri rv q
theorem PI.or {tg it : Expr} {w w' : TI} (h : PI X tg it w) (h' : PI X tg it w') : PI X tg it (fun σ H R => w σ H R ∨ w' σ H R) := ⟨fun pins s σ H R I q => by
  rcases q with q | q
  · exact h.run pins s σ H R I q
  · exact h'.run pins s σ H R I q⟩
def rAddA : R2 := fun x y H Q => (rI0 (fun i j => .int (i + j)) x y H Q ∨ (∃ i j, x = .str i ∧ y = .str j ∧ i.length + j.length ≤ sizeLine ∧ Q (.str (i ++ j)) H)) ∨ rCat x y H Q
theorem op_addA : OpR X (binaryOp .Add) rAddA := (op_add.or op_add_str).or op_cat
def rMulA : R2 := fun x y H Q => (rI CMul (fun i j => .int (i * j)) x y H Q ∨ rI CMulW (fun i j => .int (i * j)) x y H Q) ∨ rRep x y H Q
theorem op_mulA : OpR X (binaryOp .Mult) rMulA := (op_mul.or op_mulW).or op_rep
def rEqA (K : PySem.W.Frag) : R2 := fun x y H Q => rEq x y H Q ∨ rEqD K x y H Q
def rNeA (K : PySem.W.Frag) : R2 := fun x y H Q => rNe x y H Q ∨ rNeD K x y H Q
theorem op_eqA (hu : X.A.units + 64 < cLine) : OpR X (compareOp .Eq) (rEqA X.K) := op_eq.or (op_eqD hu)
theorem op_neA (hu : X.A.units + 64 < cLine) : OpR X (compareOp .NotEq) (rNeA X.K) := op_ne.or (op_neD hu)
def rIsX : R2 := fun x y H Q => ∃ b : Bool, y = .bl b ∧ Q (.bl (decide (x = .bl b))) H
theorem op_isBx : OpR X (compareOp .Is) rIsX := by
  intro pins s σ H x y v u Q I rx ry h
  obtain ⟨b, rfl, q⟩ := h
  cases (show u = Value.bool b from ry)
  have e : ∀ c : Bool, c = decide (x = .bl b) → EP X pins σ Q (.bool c) s := fun c hc => ⟨.bl c, H, I, rfl, by rw [hc]; exact q⟩
  cases x with
  | non => cases rx; exact PySem.wpAny_pure (e _ rfl)
  | bl c => cases rx; exact PySem.wpAny_pure (e _ (by cases c <;> cases b <;> rfl))
  | int i => obtain ⟨t, rfl⟩ := rx; exact PySem.wpAny_pure (e _ rfl)
  | str i => obtain ⟨t, rfl⟩ := rx; exact PySem.wpAny_pure (e _ rfl)
  | byt i => obtain ⟨t, rfl⟩ := rx; exact PySem.wpAny_pure (e _ rfl)
  | flt i => obtain ⟨t, rfl⟩ := rx; exact PySem.wpAny_pure (e _ rfl)
  | ref i => cases rx; exact PySem.wpAny_pure (e _ rfl)
  | ty i => cases rx; exact PySem.wpAny_pure (e _ rfl)
def rIsA : R2 := fun x y H Q => (y = .non ∧ Q (.bl (decide (x = .non))) H) ∨ rIsX x y H Q
def rNotA : R2 := fun x y H Q => (y = .non ∧ Q (.bl (!decide (x = .non))) H) ∨ rNotB x y H Q
theorem op_isA : OpR X (compareOp .Is) rIsA := op_isN.or op_isBx
theorem op_isnotA : OpR X (compareOp .IsNot) rNotA := op_notN.or op_notBl
def iSeq (K : PySem.W.Frag) (tl : TE) : TI := fun σ H R => iList K tl σ H R ∨ (iTup K tl σ H R ∨ iStr tl σ H R)
theorem pi_seq {l tg : Expr} {tl : TE} (hl : PE X l tl) : PI X tg l (iSeq X.K tl) := PI.or (pi_list hl) (PI.or (pi_tup hl) (pi_str hl))

/-! ### ints -/
theorem ev_add {i j : Int} (ha : EvD ta Γ (.int i)) (hb : EvD tb Γ (.int j)) : EvD (tOp rAddA ta tb) Γ (.int (i + j)) :=
  ev_op ha.rd hb.rd fun G W σ H k v w rv rw Q q => by
    cases rpI rv; cases rpI rw
    exact .inl (.inl ⟨i, j, rfl, rfl, q _ G H (.refl k.g) (.int _)⟩)
theorem ev_sub {i j : Int} (ha : EvD ta Γ (.int i)) (hb : EvD tb Γ (.int j)) : EvD (tOp (rI0 fun i j => .int (i - j)) ta tb) Γ (.int (i - j)) := ev_I0 ha hb
theorem ev_mul {i j : Int} (ha : EvD ta Γ (.int i)) (hb : EvD tb Γ (.int j)) (hc : CMul i j) : EvD (tOp rMulA ta tb) Γ (.int (i * j)) :=
  ev_op ha.rd hb.rd fun G W σ H k v w rv rw Q q => by
    cases rpI rv; cases rpI rw
    exact .inl (.inl ⟨i, j, rfl, rfl, hc, q _ G H (.refl k.g) (.int _)⟩)
theorem ev_mulW {i j : Int} (ha : EvD ta Γ (.int i)) (hb : EvD tb Γ (.int j)) (hc : CMulW i j) : EvD (tOp rMulA ta tb) Γ (.int (i * j)) :=
  ev_op ha.rd hb.rd fun G W σ H k v w rv rw Q q => by
    cases rpI rv; cases rpI rw
    exact .inl (.inr ⟨i, j, rfl, rfl, hc, q _ G H (.refl k.g) (.int _)⟩)
theorem ev_mod {i j : Int} (ha : EvD ta Γ (.int i)) (hb : EvD tb Γ (.int j)) (hc : 0 < j) : EvD (tOp (rI (fun _ j => 0 < j) fun i j => .int (i % j)) ta tb) Γ (.int (i % j)) := ev_I ha hb hc
theorem ev_fdiv {i j : Int} (ha : EvD ta Γ (.int i)) (hb : EvD tb Γ (.int j)) (hc : CDivW i j) : EvD (tOp (rI CDivW fun i j => .int (i / j)) ta tb) Γ (.int (i / j)) := ev_I ha hb hc
theorem ev_pow {i j : Int} (ha : EvD ta Γ (.int i)) (hb : EvD tb Γ (.int j)) (hc : CPow i j) : EvD (tOp (rI CPow fun i j => .int (i ^ j.toNat)) ta tb) Γ (.int (i ^ j.toNat)) := ev_I ha hb hc
theorem ev_lt {i j : Int} (ha : EvD ta Γ (.int i)) (hb : EvD tb Γ (.int j)) : EvD (tOp (rI0 fun i j => .bl (decide (i < j))) ta tb) Γ (.bl (decide (i < j))) := ev_C0 ha hb
theorem ev_le {i j : Int} (ha : EvD ta Γ (.int i)) (hb : EvD tb Γ (.int j)) : EvD (tOp (rI0 fun i j => .bl (decide (i ≤ j))) ta tb) Γ (.bl (decide (i ≤ j))) := ev_C0 ha hb
theorem ev_gt {i j : Int} (ha : EvD ta Γ (.int i)) (hb : EvD tb Γ (.int j)) : EvD (tOp (rI0 fun i j => .bl (decide (j < i))) ta tb) Γ (.bl (decide (j < i))) := ev_C0 ha hb
theorem ev_ge {i j : Int} (ha : EvD ta Γ (.int i)) (hb : EvD tb Γ (.int j)) : EvD (tOp (rI0 fun i j => .bl (decide (j ≤ i))) ta tb) Γ (.bl (decide (j ≤ i))) := ev_C0 ha hb

/-! ### == of scalars -/
theorem ev_eqI {i j : Int} (ha : EvD ta Γ (.int i)) (hb : EvD tb Γ (.int j)) : EvD (tOp (rEqA K) ta tb) Γ (.bl (decide (i = j))) :=
  ev_op ha.rd hb.rd fun G W σ H k v w rv rw Q q => by
    cases rpI rv; cases rpI rw
    refine .inl ⟨rfl, ?_⟩
    have e : decide (V.int i = V.int j) = decide (i = j) := by simp
    rw [e]
    exact q _ G H (.refl k.g) (.bl _)
theorem ev_neI {i j : Int} (ha : EvD ta Γ (.int i)) (hb : EvD tb Γ (.int j)) : EvD (tOp (rNeA K) ta tb) Γ (.bl (!decide (i = j))) :=
  ev_op ha.rd hb.rd fun G W σ H k v w rv rw Q q => by
    cases rpI rv; cases rpI rw
    refine .inl ⟨rfl, ?_⟩
    have e : decide (V.int i = V.int j) = decide (i = j) := by simp
    rw [e]
    exact q _ G H (.refl k.g) (.bl _)
theorem ev_eqS {i j : Str} (ha : EvD ta Γ (.str i)) (hb : EvD tb Γ (.str j)) : EvD (tOp (rEqA K) ta tb) Γ (.bl (decide (i = j))) :=
  ev_op ha.rd hb.rd fun G W σ H k v w rv rw Q q => by
    cases rpS rv; cases rpS rw
    refine .inl ⟨rfl, ?_⟩
    have e : decide (V.str i = V.str j) = decide (i = j) := by simp
    rw [e]
    exact q _ G H (.refl k.g) (.bl _)
theorem ev_neS {i j : Str} (ha : EvD ta Γ (.str i)) (hb : EvD tb Γ (.str j)) : EvD (tOp (rNeA K) ta tb) Γ (.bl (!decide (i = j))) :=
  ev_op ha.rd hb.rd fun G W σ H k v w rv rw Q q => by
    cases rpS rv; cases rpS rw
    refine .inl ⟨rfl, ?_⟩
    have e : decide (V.str i = V.str j) = decide (i = j) := by simp
    rw [e]
    exact q _ G H (.refl k.g) (.bl _)
/-! ### is None, is True -/
def D.isN : D → Bool
  | .non => true
  | _ => false
theorem isN_dec {G H : Hp} {v : V} {x : D} (r : RpB G H v x) : decide (v = V.non) = x.isN := by
  cases r with
  | dat r => cases r <;> rfl
  | own h => cases x <;> first | exact h.elim | rfl
theorem ev_isN (ha : EvB ta Γ x) : EvD (tOp rIsA ta (tC .non)) Γ (.bl x.isN) :=
  ev_op ha ev_non.rd fun G W σ H k v w rv rw Q q => by
    cases rpN rw
    refine .inl ⟨rfl, ?_⟩
    have e : decide (v = V.non) = x.isN := isN_dec rv
    rw [e]
    exact q _ G H (.refl k.g) (.bl _)
theorem ev_notN (ha : EvB ta Γ x) : EvD (tOp rNotA ta (tC .non)) Γ (.bl (!x.isN)) :=
  ev_op ha ev_non.rd fun G W σ H k v w rv rw Q q => by
    cases rpN rw
    refine .inl ⟨rfl, ?_⟩
    have e : decide (v = V.non) = x.isN := isN_dec rv
    rw [e]
    exact q _ G H (.refl k.g) (.bl _)

def D.isB (b : Bool) : D → Bool
  | .bl c => c == b
  | _ => false
theorem isB_dec {G H : Hp} {v : V} {x : D} {b : Bool} (r : RpB G H v x) : decide (v = V.bl b) = x.isB b := by
  cases r with
  | dat r =>
    cases r with
    | bl c => cases c <;> cases b <;> rfl
    | _ => rfl
  | own h => cases x <;> first | exact h.elim | rfl
theorem ev_isB {b : Bool} (ha : EvB ta Γ x) : EvD (tOp rIsA ta (tC (.bl b))) Γ (.bl (x.isB b)) :=
  ev_op ha ev_bl.rd fun G W σ H k v w rv rw Q q => by
    cases rpB rw
    refine .inr ⟨b, rfl, ?_⟩
    rw [isB_dec rv]
    exact q _ G H (.refl k.g) (.bl _)

/-! ### tests -/
theorem et_test {b : Bool} (h : EvD te Γ (.bl b)) : EvT (tTest te) Γ b := fun G W σ H k Q q => h G W σ H k _ fun v G' H' s r => by
  cases rqB r
  exact ⟨b, rfl, q G' H' s⟩
theorem et_B {b : Bool} (h : EvD te Γ (.bl b)) : EvT (tB te) Γ b := fun G W σ H k Q q => h G W σ H k _ fun v G' H' s r => by
  cases rqB r
  exact ⟨b, rfl, q G' H' s⟩
theorem et_truB {b : Bool} (h : EvD te Γ (.bl b)) : EvT (fun σ H Q => te σ H fun x H' => ∃ k, TruV K x H' k ∧ Q k H') Γ b := fun G W σ H k Q q => h G W σ H k _ fun v G' H' s r => by
  cases rqB r
  exact ⟨b, rfl, q G' H' s⟩
theorem et_and {a b : Bool} (h1 : EvT tt Γ a) (h2 : a = true → EvT tu Γ b) : EvT (tAnd tt tu) Γ (a && b) := fun G W σ H k Q q => h1 G W σ H k _ fun G1 H1 s1 => by
  cases a with
  | true => exact h2 rfl G1 W σ H1 (k.stp s1) Q fun G2 H2 s2 => q G2 H2 (s1.trans s2)
  | false => exact q G1 H1 s1
theorem et_or {a b : Bool} (h1 : EvT tt Γ a) (h2 : a = false → EvT tu Γ b) : EvT (tOr tt tu) Γ (a || b) := fun G W σ H k Q q => h1 G W σ H k _ fun G1 H1 s1 => by
  cases a with
  | true => exact q G1 H1 s1
  | false => exact h2 rfl G1 W σ H1 (k.stp s1) Q fun G2 H2 s2 => q G2 H2 (s1.trans s2)
theorem et_not {a : Bool} (h1 : EvT tt Γ a) : EvT (tNot tt) Γ (!a) := fun G W σ H k Q q => h1 G W σ H k _ fun G1 H1 s1 => q G1 H1 s1
theorem ev_andV {a b : Bool} (h1 : EvD ta Γ (.bl a)) (h2 : a = true → EvD tb Γ (.bl b)) : EvD (tAndV ta tb) Γ (.bl (a && b)) := fun G W σ H k Q q => h1 G W σ H k _ fun v G1 H1 s1 r => by
  cases rqB r
  refine ⟨a, rfl, ?_⟩
  cases a with
  | true => exact h2 rfl G1 W σ H1 (k.stp s1) Q fun v G2 H2 s2 r2 => q v G2 H2 (s1.trans s2) r2
  | false => exact q _ G1 H1 s1 (.bl _)
theorem ev_orV {a b : Bool} (h1 : EvD ta Γ (.bl a)) (h2 : a = false → EvD tb Γ (.bl b)) : EvD (tOrV ta tb) Γ (.bl (a || b)) := fun G W σ H k Q q => h1 G W σ H k _ fun v G1 H1 s1 r => by
  cases rqB r
  refine ⟨a, rfl, ?_⟩
  cases a with
  | true => exact q _ G1 H1 s1 (.bl _)
  | false => exact h2 rfl G1 W σ H1 (k.stp s1) Q fun v G2 H2 s2 r2 => q v G2 H2 (s1.trans s2) r2
theorem ev_notV {a : Bool} (h1 : EvD ta Γ (.bl a)) : EvD (tNotV ta) Γ (.bl (!a)) := fun G W σ H k Q q => h1 G W σ H k _ fun v G1 H1 s1 r => by
  cases rqB r
  exact ⟨a, rfl, q _ G1 H1 s1 (.bl _)⟩
theorem ev_if {b : Bool} (h : EvT tt Γ b) (h1 : b = true → EvD ta Γ d) (h2 : b = false → EvD tb Γ d) : EvD (tIf tt ta tb) Γ d := fun G W σ H k Q q => h G W σ H k _ fun G1 H1 s1 => by
  cases b with
  | true => exact h1 rfl G1 W σ H1 (k.stp s1) Q fun v G2 H2 s2 r2 => q v G2 H2 (s1.trans s2) r2
  | false => exact h2 rfl G1 W σ H1 (k.stp s1) Q fun v G2 H2 s2 r2 => q v G2 H2 (s1.trans s2) r2
theorem ev_chain {r r' : R2} {b c : Bool} (ha : EvD ta Γ x) (hb : EvD tb Γ y) (hc : b = true → EvD tc Γ d)
    (h1 : ∀ G W σ H, Ok G W Γ σ H → ∀ v w, Rp G v x → Rp G w y → ∀ Q : VK, (∀ G' H', Stp G H G' H' → Q (.bl b) H') → r v w H Q)
    (h2 : b = true → ∀ G W σ H, Ok G W Γ σ H → ∀ v w, Rp G v y → Rp G w d → ∀ Q : VK, (∀ G' H', Stp G H G' H' → Q (.bl c) H') → r' v w H Q) : EvD (tChain r r' ta tb tc) Γ (.bl (b && c)) :=
  fun G W σ H k Q q => ha G W σ H k _ fun v G1 H1 s1 r1 => hb G1 W σ H1 (k.stp s1) _ fun w G2 H2 s2 r2 =>
    h1 G2 W σ H2 ((k.stp s1).stp s2) v w (r1.mono s2.gg) r2 _ fun G3 H3 s3 => by
      refine ⟨b, rfl, ?_⟩
      have k3 := ((k.stp s1).stp s2).stp s3
      cases b with
      | true => exact hc rfl G3 W σ H3 k3 _ fun u G4 H4 s4 r4 => h2 rfl G4 W σ H4 (k3.stp s4) w u ((r2.mono s3.gg).mono s4.gg) r4 Q fun G5 H5 s5 => q _ G5 H5 ((((s1.trans s2).trans s3).trans s4).trans s5) (.bl c)
      | false => exact q _ G3 H3 ((s1.trans s2).trans s3) (.bl _)
/-- a OP b OP c of ints -/
theorem ev_chainI {g g' : Int → Int → Bool} {i j l : Int} (ha : EvD ta Γ (.int i)) (hb : EvD tb Γ (.int j)) (hc : EvD tc Γ (.int l)) : EvD (tChain (rI0 fun i j => .bl (g i j)) (rI0 fun i j => .bl (g' i j)) ta tb tc) Γ (.bl (g i j && g' j l)) :=
  ev_chain ha hb (fun _ => hc) (fun G W σ H k v w rv rw Q q => by
    cases rqI rv; cases rqI rw
    exact ⟨i, j, rfl, rfl, q G H (.refl k.g)⟩) (fun _ G W σ H k v w rv rw Q q => by
    cases rqI rv; cases rqI rw
    exact ⟨j, l, rfl, rfl, q G H (.refl k.g)⟩)

/-! ### argument lists, displays -/
theorem ea_nil : EvA tNil Γ [] := fun G W σ H k Q q => q [] G H (.refl k.g) .nil
theorem ea_cons {tr : TA} (h : EvD te Γ d) (hr : EvA tr Γ ds) : EvA (tCons te tr) Γ (d :: ds) := fun G W σ H k Q q =>
  h G W σ H k _ fun v G1 H1 s1 r1 => hr G1 W σ H1 (k.stp s1) _ fun vs G2 H2 s2 r2 => q _ G2 H2 (s1.trans s2) (.cons (r1.mono s2.gg) r2)
theorem eab_nil : EvAB tNil Γ [] := fun G W σ H k Q q => q [] G H (.refl k.g) .nil
theorem eab_cons {tr : TA} (h : EvB te Γ d) (hr : EvAB tr Γ ds) : EvAB (tCons te tr) Γ (d :: ds) := fun G W σ H k Q q =>
  h G W σ H k _ fun v G1 H1 s1 r1 => hr G1 W σ H1 (k.stp s1) _ fun vs G2 H2 s2 r2 => q _ G2 H2 (s1.trans s2) (.cons (r1.stp s2) r2)
theorem ev_tup {ta : TA} (h : EvA ta Γ ds) (hl : ds.length ≤ sizeLine) : EvD (tTup ta) Γ (.tup ds) := fun G W σ H k Q q =>
  h G W σ H k _ fun vs G1 H1 s1 r1 => ⟨by rw [r1.length]; exact hl, fun p hp => q _ (upd G1 p (.tup vs)) _ (s1.trans (.new s1.gh hp)) (.tup upd_same (r1.mono (Stp.new s1.gh hp).gg))⟩
theorem en_lst {ta : TA} (h : EvA ta Γ ds) (hl : ds.length ≤ sizeLine) : EvN (tLst ta) Γ (.lst ds) := fun G W σ H k Q q =>
  h G W σ H k _ fun vs G1 H1 s1 r1 => ⟨by rw [r1.length]; exact hl, fun p hp => q p G1 _ (s1.trans (.own s1.gh hp)) (by
      cases e : H p with
      | none => rfl
      | some o => have := s1.hh p o e; rw [hp] at this; cases this) (by
      cases e : G1 p with
      | none => rfl
      | some o => have := s1.gh p o e; rw [hp] at this; cases this) ⟨vs, upd_same, r1⟩⟩
theorem fresh_of {G H G' H' : Hp} (s : Stp G H G' H') {p : Addr} (hp : H' p = none) : H p = none := by
  cases e : H p with
  | none => rfl
  | some o => have := s.hh p o e; rw [hp] at this; cases this
theorem fresh_g {G H G' H' : Hp} (s : Stp G H G' H') {p : Addr} (hp : H' p = none) : G' p = none := by
  cases e : G' p with
  | none => rfl
  | some o => have := s.gh p o e; rw [hp] at this; cases this

/-! ### built-in functions of one, two arguments -/
theorem ev_cb {r : List V → Hp → VK → Prop} {ta : TA} (ha : EvAB ta Γ ds) (hr : ∀ G W σ H, Ok G W Γ σ H → ∀ vs, RpLB G H vs ds → ∀ Q : VK, (∀ z G' H', Stp G H G' H' → Rp G' z d → Q z H') → r vs H Q) : EvD (tCB r ta) Γ d :=
  fun G W σ H k Q q => ha G W σ H k _ fun vs G1 H1 s1 r1 => hr G1 W σ H1 (k.stp s1) vs r1 Q fun z G' H' s3 rz => q z G' H' (s1.trans s3) rz
theorem en_cb {r : List V → Hp → VK → Prop} {ta : TA} (ha : EvAB ta Γ ds) (hr : ∀ G W σ H, Ok G W Γ σ H → ∀ vs, RpLB G H vs ds → ∀ Q : VK, (∀ a G' H', Stp G H G' H' → H a = none → G' a = none → RpO G' (H' a) e → Q (.ref a) H') → r vs H Q) : EvN (tCB r ta) Γ e :=
  fun G W σ H k Q q => ha G W σ H k _ fun vs G1 H1 s1 r1 => hr G1 W σ H1 (k.stp s1) vs r1 Q fun a G' H' s3 ha ga h' => q a G' H' (s1.trans s3) (fresh_of s1 ha) ga h'
theorem rb1 {G H : Hp} {vs : List V} {x : D} (r : RpLB G H vs [x]) : ∃ v, vs = [v] ∧ RpB G H v x := by
  cases r with
  | cons r t => cases t; exact ⟨_, rfl, r⟩
theorem rb2 {G H : Hp} {vs : List V} {x y : D} (r : RpLB G H vs [x, y]) : ∃ v w, vs = [v, w] ∧ RpB G H v x ∧ RpB G H w y := by
  cases r with
  | cons r t => cases t with
    | cons r2 t => cases t; exact ⟨_, _, rfl, r, r2⟩
theorem ev_abs {i : Int} (h : EvD te Γ (.int i)) : EvD (tCB (fun xs H Q => ∃ i, xs = [.int i] ∧ Q (.int (if i < 0 then -i else i)) H) (tCons te tNil)) Γ (.int (if i < 0 then -i else i)) :=
  ev_cb (eab_cons h.rd eab_nil) fun G W σ H k vs r Q q => by
    obtain ⟨v, rfl, r1⟩ := rb1 r
    cases rpI r1
    exact ⟨i, rfl, q _ G H (.refl k.g) (.int _)⟩
theorem ev_intI {i : Int} (h : EvD te Γ (.int i)) : EvD (tCB (fun xs H Q => (∃ i, xs = [.int i] ∧ Q (.int i) H) ∨ ∃ k, xs = [.bl k] ∧ Q (.int (if k then 1 else 0)) H) (tCons te tNil)) Γ (.int i) :=
  ev_cb (eab_cons h.rd eab_nil) fun G W σ H k vs r Q q => by
    obtain ⟨v, rfl, r1⟩ := rb1 r
    cases rpI r1
    exact .inl ⟨i, rfl, q _ G H (.refl k.g) (.int _)⟩
theorem ev_max2 {i j : Int} (ha : EvD ta Γ (.int i)) (hb : EvD tb Γ (.int j)) : EvD (tCB (fun xs H Q => ∃ i j, xs = [.int i, .int j] ∧ Q (.int (if j > i then j else i)) H) (tCons ta (tCons tb tNil))) Γ (.int (max i j)) :=
  ev_cb (eab_cons ha.rd (eab_cons hb.rd eab_nil)) fun G W σ H k vs r Q q => by
    obtain ⟨v, w, rfl, r1, r2⟩ := rb2 r
    cases rpI r1; cases rpI r2
    refine ⟨i, j, rfl, ?_⟩
    have e : (if j > i then j else i) = max i j := by split <;> omega
    rw [e]
    exact q _ G H (.refl k.g) (.int _)
theorem ev_min2 {i j : Int} (ha : EvD ta Γ (.int i)) (hb : EvD tb Γ (.int j)) : EvD (tCB (fun xs H Q => ∃ i j, xs = [.int i, .int j] ∧ Q (.int (if j < i then j else i)) H) (tCons ta (tCons tb tNil))) Γ (.int (min i j)) :=
  ev_cb (eab_cons ha.rd (eab_cons hb.rd eab_nil)) fun G W σ H k vs r Q q => by
    obtain ⟨v, w, rfl, r1, r2⟩ := rb2 r
    cases rpI r1; cases rpI r2
    refine ⟨i, j, rfl, ?_⟩
    have e : (if j < i then j else i) = min i j := by split <;> omega
    rw [e]
    exact q _ G H (.refl k.g) (.int _)
theorem ev_sum {ns : List Int} (h : EvB te Γ (dI ns)) : EvD (tCB (rSum K) (tCons te tNil)) Γ (.int ns.sum) :=
  ev_cb (eab_cons h eab_nil) fun G W σ H k vs r Q q => by
    obtain ⟨v, rfl, r1⟩ := rb1 r
    obtain ⟨a, vs, rfl, ha, r3⟩ := r1.lst k.g
    cases r3.ints
    exact ⟨a, ns, rfl, SqL.of ha, q _ G H (.refl k.g) (.int _)⟩
theorem ev_maxL {ns : List Int} (h : EvB te Γ (dI ns)) (hn : 0 < ns.length) : EvD (tCB (rMax K) (tCons te tNil)) Γ (.int (maxI ns)) :=
  ev_cb (eab_cons h eab_nil) fun G W σ H k vs r Q q => by
    obtain ⟨v, rfl, r1⟩ := rb1 r
    obtain ⟨a, vs, rfl, ha, r3⟩ := r1.lst k.g
    cases r3.ints
    refine ⟨a, ns, rfl, SqL.of ha, hn, fun m hm hk => ?_⟩
    rw [maxI_uniq hm hk]
    exact q _ G H (.refl k.g) (.int _)
theorem ev_minL {ns : List Int} (h : EvB te Γ (dI ns)) (hn : 0 < ns.length) : EvD (tCB (rMin K) (tCons te tNil)) Γ (.int (minI ns)) :=
  ev_cb (eab_cons h eab_nil) fun G W σ H k vs r Q q => by
    obtain ⟨v, rfl, r1⟩ := rb1 r
    obtain ⟨a, vs, rfl, ha, r3⟩ := r1.lst k.g
    cases r3.ints
    refine ⟨a, ns, rfl, SqL.of ha, hn, fun m hm hk => ?_⟩
    rw [minI_uniq hm hk]
    exact q _ G H (.refl k.g) (.int _)
/-- len -/
abbrev rLenA (K : PySem.W.Frag) : List V → Hp → VK → Prop := fun xs H Q => ∃ x n, xs = [x] ∧ LenV K x H n ∧ Q (.int n) H
theorem ev_lenL (h : EvB te Γ (.lst ds)) : EvD (tCB (rLenA K) (tCons te tNil)) Γ (.int (ds.length : Int)) :=
  ev_cb (eab_cons h eab_nil) fun G W σ H k vs r Q q => by
    obtain ⟨v, rfl, r1⟩ := rb1 r
    obtain ⟨a, vs, rfl, ha, r3⟩ := r1.lst k.g
    refine ⟨_, vs.length, rfl, .inl ⟨vs, SqL.of ha, rfl⟩, ?_⟩
    rw [r3.length]
    exact q _ G H (.refl k.g) (.int _)
theorem ev_lenT (h : EvB te Γ (.tup ds)) : EvD (tCB (rLenA K) (tCons te tNil)) Γ (.int (ds.length : Int)) :=
  ev_cb (eab_cons h eab_nil) fun G W σ H k vs r Q q => by
    obtain ⟨v, rfl, r1⟩ := rb1 r
    obtain ⟨a, vs, rfl, ha, r3⟩ := r1.tup k.g
    refine ⟨_, vs.length, rfl, .inr ⟨vs, SqT.of ha, rfl⟩, ?_⟩
    rw [r3.length]
    exact q _ G H (.refl k.g) (.int _)
theorem ev_lenS {z : Str} (h : EvD te Γ (.str z)) (hz : z.length ≤ sizeLine) : EvD (tCB (rLenA K) (tCons te tNil)) Γ (.int (z.length : Int)) :=
  ev_cb (eab_cons h.rd eab_nil) fun G W σ H k vs r Q q => by
    obtain ⟨v, rfl, r1⟩ := rb1 r
    cases rpS r1
    exact ⟨_, z.length, rfl, ⟨hz, rfl⟩, q _ G H (.refl k.g) (.int _)⟩
/-- list(xs), tuple(xs) -/
abbrev rListA (K : PySem.W.Frag) : List V → Hp → VK → Prop := fun xs H Q => ∃ p ys, xs = [.ref p] ∧ (SqL K H p ys ∨ SqT K H p ys) ∧ ∀ l, H l = none → Q (.ref l) (upd H l (.lst ys))
end
end Dl
/-! Dl3: subscripts, slices, displays joined, in, ==, sorted, comprehensions, calls. -/
namespace Dl
open PySem PySem.Spec L2

section
variable {te ta tb tc : TE} {tt tu : TT} {Γ : Ga} {d e x y : D} {ds es : List D} {K : PySem.W.Frag} {X : Cx}
/-! ### subscripts -/
theorem ev_ixL {i : Int} {d : D} (ha : EvB ta Γ (.lst ds)) (hb : EvD tb Γ (.int i)) (h : atI ds i = some d) : EvD (tOp (rIx K) ta tb) Γ d :=
  ev_op ha hb.rd fun G W σ H k v w rv rw Q q => by
    obtain ⟨a, vs, rfl, ha, r3⟩ := rv.lst k.g
    cases rpI rw
    have hl := r3.length
    obtain ⟨j, h1, h2⟩ : ∃ j, ixN ds.length i = some j ∧ ds[j]? = some d := by
      unfold atI at h
      cases e : ixN ds.length i with
      | none => rw [e] at h; cases h
      | some j => rw [e] at h; exact ⟨j, rfl, h⟩
    obtain ⟨v, e1, e2⟩ := r3.get h2
    refine .inl ⟨a, vs, i, v, rfl, rfl, SqL.of ha, ?_, q _ G H (.refl k.g) e2⟩
    unfold atI
    rw [hl, h1]
    exact e1
theorem ev_ixT {i : Int} {d : D} (ha : EvD ta Γ (.tup ds)) (hb : EvD tb Γ (.int i)) (h : atI ds i = some d) : EvD (tOp (rIx K) ta tb) Γ d :=
  ev_op ha.rd hb.rd fun G W σ H k v w rv rw Q q => by
    obtain ⟨a, vs, rfl, ha, r3⟩ := rv.tup k.g
    cases rpI rw
    have hl := r3.length
    obtain ⟨j, h1, h2⟩ : ∃ j, ixN ds.length i = some j ∧ ds[j]? = some d := by
      unfold atI at h
      cases e : ixN ds.length i with
      | none => rw [e] at h; cases h
      | some j => rw [e] at h; exact ⟨j, rfl, h⟩
    obtain ⟨v, e1, e2⟩ := r3.get h2
    refine .inr (.inl ⟨a, vs, i, v, rfl, rfl, SqT.of ha, ?_, q _ G H (.refl k.g) e2⟩)
    unfold atI
    rw [hl, h1]
    exact e1
theorem atI_ok {α : Type} {xs : List α} {i : Int} {v : α} (h0 : 0 ≤ i) (h : xs[i.toNat]? = some v) : atI xs i = some v := by
  have e : i = (i.toNat : Int) := (Int.toNat_of_nonneg h0).symm
  rw [e]
  exact atI_nat h
theorem atI_maps {α : Type} {f : α → D} {xs : List α} {i : Int} (h0 : 0 ≤ i) (h : i.toNat < xs.length) : atI (xs.map f) i = some (f xs[i.toNat]) :=
  atI_ok h0 (by rw [List.getElem?_map, List.getElem?_eq_getElem h]; rfl)
/-- xs[i] of a typed list, 0 ≤ i < its length -/
theorem ev_ix {α : Type} {f : α → D} {xs : List α} {i : Int} (ha : EvB ta Γ (.lst (xs.map f))) (hb : EvD tb Γ (.int i)) (h0 : 0 ≤ i) (h : i.toNat < xs.length) : EvD (tOp (rIx K) ta tb) Γ (f xs[i.toNat]) := ev_ixL ha hb (atI_maps h0 h)
theorem ev_ixD {α : Type} [Inhabited α] {f : α → D} {xs : List α} {i : Int} (ha : EvB ta Γ (.lst (xs.map f))) (hb : EvD tb Γ (.int i)) (h : 0 ≤ i ∧ i < xs.length) : EvD (tOp (rIx K) ta tb) Γ (f (xs.getD i.toNat default)) := by
  have h' : i.toNat < xs.length := by omega
  have := ev_ix (K := K) ha hb h.1 h'
  rw [List.getD_eq_getElem?_getD, List.getElem?_eq_getElem h']
  exact this
/-- xs[-1] -/
theorem ev_ixLast {α : Type} [Inhabited α] {f : α → D} {xs : List α} (ha : EvB ta Γ (.lst (xs.map f))) (hb : EvD tb Γ (.int (-1))) (h : 0 < xs.length) : EvD (tOp (rIx K) ta tb) Γ (f (xs.getD (xs.length - 1) default)) := by
  refine ev_ixL ha hb ?_
  unfold atI ixN
  rw [if_neg (by omega), if_pos (by rw [List.length_map]; omega)]
  have e : (((-1 : Int)) + ((xs.map f).length : Int)).toNat = xs.length - 1 := by rw [List.length_map]; omega
  show (xs.map f)[((-1 : Int) + ((xs.map f).length : Int)).toNat]? = _
  rw [e, List.getElem?_map, List.getD_eq_getElem?_getD, List.getElem?_eq_getElem (by omega)]
  rfl
/-- t[i], t a written tuple: i a number that is written -/
theorem ev_ixTn {i : Nat} {d : D} (ha : EvD ta Γ (.tup ds)) (hb : EvD tb Γ (.int (i : Int))) (h : ds[i]? = some d) : EvD (tOp (rIx K) ta tb) Γ d := ev_ixT ha hb (atI_nat h)
theorem ev_ixLn {i : Nat} {d : D} (ha : EvB ta Γ (.lst ds)) (hb : EvD tb Γ (.int (i : Int))) (h : ds[i]? = some d) : EvD (tOp (rIx K) ta tb) Γ d := ev_ixL ha hb (atI_nat h)
theorem ev_ixS {z : Str} {i : Int} {c : Nat} (ha : EvD ta Γ (.str z)) (hb : EvD tb Γ (.int i)) (hz : z.length ≤ sizeLine) (h : atI z.cps.toList i = some c) : EvD (tOp (rIx K) ta tb) Γ (.str ⟨#[c]⟩) :=
  ev_op ha.rd hb.rd fun G W σ H k v w rv rw Q q => by
    cases rpS rv; cases rpI rw
    exact .inr (.inr ⟨z, i, c, rfl, rfl, hz, h, q _ G H (.refl k.g) (.str _)⟩)

/-! ### new lists -/
theorem newList {G H : Hp} (e : Ex G H) {vs : List V} (r : RpL G vs ds) {Q : VK} (q : ∀ a G' H', Stp G H G' H' → H a = none → G' a = none → RpO G' (H' a) (.lst ds) → Q (.ref a) H') : ∀ p, H p = none → Q (.ref p) (upd H p (.lst vs)) := fun p hp =>
  q p G _ (.own e hp) hp (fresh_g (Stp.refl e) hp) ⟨vs, upd_same, r⟩
/-- xs + ys -/
theorem en_cat (ha : EvB ta Γ (.lst ds)) (hb : EvB tb Γ (.lst es)) (hl : ds.length + es.length ≤ sizeLine) : EvN (tOp rAddA ta tb) Γ (.lst (ds ++ es)) :=
  en_op ha hb fun G W σ H k v w rv rw Q q => by
    obtain ⟨a, vs, rfl, ha, r3⟩ := rv.lst k.g
    obtain ⟨b, ws, rfl, hb, r4⟩ := rw.lst k.g
    exact .inr ⟨a, b, vs, ws, rfl, rfl, ha, hb, by rw [r3.length, r4.length]; exact hl, newList k.g (r3.append r4) q⟩
/-- xs * n -/
theorem en_rep {n : Int} (ha : EvB ta Γ (.lst ds)) (hb : EvD tb Γ (.int n)) (h1 : -(2 ^ 63) ≤ n) (h2 : n < 2 ^ 63) (hl : ds.length * n.toNat ≤ sizeLine) : EvN (tOp rMulA ta tb) Γ (.lst (List.replicate n.toNat ds).flatten) :=
  en_op ha hb.rd fun G W σ H k v w rv rw Q q => by
    obtain ⟨a, vs, rfl, ha, r3⟩ := rv.lst k.g
    cases rpI rw
    exact .inr ⟨a, n, vs, rfl, rfl, ha, h1, h2, by rw [r3.length]; exact hl, newList k.g (r3.rep _) q⟩
/-- [x] * n -/
theorem en_rep1 {n : Int} (ha : EvB ta Γ (.lst [d])) (hb : EvD tb Γ (.int n)) (h : -1000000 ≤ n ∧ n ≤ 1000000) : EvN (tOp rMulA ta tb) Γ (.lst (List.replicate n.toNat d)) := by
  refine (en_rep ha hb (by omega) (by omega) ?_).of ?_
  · simp only [List.length_singleton, Nat.one_mul]
    have : n.toNat ≤ 1000000 := by omega
    exact Nat.le_trans this (by decide)
  · congr 1
    induction n.toNat with
    | zero => rfl
    | succ k ih => rw [List.replicate_succ, List.flatten_cons, ih]; rfl
theorem en_list (ha : EvB ta Γ (.lst ds)) : EvN (tCB (rListA K) (tCons ta tNil)) Γ (.lst ds) :=
  en_cb (eab_cons ha eab_nil) fun G W σ H k vs r Q q => by
    obtain ⟨v, rfl, r1⟩ := rb1 r
    obtain ⟨a, vs, rfl, ha, r3⟩ := r1.lst k.g
    exact ⟨a, vs, rfl, .inl (SqL.of ha), newList k.g r3 q⟩
theorem en_listT (ha : EvD ta Γ (.tup ds)) : EvN (tCB (rListA K) (tCons ta tNil)) Γ (.lst ds) :=
  en_cb (eab_cons ha.rd eab_nil) fun G W σ H k vs r Q q => by
    obtain ⟨v, rfl, r1⟩ := rb1 r
    obtain ⟨a, vs, rfl, ha, r3⟩ := r1.tup k.g
    exact ⟨a, vs, rfl, .inr (SqT.of ha), newList k.g r3 q⟩
theorem ev_tuple (ha : EvB ta Γ (.lst ds)) : EvD (tCB (fun xs H Q => ∃ p ys, xs = [.ref p] ∧ ((SqL K H p ys ∧ ∀ l, H l = none → Q (.ref l) (upd H l (.tup ys))) ∨ (SqT K H p ys ∧ Q (.ref p) H))) (tCons ta tNil)) Γ (.tup ds) :=
  ev_cb (eab_cons ha eab_nil) fun G W σ H k vs r Q q => by
    obtain ⟨v, rfl, r1⟩ := rb1 r
    obtain ⟨a, vs, rfl, ha, r3⟩ := r1.lst k.g
    exact ⟨a, vs, rfl, .inl ⟨SqL.of ha, fun p hp => q _ (upd G p (.tup vs)) _ (Stp.new k.g hp) (.tup upd_same (r3.mono (Stp.new k.g hp).gg))⟩⟩
/-! slices -/
def EvO (to : TO) (Γ : Ga) (o : Option Int) : Prop := ∀ G W σ H, Ok G W Γ σ H → ∀ Q : Option Int → Hp → Prop, (∀ G' H', Stp G H G' H' → Q o H') → to σ H Q
theorem eo_none : EvO tNoPart Γ none := fun G W σ H k Q q => q G H (.refl k.g)
theorem eo_some {i : Int} (h : EvD te Γ (.int i)) : EvO (tPart te) Γ (some i) := fun G W σ H k Q q => h G W σ H k _ fun v G' H' s r => by
  cases rqI r
  exact ⟨i, rfl, q G' H' s⟩
def cutD {α : Type} (xs : List α) (lo hi : Option Int) : List α := (xs.drop (HT.sIx xs.length 0 lo)).take (HT.sIx xs.length xs.length hi - HT.sIx xs.length 0 lo)
def rSlA (K : PySem.W.Frag) : V → Option Int → Option Int → Hp → VK → Prop := fun x lo hi H Q => rSlL K x lo hi H Q ∨ rSlS x lo hi H Q
theorem sl_any : SlR X (rSlA X.K) := SlR.or sl_list sl_str
theorem en_sl {tl th : TO} {lo hi : Option Int} (ha : EvB te Γ (.lst ds)) (hl : EvO tl Γ lo) (hh : EvO th Γ hi) : EvN (tSl (rSlA K) te tl th) Γ (.lst (cutD ds lo hi)) := fun G W σ H k Q q =>
  ha G W σ H k _ fun v G1 H1 s1 r1 => hl G1 W σ H1 (k.stp s1) _ fun G2 H2 s2 => hh G2 W σ H2 ((k.stp s1).stp s2) _ fun G3 H3 s3 => by
    obtain ⟨a, vs, rfl, ha, r3⟩ := r1.lst s1.gh
    have s23 := s2.trans s3
    have r4 : RpL G3 (cutV vs lo hi) (cutD ds lo hi) := by
      unfold cutV cutD
      rw [r3.length]
      exact ((r3.mono s23.gg).drop _).take _
    exact .inl ⟨a, vs, rfl, SqL.of (s23.hh _ _ ha), newList s3.gh r4 fun a G' H' s ha ga h' => q a G' H' ((s1.trans s23).trans s) (fresh_of (s1.trans s23) ha) ga h'⟩
theorem ev_slS {tl th : TO} {lo hi : Option Int} {z : Str} (ha : EvD te Γ (.str z)) (hl : EvO tl Γ lo) (hh : EvO th Γ hi) (hz : z.length ≤ sizeLine) : EvD (tSl (rSlA K) te tl th) Γ (.str (cutS z lo hi)) := fun G W σ H k Q q =>
  ha G W σ H k _ fun v G1 H1 s1 r1 => hl G1 W σ H1 (k.stp s1) _ fun G2 H2 s2 => hh G2 W σ H2 ((k.stp s1).stp s2) _ fun G3 H3 s3 => by
    cases rqS r1
    exact .inr ⟨z, rfl, hz, q _ G3 H3 ((s1.trans s2).trans s3) (.str _)⟩
theorem en_rev (ha : EvB te Γ (.lst ds)) : EvN (tRevL K te) Γ (.lst ds.reverse) := fun G W σ H k Q q =>
  ha G W σ H k _ fun v G1 H1 s1 r1 => by
    obtain ⟨a, vs, rfl, ha, r3⟩ := r1.lst s1.gh
    exact ⟨a, vs, rfl, SqL.of ha, newList s1.gh r3.reverse fun a G' H' s ha ga h' => q a G' H' (s1.trans s) (fresh_of s1 ha) ga h'⟩
/-! sorted -/
theorem en_sorted {ns : List Int} (ha : EvB ta Γ (dI ns)) : EvN (tCB (rSortedI K) (tCons ta tNil)) Γ (dI (asc ns)) :=
  en_cb (eab_cons ha eab_nil) fun G W σ H k vs r Q q => by
    obtain ⟨v, rfl, r1⟩ := rb1 r
    obtain ⟨a, vs, rfl, ha, r3⟩ := r1.lst k.g
    cases r3.ints
    refine ⟨a, ns, rfl, SqL.of ha, fun ns' p hp ho hn => ?_⟩
    cases asc_uniq hp ho
    exact newList k.g (rpL_ints _) q p hn
theorem en_sortedR {ns : List Int} (ha : EvB ta Γ (dI ns)) : EvN (tCKw (rSortedKw K true [.bl true]) (tCons ta tNil) (tCons (tC (.bl true)) tNil)) Γ (dI (dsc ns)) := fun G W σ H k Q q =>
  ha G W σ H k _ fun v G1 H1 s1 r1 => by
    obtain ⟨a, vs, rfl, ha, r3⟩ := r1.lst s1.gh
    cases r3.ints
    refine ⟨a, ns, rfl, rfl, SqL.of ha, fun ns' p hp ho hn => ?_⟩
    cases dsc_uniq hp ho
    exact newList s1.gh (rpL_ints _) (fun a G' H' s ha ga h' => q a G' H' (s1.trans s) (fresh_of s1 ha) ga h') p hn

/-! ### in -/
def D.flat : D → Bool
  | .non => true
  | .bl _ => true
  | .int _ => true
  | .str _ => true
  | _ => false
def vOf : D → V
  | .non => .non
  | .bl b => .bl b
  | .int i => .int i
  | .str x => .str x
  | _ => .non
theorem flat_v {G H : Hp} {v : V} {d : D} (r : RpB G H v d) (f : d.flat = true) : v = vOf d ∧ flatV v = true := by
  cases r with
  | dat r => cases r <;> first | exact ⟨rfl, rfl⟩ | cases f
  | own h => cases d <;> first | exact h.elim | cases f
theorem flat_vs {G : Hp} : ∀ {vs : List V} {ds : List D}, RpL G vs ds → ds.all D.flat = true → vs = ds.map vOf ∧ vs.all flatV = true
  | _, _, .nil, _ => ⟨rfl, rfl⟩
  | _, _, .cons r t, f => by
    rw [List.all_cons, Bool.and_eq_true] at f
    obtain ⟨h1, h2⟩ := flat_v (H := G) (.dat r) f.1
    obtain ⟨h3, h4⟩ := flat_vs t f.2
    exact ⟨by rw [h1, h3]; rfl, by rw [List.all_cons, h2, h4]; rfl⟩
theorem ev_in {neg : Bool} (ha : EvD ta Γ d) (hb : EvB tb Γ (.lst ds)) (fd : d.flat = true) (fs : ds.all D.flat = true) : EvD (tOp (rIn K neg) ta tb) Γ (.bl (if neg then !inV (vOf d) (ds.map vOf) else inV (vOf d) (ds.map vOf))) :=
  ev_op ha.rd hb fun G W σ H k v w rv rw Q q => by
    obtain ⟨b, ws, rfl, hb, r4⟩ := rw.lst k.g
    obtain ⟨h1, h2⟩ := flat_v rv fd
    obtain ⟨h3, h4⟩ := flat_vs r4 fs
    refine ⟨b, ws, rfl, .inl (SqL.of hb), h2, h4, ?_⟩
    rw [h1, h3]
    exact q _ G H (.refl k.g) (.bl _)
theorem inV_ints (i : Int) (ns : List Int) : inV (.int i) ((ns.map D.int).map vOf) = decide (i ∈ ns) := by
  unfold inV
  induction ns with
  | nil => rfl
  | cons n ns ih =>
    rw [List.map_cons, List.map_cons, List.any_cons, ih]
    show (n == i || decide (i ∈ ns)) = decide (i ∈ n :: ns)
    by_cases h : n = i
    · simp [h]
    · have h' : ¬ i = n := fun e => h e.symm
      simp [h, h']
theorem inV_bls (i : Bool) (ns : List Bool) : inV (.bl i) ((ns.map D.bl).map vOf) = decide (i ∈ ns) := by
  unfold inV
  induction ns with
  | nil => rfl
  | cons n ns ih =>
    rw [List.map_cons, List.map_cons, List.any_cons, ih]
    show (n == i || decide (i ∈ ns)) = decide (i ∈ n :: ns)
    by_cases h : n = i
    · simp [h]
    · have h' : ¬ i = n := fun e => h e.symm
      simp [h, h']
theorem flat_ints (ns : List Int) : (ns.map D.int).all D.flat = true := by simp [D.flat]
theorem flat_bls (ns : List Bool) : (ns.map D.bl).all D.flat = true := by simp [D.flat]
theorem ev_inI {i : Int} {ns : List Int} (ha : EvD ta Γ (.int i)) (hb : EvB tb Γ (dI ns)) : EvD (tOp (rIn K false) ta tb) Γ (.bl (decide (i ∈ ns))) := by
  have := ev_in (K := K) (neg := false) ha hb rfl (flat_ints ns)
  rw [← inV_ints]; exact this
theorem ev_ninI {i : Int} {ns : List Int} (ha : EvD ta Γ (.int i)) (hb : EvB tb Γ (dI ns)) : EvD (tOp (rIn K true) ta tb) Γ (.bl (!decide (i ∈ ns))) := by
  have := ev_in (K := K) (neg := true) ha hb rfl (flat_ints ns)
  rw [← inV_ints]; exact this
theorem ev_inB {i : Bool} {ns : List Bool} (ha : EvD ta Γ (.bl i)) (hb : EvB tb Γ (.lst (ns.map D.bl))) : EvD (tOp (rIn K false) ta tb) Γ (.bl (decide (i ∈ ns))) := by
  have := ev_in (K := K) (neg := false) ha hb rfl (flat_bls ns)
  rw [← inV_bls]; exact this
theorem ev_ninB {i : Bool} {ns : List Bool} (ha : EvD ta Γ (.bl i)) (hb : EvB tb Γ (.lst (ns.map D.bl))) : EvD (tOp (rIn K true) ta tb) Γ (.bl (!decide (i ∈ ns))) := by
  have := ev_in (K := K) (neg := true) ha hb rfl (flat_bls ns)
  rw [← inV_bls]; exact this

/-! ### calls of pure defs -/
/-- from data to data: R says of which arguments it speaks, and the answer -/
def PureSp (R : List D → D → Prop) : Sp := fun vs H Q _ => ∃ G ds d, Ex G H ∧ RpL G vs ds ∧ R ds d ∧ ∀ v G' H', Stp G H G' H' → Rp G' v d → Q v H'
/-- the answer is a new object that nobody else holds -/
def NewSp (R : List D → D → Prop) : Sp := fun vs H Q _ => ∃ G ds e, Ex G H ∧ RpL G vs ds ∧ R ds e ∧ ∀ a G' H', Stp G H G' H' → H a = none → G' a = none → RpO G' (H' a) e → Q (.ref a) H'
theorem ev_call {R : List D → D → Prop} {ta : TA} {E : XK} (ha : EvA ta Γ ds) (hR : R ds d) : EvD (tCall (PureSp R) [] E ta) Γ d := fun G W σ H k Q q =>
  ha G W σ H k _ fun vs G1 H1 s1 r1 => ⟨G1, ds, d, s1.gh, by rw [List.append_nil]; exact r1, hR, fun v G' H' s r => q v G' H' (s1.trans s) r⟩
theorem en_call {R : List D → D → Prop} {ta : TA} {E : XK} (ha : EvA ta Γ ds) (hR : R ds e) : EvN (tCall (NewSp R) [] E ta) Γ e := fun G W σ H k Q q =>
  ha G W σ H k _ fun vs G1 H1 s1 r1 => ⟨G1, ds, e, s1.gh, by rw [List.append_nil]; exact r1, hR, fun a G' H' s ha ga h' => q a G' H' (s1.trans s) (fresh_of s1 ha) ga h'⟩
theorem rp_flat {G G' : Hp} {v : V} {d : D} (r : Rp G v d) (f : d.flat = true) : Rp G' v d := by
  cases r <;> first | exact .non | exact .bl _ | exact .int _ | exact .str _ | cases f
theorem rpL_flat {G G' : Hp} : ∀ {vs : List V} {ds : List D}, RpL G vs ds → ds.all D.flat = true → RpL G' vs ds
  | _, _, .nil, _ => .nil
  | _, _, .cons r t, f => by
    rw [List.all_cons, Bool.and_eq_true] at f
    exact .cons (rp_flat r f.1) (rpL_flat t f.2)
/-- what was frozen for a while is let go -/
theorem Stp.back {G H G' H' : Hp} (e : Ex G H) (s : Stp H H G' H') : Stp G H G H' := ⟨Ex.refl G, s.hh, e.trans s.hh, fun _ _ _ _ n => n⟩
/-- own lists are read by the def; the answer is flat -/
theorem ev_callB {R : List D → D → Prop} {ta : TA} {E : XK} (ha : EvAB ta Γ ds) (hR : R ds d) (f : d.flat = true) : EvD (tCall (PureSp R) [] E ta) Γ d := fun G W σ H k Q q =>
  ha G W σ H k _ fun vs G1 H1 s1 r1 => ⟨H1, ds, d, Ex.refl H1, by rw [List.append_nil]; exact r1.inH s1.gh, hR, fun v G' H' s r => q v G1 H' (s1.trans (s.back s1.gh)) (rp_flat r f)⟩
theorem rpO_flat {G G' : Hp} {o : Option HO} (r : RpO G o (.lst es)) (f : es.all D.flat = true) : RpO G' o (.lst es) := by
  obtain ⟨vs, h, t⟩ := r
  exact ⟨vs, h, rpL_flat t f⟩
theorem en_callB {R : List D → D → Prop} {ta : TA} {E : XK} (ha : EvAB ta Γ ds) (hR : R ds (.lst es)) (f : es.all D.flat = true) : EvN (tCall (NewSp R) [] E ta) Γ (.lst es) := fun G W σ H k Q q =>
  ha G W σ H k _ fun vs G1 H1 s1 r1 => ⟨H1, ds, .lst es, Ex.refl H1, by rw [List.append_nil]; exact r1.inH s1.gh, hR, fun a G' H' s ha ga h' =>
    q a G1 H' (s1.trans (s.back s1.gh)) (fresh_of s1 ha) (fresh_g s1 ha) (rpO_flat h' f)⟩
/-- a promise of a new object serves where data is wanted -/
theorem NewSp.pure {R : List D → D → Prop} {vs : List V} {H : Hp} {Q : VK} {E : XK} (h : PureSp R vs H Q E) : NewSp R vs H Q E := by
  obtain ⟨G, ds, d, g, r, hR, k⟩ := h
  refine ⟨G, ds, d, g, r, hR, fun a G' H' s ha ga h' => ?_⟩
  obtain ⟨G2, s2, _, r2⟩ := h'.frz s ha ga
  exact k _ G2 H' s2 r2
/-- a def that makes a new object, called for data -/
theorem ev_callN {R : List D → D → Prop} {ta : TA} {E : XK} (ha : EvA ta Γ ds) (hR : R ds e) : EvD (tCall (NewSp R) [] E ta) Γ e := (en_call ha hR).dt
end
end Dl
/-! Dl4: targets, what is walked, comprehensions, statements, defs. -/
namespace Dl
open PySem PySem.Spec L2

/-! ### slots -/
theorem getset {α : Type} {l : List α} {i j : Nat} {x : α} : (l.set i x)[j]? = if i = j then (if j < l.length then some x else none) else l[j]? := by
  rw [List.getElem?_set]
  split
  · rename_i h; subst h; rfl
  · rfl
section
variable {G W H : Hp} {Γ : Ga} {σ : St} {i : Nat} {d : D} {v : V}
theorem Ok.setD (k : Ok G W Γ σ H) (r : Rp G v d) : Ok G W (Γ.set i (.dat d)) (σ.set i (some v)) H where
  g := k.g
  w := k.w
  dis := k.dis
  len := by rw [List.length_set, List.length_set]; exact k.len
  dat := fun j e h => by
    rw [getset] at h
    rw [getset, k.len]
    split at h
    · rename_i hij
      split at h
      · cases h; rw [if_pos hij, if_pos ‹_›]; exact ⟨v, rfl, r⟩
      · cases h
    · rename_i hij
      rw [if_neg hij]; exact k.dat j e h
  raw := fun j e h => by
    rw [getset] at h
    rw [getset]
    split at h
    · split at h <;> cases h
    · rename_i hij
      rw [if_neg hij]; exact k.raw j e h
  own := fun j e h => by
    rw [getset] at h
    rw [getset]
    split at h
    · split at h <;> cases h
    · rename_i hij
      rw [if_neg hij]; exact k.own j e h
  scr := fun j K' e h => by
    rw [getset] at h
    rw [getset]
    split at h
    · split at h <;> cases h
    · rename_i hij
      rw [if_neg hij]; exact k.scr j K' e h
  sep := fun a b da db hab ha hb => by
    rw [getset] at ha hb
    rw [getset, getset]
    split at ha
    · split at ha <;> cases ha
    · rename_i hia
      split at hb
      · split at hb <;> cases hb
      · rename_i hib
        rw [if_neg hia, if_neg hib]
        exact k.sep a b da db hab ha hb
  mem := fun j p e h' => by
    rw [getset] at h'
    rw [getset]
    split at h'
    · split at h' <;> cases h'
    · rename_i hij
      rw [if_neg hij]; exact k.mem j p e h'
  sepM := fun a b p da db ha hb => by
    rw [getset] at ha hb
    rw [getset]
    split at ha
    · split at ha <;> cases ha
    · split at hb
      · split at hb <;> cases hb
      · rename_i hib
        rw [if_neg hib]
        exact k.sepM a b p da db ha hb
theorem Ok.setU (k : Ok G W Γ σ H) {o : Option V} : Ok G W (Γ.set i .un) (σ.set i o) H where
  g := k.g
  w := k.w
  dis := k.dis
  len := by rw [List.length_set, List.length_set]; exact k.len
  dat := fun j e h => by
    rw [getset] at h
    rw [getset]
    split at h
    · split at h <;> cases h
    · rename_i hij
      rw [if_neg hij]; exact k.dat j e h
  raw := fun j e h => by
    rw [getset] at h
    rw [getset]
    split at h
    · split at h <;> cases h
    · rename_i hij
      rw [if_neg hij]; exact k.raw j e h
  own := fun j e h => by
    rw [getset] at h
    rw [getset]
    split at h
    · split at h <;> cases h
    · rename_i hij
      rw [if_neg hij]; exact k.own j e h
  scr := fun j K' e h => by
    rw [getset] at h
    rw [getset]
    split at h
    · split at h <;> cases h
    · rename_i hij
      rw [if_neg hij]; exact k.scr j K' e h
  sep := fun a b da db hab ha hb => by
    rw [getset] at ha hb
    rw [getset, getset]
    split at ha
    · split at ha <;> cases ha
    · rename_i hia
      split at hb
      · split at hb <;> cases hb
      · rename_i hib
        rw [if_neg hia, if_neg hib]
        exact k.sep a b da db hab ha hb
  mem := fun j p e h' => by
    rw [getset] at h'
    rw [getset]
    split at h'
    · split at h' <;> cases h'
    · rename_i hij
      rw [if_neg hij]; exact k.mem j p e h'
  sepM := fun a b p da db ha hb => by
    rw [getset] at ha hb
    rw [getset]
    split at ha
    · split at ha <;> cases ha
    · split at hb
      · split at hb <;> cases hb
      · rename_i hib
        rw [if_neg hib]
        exact k.sepM a b p da db ha hb
/-- a new list comes to a slot -/
theorem Ok.setN (k : Ok G W Γ σ H) {a : Addr} (ga : G a = none) (wa : W a = none) (na : ∀ (j : Nat) es, Γ[j]? = some (.own es) → σ[j]? ≠ some (some (.ref a))) (nm : ∀ (j : Nat) p es, Γ[j]? = some (.mem p es) → a ≠ p) (h : RpO G (H a) d) :
    Ok G W (Γ.set i (.own d)) (σ.set i (some (.ref a))) H where
  g := k.g
  w := k.w
  dis := k.dis
  len := by rw [List.length_set, List.length_set]; exact k.len
  dat := fun j e h => by
    rw [getset] at h
    rw [getset]
    split at h
    · split at h <;> cases h
    · rename_i hij
      rw [if_neg hij]; exact k.dat j e h
  raw := fun j e h => by
    rw [getset] at h
    rw [getset]
    split at h
    · split at h <;> cases h
    · rename_i hij
      rw [if_neg hij]; exact k.raw j e h
  own := fun j e h' => by
    rw [getset] at h'
    rw [getset, k.len]
    split at h'
    · rename_i hij
      split at h'
      · cases h'; rw [if_pos hij, if_pos ‹_›]; exact ⟨a, rfl, ga, wa, h⟩
      · cases h'
    · rename_i hij
      rw [if_neg hij]; exact k.own j e h'
  scr := fun j K' e h' => by
    rw [getset] at h'
    rw [getset]
    split at h'
    · split at h' <;> cases h'
    · rename_i hij
      rw [if_neg hij]; exact k.scr j K' e h'
  sep := fun b c da db hab ha hb => by
    rw [getset] at ha hb
    rw [getset, getset, k.len]
    split at ha
    · rename_i hia
      split at hb
      · rename_i hib; exact absurd (hia.symm.trans hib) hab
      · rename_i hib
        rw [if_pos hia, if_neg hib]
        split at ha
        · rw [if_pos ‹_›]; exact fun q => na c db hb q.symm
        · cases ha
    · rename_i hia
      split at hb
      · rename_i hib
        rw [if_neg hia, if_pos hib]
        split at hb
        · rw [if_pos ‹_›]; exact fun q => na b da ha q
        · cases hb
      · rename_i hib
        rw [if_neg hia, if_neg hib]
        exact k.sep b c da db hab ha hb
  mem := fun j p e h' => by
    rw [getset] at h'
    rw [getset]
    split at h'
    · split at h' <;> cases h'
    · rename_i hij
      rw [if_neg hij]; exact k.mem j p e h'
  sepM := fun b c p da db ha hb => by
    rw [getset] at ha hb
    rw [getset, k.len]
    split at ha
    · split at ha <;> cases ha
    · split at hb
      · rename_i hib
        rw [if_pos hib]
        split at hb
        · rw [if_pos ‹_›]; exact fun q => nm b p da ha (by cases q; rfl)
        · cases hb
      · rename_i hib
        rw [if_neg hib]
        exact k.sepM b c p da db ha hb
theorem Ok.newNot (k : Ok G W Γ σ H) {a : Addr} (h : H a = none) : ∀ (j : Nat) es, Γ[j]? = some (.own es) → σ[j]? ≠ some (some (.ref a)) := fun j es e q => by
  obtain ⟨b, h1, _, _, h4⟩ := k.own j es e
  rw [h1] at q
  cases q
  obtain ⟨u, hu⟩ := h4.some
  rw [h] at hu
  cases hu
theorem Ok.newNotM (k : Ok G W Γ σ H) {a : Addr} (h : H a = none) : ∀ (j : Nat) p es, Γ[j]? = some (.mem p es) → a ≠ p := fun j p es e q => by
  obtain ⟨_, _, _, h4⟩ := k.mem j p es e
  obtain ⟨u, hu⟩ := h4.some
  rw [← q, h] at hu
  cases hu
theorem Ok.wNone (k : Ok G W Γ σ H) {a : Addr} (h : H a = none) : W a = none := by
  cases e : W a with
  | none => rfl
  | some o => have := k.w a o e; rw [h] at this; cases this
end
def wipeG (Γ : Ga) : List Nat → Ga
  | [] => Γ
  | v :: vs => (wipeG Γ vs).set v .un
theorem Ok.wipe {G W H : Hp} {Γ : Ga} {σ : St} (k : Ok G W Γ σ H) : ∀ vs : List Nat, Ok G W (wipeG Γ vs) (wipe σ vs) H
  | [] => k
  | v :: vs => (Ok.wipe k vs).setU
theorem wipe_len (σ : St) : ∀ vs : List Nat, (wipe σ vs).length = σ.length
  | [] => rfl
  | v :: vs => by show ((wipe σ vs).set v none).length = _; rw [List.length_set, wipe_len σ vs]
theorem wipe_at {σ : St} {i : Nat} : ∀ {vs : List Nat}, i ∈ vs → i < σ.length → (wipe σ vs)[i]? = some none
  | v :: vs, h, hl => by
    show ((wipe σ vs).set v none)[i]? = _
    rw [getset]
    by_cases e : v = i
    · rw [if_pos e, if_pos (by rw [wipe_len]; exact hl)]
    · rw [if_neg e]
      rcases List.mem_cons.mp h with q | q
      · exact absurd q.symm e
      · exact wipe_at q hl
theorem wipe_off {σ : St} {i : Nat} : ∀ {vs : List Nat}, i ∉ vs → (wipe σ vs)[i]? = σ[i]?
  | [], _ => rfl
  | v :: vs, h => by
    show ((wipe σ vs).set v none)[i]? = _
    have h1 : v ≠ i := fun e => h (e ▸ List.mem_cons_self)
    rw [getset, if_neg h1]
    exact wipe_off fun q => h (List.mem_cons_of_mem _ q)
/-- only slots of vs have changed -/
theorem wipe_back {σ σ' : St} {vs : List Nat} (hl : σ'.length = (wipe σ vs).length) (h : ∀ i, i ∉ vs → σ'[i]? = (wipe σ vs)[i]?) : wipe σ' vs = wipe σ vs := by
  apply List.ext_getElem?
  intro i
  by_cases hi : i ∈ vs
  · by_cases hl2 : i < σ.length
    · rw [wipe_at hi hl2, wipe_at hi (by rw [hl, wipe_len]; exact hl2)]
    · rw [List.getElem?_eq_none (by rw [wipe_len, hl, wipe_len]; omega), List.getElem?_eq_none (by rw [wipe_len]; omega)]
  · rw [wipe_off hi, h i hi]

/-! ### targets -/
abbrev Tr (G W : Hp) (Γ : Ga) (σ : St) (Γ' : Ga) (σ' : St) : Prop := ∀ G2 H2, Ex G G2 → Ok G2 W Γ σ H2 → Ok G2 W Γ' σ' H2
def EvG (g : TG) (vs : List Nat) (Γ : Ga) (d : D) (Γ' : Ga) : Prop := ∀ G W σ H, Ok G W Γ σ H → ∀ v, Rp G v d → ∀ Q : St → Hp → Prop, (∀ σ', Tr G W Γ σ Γ' σ' → σ'.length = σ.length → (∀ i, i ∉ vs → σ'[i]? = σ[i]?) → Q σ' H) → g v σ H Q
def EvGs (g : TGs) (vs : List Nat) (Γ : Ga) (ds : List D) (Γ' : Ga) : Prop := ∀ G W σ H, Ok G W Γ σ H → ∀ ws, RpL G ws ds → ∀ Q : St → Hp → Prop, (∀ σ', Tr G W Γ σ Γ' σ' → σ'.length = σ.length → (∀ i, i ∉ vs → σ'[i]? = σ[i]?) → Q σ' H) → g ws σ H Q
section
variable {Γ Γ' Γ2 : Ga} {d : D} {ds : List D} {K : PySem.W.Frag}
theorem eg_name {i : Nat} {vs : List Nat} (hi : i ∈ vs) : EvG (gName i) vs Γ d (Γ.set i (.dat d)) := fun G W σ H k v r Q q =>
  q (σ.set i (some v)) (fun G2 H2 e k2 => k2.setD (r.mono e)) (List.length_set ..) fun j hj => by
    have : i ≠ j := fun e => hj (e ▸ hi)
    rw [getset, if_neg this]
theorem egs_nil {vs : List Nat} : EvGs gNil vs Γ [] Γ := fun G W σ H k ws r Q q => by
  cases r
  exact ⟨rfl, q σ (fun _ _ _ k2 => k2) rfl fun _ _ => rfl⟩
theorem egs_cons {g : TG} {gs : TGs} {vs : List Nat} (h : EvG g vs Γ d Γ') (h2 : EvGs gs vs Γ' ds Γ2) : EvGs (gCons g gs) vs Γ (d :: ds) Γ2 := fun G W σ H k ws r Q q => by
  cases r with
  | cons r t =>
    refine ⟨_, _, rfl, h G W σ H k _ r _ fun σ1 t1 l1 s1 => h2 G W σ1 H (t1 _ _ (.refl G) k) _ t _ fun σ2 t2 l2 s2 => q σ2 (fun G2 H2 e k2 => t2 G2 H2 e (t1 G2 H2 e k2)) (l2.trans l1) fun i hi => (s2 i hi).trans (s1 i hi)⟩
theorem eg_tup {n : Nat} {gs : TGs} {vs : List Nat} (h : EvGs gs vs Γ ds Γ') (hn : ds.length = n) : EvG (gTup K n gs) vs Γ (.tup ds) Γ' := fun G W σ H k v r Q q => by
  cases r with
  | tup h1 t => exact ⟨_, _, rfl, SqT.of (k.g _ _ h1), by rw [t.length]; exact hn, h G W σ H k _ t Q q⟩
end

/-! ### what is walked -/
/-- n items; the walk may make new tuples -/
def EvI (wi : TI) (Γ : Ga) (n : Nat) (item : Nat → D) : Prop := ∀ G W σ H, Ok G W Γ σ H → ∀ R : It → Hp → Prop,
  (∀ J G1 H1, Stp G H G1 H1 → (∀ i G' H', Ex G1 G' → Ex G' H' → (i < n → J.go i H' ∧ ∀ x H2, J.yld i H' x H2 → ∃ G2, Stp G' H' G2 H2 ∧ Rp G2 x (item i)) ∧ (n ≤ i → J.stop i H')) → R J H1) → wi σ H R
/-- the same while nothing but new objects comes (a comprehension) -/
def EvIc (wi : TI) (Γ : Ga) (n : Nat) (item : Nat → D) : Prop := ∀ G W σ H, Ok G W Γ σ H → ∀ R : It → Hp → Prop,
  (∀ J G1 H1, Stp G H G1 H1 → (∀ i G' H', Stp G1 H1 G' H' → (i < n → J.go i H' ∧ ∀ x H2, J.yld i H' x H2 → ∃ G2, Stp G' H' G2 H2 ∧ Rp G2 x (item i)) ∧ (n ≤ i → J.stop i H')) → R J H1) → wi σ H R
section
variable {te ta tb tc : TE} {tt tu : TT} {Γ : Ga} {d e x y : D} {ds es : List D} {K : PySem.W.Frag} {X : Cx} {wi : TI} {n : Nat} {item : Nat → D}
theorem EvI.c (h : EvI wi Γ n item) : EvIc wi Γ n item := fun G W σ H k R q => h G W σ H k R fun J G1 H1 s c => q J G1 H1 s fun i G' H' s' => c i G' H' s'.gg s'.gh
theorem sql_inj {H : Hp} {a : Addr} {xs ys : List V} (h : H a = some (.lst xs)) (h' : SqL K H a ys) (hK : ∀ o, K.lookup a = some o → False) : xs = ys := by
  rcases h' with (h' | ⟨o, h'⟩) | ⟨o, _, _, h', _⟩
  · rw [h] at h'; cases h'; rfl
  · rw [h] at h'; cases h'
  · exact (hK o h').elim
abbrev ixD (ds : List D) (i : Nat) : D := ds.getD i .non
theorem walk_list {G' H' : Hp} {a : Addr} {vs : List V} (h : H' a = some (.lst vs)) (r : RpL G' vs ds) (e : Ex G' H') : ∀ i, (i < ds.length → (Itl K a).go i H' ∧ ∀ x H2, (Itl K a).yld i H' x H2 → ∃ G2, Stp G' H' G2 H2 ∧ Rp G2 x (ixD ds i)) ∧ (ds.length ≤ i → (Itl K a).stop i H') := fun i => by
  refine ⟨fun hi => ?_, fun hi => ⟨vs, SqL.of h, by rw [r.length]; exact hi⟩⟩
  obtain ⟨v, h1, h2⟩ := r.get (List.getElem?_eq_getElem hi)
  refine ⟨⟨vs, v, SqL.of h, h1⟩, fun x H2 hy => ?_⟩
  obtain ⟨rfl, hy⟩ := hy
  have := hy vs (SqL.of h)
  rw [h1] at this
  cases this
  refine ⟨G', .refl e, ?_⟩
  show Rp G' v (ds.getD i .non)
  rw [List.getD_eq_getElem?_getD, List.getElem?_eq_getElem hi]
  exact h2
theorem walk_tup {G' H' : Hp} {a : Addr} {vs : List V} (h : H' a = some (.tup vs)) (r : RpL G' vs ds) (e : Ex G' H') : ∀ i, (i < ds.length → (Itt K a).go i H' ∧ ∀ x H2, (Itt K a).yld i H' x H2 → ∃ G2, Stp G' H' G2 H2 ∧ Rp G2 x (ixD ds i)) ∧ (ds.length ≤ i → (Itt K a).stop i H') := fun i => by
  refine ⟨fun hi => ?_, fun hi => ⟨vs, SqT.of h, by rw [r.length]; exact hi⟩⟩
  obtain ⟨v, h1, h2⟩ := r.get (List.getElem?_eq_getElem hi)
  refine ⟨⟨vs, v, SqT.of h, h1⟩, fun x H2 hy => ?_⟩
  obtain ⟨rfl, hy⟩ := hy
  have := hy vs (SqT.of h)
  rw [h1] at this
  cases this
  refine ⟨G', .refl e, ?_⟩
  show Rp G' v (ds.getD i .non)
  rw [List.getD_eq_getElem?_getD, List.getElem?_eq_getElem hi]
  exact h2
theorem ei_list (h : EvD te Γ (.lst ds)) : EvI (iSeq K te) Γ ds.length (ixD ds) := fun G W σ H k R q => .inl (h G W σ H k _ fun v G1 H1 s r => by
  cases r with
  | lst ha t => exact ⟨_, rfl, ⟨_, SqL.of (s.gh _ _ ha)⟩, q _ G1 H1 s fun i G' H' e1 e2 => walk_list (e2 _ _ (e1 _ _ ha)) (t.mono e1) e2 i⟩)
theorem ei_tup (h : EvD te Γ (.tup ds)) : EvI (iSeq K te) Γ ds.length (ixD ds) := fun G W σ H k R q => .inr (.inl <| h G W σ H k _ fun v G1 H1 s r => by
  cases r with
  | tup ha t => exact ⟨_, rfl, ⟨_, SqT.of (s.gh _ _ ha)⟩, q _ G1 H1 s fun i G' H' e1 e2 => walk_tup (e2 _ _ (e1 _ _ ha)) (t.mono e1) e2 i⟩)
theorem eic_list (h : EvB te Γ (.lst ds)) : EvIc (iSeq K te) Γ ds.length (ixD ds) := fun G W σ H k R q => .inl (h G W σ H k _ fun v G1 H1 s r => by
  obtain ⟨a, vs, rfl, ha, t⟩ := r.lst s.gh
  exact ⟨_, rfl, ⟨_, SqL.of ha⟩, q _ G1 H1 s fun i G' H' s' => walk_list (s'.hh _ _ ha) (t.mono s'.gg) s'.gh i⟩)
theorem walk_rng {G' H' : Hp} {lo : Int} {n : Nat} (e : Ex G' H') : ∀ i, (i < n → (Itr lo n).go i H' ∧ ∀ x H2, (Itr lo n).yld i H' x H2 → ∃ G2, Stp G' H' G2 H2 ∧ Rp G2 x (.int (lo + (i : Int)))) ∧ (n ≤ i → (Itr lo n).stop i H') := fun i =>
  ⟨fun hi => ⟨hi, fun x H2 hy => by
    obtain ⟨rfl, rfl⟩ := hy
    exact ⟨G', .refl e, .int _⟩⟩, fun hi => hi⟩
theorem ei_rng1 {j : Int} (h : EvD te Γ (.int j)) (hj : -1000000 ≤ j ∧ j ≤ 1000000) : EvI (iRng1 (tCons te tNil)) Γ j.toNat (fun i => .int ((i : Nat) : Int)) := fun G W σ H k R q => h G W σ H k _ fun v G1 H1 s r => by
  cases rqI r
  refine ⟨j, rfl, by omega, by omega, q _ G1 H1 s fun i G' H' e1 e2 => ?_⟩
  have := walk_rng (lo := 0) (n := j.toNat) e2 i
  simpa only [Int.zero_add] using this
theorem ei_rng2 {i j : Int} (h : EvD ta Γ (.int i)) (h' : EvD tb Γ (.int j)) (hj : -1000000 ≤ i ∧ i ≤ 1000000 ∧ -1000000 ≤ j ∧ j ≤ 1000000) : EvI (iRng2 (tCons ta (tCons tb tNil))) Γ (j - i).toNat (fun m => .int (i + ((m : Nat) : Int))) := fun G W σ H k R q => h G W σ H k _ fun v G1 H1 s r => h' G1 W σ H1 (k.stp s) _ fun v' G2 H2 s2 r2 => by
  cases rqI r
  cases rqI r2
  exact ⟨i, j, rfl, ⟨by omega, by omega, by omega, by omega⟩, q _ G2 H2 (s.trans s2) fun m G' H' e1 e2 => walk_rng e2 m⟩
theorem ei_str {z : Str} (h : EvD te Γ (.str z)) : EvI (iSeq K te) Γ z.cps.size (fun i => .str ⟨#[z.cps.getD i 0]⟩) := fun G W σ H k R q => .inr <| .inr <| h G W σ H k _ fun v G1 H1 s r => by
  cases rqS r
  refine ⟨z, rfl, q _ G1 H1 s fun i G' H' e1 e2 => ⟨fun hi => ⟨hi, fun x H2 hy => ?_⟩, fun hi => hi⟩⟩
  obtain ⟨rfl, c, hc, rfl⟩ := hy
  refine ⟨G', .refl e2, ?_⟩
  have e : z.cps.getD i 0 = c := by
    rw [Array.getD_eq_getD_getElem?, hc]; rfl
  show Rp G' _ (.str ⟨#[z.cps.getD i 0]⟩)
  rw [e]
  exact .str _
theorem ei_rev (h : EvD te Γ (.lst ds)) : EvI (iRev K (tCons te tNil)) Γ ds.length (fun i => ixD ds (ds.length - 1 - i)) := fun G W σ H k R q => h G W σ H k _ fun v G1 H1 s r => by
  cases r with
  | @lst a vs _ ha t =>
    refine ⟨a, vs, rfl, SqL.of (s.gh _ _ ha), ?_⟩
    rw [t.length]
    refine q _ G1 H1 s fun i G' H' e1 e2 => ⟨fun hi => ?_, fun hi => hi⟩
    have hl : ds.length - 1 - i < ds.length := by omega
    obtain ⟨v, h1, h2⟩ := t.get (List.getElem?_eq_getElem hl)
    have ha' := e2 _ _ (e1 _ _ ha)
    refine ⟨⟨hi, vs, v, SqL.of ha', h1⟩, fun x H2 hy => ?_⟩
    obtain ⟨rfl, hy⟩ := hy
    have := hy vs (SqL.of ha')
    rw [h1] at this
    cases this
    refine ⟨G', .refl e2, ?_⟩
    show Rp G' v (ds.getD _ .non)
    rw [List.getD_eq_getElem?_getD, List.getElem?_eq_getElem hl]
    exact h2.mono e1
theorem ei_enum (h : EvD te Γ (.lst ds)) : EvI (iEnum K (tCons te tNil)) Γ ds.length (fun i => .tup [.int ((i : Nat) : Int), ixD ds i]) := fun G W σ H k R q => h G W σ H k _ fun v G1 H1 s r => by
  cases r with
  | @lst a vs _ ha t =>
    refine ⟨a, vs, rfl, SqL.of (s.gh _ _ ha), q _ G1 H1 s fun i G' H' e1 e2 => ⟨fun hi => ?_, fun hi => ⟨vs, SqL.of (e2 _ _ (e1 _ _ ha)), by rw [t.length]; exact hi⟩⟩⟩
    obtain ⟨v, h1, h2⟩ := t.get (List.getElem?_eq_getElem hi)
    have ha' := e2 _ _ (e1 _ _ ha)
    refine ⟨⟨vs, v, SqL.of ha', h1⟩, fun x H2 hy => ?_⟩
    obtain ⟨T, z, rfl, hT, rfl, hy⟩ := hy
    have := hy vs (SqL.of ha')
    rw [h1] at this
    cases this
    refine ⟨_, Stp.new e2 hT, .tup upd_same (.cons (.int _) (.one ?_))⟩
    show Rp _ v (ds.getD _ .non)
    rw [List.getD_eq_getElem?_getD, List.getElem?_eq_getElem hi]
    exact (h2.mono e1).mono (Stp.new e2 hT).gg
theorem ei_zip (h : EvD ta Γ (.lst ds)) (h' : EvD tb Γ (.lst es)) : EvI (iZip K (tCons ta (tCons tb tNil))) Γ (min ds.length es.length) (fun i => .tup [ixD ds i, ixD es i]) := fun G W σ H k R q => h G W σ H k _ fun v G0 H0 s0 r => h' G0 W σ H0 (k.stp s0) _ fun v' G1 H1 s1 r' => by
  cases r with
  | @lst a vs _ ha0 t0 =>
    cases r' with
    | @lst b ws _ hb t' =>
      have ha := s1.gg _ _ ha0
      have t := t0.mono s1.gg
      refine ⟨a, b, vs, ws, rfl, SqL.of (s1.gh _ _ ha), SqL.of (s1.gh _ _ hb), q _ G1 H1 (s0.trans s1) fun i G' H' e1 e2 => ⟨fun hi => ?_, fun hi => ⟨vs, ws, SqL.of (e2 _ _ (e1 _ _ ha)), SqL.of (e2 _ _ (e1 _ _ hb)), by rw [t.length, t'.length]; omega⟩⟩⟩
      have hi1 : i < ds.length := by omega
      have hi2 : i < es.length := by omega
      obtain ⟨v, h1, h2⟩ := t.get (List.getElem?_eq_getElem hi1)
      obtain ⟨w, h3, h4⟩ := t'.get (List.getElem?_eq_getElem hi2)
      have ha' := e2 _ _ (e1 _ _ ha)
      have hb' := e2 _ _ (e1 _ _ hb)
      refine ⟨⟨vs, ws, v, w, SqL.of ha', SqL.of hb', h1, h3⟩, fun x H2 hy => ?_⟩
      obtain ⟨T, z, z', rfl, hT, rfl, hy, hy'⟩ := hy
      have := hy vs (SqL.of ha')
      rw [h1] at this
      cases this
      have := hy' ws (SqL.of hb')
      rw [h3] at this
      cases this
      refine ⟨_, Stp.new e2 hT, .tup upd_same (.cons ?_ (.one ?_))⟩
      · show Rp _ v (ds.getD _ .non)
        rw [List.getD_eq_getElem?_getD, List.getElem?_eq_getElem hi1]
        exact (h2.mono e1).mono (Stp.new e2 hT).gg
      · show Rp _ w (es.getD _ .non)
        rw [List.getD_eq_getElem?_getD, List.getElem?_eq_getElem hi2]
        exact (h4.mono e1).mono (Stp.new e2 hT).gg

/-! ### comprehensions -/
/-- what n turns give -/
def given (n : Nat) (f : Nat → Bool) (g : Nat → D) : List D := ((List.range n).filter f).map g
theorem given_succ (n : Nat) (f : Nat → Bool) (g : Nat → D) : given (n + 1) f g = if f n = true then given n f g ++ [g n] else given n f g := by
  unfold given
  rw [List.range_succ, List.filter_append, List.map_append, List.filter_cons]
  split <;> simp
theorem given_len (n : Nat) (f : Nat → Bool) (g : Nat → D) : (given n f g).length ≤ n := by
  unfold given
  rw [List.length_map]
  have h := List.length_filter_le f (List.range n)
  rw [List.length_range] at h
  exact h
theorem en_lc {g : TG} {vs : List Nat} {Γi : Nat → Ga} (f : Nat → Bool) (v : Nat → D) (hi : EvIc wi Γ n item) (hg : ∀ i, i < n → EvG g vs (wipeG Γ vs) (item i) (Γi i)) (ht : ∀ i, i < n → EvT tt (Γi i) (f i)) (he : ∀ i, i < n → f i = true → EvD te (Γi i) (v i)) (hn : n < sizeLine) :
    EvN (tLc wi g tt te vs) Γ (.lst (given n f v)) := fun G W σ H k Q q => hi G W σ H k _ fun J G1 H1 s c => fun Dl hD => by
  let Pv : Nat → Hp → Prop := fun i H' => ∃ G', Stp G1 H1 G' H' ∧ G' Dl = none ∧ ∃ acc, H' Dl = some (.lst acc) ∧ RpL G' acc (given i f v)
  have k1 := k.stp s
  refine ⟨fun i m H' => i + m = n ∧ Pv i H', ⟨n, by omega, G1, Stp.own s.gh hD, fresh_g (Stp.refl s.gh) hD, [], upd_same, .nil⟩, fun i m H' ⟨hm, G', s', gD, acc, hacc, racc⟩ => ?_⟩
  have k2 := k1.stp s'
  rcases Nat.lt_or_ge i n with hin | hin
  · right
    obtain ⟨hgo, hyl⟩ := (c i G' H' s').1 hin
    refine ⟨hgo, Pv (i + 1), fun H2 p => ⟨m - 1, by omega, by omega, p⟩, fun x H2 hy => ?_⟩
    obtain ⟨G2, s2, rx⟩ := hyl x H2 hy
    have k3 := k2.stp s2
    refine hg i hin G2 W _ H2 (k3.wipe vs) x rx _ fun σ2 tr l4 e4 => ⟨wipe_back l4 e4, ?_⟩
    have k4 := tr _ _ (.refl _) (k3.wipe vs)
    have D2 := s2.hh _ _ hacc
    refine ht i hin G2 W σ2 H2 k4 _ fun G3 H3 s3 => ?_
    have D3 := s3.hh _ _ D2
    cases hf : f i with
    | true =>
      rw [if_pos rfl]
      refine he i hin hf G3 W σ2 H3 (k4.stp s3) _ fun y G4 H4 s4 ry => ?_
      have D4 := s4.hh _ _ D3
      have s24 := (s2.trans s3).trans s4
      have hlen := racc.length
      have hg := given_len i f v
      refine ⟨acc, D4, by omega, G4, ?_, s24.fr _ _ hacc rfl gD, acc ++ [y], upd_same, ?_⟩
      · have s14 := s'.trans s24
        refine ⟨s14.gg, fun a o e => ?_, fun a o e => ?_, s14.fr⟩
        · rw [upd_ne (ne_of_none e hD)]; exact s14.hh a o e
        · have : a ≠ Dl := fun q => by rw [q, s24.fr _ _ hacc rfl gD] at e; cases e
          rw [upd_ne this]; exact s14.gh a o e
      · rw [given_succ, if_pos hf]
        exact (racc.mono s24.gg).append (.one ry)
    | false =>
      rw [if_neg (by simp)]
      have s23 := s2.trans s3
      refine ⟨G3, s'.trans s23, s23.fr _ _ hacc rfl gD, acc, D3, ?_⟩
      rw [given_succ, if_neg (by rw [hf]; simp)]
      exact racc.mono s23.gg
  · left
    have : i = n := by omega
    subst this
    exact ⟨(c i G' H' s').2 (Nat.le_refl _), q Dl G' H' (s.trans s') (fresh_of s hD) gD ⟨acc, hacc, racc⟩⟩
end

/-! ### statements -/
structure AE where
  nx : Ga → Prop
  rt : Sl → Prop
  bk : Ga → Prop := fun _ => False
  ct : Ga → Prop := fun _ => False
/-- what is handed back -/
def RpS (G W H : Hp) (v : V) : Sl → Prop
  | .un => False
  | .dat d => Rp G v d
  | .own d => ∃ a, v = .ref a ∧ G a = none ∧ W a = none ∧ RpO G (H a) d
  | .raw u => v = u
  | .scr _ _ => False
  | .mem _ _ => False
  | .two d p e => Rp G v d ∧ G p = none ∧ W p = none ∧ RpO G (H p) e
def SD (ts : TS) (Γ : Ga) (A : AE) : Prop := ∀ G W σ H D, Ok G W Γ σ H →
  (∀ Γ' G' σ' H', A.nx Γ' → Ex G G' → Ok G' W Γ' σ' H' → D.nx σ' H') →
  (∀ Γ' G' σ' H', A.bk Γ' → Ex G G' → Ok G' W Γ' σ' H' → D.bk σ' H') →
  (∀ Γ' G' σ' H', A.ct Γ' → Ex G G' → Ok G' W Γ' σ' H' → D.ct σ' H') →
  (∀ s v G' H', A.rt s → Ex G G' → Ex G' H' → Ex W H' → (∀ a o, W a = some o → isT o = false → G' a = none) → RpS G' W H' v s → D.rt v H') → ts D σ H
section
variable {te ta tb tc : TE} {tt : TT} {t u : TS} {Γ Γ' : Ga} {A : AE} {d e x y : D} {ds es : List D} {K : PySem.W.Frag} {X : Cx} {wi : TI} {n i j : Nat} {item : Nat → D}
theorem sd_next (h : A.nx Γ) : SD tNext Γ A := fun G W σ H D k nx _ _ _ => nx Γ G σ H h (.refl G) k
theorem sd_seq (h : SD t Γ { A with nx := fun Γ' => SD u Γ' A }) : SD (tSeq t u) Γ A := fun G W σ H D k nx bk ct rt =>
  h G W σ H { D with nx := u D } k (fun Γ' G' σ' H' hu e k' => hu G' W σ' H' D k' (fun Γ2 G2 σ2 H2 q e2 => nx Γ2 G2 σ2 H2 q (e.trans e2)) (fun Γ2 G2 σ2 H2 q e2 => bk Γ2 G2 σ2 H2 q (e.trans e2)) (fun Γ2 G2 σ2 H2 q e2 => ct Γ2 G2 σ2 H2 q (e.trans e2))
    fun s v G2 H2 q e2 => rt s v G2 H2 q (e.trans e2)) bk ct rt
theorem sd_asg (h : EvD te Γ d) (k : A.nx (Γ.set i (.dat d))) : SD (tAsg te (gName i)) Γ A := fun G W σ H D ok nx _ _ _ =>
  h G W σ H ok _ fun v G' H' s r => nx _ G' _ H' k s.gg ((ok.stp s).setD r)
theorem sd_asgN (h : EvN te Γ d) (k : A.nx (Γ.set i (.own d))) : SD (tAsg te (gName i)) Γ A := fun G W σ H D ok nx _ _ _ =>
  h G W σ H ok _ fun a G' H' s ha ga h' => nx _ G' _ H' k s.gg ((ok.stp s).setN ga (ok.wNone ha) (ok.newNot ha) (ok.newNotM ha) h')
theorem sd_asgG {g : TG} {vs : List Nat} (h : EvD te Γ d) (hg : EvG g vs Γ d Γ') (k : A.nx Γ') : SD (tAsg te g) Γ A := fun G W σ H D ok nx _ _ _ =>
  h G W σ H ok _ fun v G' H' s r => hg G' W σ H' (ok.stp s) v r _ fun σ' tr _ _ => nx _ G' σ' H' k s.gg (tr _ _ (.refl _) (ok.stp s))
theorem sd_ret (h : EvD te Γ d) (k : A.rt (.dat d)) : SD (tRet te) Γ A := fun G W σ H D ok _ _ _ rt =>
  h G W σ H ok _ fun v G' H' s r => rt _ v G' H' k s.gg s.gh (ok.w.trans s.hh) (ok.stp s).dis r
theorem sd_retN (h : EvN te Γ d) (k : A.rt (.own d)) : SD (tRet te) Γ A := fun G W σ H D ok _ _ _ rt =>
  h G W σ H ok _ fun a G' H' s ha ga h' => rt (.own d) (.ref a) G' H' k s.gg s.gh (ok.w.trans s.hh) (ok.stp s).dis ⟨a, rfl, ga, ok.wNone ha, h'⟩
/-- an own list is handed back -/
theorem sd_retO (h : Γ[i]? = some (.own d)) (k : A.rt (.own d)) : SD (tRet (tVar i)) Γ A := fun G W σ H D ok _ _ _ rt => by
  obtain ⟨a, h1, h2, h3, h4⟩ := ok.own i d h
  exact ⟨.ref a, h1, rt (.own d) (.ref a) G H k (.refl G) ok.g ok.w ok.dis ⟨a, rfl, h2, h3, h4⟩⟩
theorem sd_retNone (k : A.rt (.dat .non)) : SD tRetN Γ A := fun G W σ H D ok _ _ _ rt => rt (.dat .non) .non G H k (.refl G) ok.g ok.w ok.dis .non
theorem sd_drop (h : EvD te Γ d) (k : A.nx Γ) : SD (tDrop te) Γ A := fun G W σ H D ok nx _ _ _ => h G W σ H ok _ fun v G' H' s r => nx Γ G' σ H' k s.gg (ok.stp s)
theorem sd_if {b : Bool} (h : EvT tt Γ b) (h1 : b = true → SD t Γ A) (h2 : b = false → SD u Γ A) : SD (tIfS tt t u) Γ A := fun G W σ H D ok nx bk ct rt =>
  h G W σ H ok _ fun G' H' s => by
    have ok' := ok.stp s
    cases b with
    | true => exact h1 rfl G' W σ H' D ok' (fun Γ2 G2 σ2 H2 q e2 => nx Γ2 G2 σ2 H2 q (s.gg.trans e2)) (fun Γ2 G2 σ2 H2 q e2 => bk Γ2 G2 σ2 H2 q (s.gg.trans e2)) (fun Γ2 G2 σ2 H2 q e2 => ct Γ2 G2 σ2 H2 q (s.gg.trans e2)) fun s' v G2 H2 q e2 => rt s' v G2 H2 q (s.gg.trans e2)
    | false => exact h2 rfl G' W σ H' D ok' (fun Γ2 G2 σ2 H2 q e2 => nx Γ2 G2 σ2 H2 q (s.gg.trans e2)) (fun Γ2 G2 σ2 H2 q e2 => bk Γ2 G2 σ2 H2 q (s.gg.trans e2)) (fun Γ2 G2 σ2 H2 q e2 => ct Γ2 G2 σ2 H2 q (s.gg.trans e2)) fun s' v G2 H2 q e2 => rt s' v G2 H2 q (s.gg.trans e2)
theorem sd_break (h : A.bk Γ) : SD tBreak Γ A := fun G W σ H D k _ bk _ _ => bk Γ G σ H h (.refl G) k
theorem sd_cont (h : A.ct Γ) : SD tCont Γ A := fun G W σ H D k _ _ ct _ => ct Γ G σ H h (.refl G) k
/-- the slots are told otherwise -/
theorem SD.imp {A' : AE} (h : SD t Γ A) (h1 : ∀ Γ', A.nx Γ' → A'.nx Γ') (h2 : ∀ Γ', A.bk Γ' → A'.bk Γ') (h3 : ∀ Γ', A.ct Γ' → A'.ct Γ') (h4 : ∀ s, A.rt s → A'.rt s) : SD t Γ A' := fun G W σ H D k nx bk ct rt =>
  h G W σ H D k (fun Γ' G' σ' H' q => nx Γ' G' σ' H' (h1 _ q)) (fun Γ' G' σ' H' q => bk Γ' G' σ' H' (h2 _ q)) (fun Γ' G' σ' H' q => ct Γ' G' σ' H' (h3 _ q)) fun s v G' H' q => rt s v G' H' (h4 _ q)
/-- for: P i, before the turn i -/
theorem sd_for {g : TG} {vs : List Nat} (hi : EvI wi Γ n item) (P : Nat → Ga → Prop) (h0 : P 0 Γ)
    (hs : ∀ i Γ', i < n → P i Γ' → ∃ Γ2, EvG g vs Γ' (item i) Γ2 ∧ SD t Γ2 { A with nx := P (i + 1), ct := P (i + 1), bk := A.nx }) (hd : ∀ Γ', P n Γ' → A.nx Γ') : SD (tFor wi g t) Γ A := fun G W σ H D ok nx bk ct rt =>
  hi G W σ H ok _ fun J G1 H1 s c => by
    refine ⟨fun i m σ' H' => i + m = n ∧ ∃ Γ' G', P i Γ' ∧ Ex G1 G' ∧ Ok G' W Γ' σ' H', ⟨n, by omega, Γ, G1, h0, .refl _, ok.stp s⟩, fun i m σ' H' ⟨hm, Γ', G', p, e, ok'⟩ => ?_⟩
    rcases Nat.lt_or_ge i n with hin | hin
    · right
      obtain ⟨hgo, hyl⟩ := (c i G' H' e ok'.g).1 hin
      refine ⟨hgo, fun σ2 H2 => ∃ Γ2 G2, P (i + 1) Γ2 ∧ Ex G1 G2 ∧ Ok G2 W Γ2 σ2 H2, fun σ2 H2 p => ⟨m - 1, by omega, by omega, p⟩, fun x H2 hy => ?_⟩
      obtain ⟨G2, s2, rx⟩ := hyl x H2 hy
      obtain ⟨Γ2, hg, hb⟩ := hs i Γ' hin p
      have e2 := e.trans s2.gg
      refine hg G2 W σ' H2 (ok'.stp s2) x rx _ fun σ3 tr _ _ => ?_
      have k3 := tr _ _ (.refl _) (ok'.stp s2)
      exact hb G2 W σ3 H2 _ k3 (fun Γ4 G4 σ4 H4 q e4 k4 => ⟨Γ4, G4, q, e2.trans e4, k4⟩) (fun Γ4 G4 σ4 H4 q e4 k4 => nx Γ4 G4 σ4 H4 q ((s.gg.trans e2).trans e4) k4) (fun Γ4 G4 σ4 H4 q e4 k4 => ⟨Γ4, G4, q, e2.trans e4, k4⟩)
        fun s' v G4 H4 q e4 => rt s' v G4 H4 q ((s.gg.trans e2).trans e4)
    · left
      have : i = n := by omega
      subst this
      exact ⟨(c i G' H' e ok'.g).2 (Nat.le_refl _), nx Γ' G' σ' H' (hd Γ' p) (s.gg.trans e) ok'⟩
theorem sd_while (P : Nat → Ga → Prop) (m0 : Nat) (h0 : P m0 Γ)
    (hs : ∀ m Γ', P m Γ' → ∃ b, EvT tt Γ' b ∧ (b = true → SD t Γ' { A with nx := fun Γ2 => ∃ m', m' < m ∧ P m' Γ2, ct := fun Γ2 => ∃ m', m' < m ∧ P m' Γ2, bk := A.nx }) ∧ (b = false → A.nx Γ')) : SD (tWhile tt t) Γ A := fun G W σ H D ok nx bk ct rt => by
  refine ⟨fun m σ' H' => ∃ Γ' G', P m Γ' ∧ Ex G G' ∧ Ok G' W Γ' σ' H', ⟨m0, Γ, G, h0, .refl _, ok⟩, fun m σ' H' ⟨Γ', G', p, e, ok'⟩ => ?_⟩
  obtain ⟨b, hb, h1, h2⟩ := hs m Γ' p
  refine hb G' W σ' H' ok' _ fun G2 H2 s2 => ?_
  have k2 := ok'.stp s2
  have e2 := e.trans s2.gg
  cases b with
  | true =>
    refine ⟨fun σ3 H3 => ∃ m', m' < m ∧ ∃ Γ3 G3, P m' Γ3 ∧ Ex G G3 ∧ Ok G3 W Γ3 σ3 H3, fun σ3 H3 ⟨m', hm, q⟩ => ⟨m', hm, q⟩, ?_⟩
    exact h1 rfl G2 W σ' H2 _ k2 (fun Γ4 G4 σ4 H4 ⟨m', hm, q⟩ e4 k4 => ⟨m', hm, Γ4, G4, q, e2.trans e4, k4⟩) (fun Γ4 G4 σ4 H4 q e4 k4 => nx Γ4 G4 σ4 H4 q (e2.trans e4) k4) (fun Γ4 G4 σ4 H4 ⟨m', hm, q⟩ e4 k4 => ⟨m', hm, Γ4, G4, q, e2.trans e4, k4⟩)
      fun s' v G4 H4 q e4 => rt s' v G4 H4 q (e2.trans e4)
  | false => exact nx Γ' G2 σ' H2 (h2 rfl) e2 k2
/-- an own object becomes data -/
theorem sd_freeze (i : Nat) (h : Γ[i]? = some (.own d)) (k : SD t (Γ.set i (.dat d)) A) : SD t Γ A := fun G W σ H D ok nx bk ct rt => by
  obtain ⟨a, h1, h2, h3, h4⟩ := ok.own i d h
  obtain ⟨u, hu⟩ := h4.some
  have eg : Ex G (upd G a u) := Ex.up h2
  have hσ : σ.set i (some (.ref a)) = σ := by
    apply List.ext_getElem?
    intro j
    rw [getset]
    split
    · rename_i hij
      subst hij
      have hl : i < σ.length := (List.getElem?_eq_some_iff.mp h1).1
      rw [if_pos hl, h1]
    · rfl
  have ok1 : Ok (upd G a u) W (Γ.set i .un) σ H := by
    have k0 : Ok G W (Γ.set i .un) (σ.set i (some (.ref a))) H := ok.setU
    rw [hσ] at k0
    refine ⟨fun b o q => ?_, k0.w, fun b o q t => ?_, k0.len, fun j e q => ?_, k0.raw, fun j e q => ?_, k0.scr, k0.sep, fun j p e q => ?_, k0.sepM⟩
    · by_cases hb : b = a
      · subst hb; rw [upd_same] at q; cases q; exact hu
      · rw [upd_ne hb] at q; exact ok.g b o q
    · have hb : b ≠ a := fun z => by rw [z, h3] at q; cases q
      rw [upd_ne hb]; exact ok.dis b o q t
    · obtain ⟨v, e1, e2⟩ := k0.dat j e q
      exact ⟨v, e1, e2.mono eg⟩
    · obtain ⟨b, e1, e2, e3, e4⟩ := k0.own j e q
      have hb : b ≠ a := fun z => by
        have hij : j ≠ i := fun z2 => by
          rw [z2, getset, if_pos rfl] at q
          split at q <;> cases q
        have q' : Γ[j]? = some (.own e) := by rw [getset, if_neg (fun z => hij z.symm)] at q; exact q
        exact ok.sep j i e d hij q' h (by rw [e1, h1, z])
      exact ⟨b, e1, by rw [upd_ne hb]; exact e2, e3, e4.mono eg⟩
    · obtain ⟨e1, e2, e3, e4⟩ := k0.mem j p e q
      have hj : Γ[j]? = some (.mem p e) := by
        rw [getset] at q
        split at q
        · split at q <;> cases q
        · exact q
      have hb : p ≠ a := fun z => ok.sepM j i p e d hj h (by rw [h1, z])
      exact ⟨e1, by rw [upd_ne hb]; exact e2, e3, e4.mono eg⟩
  have ok2 : Ok (upd G a u) W (Γ.set i (.dat d)) σ H := by
    have r : Rp (upd G a u) (.ref a) d := RpO.rp eg (by rw [upd_same, ← hu]; exact h4)
    have := ok1.setD (i := i) (v := .ref a) (d := d) r
    rw [List.set_set, hσ] at this
    exact this
  exact k _ W σ H D ok2 (fun Γ2 G2 σ2 H2 q e2 => nx Γ2 G2 σ2 H2 q (eg.trans e2)) (fun Γ2 G2 σ2 H2 q e2 => bk Γ2 G2 σ2 H2 q (eg.trans e2)) (fun Γ2 G2 σ2 H2 q e2 => ct Γ2 G2 σ2 H2 q (eg.trans e2)) fun s' v G2 H2 q e2 => rt s' v G2 H2 q (eg.trans e2)
/-- an own object is written -/
theorem Ok.write {G W H : Hp} {σ : St} (k : Ok G W Γ σ H) {a : Addr} {u : HO} (h : Γ[i]? = some (.own d)) (h1 : σ[i]? = some (some (.ref a))) (r : RpO G (some u) e) : Ok G W (Γ.set i (.own e)) σ (upd H a u) := by
  obtain ⟨b, e1, e2, e3, e4⟩ := k.own i d h
  rw [h1] at e1
  cases e1
  refine ⟨fun c o q => ?_, fun c o q => ?_, k.dis, by rw [List.length_set]; exact k.len, fun j e q => ?_, fun j e q => ?_, fun j e' q => ?_, fun j K' e' q => ?_, fun x y dx dy hxy hx hy => ?_, fun j p e' q => ?_, fun x y p dx dy hx hy => ?_⟩
  · rw [upd_ne (fun z => by rw [z, e2] at q; cases q)]; exact k.g c o q
  · rw [upd_ne (fun z => by rw [z, e3] at q; cases q)]; exact k.w c o q
  · rw [getset] at q
    split at q
    · split at q <;> cases q
    · exact k.dat j e q
  · rw [getset] at q
    split at q
    · split at q <;> cases q
    · exact k.raw j e q
  · rw [getset] at q
    split at q
    · rename_i hij
      subst hij
      split at q
      · cases q; exact ⟨a, h1, e2, e3, by rw [upd_same]; exact r⟩
      · cases q
    · rename_i hij
      obtain ⟨c, f1, f2, f3, f4⟩ := k.own j e' q
      have : c ≠ a := fun z => k.sep j i e' d (fun z => hij z.symm) q h (by rw [f1, h1, z])
      exact ⟨c, f1, f2, f3, by rw [upd_ne this]; exact f4⟩
  · rw [getset] at q
    split at q
    · split at q <;> cases q
    · exact k.scr j K' e' q
  · have own_of : ∀ {z dz}, (Γ.set i (Sl.own e))[z]? = some (Sl.own dz) → ∃ dz' : Dl.D, Γ[z]? = some (Sl.own dz') := fun {z dz} q => by
      rw [getset] at q
      split at q
      · rename_i hiz; subst hiz; exact ⟨d, h⟩
      · exact ⟨dz, q⟩
    obtain ⟨dx', hx'⟩ := own_of hx
    obtain ⟨dy', hy'⟩ := own_of hy
    exact k.sep x y dx' dy' hxy hx' hy'
  · have hj : Γ[j]? = some (.mem p e') := by
      rw [getset] at q
      split at q
      · split at q <;> cases q
      · exact q
    obtain ⟨f1, f2, f3, f4⟩ := k.mem j p e' hj
    have hb : p ≠ a := fun z => k.sepM j i p e' d hj h (by rw [h1, z])
    exact ⟨f1, f2, f3, by rw [upd_ne hb]; exact f4⟩
  · have hj : Γ[x]? = some (.mem p dx) := by
      rw [getset] at hx
      split at hx
      · split at hx <;> cases hx
      · exact hx
    rw [getset] at hy
    split at hy
    · rename_i hiy
      rw [← hiy]
      exact k.sepM x i p dx d hj h
    · exact k.sepM x y p dx dy hj hy
/-- the object of a mem slot is written -/
theorem Ok.writeM {G W H : Hp} {σ : St} (k : Ok G W Γ σ H) {p : Addr} {u : HO} (one : ∀ (j : Nat) q e', Γ[j]? = some (.mem q e') → j = i) (h : Γ[i]? = some (.mem p d)) (r : RpO G (some u) e) : Ok G W (Γ.set i (.mem p e)) σ (upd H p u) := by
  obtain ⟨h1, e2, e3, e4⟩ := k.mem i p d h
  refine ⟨fun c o q => ?_, fun c o q => ?_, k.dis, by rw [List.length_set]; exact k.len, fun j e q => ?_, fun j e q => ?_, fun j e' q => ?_, fun j K' e' q => ?_, fun x y dx dy hxy hx hy => ?_, fun j p' e' q => ?_, fun x y p' dx dy hx hy => ?_⟩
  · rw [upd_ne (fun z => by rw [z, e2] at q; cases q)]; exact k.g c o q
  · rw [upd_ne (fun z => by rw [z, e3] at q; cases q)]; exact k.w c o q
  · rw [getset] at q
    split at q
    · split at q <;> cases q
    · exact k.dat j e q
  · rw [getset] at q
    split at q
    · split at q <;> cases q
    · exact k.raw j e q
  · rw [getset] at q
    split at q
    · split at q <;> cases q
    · obtain ⟨c, f1, f2, f3, f4⟩ := k.own j e' q
      have : c ≠ p := fun z => k.sepM i j p d e' h q (by rw [f1, z])
      exact ⟨c, f1, f2, f3, by rw [upd_ne this]; exact f4⟩
  · rw [getset] at q
    split at q
    · split at q <;> cases q
    · exact k.scr j K' e' q
  · rw [getset] at hx hy
    split at hx
    · split at hx <;> cases hx
    · split at hy
      · split at hy <;> cases hy
      · exact k.sep x y dx dy hxy hx hy
  · rw [getset] at q
    split at q
    · rename_i hij
      subst hij
      split at q
      · cases q; exact ⟨h1, e2, e3, by rw [upd_same]; exact r⟩
      · cases q
    · rename_i hij
      exact absurd (one j p' e' q).symm hij
  · rw [getset] at hx hy
    split at hy
    · split at hy <;> cases hy
    · split at hx
      · split at hx
        · cases hx; exact k.sepM i y p d dy h hy
        · cases hx
      · exact k.sepM x y p' dx dy hx hy
/-- xs.append(e) -/
theorem sd_app (h : Γ[i]? = some (.own (.lst ds))) (he : EvD te Γ d) (hl : ds.length < sizeLine) (k : A.nx (Γ.set i (.own (.lst (ds ++ [d]))))) : SD (tDrop (tBM K "list" rAppend (tVar i) (tCons te tNil))) Γ A := fun G W σ H D ok nx _ _ _ => by
  obtain ⟨a, h1, h2, h3, vs, h4, h5⟩ := ok.own i _ h
  refine ⟨.ref a, h1, .inl ⟨rfl, vs, SqL.of h4⟩, he G W σ H ok _ fun v G' H' s r => ?_⟩
  exact ⟨a, vs, v, rfl, rfl, s.hh _ _ h4, by rw [h5.length]; exact hl, nx _ G' σ _ k s.gg ((ok.stp s).write h h1 ⟨_, rfl, (h5.mono s.gg).append (.one r)⟩)⟩
/-- xs[j] = e -/
theorem sd_setL {z : Int} (h : Γ[i]? = some (.own (.lst ds))) (he : EvD te Γ d) (hz : EvD tb Γ (.int z)) (hj : ixN ds.length z = some j) (k : A.nx (Γ.set i (.own (.lst (ds.set j d))))) : SD (tAsg te (gSub (tVar i) tb rSetL)) Γ A := fun G W σ H D ok nx _ _ _ => by
  obtain ⟨a, h1, h2, h3, vs, h4, h5⟩ := ok.own i _ h
  refine he G W σ H ok _ fun v G1 H1 s1 r1 => ⟨.ref a, h1, hz G1 W σ H1 (ok.stp s1) _ fun w G2 H2 s2 r2 => ?_⟩
  cases rqI r2
  have s12 := s1.trans s2
  exact ⟨a, vs, z, j, rfl, rfl, s12.hh _ _ h4, by rw [h5.length]; exact hj, nx _ G2 σ _ k s12.gg ((ok.stp s12).write h h1 ⟨_, rfl, (h5.mono s12.gg).set (r1.mono s2.gg) j⟩)⟩
/-- x += e of ints -/
theorem sd_aug {f : Int → Int → Int} {a b : Int} (h : Γ[i]? = some (.dat (.int a))) (he : EvD te Γ (.int b)) (k : A.nx (Γ.set i (.dat (.int (f a b))))) : SD (tAug i te (ipI f)) Γ A := fun G W σ H D ok nx _ _ _ => by
  obtain ⟨v, h1, r⟩ := ok.dat i _ h
  cases rqI r
  refine ⟨.int a, h1, he G W σ H ok _ fun w G' H' s r' => ?_⟩
  cases rqI r'
  exact ⟨a, b, rfl, rfl, nx _ G' _ H' k s.gg ((ok.stp s).setD (.int _))⟩
theorem sd_never (h : False) : SD tNever Γ A := h.elim
end
/-! ### a def -/
def startG (n : Nat) (ds : List D) : Ga := ds.map Sl.dat ++ List.replicate (n - ds.length) .un
theorem ok_start {G H : Hp} {N : List Str} {vs : List V} {ds : List D} (e : Ex G H) (r : RpL G vs ds) (hn : vs.length ≤ N.length) : Ok G (open Classical in fun a => if G a = none then H a else none) (startG N.length ds) (L2.start N vs) H := by
  have hl := r.length
  refine ⟨e, fun a o q => ?_, fun a o q _ => ?_, ?_, fun i d q => ?_, fun i v q => ?_, fun i es q => ?_, fun i K' ns q => ?_, fun i j di dj _ q => ?_, fun i p d q => ?_, fun i j p d e q => ?_⟩
  · have q' : (open Classical in if G a = none then H a else none) = some o := q
    split at q'
    · exact q'
    · cases q'
  · have q' : (open Classical in if G a = none then H a else none) = some o := q
    split at q'
    · assumption
    · cases q'
  · unfold L2.start startG
    simp only [List.length_append, List.length_map, List.length_replicate]
    omega
  · unfold startG at q
    by_cases hi : i < ds.length
    · rw [List.getElem?_append_left (by rw [List.length_map]; exact hi), List.getElem?_map, List.getElem?_eq_getElem hi] at q
      simp only [Option.map_some, Option.some.injEq, Sl.dat.injEq] at q
      obtain ⟨v, h1, h2⟩ := r.get (List.getElem?_eq_getElem hi)
      rw [q] at h2
      refine ⟨v, ?_, h2⟩
      unfold L2.start
      rw [List.getElem?_append_left (by rw [List.length_map]; omega), List.getElem?_map, h1]
      rfl
    · rw [List.getElem?_append_right (by rw [List.length_map]; omega), List.getElem?_replicate] at q
      split at q <;> cases q
  · unfold startG at q
    by_cases hi : i < ds.length
    · rw [List.getElem?_append_left (by rw [List.length_map]; exact hi), List.getElem?_map, List.getElem?_eq_getElem hi] at q
      cases q
    · rw [List.getElem?_append_right (by rw [List.length_map]; omega), List.getElem?_replicate] at q
      split at q <;> cases q
  · unfold startG at q
    by_cases hi : i < ds.length
    · rw [List.getElem?_append_left (by rw [List.length_map]; exact hi), List.getElem?_map, List.getElem?_eq_getElem hi] at q
      cases q
    · rw [List.getElem?_append_right (by rw [List.length_map]; omega), List.getElem?_replicate] at q
      split at q <;> cases q
  · unfold startG at q
    by_cases hi : i < ds.length
    · rw [List.getElem?_append_left (by rw [List.length_map]; exact hi), List.getElem?_map, List.getElem?_eq_getElem hi] at q
      cases q
    · rw [List.getElem?_append_right (by rw [List.length_map]; omega), List.getElem?_replicate] at q
      split at q <;> cases q
  · unfold startG at q
    by_cases hi : i < ds.length
    · rw [List.getElem?_append_left (by rw [List.length_map]; exact hi), List.getElem?_map, List.getElem?_eq_getElem hi] at q
      cases q
    · rw [List.getElem?_append_right (by rw [List.length_map]; omega), List.getElem?_replicate] at q
      split at q <;> cases q
  · unfold startG at q
    by_cases hi : i < ds.length
    · rw [List.getElem?_append_left (by rw [List.length_map]; exact hi), List.getElem?_map, List.getElem?_eq_getElem hi] at q
      cases q
    · rw [List.getElem?_append_right (by rw [List.length_map]; omega), List.getElem?_replicate] at q
      split at q <;> cases q
  · unfold startG at q
    by_cases hi : i < ds.length
    · rw [List.getElem?_append_left (by rw [List.length_map]; exact hi), List.getElem?_map, List.getElem?_eq_getElem hi] at q
      cases q
    · rw [List.getElem?_append_right (by rw [List.length_map]; omega), List.getElem?_replicate] at q
      split at q <;> cases q
/-- the body's reading at the entry, for data -/
theorem run_pure {t : TS} {N : List Str} {vs : List V} {H : Hp} {Q : VK} {E : XK} {R : List D → D → Prop} (hn : vs.length ≤ N.length) (h : PureSp R vs H Q E)
    (b : ∀ ds d, R ds d → SD t (startG N.length ds) { nx := fun _ => d = .non, rt := fun s => s = .dat d ∨ s = .own d }) : t { nx := fun _ H' => Q .non H', rt := Q } (L2.start N vs) H := by
  obtain ⟨G, ds, d, g, r, hR, q⟩ := h
  have k := ok_start (N := N) g r hn
  refine b ds d hR G _ _ H _ k (fun Γ' G' σ' H' z e k' => ?_) (fun _ _ _ _ z => z.elim) (fun _ _ _ _ z => z.elim) (fun s v G' H' z e e' w di rs => ?_)
  · subst z
    exact q _ G' H' ⟨e, fun a o ha => by
      cases hg : G a with
      | none => exact k'.w a o (by simp only [hg, if_true]; exact ha)
      | some u => have := g a u hg; rw [ha] at this; cases this; exact k'.g a _ (e a _ hg), k'.g, fun a o ha ht hg => k'.dis a o (by simp only [hg, if_true]; exact ha) ht⟩ .non
  · have st : Stp G H G' H' := ⟨e, fun a o ha => by
      cases hg : G a with
      | none => exact w a o (by simp only [hg, if_true]; exact ha)
      | some u => have := g a u hg; rw [ha] at this; cases this; exact e' a _ (e a _ hg), e', fun a o ha ht hg => di a o (by simp only [hg, if_true]; exact ha) ht⟩
    rcases z with rfl | rfl
    · exact q v G' H' st rs
    · obtain ⟨a, rfl, ga, wa, ha⟩ := rs
      have hn : H a = none := by
        cases z : H a with
        | none => rfl
        | some o =>
          cases hg : G a with
          | none =>
            have wa' : (if G a = none then H a else none) = none := wa
            rw [if_pos hg, z] at wa'; cases wa'
          | some u => have := e a u hg; rw [ga] at this; cases this
      obtain ⟨G2, s2, _, r2⟩ := ha.frz st hn ga
      exact q _ G2 H' s2 r2
theorem run_new {t : TS} {N : List Str} {vs : List V} {H : Hp} {Q : VK} {E : XK} {R : List D → D → Prop} (hn : vs.length ≤ N.length) (h : NewSp R vs H Q E)
    (b : ∀ ds es, R ds es → SD t (startG N.length ds) { nx := fun _ => False, rt := fun s => s = .own es }) : t { nx := fun _ H' => Q .non H', rt := Q } (L2.start N vs) H := by
  obtain ⟨G, ds, es, g, r, hR, q⟩ := h
  have k := ok_start (N := N) g r hn
  refine b ds es hR G _ _ H _ k (fun Γ' G' σ' H' z e k' => z.elim) (fun _ _ _ _ z => z.elim) (fun _ _ _ _ z => z.elim) (fun s v G' H' z e e' w di rs => ?_)
  subst z
  obtain ⟨a, rfl, ga, wa, ha⟩ := rs
  have st : Stp G H G' H' := ⟨e, fun a o ha => by
      cases hg : G a with
      | none => exact w a o (by simp only [hg, if_true]; exact ha)
      | some u => have := g a u hg; rw [ha] at this; cases this; exact e' a _ (e a _ hg), e', fun a o ha ht hg => di a o (by simp only [hg, if_true]; exact ha) ht⟩
  have hn : H a = none := by
    cases z : H a with
    | none => rfl
    | some o =>
      cases hg : G a with
      | none =>
        have wa' : (if G a = none then H a else none) = none := wa
        rw [if_pos hg, z] at wa'; cases wa'
      | some u => have := e a u hg; rw [ga] at this; cases this
  exact q a G' H' st hn ga ha
section
variable {P : Program} {w : World} {K : PySem.W.Frag} {mg : Str → Option Value} {base : Heap}
theorem fn_pure {x qual : Str} {st : Stmt} {f : Addr} {fd : FuncData} {N ps : List Str} {k : Nat} {R : List D → D → Prop} (F : Fun K x qual st f fd) (S : FnScope N ps (defScope st)) (hlen : ∀ ds d, R ds d → ds.length = ps.length) (hN : ps.length ≤ N.length)
    (hbody : ∀ (cdv : Value) (A : Around) (outer : List Env) (s : Shared) (H : Hp) (E : XK), Room k (A.deeper (PyProof.Rows.envOfC qual (defScope st) s.heap.objs.size f cdv)) →
      ∃ t, PSs (cxOf CX0 P w K mg base N qual (defScope st) f cdv A outer s H E).nox (defBody st) t ∧ ∀ ds d, R ds d → SD t (startG N.length ds) { nx := fun _ => d = .non, rt := fun s => s = .dat d ∨ s = .own d }) : FnOk P w K mg base CX0 (k + 1) f fd ps (PureSp R) := by
  have lv : ∀ vs H Q E, PureSp R vs H Q E → vs.length = ps.length := fun vs H Q E h => by
    obtain ⟨G, ds, d, g, r, hR, q⟩ := h
    rw [r.length]; exact hlen ds d hR
  refine F.ok S lv fun cdv A outer s H vs Q E hr h => ?_
  obtain ⟨t, p, b⟩ := hbody cdv A outer s H E hr
  exact ⟨t, p, run_pure (by rw [lv vs H Q E h]; exact hN) h b⟩
theorem fn_new {x qual : Str} {st : Stmt} {f : Addr} {fd : FuncData} {N ps : List Str} {k : Nat} {R : List D → D → Prop} (F : Fun K x qual st f fd) (S : FnScope N ps (defScope st)) (hlen : ∀ ds es, R ds es → ds.length = ps.length) (hN : ps.length ≤ N.length)
    (hbody : ∀ (cdv : Value) (A : Around) (outer : List Env) (s : Shared) (H : Hp) (E : XK), Room k (A.deeper (PyProof.Rows.envOfC qual (defScope st) s.heap.objs.size f cdv)) →
      ∃ t, PSs (cxOf CX0 P w K mg base N qual (defScope st) f cdv A outer s H E).nox (defBody st) t ∧ ∀ ds es, R ds es → SD t (startG N.length ds) { nx := fun _ => False, rt := fun s => s = .own es }) : FnOk P w K mg base CX0 (k + 1) f fd ps (NewSp R) := by
  have lv : ∀ vs H Q E, NewSp R vs H Q E → vs.length = ps.length := fun vs H Q E h => by
    obtain ⟨G, ds, es, g, r, hR, q⟩ := h
    rw [r.length]; exact hlen ds es hR
  refine F.ok S lv fun cdv A outer s H vs Q E hr h => ?_
  obtain ⟨t, p, b⟩ := hbody cdv A outer s H E hr
  exact ⟨t, p, run_new (by rw [lv vs H Q E h]; exact hN) h b⟩
end
/-! ### the script, the law -/
def cell (ns : List Int) (k : Int) : Int := if k < ns.length then (if ns.getD k.toNat 0 < 0 then -(ns.getD k.toNat 0) else ns.getD k.toNat 0) else 0
theorem cell_nn (ns : List Int) (k : Int) : 0 ≤ cell ns k := by
  unfold cell
  split
  · split <;> omega
  · exact Int.le_refl 0
/-- _law_cell(script, k) -/
def CellSp (K : PySem.W.Frag) : Sp := fun vs H Q _ => ∃ (a : Addr) (ns : List Int) (k : Int), vs = [.ref a, .int k] ∧ SqL K H a (ns.map V.int) ∧ 0 ≤ k ∧ ∀ H', Ex H H' → Q (.int (cell ns k)) H'
theorem ev_cell {K : PySem.W.Frag} {Γ : Ga} {tb : TE} {E : XK} {i : Nat} {ns : List Int} {k : Int} (h : Γ[i]? = some (.scr K ns)) (hb : EvD tb Γ (.int k)) (hk : 0 ≤ k) : EvD (tCall (CellSp K) [] E (tCons (tVar i) (tCons tb tNil))) Γ (.int (cell ns k)) := fun G W σ H ok Q q => by
  obtain ⟨a, h1, h2⟩ := ok.scr i K ns h
  refine ⟨.ref a, h1, hb G W σ H ok _ fun v G' H' s r => ?_⟩
  cases rqI r
  have hs : SqL K H' a (ns.map V.int) := by
    rcases h2 with (h2 | ⟨o, h2⟩) | h2
    · exact .inl (.inl (s.hh _ _ (ok.w _ _ h2)))
    · exact .inl (.inr ⟨o, s.hh _ _ (ok.w _ _ h2)⟩)
    · exact .inr h2
  exact ⟨a, ns, k, rfl, hs, hk, fun H2 e2 => q _ G' H2 (s.trans ⟨Ex.refl _, e2, s.gh.trans e2, fun _ _ _ _ n => n⟩) (.int _)⟩
/-- the law's promise -/
def LawSp (K : PySem.W.Frag) : Sp := fun vs H Q _ => ∃ (a : Addr) (ns : List Int), vs = [.ref a] ∧ SqL K H a (ns.map V.int) ∧ ns.length ≤ 63 ∧ ∀ H', Q (.bl true) H'
def lawG (K : PySem.W.Frag) (n : Nat) (ns : List Int) : Ga := .scr K ns :: List.replicate (n - 1) .un
theorem run_law {t : TS} {K : PySem.W.Frag} {x : Str} {N : List Str} {vs : List V} {H : Hp} {Q : VK} {E : XK} (h : LawSp K vs H Q E)
    (b : ∀ ns, ns.length ≤ 63 → SD t (lawG K (x :: N).length ns) { nx := fun _ => False, rt := fun s => s = .dat (.bl true) }) : t { nx := fun _ H' => Q .non H', rt := Q } (L2.start (x :: N) vs) H := by
  obtain ⟨a, ns, rfl, hs, hl, q⟩ := h
  have k : Ok (fun _ => none) H (lawG K (x :: N).length ns) (L2.start (x :: N) [.ref a]) H := by
    refine ⟨fun a o e => (nomatch e), Ex.refl H, fun _ _ _ _ => rfl, ?_, fun i d q => ?_, fun i v q => ?_, fun i es q => ?_, fun i K' ns' q => ?_, fun i j di dj _ q => ?_, fun i p d q => ?_, fun i j p d e q => ?_⟩
    · unfold L2.start lawG
      simp only [List.length_append, List.length_map, List.length_replicate, List.length_cons, List.length_nil]
      omega
    · unfold lawG at q
      cases i with
      | zero => cases q
      | succ i => rw [List.getElem?_cons_succ, List.getElem?_replicate] at q; split at q <;> cases q
    · unfold lawG at q
      cases i with
      | zero => cases q
      | succ i => rw [List.getElem?_cons_succ, List.getElem?_replicate] at q; split at q <;> cases q
    · unfold lawG at q
      cases i with
      | zero => cases q
      | succ i => rw [List.getElem?_cons_succ, List.getElem?_replicate] at q; split at q <;> cases q
    · unfold lawG at q
      cases i with
      | zero => cases q; exact ⟨a, rfl, hs⟩
      | succ i => rw [List.getElem?_cons_succ, List.getElem?_replicate] at q; split at q <;> cases q
    · unfold lawG at q
      cases i with
      | zero => cases q
      | succ i => rw [List.getElem?_cons_succ, List.getElem?_replicate] at q; split at q <;> cases q
    · unfold lawG at q
      cases i with
      | zero => cases q
      | succ i => rw [List.getElem?_cons_succ, List.getElem?_replicate] at q; split at q <;> cases q
    · unfold lawG at q
      cases i with
      | zero => cases q
      | succ i => rw [List.getElem?_cons_succ, List.getElem?_replicate] at q; split at q <;> cases q
  refine b ns hl _ _ _ _ _ k (fun Γ' G' σ' H' z e k' => z.elim) (fun _ _ _ _ z => z.elim) (fun _ _ _ _ z => z.elim) (fun s v G' H' z e e' w di rs => ?_)
  subst z
  cases rqB rs
  exact q H'
theorem fn_law {P : Program} {w : World} {K : PySem.W.Frag} {mg : Str → Option Value} {base : Heap} {x qual : Str} {st : Stmt} {f : Addr} {fd : FuncData} {p : Str} {N : List Str} {k : Nat} (F : Fun K x qual st f fd) (S : FnScope (p :: N) [p] (defScope st))
    (hbody : ∀ (cdv : Value) (A : Around) (outer : List Env) (s : Shared) (H : Hp) (E : XK), Room k (A.deeper (PyProof.Rows.envOfC qual (defScope st) s.heap.objs.size f cdv)) →
      ∃ t, PSs (cxOf CX0 P w K mg base (p :: N) qual (defScope st) f cdv A outer s H E).nox (defBody st) t ∧ ∀ ns, ns.length ≤ 63 → SD t (lawG K (p :: N).length ns) { nx := fun _ => False, rt := fun s => s = .dat (.bl true) }) : FnOk P w K mg base CX0 (k + 1) f fd [p] (LawSp K) := by
  refine F.ok S (fun vs H Q E h => ?_) fun cdv A outer s H vs Q E hr h => ?_
  · obtain ⟨a, ns, rfl, _⟩ := h
    rfl
  · obtain ⟨t, p, b⟩ := hbody cdv A outer s H E hr
    exact ⟨t, p, run_law h b⟩
end Dl
/-! Dl5: the built-in names, isinstance, more statements. -/
namespace Dl
open PySem PySem.Spec L2
theorem bt_abs : bootBuiltins "abs" = some (.builtin "abs") := by decide +kernel
theorem bt_len : bootBuiltins "len" = some (.builtin "len") := by decide +kernel
theorem bt_sum : bootBuiltins "sum" = some (.builtin "sum") := by decide +kernel
theorem bt_max : bootBuiltins "max" = some (.builtin "max") := by decide +kernel
theorem bt_min : bootBuiltins "min" = some (.builtin "min") := by decide +kernel
theorem bt_sorted : bootBuiltins "sorted" = some (.builtin "sorted") := by decide +kernel
theorem bt_any : bootBuiltins "any" = some (.builtin "any") := by decide +kernel
theorem bt_all : bootBuiltins "all" = some (.builtin "all") := by decide +kernel
theorem bt_isinstance : bootBuiltins "isinstance" = some (.builtin "isinstance") := by decide +kernel
theorem bt_int : bootBuiltins "int" = some (.type "int") := by decide +kernel
theorem bt_str : bootBuiltins "str" = some (.type "str") := by decide +kernel
theorem bt_bool : bootBuiltins "bool" = some (.type "bool") := by decide +kernel
theorem bt_list : bootBuiltins "list" = some (.type "list") := by decide +kernel
theorem bt_tuple : bootBuiltins "tuple" = some (.type "tuple") := by decide +kernel
theorem bt_dict : bootBuiltins "dict" = some (.type "dict") := by decide +kernel
theorem bt_ValueError : bootBuiltins "ValueError" = some (.type "ValueError") := by decide +kernel

section
variable {te ta tb tc : TE} {tt : TT} {t u : TS} {Γ Γ' : Ga} {A : AE} {d e x y : D} {ds es : List D} {K : PySem.W.Frag} {X : Cx} {wi : TI} {n i j : Nat} {item : Nat → D}
/-- a statement, then the rest: what lies between is said -/
theorem sd_cut (M : Ga → Prop) (h : SD t Γ { A with nx := M }) (k : ∀ Γ', M Γ' → SD u Γ' A) : SD (tSeq t u) Γ A := sd_seq (h.imp (fun _ q => k _ q) (fun _ q => q) (fun _ q => q) fun _ q => q)
theorem sd_cutE (Γ2 : Ga) (h : SD t Γ { A with nx := fun Γ' => Γ' = Γ2 }) (k : SD u Γ2 A) : SD (tSeq t u) Γ A := sd_cut _ h fun Γ' e => by
  cases e
  exact k
/-- if c: x = e, joined -/
theorem sd_ifAsg {b : Bool} {d0 : D} (h : EvT tt Γ b) (h0 : Γ[i]? = some (.dat d0)) (h1 : b = true → EvD te Γ d) (k : A.nx (Γ.set i (.dat (if b = true then d else d0)))) : SD (tIfS tt (tAsg te (gName i)) tNext) Γ A :=
  sd_if h (fun hb => sd_asg (h1 hb) (by rw [if_pos hb] at k; exact k)) fun hb => sd_next (by
    have e : Γ.set i (.dat d0) = Γ := by
      apply List.ext_getElem?
      intro j
      rw [getset]
      split
      · rename_i hij
        subst hij
        rw [if_pos (List.getElem?_eq_some_iff.mp h0).1, h0]
      · rfl
    rw [if_neg (by rw [hb]; simp), e] at k
    exact k)
/-- xs[i], whatever stands for what is not there -/
theorem ev_ixG {α : Type} (x0 : α) {f : α → D} {xs : List α} {i : Int} (ha : EvB ta Γ (.lst (xs.map f))) (hb : EvD tb Γ (.int i)) (h : 0 ≤ i ∧ i < xs.length) : EvD (tOp (rIx K) ta tb) Γ (f (xs.getD i.toNat x0)) := by
  have h' : i.toNat < xs.length := by omega
  have := ev_ix (K := K) ha hb h.1 h'
  rw [List.getD_eq_getElem?_getD, List.getElem?_eq_getElem h']
  exact this
theorem ev_ixI {xs : List Int} {i : Int} (ha : EvB ta Γ (dI xs)) (hb : EvD tb Γ (.int i)) (h : 0 ≤ i ∧ i < xs.length) : EvD (tOp (rIx K) ta tb) Γ (.int (xs.getD i.toNat 0)) := ev_ixG 0 ha hb h
theorem sd_retE (h : EvD te Γ d) (e : A.rt (.dat d)) : SD (tRet te) Γ A := sd_ret h e
theorem isEvD (h : EvD te Γ d) : EvD te Γ d := h
theorem isEvB (h : EvB te Γ d) : EvB te Γ d := h
theorem isEvN (h : EvN te Γ d) : EvN te Γ d := h
theorem isEvA {ta : TA} (h : EvA ta Γ ds) : EvA ta Γ ds := h
theorem isEvAB {ta : TA} (h : EvAB ta Γ ds) : EvAB ta Γ ds := h
theorem isEvT {b : Bool} (h : EvT tt Γ b) : EvT tt Γ b := h
theorem isEvO {to : TO} {o : Option Int} (h : EvO to Γ o) : EvO to Γ o := h
theorem cpow18 : CPow 10 18 := ⟨by decide, by decide, by decide⟩
theorem sz1 {n : Nat} (h : n ≤ 100000) : n ≤ sizeLine := Nat.le_trans h (by decide)
theorem sz2 {n : Nat} (h : n < 100000) : n < sizeLine := Nat.lt_of_lt_of_le h (by decide)
/-! isinstance -/
def tyD : D → Value
  | .non => .type "NoneType"
  | .bl _ => .type "bool"
  | .int _ => .type "int"
  | .str _ => .type "str"
  | .lst _ => .type "list"
  | .tup _ => .type "tuple"
  | .dk _ _ => .type "dict"
  | .dt _ _ => .type "dict"
  | .dz _ _ => .type "dict"
  | .obj C _ _ => .ref C
def D.isZ : D → Bool
  | .dz _ _ => true
  | _ => false
theorem tyX_of {G H : Hp} (eg : Ex G H) {v : V} (r : RpB G H v x) (hx : ∀ C fs xs, x ≠ .obj C fs xs) (hz : x.isZ = false) : TyX K H v (tyD x) := by
  cases r with
  | dat r =>
    cases r with
    | non => exact .base .non
    | bl b => exact .base (.bl b)
    | int i => exact .base (.int i)
    | str s => exact .base (.str s)
    | lst h _ => exact .base (.lst (eg _ _ h))
    | tup h _ => exact .base (.tup (eg _ _ h))
    | dk h _ _ => exact .base (.dK (eg _ _ h))
    | dt h _ _ => exact .base (.dT (eg _ _ h))
    | dz h _ _ => cases hz
    | obj h _ _ => exact absurd rfl (hx _ _ _)
  | own h =>
    cases x with
    | lst ds => obtain ⟨vs, h, _⟩ := h; exact .base (.lst h)
    | dk ks ds => obtain ⟨vs, h, _⟩ := h; exact .base (.dK h)
    | dt ks ds => obtain ⟨vs, h, _⟩ := h; exact .base (.dT h)
    | obj C fs ds => exact absurd rfl (hx _ _ _)
    | _ => exact h.elim
theorem ev_isi {T : String} {b : Bool} (ha : EvB ta Γ x) (hx : ∀ C fs xs, x ≠ .obj C fs xs) (hk : PySem.W.kitOne K (tyD x) (.type T) = some b) (hz : x.isZ = false := by rfl) : EvD (tCB (rIsi K) (tCons ta (tCons (tC (.ty T)) tNil))) Γ (.bl b) := fun G W σ H k Q q =>
  ha G W σ H k _ fun v G1 H1 s1 r1 => ⟨v, .ty T, tyD x, .type T, b, rfl, .ty T, tyX_of s1.gh r1 hx hz, hk, q _ G1 H1 s1 (.bl b)⟩
/-- xs.insert(i, e) -/
theorem sd_ins {z : Int} {r : V → List V → Hp → VK → Prop} (hr : r = fun x vs H Q => ∃ (l : Addr) (xs : List V) (i : Int) (y : V), x = .ref l ∧ vs = [.int i, y] ∧ H l = some (.lst xs) ∧ xs.length < sizeLine ∧ 0 ≤ i ∧ i < 2 ^ 63 ∧ Q .non (upd H l (.lst (xs.take i.toNat ++ y :: xs.drop i.toNat))))
    (h : Γ[i]? = some (.own (.lst ds))) (hz : EvD tb Γ (.int z)) (he : EvD te Γ d) (hl : ds.length < sizeLine) (h0 : 0 ≤ z ∧ z < 2 ^ 63) (k : A.nx (Γ.set i (.own (.lst (ds.take z.toNat ++ d :: ds.drop z.toNat))))) :
    SD (tDrop (tBM K "list" r (tVar i) (tCons tb (tCons te tNil)))) Γ A := fun G W σ H D ok nx _ _ _ => by
  subst hr
  obtain ⟨a, h1, h2, h3, vs, h4, h5⟩ := ok.own i _ h
  refine ⟨.ref a, h1, .inl ⟨rfl, vs, SqL.of h4⟩, hz G W σ H ok _ fun w G1 H1 s1 r1 => he G1 W σ H1 (ok.stp s1) _ fun v G2 H2 s2 r2 => ?_⟩
  cases rqI r1
  have s12 := s1.trans s2
  have r5 := h5.mono s12.gg
  exact ⟨a, vs, z, v, rfl, rfl, s12.hh _ _ h4, by rw [h5.length]; exact hl, h0.1, h0.2, nx _ G2 σ _ k s12.gg ((ok.stp s12).write h h1 ⟨_, rfl, (r5.take _).append (.cons r2 (r5.drop _))⟩)⟩
theorem kt {a b : String} {r : Bool} (h : kitB a b = some r) : PySem.W.kitOne K (.type a) (.type b) = some r := kit_ty h
end
theorem fn_false {P : Program} {w : World} {K : PySem.W.Frag} {mg : Str → Option Value} {base : Heap} {CX : CXT} {k : Nat} {f : Addr} {fd : FuncData} {ps : List Str} : FnOk P w K mg base CX k f fd ps (PureSp fun _ _ => False) :=
  ⟨fun vs H Q E ⟨_, _, _, _, _, h, _⟩ => h.elim, fun A outer s H args us vs Q E _ _ _ _ ⟨_, _, _, _, _, h, _⟩ => h.elim⟩
/-- plain data, n deep -/
inductive Pl : Nat → D → Prop
  | non {n : Nat} : Pl n .non
  | bl {n : Nat} {b : Bool} : Pl n (.bl b)
  | int {n : Nat} {i : Int} : Pl n (.int i)
  | str {n : Nat} {s : Str} : Pl n (.str s)
  | lst {n : Nat} {ds : List D} : ds.length ≤ 1000000 → (∀ d ∈ ds, Pl n d) → Pl (n + 1) (.lst ds)
  | tup {n : Nat} {ds : List D} : ds.length ≤ 1000000 → (∀ d ∈ ds, Pl n d) → Pl (n + 1) (.tup ds)
theorem Pl.ints {n : Nat} (ns : List Int) (h : ns.length ≤ 1000000) : Pl (n + 1) (dI ns) := .lst (by rw [List.length_map]; exact h) fun d h => by
  obtain ⟨i, _, rfl⟩ := List.mem_map.mp h
  exact .int
theorem Pl.mono {n : Nat} {d : D} (h : Pl n d) : Pl (n + 1) d := by
  induction h with
  | lst h _ ih => exact .lst h ih
  | tup h _ ih => exact .tup h ih
  | _ => constructor
/-- what like answers of equal data -/
def LikeR (R : List D → D → Prop) : List D → D → Prop := fun ds r => r = .bl true ∧ ∃ d, ds = [d, d] ∧ (d = .non ∨ (∃ b, d = .bl b) ∨ (∃ i, d = .int i) ∨ (∃ s, d = .str s) ∨ (∃ es, (d = .lst es ∨ d = .tup es) ∧ es.length ≤ 1000000 ∧ ∀ e ∈ es, R [e, e] (.bl true)))
def likeR : Nat → List D → D → Prop
  | 0 => fun _ _ => False
  | n + 1 => LikeR (likeR n)
theorem Pl.like {n : Nat} {d : D} (h : Pl n d) : likeR (n + 1) [d, d] (.bl true) := by
  induction h with
  | non => exact ⟨rfl, _, rfl, .inl rfl⟩
  | bl => exact ⟨rfl, _, rfl, .inr (.inl ⟨_, rfl⟩)⟩
  | int => exact ⟨rfl, _, rfl, .inr (.inr (.inl ⟨_, rfl⟩))⟩
  | str => exact ⟨rfl, _, rfl, .inr (.inr (.inr (.inl ⟨_, rfl⟩)))⟩
  | lst h _ ih => exact ⟨rfl, _, rfl, .inr (.inr (.inr (.inr ⟨_, .inl rfl, h, ih⟩)))⟩
  | tup h _ ih => exact ⟨rfl, _, rfl, .inr (.inr (.inr (.inr ⟨_, .inr rfl, h, ih⟩)))⟩
section
variable {te ta tb tc : TE} {tt : TT} {t u : TS} {Γ Γ' : Ga} {A : AE} {d e x y : D} {ds es : List D} {K : PySem.W.Frag} {X : Cx} {wi : TI} {n i j : Nat} {item : Nat → D}
/-- if c: x = e, of one kind -/
theorem sd_ifAsgF {α : Type} (f : α → D) {p q : α} {b : Bool} (h : EvT tt Γ b) (h0 : Γ[i]? = some (.dat (f q))) (h1 : b = true → EvD te Γ (f p)) (k : A.nx (Γ.set i (.dat (f (if b = true then p else q))))) : SD (tIfS tt (tAsg te (gName i)) tNext) Γ A :=
  sd_ifAsg h h0 h1 (by
    have e : (if b = true then f p else f q) = f (if b = true then p else q) := by split <;> rfl
    rw [e]; exact k)
theorem sd_ifAsgI {p q : Int} {b : Bool} (h : EvT tt Γ b) (h0 : Γ[i]? = some (.dat (.int q))) (h1 : b = true → EvD te Γ (.int p)) (k : A.nx (Γ.set i (.dat (.int (if b = true then p else q))))) : SD (tIfS tt (tAsg te (gName i)) tNext) Γ A := sd_ifAsgF D.int h h0 h1 k
end
/-! ### the rules that name the written part, K said -/
section
variable {X : Cx} {K : PySem.W.Frag}
theorem ixK (h : X.K = K := by rfl) : IxR X (rIx K) := h ▸ ix_seq
theorem eqK (hu : X.A.units + 64 < cLine) (h : X.K = K := by rfl) : OpR X (compareOp .Eq) (rEqA K) := h ▸ op_eqA hu
theorem neK (hu : X.A.units + 64 < cLine) (h : X.K = K := by rfl) : OpR X (compareOp .NotEq) (rNeA K) := h ▸ op_neA hu
theorem inK (h : X.K = K := by rfl) : OpR X (compareOp .In) (rIn K false) := h ▸ op_in_seq
theorem notInK (h : X.K = K := by rfl) : OpR X (compareOp .NotIn) (rIn K true) := h ▸ op_notIn_seq
theorem lenK (h : X.K = K := by rfl) : CallR X (.builtin "len") (rLenA K) := h ▸ call_len
theorem sumK (hc : X.calm = true) (h : X.K = K := by rfl) : CallR X (.builtin "sum") (rSum K) := h ▸ cr_sum hc
theorem maxK (hc : X.calm = true) (h : X.K = K := by rfl) : CallR X (.builtin "max") (rMax K) := h ▸ cr_max hc
theorem minK (hc : X.calm = true) (h : X.K = K := by rfl) : CallR X (.builtin "min") (rMin K) := h ▸ cr_min hc
theorem anyK (hc : X.calm = true) (h : X.K = K := by rfl) : CallR X (.builtin "any") (rAny K) := h ▸ cr_any hc
theorem sortedK (h : X.K = K := by rfl) : CallR X (.builtin "sorted") (rSortedI K) := h ▸ cr_sortedI
theorem sortedPK (h : X.K = K := by rfl) : CallR X (.builtin "sorted") (rSortedPO K) := h ▸ cr_sortedPO
theorem sortedRevK {b : Bool} (h : X.K = K := by rfl) : CallRK X (.builtin "sorted") [Str.ofString "reverse"] (rSortedKw K b [.bl b]) := h ▸ cr_sortedRev
theorem listK (h : X.K = K := by rfl) : CallR X (.type "list") (rListA K) := h ▸ call_list_of
abbrev rTupleA (K : PySem.W.Frag) : List V → Hp → VK → Prop := fun xs H Q => ∃ p ys, xs = [.ref p] ∧ ((SqL K H p ys ∧ ∀ l, H l = none → Q (.ref l) (upd H l (.tup ys))) ∨ (SqT K H p ys ∧ Q (.ref p) H))
theorem tupleK (h : X.K = K := by rfl) : CallR X (.type "tuple") (rTupleA K) := h ▸ call_tuple_of
theorem isiK (h : X.K = K := by rfl) : CallR X (.builtin "isinstance") (rIsi K) := h ▸ call_isi
theorem isiTK (h : X.K = K := by rfl) : CallR X (.builtin "isinstance") (rIsiT K) := h ▸ call_isiT
theorem slK (h : X.K = K := by rfl) : SlR X (rSlA K) := h ▸ sl_any
theorem indexK (h : X.K = K := by rfl) : MtR X "list.index" (rIndex K) := h ▸ mt_index
variable {l tg e o : Expr} {te to : TE} {ta t : TA} {p pos p1 p2 p3 apos cpos tpos : Pos} {es elts : List Expr} {k n : Nat} {T id : String} {name : Str} {r : V → List V → Hp → VK → Prop}
theorem seqK (hl : PE X l te) (h : X.K = K := by rfl) : PI X tg l (iSeq K te) := h ▸ pi_seq hl
theorem revK (he : PE X e te) (h : X.K = K := by rfl) : PE X (.Subscript e (.Slice none none (some (.UnaryOp .USub (.Constant (.int 1) k p1) p2)) p3) pos) (tRevL K te) := h ▸ pe_revL he
theorem fldK {f : Str} (he : PE X e te) (hb : attributeBase e f X.env (eval e X.env) = eval e X.env) (h : X.K = K := by rfl) : PE X (.Attribute e f pos) (tFld K te f) := h ▸ pe_fld he hb
theorem tupG {ts : TGs} (hc : X.calm = true) (h : PGs X es ts) (hn : (assignEach es X.env).length = n := by rfl) (hst : (assignEach es X.env).findIdx? (·.1) = none := by rfl) (hk : X.K = K := by rfl) : PG X (.Tuple es k pos) (gTup K n ts) := hk ▸ pg_tup hc h hn hst
theorem reversedK (hg : Gl X "reversed") (hm : X.mg "reversed" = none) (ha : PA X [e] ta) (hs : starEach [e] X.env = [(false, eval e X.env)] := by rfl) (h : X.K = K := by rfl) : PI X tg (.Call (.Name "reversed" p) [e] [] pos) (iRev K ta) := h ▸ pi_reversed hg hm ha hs
theorem enumK (hg : Gl X "enumerate") (hm : X.mg "enumerate" = none) (ha : PA X [e] ta) (hs : starEach [e] X.env = [(false, eval e X.env)] := by rfl) (h : X.K = K := by rfl) : PI X (.Tuple elts k tpos) (.Call (.Name "enumerate" p) [e] [] pos) (iEnum K ta) := h ▸ pi_enum hg hm ha hs
theorem zipK {e2 : Expr} (hg : Gl X "zip") (hm : X.mg "zip" = none) (ha : PA X [e, e2] ta) (hs : starEach [e, e2] X.env = (false, eval e X.env) :: starEach [e2] X.env := by rfl) (hpl : (backTo pos (starEach [e2] X.env)).any (·.1) = false := by rfl) (h : X.K = K := by rfl) : PI X (.Tuple elts k tpos) (.Call (.Name "zip" p) [e, e2] [] pos) (iZip K ta) := h ▸ pi_zip hg hm ha hs hpl
theorem bmK (pa : PlainAttrs T) (slot : Slot T name id) (hty : typeOf (.builtin id) = pure (.type "method_descriptor")) (hm : MtR X id r) (ho : PE X o to) (ha : PA X (e :: es) t) (hbase : attributeBase o name X.env (eval o X.env) = eval o X.env := by rfl)
    (hfew : ((backTo cpos (starEach (e :: es) X.env)).all (fun x => !x.1) && (backToKw cpos (keywordEach [] X.env)).all (fun x => x.1.isSome) && decide ((e :: es).length + ([] : List Keyword).length + (if ([] : List Keyword).isEmpty then 0 else 1) < 30)) = true := by rfl) (hline : (apos.endLine == cpos.line) = true := by rfl)
    (hs : starEach (e :: es) X.env = (false, eval e X.env) :: starEach es X.env := by rfl) (hplain : (backTo cpos (starEach es X.env)).any (·.1) = false := by rfl) (h : X.K = K := by rfl) : PE X (.Call (.Attribute o name apos) (e :: es) [] cpos) (tBM K T r to t) := h ▸ pe_bm pa slot hty hm ho ha hbase hfew hline hs hplain
theorem bm0K (pa : PlainAttrs T) (slot : Slot T name id) (hty : typeOf (.builtin id) = pure (.type "method_descriptor")) (hm : MtR X id r) (ho : PE X o to) (hbase : attributeBase o name X.env (eval o X.env) = eval o X.env := by rfl) (hline : (apos.endLine == cpos.line) = true := by rfl) (h : X.K = K := by rfl) : PE X (.Call (.Attribute o name apos) [] [] cpos) (tBM0 K T r to) := h ▸ pe_bm0 pa slot hty hm ho hbase hline
end
end Dl
/-! Dl6: typed lists: comprehensions, loops, slices; texts. -/
namespace Dl
open PySem PySem.Spec L2
section
variable {te ta tb tc tl : TE} {tt : TT} {t u : TS} {Γ Γ' : Ga} {A : AE} {d e x y : D} {ds es : List D} {K : PySem.W.Frag} {X : Cx} {wi : TI} {n i j : Nat} {item : Nat → D}
theorem et_yes : EvT tYes Γ true := fun G W σ H k Q q => q G H (.refl k.g)
theorem given_map {α : Type} (xs : List α) (x0 : α) (p : α → Bool) (h : α → D) : given xs.length (fun i => p (xs.getD i x0)) (fun i => h (xs.getD i x0)) = (xs.filter p).map h := by
  unfold given
  have e : ∀ l : List α, (List.range l.length).map (fun i => l.getD i x0) = l := fun l => by
    apply List.ext_getElem
    · simp
    · intro i h1 h2
      simp [List.getD_eq_getElem?_getD, List.getElem?_eq_getElem h2]
  have := congrArg (fun l => (l.filter p).map h) (e xs)
  simp only [List.filter_map, List.map_map] at this
  exact this
theorem ixD_map {α : Type} {f : α → D} {xs : List α} {i : Nat} (x0 : α) (h : i < xs.length) : ixD (xs.map f) i = f (xs.getD i x0) := by
  show (xs.map f).getD i .non = _
  rw [List.getD_eq_getElem?_getD, List.getD_eq_getElem?_getD, List.getElem?_map, List.getElem?_eq_getElem h]
  rfl
theorem getDmem {α : Type} {xs : List α} {i : Nat} {x0 : α} (h : i < xs.length) : xs.getD i x0 ∈ xs := by
  rw [List.getD_eq_getElem?_getD, List.getElem?_eq_getElem h]
  exact List.getElem_mem _
theorem sd_skip : True := trivial
theorem given_congr {n : Nat} {f f' : Nat → Bool} {g g' : Nat → D} (h : ∀ i, i < n → f i = f' i) (h' : ∀ i, i < n → f i = true → g i = g' i) : given n f g = given n f' g' := by
  induction n with
  | zero => rfl
  | succ n ih =>
    rw [given_succ, given_succ, ← h n (by omega), ih (fun i hi => h i (by omega)) fun i hi => h' i (by omega)]
    split
    · rw [h' n (by omega) ‹_›]
    · rfl
/-- [te for x in xs if tt], xs of one kind -/
theorem en_lcT {α : Type} {f : α → D} {xs : List α} {vs : List Nat} (p : α → Bool) (h : α → D) (src : EvB tl Γ (.lst (xs.map f))) (hj : j ∈ vs) (hl : xs.length ≤ 1000000) (ht : ∀ x ∈ xs, EvT tt ((wipeG Γ vs).set j (.dat (f x))) (p x))
    (he : ∀ x ∈ xs, p x = true → EvD te ((wipeG Γ vs).set j (.dat (f x))) (h x)) : EvN (tLc (iSeq K tl) (gName j) tt te vs) Γ (.lst ((xs.filter p).map h)) := by
  cases hx : xs with
  | nil =>
    subst hx
    exact (en_lc (wi := iSeq K tl) (f := fun _ => false) (v := fun _ => .non) (Γi := fun _ => Γ) (eic_list src) (fun i hi => absurd hi (Nat.not_lt_zero _)) (fun i hi => absurd hi (Nat.not_lt_zero _)) (fun i hi => absurd hi (Nat.not_lt_zero _)) (Nat.lt_of_lt_of_le (Nat.zero_lt_succ _) (by decide : 1 ≤ sizeLine))).of rfl
  | cons x0 r =>
    rw [← hx]
    have := en_lc (wi := iSeq K tl) (g := gName j) (vs := vs) (tt := tt) (te := te) (fun i => p (xs.getD i x0)) (fun i => h (xs.getD i x0)) (Γi := fun i => (wipeG Γ vs).set j (.dat (f (xs.getD i x0)))) (eic_list (K := K) src) (fun i hi => ?_) (fun i hi => ?_) (fun i hi hf => ?_) ?_
    · rw [List.length_map] at this
      rw [← given_map xs x0 p h]
      exact this
    · rw [List.length_map] at hi
      rw [ixD_map x0 hi]
      exact eg_name hj
    · rw [List.length_map] at hi
      exact ht _ (getDmem hi)
    · rw [List.length_map] at hi
      exact he _ (getDmem hi) hf
    · rw [List.length_map]
      exact Nat.lt_of_le_of_lt hl (by decide)
/-- [te for x in xs] -/
theorem en_lcM {α : Type} {f : α → D} {xs : List α} {vs : List Nat} (h : α → D) (src : EvB tl Γ (.lst (xs.map f))) (hj : j ∈ vs) (hl : xs.length ≤ 1000000) (he : ∀ x ∈ xs, EvD te ((wipeG Γ vs).set j (.dat (f x))) (h x)) : EvN (tLc (iSeq K tl) (gName j) tYes te vs) Γ (.lst (xs.map h)) := by
  have := en_lcT (K := K) (fun _ => true) h src hj hl (fun x _ => et_yes) (fun x hx _ => he x hx)
  rw [List.filter_eq_self.mpr fun _ _ => rfl] at this
  exact this
/-- [te for j in range(n)] -/
theorem en_lcR {n : Int} {vs : List Nat} (h : Nat → D) (src : EvD te Γ (.int n)) (hj : j ∈ vs) (hn : -1000000 ≤ n ∧ n ≤ 1000000) (he : ∀ i : Nat, (i : Int) < n → EvD tc ((wipeG Γ vs).set j (.dat (.int (i : Int)))) (h i)) : EvN (tLc (iRng1 (tCons te tNil)) (gName j) tYes tc vs) Γ (.lst ((List.range n.toNat).map h)) := by
  have := en_lc (wi := iRng1 (tCons te tNil)) (g := gName j) (vs := vs) (tt := tYes) (te := tc) (fun _ => true) h (Γi := fun i => (wipeG Γ vs).set j (.dat (.int (i : Int)))) (ei_rng1 src hn).c (fun i hi => eg_name hj) (fun i hi => et_yes) (fun i hi _ => he i (by omega)) (Nat.lt_of_le_of_lt (by omega : n.toNat ≤ 1000000) (by decide))
  unfold given at this
  rw [List.filter_eq_self.mpr fun _ _ => rfl] at this
  exact this
/-- for x in xs, xs of one kind -/
theorem sd_forT {α : Type} {f : α → D} {xs : List α} (src : EvD tl Γ (.lst (xs.map f))) (P : Nat → Ga → Prop) (h0 : P 0 Γ)
    (hs : ∀ i (h : i < xs.length) Γ', P i Γ' → SD t (Γ'.set j (.dat (f xs[i]))) { A with nx := P (i + 1), ct := P (i + 1), bk := A.nx }) (hd : ∀ Γ', P xs.length Γ' → A.nx Γ') : SD (tFor (iSeq K tl) (gName j) t) Γ A := by
  refine sd_for (vs := [j]) (ei_list src) P h0 (fun i Γ' hi p => ?_) (by rw [List.length_map]; exact hd)
  rw [List.length_map] at hi
  refine ⟨_, eg_name (by simp), ?_⟩
  rw [ixD_map xs[i] hi, List.getD_eq_getElem?_getD, List.getElem?_eq_getElem hi]
  exact hs i hi Γ' p
/-- for j in range(n) -/
theorem sd_forR {n : Int} (src : EvD te Γ (.int n)) (hn : -1000000 ≤ n ∧ n ≤ 1000000) (P : Nat → Ga → Prop) (h0 : P 0 Γ)
    (hs : ∀ (i : Nat), (i : Int) < n → ∀ Γ', P i Γ' → SD t (Γ'.set j (.dat (.int (i : Int)))) { A with nx := P (i + 1), ct := P (i + 1), bk := A.nx }) (hd : ∀ Γ', P n.toNat Γ' → A.nx Γ') : SD (tFor (iRng1 (tCons te tNil)) (gName j) t) Γ A :=
  sd_for (vs := [j]) (ei_rng1 src hn) P h0 (fun i Γ' hi p => ⟨_, eg_name (by simp), hs i (by omega) Γ' p⟩) hd

/-! ### slices of typed lists -/
theorem cutD_map {α : Type} (f : α → D) (xs : List α) (lo hi : Option Int) : cutD (xs.map f) lo hi = (cutD xs lo hi).map f := by
  unfold cutD
  rw [List.length_map, List.map_take, List.map_drop]
theorem cut_to {α : Type} (xs : List α) (k : Nat) : cutD xs none (some (k : Int)) = xs.take k := by
  unfold cutD
  rw [HT.sIx_none, HT.sIx_nat, List.drop_zero, Nat.sub_zero]
  rcases Nat.le_total k xs.length with h | h
  · rw [Nat.min_eq_left h]
  · rw [Nat.min_eq_right h, List.take_of_length_le (Nat.le_refl _), List.take_of_length_le h]
theorem cut_from {α : Type} (xs : List α) (k : Nat) : cutD xs (some (k : Int)) none = xs.drop k := by
  unfold cutD
  rw [HT.sIx_none, HT.sIx_nat]
  rcases Nat.le_total k xs.length with h | h
  · rw [Nat.min_eq_left h, List.take_of_length_le (by rw [List.length_drop]; omega)]
  · rw [Nat.min_eq_right h, List.drop_of_length_le (Nat.le_refl _), List.drop_of_length_le h]; simp
theorem en_slT {α : Type} {f : α → D} {xs : List α} {tl th : TO} {lo hi : Option Int} (ha : EvB te Γ (.lst (xs.map f))) (hl : EvO tl Γ lo) (hh : EvO th Γ hi) : EvN (tSl (rSlA K) te tl th) Γ (.lst ((cutD xs lo hi).map f)) :=
  (en_sl ha hl hh).of (by rw [cutD_map])
theorem en_catT {α : Type} {f : α → D} {xs ys : List α} (ha : EvB ta Γ (.lst (xs.map f))) (hb : EvB tb Γ (.lst (ys.map f))) (hl : xs.length + ys.length ≤ 1000000) : EvN (tOp rAddA ta tb) Γ (.lst ((xs ++ ys).map f)) :=
  (en_cat ha hb (by rw [List.length_map, List.length_map]; exact Nat.le_trans hl (by decide))).of (by rw [List.map_append])
/-! ### texts -/
theorem ev_addS {x y : Str} (ha : EvD ta Γ (.str x)) (hb : EvD tb Γ (.str y)) (h : x.length + y.length ≤ 1000000) : EvD (tOp rAddA ta tb) Γ (.str (x ++ y)) :=
  ev_op ha.rd hb.rd fun G W σ H k v w rv rw Q q => by
    cases rpS rv; cases rpS rw
    exact .inl (.inr ⟨x, y, rfl, rfl, Nat.le_trans h (by decide), q _ G H (.refl k.g) (.str _)⟩)
/-- the order of letters: true is K -/
def ltr (b : Bool) : Nat := if b then 75 else 82
def ordS (o : List Bool) : Str := ⟨(o.map ltr).toArray⟩
theorem ordS_len (o : List Bool) : (ordS o).length = o.length := by
  show ((o.map ltr).toArray).size = _
  simp
theorem ordS_K : (Str.ofString "K" : Str) = ordS [true] := by decide +kernel
theorem ordS_R : (Str.ofString "R" : Str) = ordS [false] := by decide +kernel
theorem ordS_nil : (Str.ofString "" : Str) = ordS [] := by decide +kernel
theorem ordS_app (o p : List Bool) : ordS o ++ ordS p = ordS (o ++ p) := by
  show Str.mk _ = Str.mk _
  simp [ordS]
theorem ordS_inj {o p : List Bool} (h : ordS o = ordS p) : o = p := by
  have h1 : (o.map ltr) = p.map ltr := by
    have := congrArg (fun s : Str => s.cps.toList) h
    simpa [ordS] using this
  induction o generalizing p with
  | nil => cases p with
    | nil => rfl
    | cons _ _ => cases h1
  | cons b o ih =>
    cases p with
    | nil => cases h1
    | cons c p =>
      simp only [List.map_cons, List.cons.injEq] at h1
      obtain ⟨h2, h3⟩ := h1
      have e : b = c := by cases b <;> cases c <;> first | rfl | (exact absurd h2 (by decide))
      rw [e, ih (by unfold ordS; rw [h3]) h3]
/-- for letter in order -/
theorem sd_forO {o : List Bool} (src : EvD tl Γ (.str (ordS o))) (P : Nat → Ga → Prop) (h0 : P 0 Γ)
    (hs : ∀ i (h : i < o.length) Γ', P i Γ' → SD t (Γ'.set j (.dat (.str (ordS [o[i]])))) { A with nx := P (i + 1), ct := P (i + 1), bk := A.nx }) (hd : ∀ Γ', P o.length Γ' → A.nx Γ') : SD (tFor (iSeq K tl) (gName j) t) Γ A := by
  have hz : (ordS o).cps.size = o.length := by simp [ordS]
  refine sd_for (vs := [j]) (ei_str src) P h0 (fun i Γ' hi p => ?_) (by rw [hz]; exact hd)
  rw [hz] at hi
  refine ⟨_, eg_name (by simp), ?_⟩
  have e : (⟨#[(ordS o).cps.getD i 0]⟩ : Str) = ordS [o[i]] := by
    have : (ordS o).cps.getD i 0 = ltr o[i] := by simp [ordS, Array.getD_eq_getD_getElem?, hi]
    rw [this]; rfl
  rw [e]
  exact hs i hi Γ' p
theorem ev_isK {b : Bool} (ha : EvD ta Γ (.str (ordS [b]))) : EvD (tOp (rEqA K) ta (tC (.str (Str.ofString "K")))) Γ (.bl b) := (ev_eqS ha ev_str).of (by
  rw [ordS_K]
  cases b
  · rw [decide_eq_false (fun h => by have := ordS_inj h; cases this)]
  · rw [decide_eq_true rfl])
theorem ev_isR {b : Bool} (ha : EvD ta Γ (.str (ordS [b]))) : EvD (tOp (rEqA K) ta (tC (.str (Str.ofString "R")))) Γ (.bl (!b)) := (ev_eqS ha ev_str).of (by
  rw [ordS_R]
  cases b
  · rw [decide_eq_true rfl]; rfl
  · rw [decide_eq_false (fun h => by have := ordS_inj h; cases this)]; rfl)
end
/-! ### signs counted -/
theorem sub1 (z : Str) (c : Nat) (i : Nat) (h : i < z.cps.size) : Builtin.Str.subAt z ⟨#[c]⟩ i = decide (z.cps.getD i 0 = c) := by
  unfold Builtin.Str.subAt
  have e : z.cps.extract i (i + Str.length ⟨#[c]⟩) = #[z.cps[i]] := by
    apply Array.ext
    · simp [Str.length]; omega
    · intro j h1 h2
      have : j = 0 := by simp at h2; omega
      subst this
      simp
  have e2 : z.cps.getD i 0 = z.cps[i] := by simp [Array.getD_eq_getD_getElem?, h]
  rw [e, e2]
  by_cases q : z.cps[i] = c
  · simp [q]
  · simp [q]
/-- the places of one sign -/
theorem occ1 (z : Str) (c : Nat) : (Builtin.Str.occurrences z ⟨#[c]⟩ 0 z.length (z.length + 1)) = (List.range z.length).filter fun i => decide (z.cps.getD i 0 = c) := by
  unfold Builtin.Str.occurrences
  have hl : Str.length ⟨#[c]⟩ = 1 := rfl
  have hz : z.length = z.cps.size := rfl
  simp only [Id.run, Std.Legacy.Range.forIn_eq_forIn_range', Std.Legacy.Range.size, Nat.sub_zero, Nat.add_sub_cancel, Nat.div_one, hl]
  have key : ∀ (k a : Nat) (found : Array Nat) (free : Nat), found.size ≤ a → free ≤ a → a + k = z.length + 1 →
      (∃ fr, forIn (m := Id) (List.range' a k 1) ((found, free) : Array Nat × Nat) (fun i r => if (decide (r.fst.size < z.length + 1) && decide (r.snd ≤ i) && decide (i + 1 ≤ z.length) && Builtin.Str.subAt z ⟨#[c]⟩ i) = true then
          pure (ForInStep.yield (r.fst.push i, i + 1)) else pure (ForInStep.yield (r.fst, r.snd))) = (⟨found ++ ((List.range' a k 1).filter fun i => decide (i < z.length) && decide (z.cps.getD i 0 = c)).toArray, fr⟩ : Array Nat × Nat)) := by
    intro k
    induction k with
    | zero => intro a found free _ _ _; exact ⟨free, by simp; rfl⟩
    | succ k ih =>
      intro a found free h1 h2 h3
      rw [List.range'_succ, List.forIn_cons]
      by_cases ha : a < z.length
      · by_cases hc : z.cps.getD a 0 = c
        · obtain ⟨fr, e⟩ := ih (a + 1) (found.push a) (a + 1) (by simp; omega) (Nat.le_refl _) (by omega)
          refine ⟨fr, ?_⟩
          rw [if_pos (by rw [sub1 z c a ha, decide_eq_true hc]; simp; omega)]
          simp only [List.filter_cons]
          rw [if_pos (by rw [decide_eq_true ha, decide_eq_true hc]; rfl)]
          refine Eq.trans e ?_
          simp
        · obtain ⟨fr, e⟩ := ih (a + 1) found free (by omega) (by omega) (by omega)
          refine ⟨fr, ?_⟩
          rw [if_neg (by rw [sub1 z c a ha, decide_eq_false hc, Bool.and_false]; simp)]
          simp only [List.filter_cons]
          rw [if_neg (by rw [decide_eq_false hc, Bool.and_false]; simp)]
          exact e
      · obtain ⟨fr, e⟩ := ih (a + 1) found free (by omega) (by omega) (by omega)
        refine ⟨fr, ?_⟩
        rw [if_neg (by simp; omega)]
        simp only [List.filter_cons]
        rw [if_neg (by rw [decide_eq_false ha, Bool.false_and]; simp)]
        exact e
  obtain ⟨fr, e⟩ := key (z.length + 1) 0 #[] 0 (Nat.le_refl _) (Nat.le_refl _) (by omega)
  refine Eq.trans (congrArg (fun r : Array Nat × Nat => r.fst.toList) e) ?_
  simp only [Array.empty_append, List.toList_toArray] 
  rw [show List.range' 0 (z.length + 1) 1 = List.range (z.length + 1) from by simp [List.range_eq_range'], List.range_succ, List.filter_append]
  simp only [List.filter_cons, Nat.lt_irrefl, decide_false, Bool.false_and, List.filter_nil, Bool.false_eq_true, if_false, List.append_nil]
  exact List.filter_congr fun i hi => by simp [List.mem_range.mp hi]
theorem count_ord (o : List Bool) (b : Bool) : Txt.count (ordS o) (ordS [b]) = ((o.filter (· == b)).length : Nat) := by
  unfold Txt.count
  have hb : ordS [b] = ⟨#[ltr b]⟩ := rfl
  rw [hb, occ1, ordS_len]
  congr 1
  induction o with
  | nil => rfl
  | cons a o ih =>
    have e : ∀ i, (ordS (a :: o)).cps.getD (i + 1) 0 = (ordS o).cps.getD i 0 := fun i => by simp [ordS, Array.getD_eq_getD_getElem?]
    have e0 : (ordS (a :: o)).cps.getD 0 0 = ltr a := by simp [ordS, Array.getD_eq_getD_getElem?]
    rw [List.length_cons, List.range_succ_eq_map, List.filter_cons, List.filter_map, List.filter_cons]
    have e3 : ((fun i => decide ((ordS (a :: o)).cps.getD i 0 = ltr b)) ∘ Nat.succ) = fun i => decide ((ordS o).cps.getD i 0 = ltr b) := by
      funext i
      show decide ((ordS (a :: o)).cps.getD (i + 1) 0 = ltr b) = _
      rw [e]
    rw [e3, e0]
    have e4 : decide (ltr a = ltr b) = (a == b) := by cases a <;> cases b <;> rfl
    rw [e4]
    split
    · rw [List.length_cons, List.length_cons, List.length_map, ih]
    · rw [List.length_map, ih]
abbrev rCount : V → List V → Hp → VK → Prop := fun x xs H Q => ∃ a b, x = .str a ∧ xs = [.str b] ∧ Q (.int (Txt.count a b)) H
theorem ev_countO {ta tb : TE} {Γ : Ga} {K : PySem.W.Frag} {o : List Bool} {b : Bool} (ha : EvD ta Γ (.str (ordS o))) (hb : EvD tb Γ (.str (ordS [b]))) : EvD (tBM K "str" rCount ta (tCons tb tNil)) Γ (.int (((o.filter (· == b)).length : Nat) : Int)) := fun G W σ H k Q q =>
  ha G W σ H k _ fun v G1 H1 s1 r1 => by
    cases rqS r1
    refine ⟨rfl, hb G1 W σ H1 (k.stp s1) _ fun w G2 H2 s2 r2 => ?_⟩
    cases rqS r2
    refine ⟨_, _, rfl, rfl, ?_⟩
    rw [count_ord]
    exact q _ G2 H2 (s1.trans s2) (.int _)
theorem ixN_nat {n j : Nat} (h : j < n) : ixN n (j : Int) = some j := by
  unfold ixN
  rw [if_pos (by omega), if_pos (by omega)]
  simp
/-- for j in range(lo, n) -/
theorem sd_forR2 {ta tb : TE} {t : TS} {Γ : Ga} {A : AE} {j : Nat} {lo n : Int} (h1 : EvD ta Γ (.int lo)) (h2 : EvD tb Γ (.int n)) (hn : -1000000 ≤ lo ∧ lo ≤ 1000000 ∧ -1000000 ≤ n ∧ n ≤ 1000000) (P : Nat → Ga → Prop) (h0 : P 0 Γ)
    (hs : ∀ (i : Nat), lo + (i : Int) < n → ∀ Γ', P i Γ' → SD t (Γ'.set j (.dat (.int (lo + (i : Int))))) { A with nx := P (i + 1), ct := P (i + 1), bk := A.nx }) (hd : ∀ Γ', P (n - lo).toNat Γ' → A.nx Γ') : SD (tFor (iRng2 (tCons ta (tCons tb tNil))) (gName j) t) Γ A :=
  sd_for (vs := [j]) (ei_rng2 h1 h2 hn) P h0 (fun i Γ' hi p => ⟨_, eg_name (by simp), hs i (by omega) Γ' p⟩) hd
end Dl
/-! Dl7: dicts with tuple keys at the level of the machine: values(), items(), comprehensions with one and with two clauses, a display; a lock that stays. -/
namespace Dl
open PySem PySem.Spec L2
open PyProof.Rows hiding St
/-- a statement ahead of which a thing is locked for good -/
def tLk (t : TS) : TS := fun D σ H => ∃ d u, H d = some u ∧ Mut (some u) ∧ ∀ od, t D σ (upd H d (.frz od u))
theorem ps_lk {X : Cx} {st : Stmt} {t : TS} (h : PS X st t) : PS X st (tLk t) := ⟨fun pins s σ H D I q => by
  obtain ⟨d, u, hd, mu, q⟩ := q
  obtain ⟨od, I1⟩ := I.lock hd mu
  exact h.run pins s σ _ _ I1 (q od)⟩

theorem frzV {X : Cx} {pins : List (Addr × Obj)} {σ : St} {H : Hp} {s : Shared} {d : Addr} {o : Obj} {kvs : List (List Key × V)} (I : Inv X pins σ H s) (h : H d = some (.frz o (.dT kvs))) :
    (d == sysModules) = false ∧ ∃ (es : Array DictEntry) (ep : Nat), o.data = .dict es ep ∧ s.heap.DictRaw d es ep ∧ s.heap.get? d = some o ∧ es.size = kvs.length ∧
      ∀ (i : Nat) (k : List Key) (v : V), kvs[i]? = some (k, v) → ∃ (hi : i < es.size) (q : Addr), es[i].key = .ref q ∧ H q = some (.tup (k.map kV)) ∧ RelV v es[i].val := by
  obtain ⟨hd, z, hs, xs, pr, o2, es, ep, ho, hx, hdt, he, nd⟩ := I.hok d _ h
  rw [hd] at ho
  cases ho
  have l1 : es.size = xs.length := size_of_entries he
  have l2 : kvs.length = xs.length := Paired.length pr
  refine ⟨hs, es, ep, hdt, ⟨o, hd, hx, hdt⟩, hd, by omega, fun i k v e => ?_⟩
  obtain ⟨b, hb, e1, e2, e3⟩ := paired_get pr e
  have q := entry_at he i
  rw [hb] at q
  obtain ⟨hi, q⟩ := Array.getElem?_eq_some_iff.mp q
  exact ⟨hi, b.2.1, by rw [q]; rfl, e2, by rw [q]; exact e3⟩
/-- values, items of a locked dict whose keys are tuples -/
def Jv (d : Addr) (o : Obj) (kvs : List (List Key × V)) : It where
  go := fun i H => H d = some (.frz o (.dT kvs)) ∧ i < kvs.length
  yld := fun i H x H' => H' = H ∧ ∃ k, kvs[i]? = some (k, x)
  stop := fun i H => H d = some (.frz o (.dT kvs)) ∧ kvs.length ≤ i
def Ji (d : Addr) (o : Obj) (kvs : List (List Key × V)) : It where
  go := fun i H => H d = some (.frz o (.dT kvs)) ∧ i < kvs.length
  yld := fun i H x H' => ∃ T k v q, kvs[i]? = some (k, v) ∧ H q = some (.tup (k.map kV)) ∧ x = .ref T ∧ H T = none ∧ H' = upd H T (.tup [.ref q, v])
  stop := fun i H => H d = some (.frz o (.dT kvs)) ∧ kvs.length ≤ i
section
variable {P : Program} {w : World} {K : PySem.W.Frag} {d : Addr} {o : Obj} {kvs : List (List Key × V)} {es : Array DictEntry} {ep : Nat}
theorem turn_Jv {tg : Expr} (it : Addr) (hod : o.data = .dict es ep) : Turn P w K tg (Jv d o kvs) [it] it (fun i h => h.IsValIter it d i kvs.length ep) where
  mem := List.mem_singleton.mpr rfl
  obj := fun i h st b hb => by
    cases List.mem_singleton.mp hb
    obtain ⟨oi, e, _, dd⟩ := st
    exact ⟨oi, e, fun v z => by rw [dd] at z; exact nomatch z⟩
  keep := fun i h h' st k => st.at fun oi e => k it (List.mem_singleton.mpr rfl) oi e
  item := by
    intro X hP hw hK hc i pins s σ H E I hf st hg
    subst hP hw hK
    obtain ⟨f0, f1, f2, f3, f4, f5⟩ := hf it (List.mem_singleton.mpr rfl)
    obtain ⟨hs, es2, ep2, hdt, raw, hgd, hsz, ent⟩ := frzV I hg.1
    obtain ⟨rfl, rfl⟩ := dict_ep hod hdt
    have hik : i < kvs.length := hg.2
    have hkv := List.getElem?_eq_getElem hik
    obtain ⟨hi, q, _, _, rv⟩ := ent i kvs[i].1 kvs[i].2 hkv
    rw [← hsz] at st
    refine PySem.wpAny_pyNext_values_item_raw st raw hi fun h' st' sb => ?_
    have I1 : Inv X pins σ H { s with heap := h' } := I.turned (t' := s.toks) (fun b ob hb e => (sb.2 b hb).trans e) f0 f1 f3 f4 f5
    obtain ⟨oi, e, c, dd⟩ := id st'
    refine ⟨es2[i].val, rfl, go_of (s := { s with heap := h' }) e c dd (by decide) ⟨kvs[i].2, H, I1, rv, ⟨rfl, kvs[i].1, hkv⟩, ?_, fun b hb => (hf b hb).1⟩⟩
    rw [hsz] at st'
    exact st'
  done := by
    intro X hP hw hK hc i pins s σ H E I hf st hg
    subst hP hw hK
    obtain ⟨f0, f1, f2, f3, f4, f5⟩ := hf it (List.mem_singleton.mpr rfl)
    obtain ⟨hs, es2, ep2, hdt, raw, hgd, hsz, ent⟩ := frzV I hg.1
    obtain ⟨rfl, rfl⟩ := dict_ep hod hdt
    rw [← hsz] at st
    exact PySem.wpAny_pyNext_values_end_raw (I.ok.hd hc) st raw (by rw [hsz]; exact hg.2) fun h' eb => ⟨rfl, I.turned (t' := s.toks) (fun b ob hb e => eb b ob hb e) f0 f1 f3 f4 f5⟩
  self := fun A i s Q E st h => wpAny_pyIter_valiter st h
theorem turn_Ji {elts : List Expr} {kk : Nat} {tpos : Pos} (it : Addr) (hod : o.data = .dict es ep) :
    Turn P w K (.Tuple elts kk tpos) (Ji d o kvs) [it] it (fun i h => ∃ ok ov, IsItemIter h it d i kvs.length ep ok ov) where
  mem := List.mem_singleton.mpr rfl
  obj := fun i h st b hb => by
    cases List.mem_singleton.mp hb
    obtain ⟨ok, ov, e⟩ := st
    exact ⟨_, e, fun v z => nomatch z⟩
  keep := fun i h h' st k => st.imp fun ok st => st.imp fun ov e => k it (List.mem_singleton.mpr rfl) _ e
  item := by
    intro X hP hw hK hc i pins s σ H E I hf st hg
    subst hP hw hK
    obtain ⟨hs, es2, ep2, hdt, raw, hgd, hsz, ent⟩ := frzV I hg.1
    obtain ⟨rfl, rfl⟩ := dict_ep hod hdt
    have hik : i < kvs.length := hg.2
    have hkv := List.getElem?_eq_getElem hik
    obtain ⟨hi, q, kq, hq, rv⟩ := ent i kvs[i].1 kvs[i].2 hkv
    obtain ⟨ok, ov, he⟩ := st
    rw [← hsz] at he
    have hlt : it < s.heap.objs.size := Heap.lt_size he
    refine PySem.wpAny_pyNext_items_item_raw he raw hi fun h' out hT hz hk => ?_
    refine ⟨_, rfl, wpAny_letOwnedTupleGo_items (s := { s with heap := h' }) out fun h'' he' sb => ?_⟩
    have hT2 := (sb.2 _ (Nat.ne_of_gt hlt)).trans hT
    have new : ObjOk X.prog X.w (upd H s.heap.objs.size (.tup [.ref q, kvs[i].2])) h'' s.heap.objs.size (.tup [.ref q, kvs[i].2]) := by
      refine ⟨by show 2 ≤ sizeLine; decide, [es2[i].key, es2[i].val], .cons (by rw [kq]; rfl) (.cons rv .nil), ⟨_, hT2, rfl, _, rfl⟩⟩
    have I1 : Inv X pins σ (upd H s.heap.objs.size (.tup [.ref q, kvs[i].2])) { s with heap := h'' } :=
      I.turnedNew (t' := s.toks) (ch := [it]) (fun b ob hb e => by
        have hb : b ≠ it := fun z => hb (List.mem_singleton.mpr z)
        exact (sb.2 b hb).trans (hk b ob hb e)) hf (Nat.le_refl _) new
    refine ⟨.ref s.heap.objs.size, _, I1, rfl, ⟨_, kvs[i].1, kvs[i].2, q, hkv, hq, rfl, I.hok.fresh (Nat.le_refl _), rfl⟩, ⟨_, _, by rw [hsz] at he'; exact he'⟩, fun b hb => ?_⟩
    cases List.mem_singleton.mp hb
    rw [upd_ne (Nat.ne_of_lt hlt)]
    exact (hf it hb).1
  done := by
    intro X hP hw hK hc i pins s σ H E I hf st hg
    subst hP hw hK
    obtain ⟨f0, f1, f2, f3, f4, f5⟩ := hf it (List.mem_singleton.mpr rfl)
    obtain ⟨hs, es2, ep2, hdt, raw, hgd, hsz, ent⟩ := frzV I hg.1
    obtain ⟨rfl, rfl⟩ := dict_ep hod hdt
    obtain ⟨ok, ov, he⟩ := st
    rw [← hsz] at he
    exact PySem.wpAny_pyNext_items_end_raw (I.ok.hd hc) he raw (by rw [hsz]; exact hg.2) fun h' eb => ⟨rfl, I.turned (t' := s.toks) (fun b ob hb e => eb b ob hb e) f0 f1 f3 f4 f5⟩
  self := fun A i s Q E st h => by
    obtain ⟨_, _, e⟩ := st
    exact PySem.W.kcp_self e h
end
def iValsT (td : TE) : TI := fun σ H R => td σ H fun x H1 => ∃ d o kvs, x = .ref d ∧ H1 d = some (.frz o (.dT kvs)) ∧ R (Jv d o kvs) H1
def iItemsT (td : TE) : TI := fun σ H R => td σ H fun x H1 => ∃ d o kvs, x = .ref d ∧ H1 d = some (.frz o (.dT kvs)) ∧ R (Ji d o kvs) H1
section
variable {X : Cx} {tg e : Expr} {td : TE} {apos cpos : Pos}
theorem noDict_raw {s : Shared} {d : Addr} {es : Array DictEntry} {ep : Nat} (r : s.heap.DictRaw d es ep) : ∀ a : Addr, Value.ref d = Value.ref a → ∃ o, s.heap.get? a = some o ∧ o.dict = none := by
  intro a e
  cases e
  obtain ⟨o, ho, hx, _⟩ := r
  exact ⟨o, ho, hx.2.1⟩
theorem pi_valuesT (he : PE X e td) (hbase : attributeBase e "values" X.env (eval e X.env) = eval e X.env := by rfl) (hline : (apos.endLine == cpos.line) = true := by rfl) : PI X tg (.Call (.Attribute e "values" apos) [] [] cpos) (iValsT td) := by
  refine ⟨fun pins s σ H R I h => ?_⟩
  refine wpAny_Call_method (T := "dict") (id := "dict.values") hbase rfl hline F.plainAttrs_dict F.slot_dict_values F.type_dict_values (thn (he.run pins s σ H _ I h) fun u s1 q => ?_)
  obtain ⟨x, H1, I1, rx, d, o, kvs, rfl, hd, q⟩ := q
  cases (show u = Value.ref d from rx)
  obtain ⟨hs, es, ep, hdt, raw, hgd, hsz, ent⟩ := frzV I1 hd
  refine ⟨raw.typeIs, noDict_raw raw, ?_⟩
  have I2 : Inv X pins σ H1 { s1 with heap := s1.heap.push { cls := .type "dict_values", data := .fields #[.ref d] } } := I1.kept (t' := s1.toks) fun b ob q => Heap.get?_push_of_some _ q
  have fin : wpAny (model X.prog X.w) X.A (pyIter (.ref s1.heap.objs.size)) (PIE X pins σ tg R) X.xe { s1 with heap := s1.heap.push { cls := .type "dict_values", data := .fields #[.ref d] } } := by
    refine PySem.wpAny_pyIter_values_raw (d := d) ⟨_, Heap.get?_push_size _ rfl, rfl, rfl⟩ (raw.at fun o e => Heap.get?_push_of_some _ e) (pi_one (tk := s1.toks) I2 _ (turn_Jv _ hdt) ⟨_, Heap.get?_push_size _ rfl, rfl, ?_⟩ q)
    rw [hsz] <;> rfl
  show wpAny _ _ (callWith cpos (.builtin "dict.values") [.ref d] [] []) _ X.xe s1
  exact method_meetsIn F.slot_dict_values F.entry_dict_values rfl (PySem.evalArgs_none ⟨rfl, raw.typeIs, F.args_dict_values_1 _, _, PySem.meets_dict_values_raw d hs, ⟨es, ep, raw⟩, fin⟩)
theorem pi_itemsT {elts : List Expr} {kk : Nat} {tpos : Pos} (he : PE X e td) (hbase : attributeBase e "items" X.env (eval e X.env) = eval e X.env := by rfl) (hline : (apos.endLine == cpos.line) = true := by rfl) :
    PI X (.Tuple elts kk tpos) (.Call (.Attribute e "items" apos) [] [] cpos) (iItemsT td) := by
  refine ⟨fun pins s σ H R I h => ?_⟩
  refine wpAny_Call_method (T := "dict") (id := "dict.items") hbase rfl hline F.plainAttrs_dict F.slot_dict_items F.type_dict_items (thn (he.run pins s σ H _ I h) fun u s1 q => ?_)
  obtain ⟨x, H1, I1, rx, d, o, kvs, rfl, hd, q⟩ := q
  cases (show u = Value.ref d from rx)
  obtain ⟨hs, es, ep, hdt, raw, hgd, hsz, ent⟩ := frzV I1 hd
  refine ⟨raw.typeIs, noDict_raw raw, ?_⟩
  have I2 : Inv X pins σ H1 { s1 with heap := s1.heap.push { cls := .type "dict_items", data := .fields #[.ref d] } } := I1.kept (t' := s1.toks) fun b ob q => Heap.get?_push_of_some _ q
  have fin : wpAny (model X.prog X.w) X.A (pyIter (.ref s1.heap.objs.size)) (PIE X pins σ (.Tuple elts kk tpos) R) X.xe { s1 with heap := s1.heap.push { cls := .type "dict_items", data := .fields #[.ref d] } } := by
    refine PySem.wpAny_pyIter_items_raw (d := d) ⟨_, Heap.get?_push_size _ rfl, rfl, rfl⟩ (raw.at fun o e => Heap.get?_push_of_some _ e) (pi_one (tk := s1.toks) I2 _ (turn_Ji _ hdt) ⟨.none, .none, ?_⟩ q)
    rw [← hsz]
    exact Heap.get?_push_size _ rfl
  show wpAny _ _ (callWith cpos (.builtin "dict.items") [.ref d] [] []) _ X.xe s1
  exact method_meetsIn F.slot_dict_items F.entry_dict_items rfl (PySem.evalArgs_none ⟨rfl, raw.typeIs, F.args_dict_items_1 _, _, PySem.meets_dict_items_raw d hs, ⟨es, ep, raw⟩, fin⟩)
end
/-! ### comprehensions -/
section
variable {X : Cx} {pins : List (Addr × Obj)} {σ : St} {H H' : Hp} {s : Shared} {E : Value → Shared → Prop} {D : Addr} {y z : V} {u r : Value}
theorem put_ok {Q : Unit → Shared → Prop} (hu : X.A.units + 1 < cLine) (I : Inv X pins σ H s) (g : DPut H D y z H') (ry : RelV y u) (rz : RelV z r) (h : ∀ s', Inv X pins σ H' s' → Q () s') : wpAny (model X.prog X.w) X.A (dictSet D u r) Q E s := by
  rcases g with ⟨kvs, k, hD, ey, hz, eH⟩ | ⟨kvs, k, b, hD, ey, eb, hz, eH⟩
  · subst ey eH
    exact d_dictSet I hD hz ry rz h
  · subst ey eH
    cases (show u = Value.ref b from ry)
    obtain ⟨z1, hd, xs, rel, dd⟩ := dt_of I.hok hD
    have hx : xs.length ≤ sizeLine := by rw [← Paired.length rel]; exact z1
    refine wpAny_dictSet_heap (hsz := hx) (show X.A.units < cLine by omega) (key_of I.hok eb) dd fun h' dd' hs => h _ ?_
    obtain ⟨q, es, ep, hq, h2, h3, h4, _, h5⟩ := dd'
    have hl : (putK kvs k z).length ≤ sizeLine := by have := length_putK kvs k z; omega
    refine d_write I (by rw [hD]; exact True.intro) hs ⟨q, hq⟩ ⟨hl, hd, _, (rel.put k eb rz).keeps fun c ys ec => ?_, q, es, ep, hq, h2, h3, h4, h5⟩
    rw [upd_ne (ne_of ec hD nofun)]
    exact ec
/-- behind a turn: the iterator's things stand as they stood -/
theorem turn_end {P : Program} {w : World} {K : PySem.W.Frag} {tg : Expr} {J : It} {fp : List Addr} {it : Addr} {tn : Nat → Heap → Prop} {i : Nat} {σ9 : St} {h7 : Heap} (T : Turn P w K tg J fp it tn) (st : tn i h7) (I : Inv X (pins ++ pinsAt fp h7) σ9 H s)
    (hl : σ.length = σ9.length) (hk : ∀ (j : Nat) v, σ[j]? = some (some v) → σ9[j]? = some (some v)) : Inv X pins σ H s ∧ tn i s.heap ∧ ∀ b ∈ fp, H b = none := by
  have at7 : ∀ b ∈ fp, ∀ o, h7.get? b = some o → s.heap.get? b = some o ∧ H b = none := fun b hb o e => by
    have q := I.pin (b, o) (List.mem_append_right _ (List.mem_append_right _ (mem_pinsAt hb e)))
    exact ⟨q.1, q.2.1⟩
  refine ⟨I.unpinned.weak hl hk, T.keep _ _ _ st fun b hb o e => (at7 b hb o e).1, fun b hb => ?_⟩
  obtain ⟨o, e, _⟩ := T.obj _ _ st b hb
  exact (at7 b hb o e).2
end
section
variable {X : Cx} {pins : List (Addr × Obj)} {s : Shared} {σ : St} {H : Hp} {Q : VK} {kx vx tg iter : Expr} {ifs : List Expr} {rest : List Comprehension} {scope : Scope} {own : List (Str × Nat)} {pos pos' : Pos} {wi : TI} {use : Option (Value → Sem Unit)} {Qf : Value → Shared → Prop} {o0 : HO}
/-- a dict comprehension's block: what its loop is asked for -/
def LoopOf (X : Cx) (σ : St) (vs : List Nat) (Q : VK) (o0 : HO) (R : It → Hp → Prop) (tg : Expr) (scope : Scope) (e : Expr) : Prop :=
  ∀ (it D : Addr) (fp : List Addr) (tn : Nat → Heap → Prop) (J : It) (s3 s4 : Shared) (H2 : Hp) (cl : List (Str × Addr)) (Post : Result → Shared → Prop),
    Inv (X.blk s3 (upd H2 D o0) scope (compEnvC scope cl s3.heap.objs.size X.env) fp) [] (wipe σ vs) (upd H2 D o0) s4 → Turn X.prog X.w X.K tg J fp it tn → tn 0 s4.heap → (∀ b ∈ fp, (upd H2 D o0) b = none) → H2 D = none → R J H2 →
    (∀ s' σ' H', Inv (X.blk s3 (upd H2 D o0) scope (compEnvC scope cl s3.heap.objs.size X.env) fp) [] σ' H' s' → Q (.ref D) H' → Post (.ok .next) s') →
    codeAny (model X.prog X.w) X.A (.compLoop e 0 (.ref it) (.ref D) (compEnvC scope cl s3.heap.objs.size X.env)) Post s4
theorem dc_block {R : It → Hp → Prop} (h0 : o0 = .dK [] ∨ o0 = .dT []) (hc : X.calm = true) (hN : X.N.Nodup) (I : Inv X pins σ H s) (hi : PI X tg iter wi) (ok : BlkOk X.N X.env.scope scope own) (hs : ∀ x, foldedSetIterable iter X.env x = pure x) (h : wi σ H R)
    (hL : LoopOf X σ (own.map (·.2)) Q o0 R tg scope (.DictComp kx vx (⟨tg, iter, ifs, 0⟩ :: rest) scope pos))
    (hRR : ∀ D C s' m H', Inv X pins σ H' s' → Q (.ref D) H' → s'.heap.Ns C m → FpOk X pins H' C → compPost (model X.prog X.w) X.A X.xe use Qf (.ref D) C (.ok .next) s') :
    wpAny (model X.prog X.w) X.A (comprehension (.DictComp kx vx (⟨tg, iter, ifs, 0⟩ :: rest) scope pos) scope X.env pos' newDict false (eval iter X.env) use) Qf X.xe s := by
  have hfree : ∀ y ∈ scope.names, y.2 = .free → ∃ c, X.env.cells.lookup y.1 = some c := fun y hy e => (ok.free y hy e).elim (fun k => I.ok.has _ (.inl k)) fun k => I.ok.has _ (.inr k)
  refine wpAny_comprehension_free (use := use) rfl hs (closure_ok hfree) ok.kind (fun y hy e => (ok.uniq y hy).trans (by rw [e])) (thn (hi.run pins s σ H _ I h) fun xv s1 hx => thn hx fun itv s2 h2 => ?_)
  obtain ⟨it, fp, tn, J, H2, rfl, I2, T, st2, f2, q⟩ := h2
  refine wpAny_newObj_type (newEnv_comp ?_)
  have hDn : H2 s2.heap.objs.size = none := I2.hok.fresh (Nat.le_refl _)
  have new : ObjOk X.prog X.w (upd H2 s2.heap.objs.size o0) (s2.heap.push { cls := .type "dict", data := .dict #[] }) s2.heap.objs.size o0 := by
    rcases h0 with rfl | rfl
    · exact dk_empty s2.heap I2.big
    · exact dt_empty s2.heap I2.big
  have I3 : Inv X pins σ (upd H2 s2.heap.objs.size o0) { s2 with heap := s2.heap.push { cls := .type "dict", data := .dict #[] } } := I2.laid (t' := s2.toks) (fun b o e => Heap.get?_push_of_some _ e) (Nat.le_refl _) new
  have lt : ∀ b ∈ fp, b < s2.heap.objs.size := fun b hb => by
    obtain ⟨o, e, _⟩ := T.obj _ _ st2 b hb
    exact Heap.lt_size e
  have f3 : ∀ b ∈ fp, FpOk X pins (upd H2 s2.heap.objs.size o0) b ∧ b < (s2.heap.push { cls := .type "dict", data := .dict #[] }).objs.size := fun b hb => by
    refine ⟨⟨?_, (f2 b hb).2⟩, by rw [Heap.size_push]; exact Nat.lt_succ_of_lt (lt b hb)⟩
    rw [upd_ne (Nat.ne_of_lt (lt b hb))]
    exact (f2 b hb).1
  have st3 : tn 0 (s2.heap.push { cls := .type "dict", data := .dict #[] }) := T.keep _ _ _ st2 fun b _ o e => Heap.get?_push_of_some _ e
  have I4 := block_start I3 ok hN f3
  generalize hs3 : ({ s2 with heap := s2.heap.push { cls := .type "dict", data := .dict #[] } } : Shared) = s3 at I3 I4 f3 st3 ⊢
  have e3 : s2.heap.push { cls := .type "dict", data := .dict #[] } = s3.heap := by rw [← hs3]
  rw [e3] at f3 st3
  generalize s2.heap.objs.size = D at hDn f3 I3 I4 ⊢
  generalize cellsFrom (s3.heap.objs.size + 1) scope.names (cloFrom X.env.cells scope.names []) = cl at I4 ⊢
  show codeAny _ _ (.compStart (.DictComp kx vx (⟨tg, iter, ifs, 0⟩ :: rest) scope pos) 0 (.ref it) (.ref D) (compEnvC scope cl s3.heap.objs.size X.env)) (compPost (model X.prog X.w) X.A X.xe use Qf (.ref D) s3.heap.objs.size) { s3 with heap := pushCells (s3.heap.push { cls := .type "dict", data := .dict #[] }) scope.names }
  have st4 : tn 0 (pushCells (s3.heap.push { cls := .type "dict", data := .dict #[] }) scope.names) := T.keep _ _ _ st3 fun b _ o e => pushCells_keeps _ _ _ _ (Heap.get?_push_of_some _ e)
  have loop := hL it D fp tn J s3 _ H2 cl (compPost (model X.prog X.w) X.A X.xe use Qf (.ref D) s3.heap.objs.size) I4 T st4 (fun b hb => (f3 b hb).1.1) hDn q fun s6 σ' H5 I6 qq => by
    have I7 : Inv X pins σ H5 s6 := I3.call' (ch := fp) I6.os I6.base I6.hok I6.bare fun b hb => ⟨(f3 b hb).1.2.2.2.1, (f3 b hb).1.2.1, (f3 b hb).1.2.2.2.2.1, (f3 b hb).1.2.2.2.2.2⟩
    have nC : H5 s3.heap.objs.size = none := I6.free
    obtain ⟨m, hn, _⟩ := I6.loc
    exact hRR D s3.heap.objs.size s6 m H5 I7 qq hn (I3.fpOk (Nat.le_refl _) nC)
  exact codeAny_compStart_dict loop (T.self X.A 0 _ _ _ st4 loop)
end
end Dl
/-! Dl8: the loops of dict comprehensions; a display with one tuple key. -/
namespace Dl
open PySem PySem.Spec L2
open PyProof.Rows hiding St
section
variable {X : Cx}
abbrev InBlk (X : Cx) (scope : Scope) (F : Cx → Prop) : Prop := ∀ (s : Shared) (H : Hp) (C : Addr) (cl : List (Str × Addr)) (fp : List Addr), F (X.blk s H scope (compEnvC scope cl C X.env) fp)
/-- what one clause's loop needs -/
def DcW (o0 : HO) (g : TG) (tt : TT) (tk tv : TE) (vs : List Nat) (σ : St) (Q : VK) (J : It) (H1 : Hp) : Prop := ∀ D, H1 D = none → ∃ W : Nat → Nat → Hp → Prop, (∃ m, W 0 m (upd H1 D o0)) ∧ ∀ i m H, W i m H →
  (J.stop i H ∧ Q (.ref D) H) ∨ (J.go i H ∧ ∃ Nx : Hp → Prop, (∀ H', Nx H' → ∃ m', m' < m ∧ W (i + 1) m' H') ∧ ∀ x H', J.yld i H x H' → g x (wipe σ vs) H' fun σ2 H2 => wipe σ2 vs = wipe σ vs ∧ tt σ2 H2 fun b H3 =>
    if b = true then tk σ2 H3 fun y H4 => tv σ2 H4 fun z H5 => ∃ H6, DPut H5 D y z H6 ∧ Nx H6 else Nx H3)
def tDcG (o0 : HO) (wi : TI) (g : TG) (tt : TT) (tk tv : TE) (vs : List Nat) : TE := fun σ H Q => wi σ H (DcW o0 g tt tk tv vs σ Q)
theorem loop1 {σ : St} {vs : List Nat} {Q : VK} {o0 : HO} {kx vx tg iter : Expr} {ifs : List Expr} {scope : Scope} {pos : Pos} {g : TG} {tt : TT} {tk tv : TE} (hu : X.A.units + 1 < cLine) (hc : X.calm = true)
    (hg : InBlk X scope fun Y => PG Y tg g) (ht : InBlk X scope fun Y => PTs Y ifs tt) (hk : InBlk X scope fun Y => PE Y kx tk) (hv : InBlk X scope fun Y => PE Y vx tv) :
    LoopOf X σ vs Q o0 (DcW o0 g tt tk tv vs σ Q) tg scope (.DictComp kx vx [⟨tg, iter, ifs, 0⟩] scope pos) := by
  intro it D fp tn J s3 s4 H2 cl Post I4 T st4 n4 hD q hend
  obtain ⟨W, ⟨m0, w0⟩, turn⟩ := q D hD
  refine compLoop_anyD (fun n s' => ∃ i H', (Inv (X.blk s3 (upd H2 D o0) scope (compEnvC scope cl s3.heap.objs.size X.env) fp) [] (wipe σ vs) H' s' ∧ tn i s'.heap ∧ ∀ b ∈ fp, H' b = none) ∧ W i n H') ?_ m0 ⟨0, _, ⟨I4, st4, n4⟩, w0⟩
  rintro n s5 ⟨i, H5, ⟨I5, st5, n5⟩, w5⟩
  have fo : ∀ b ∈ fp, FpOk (X.blk s3 (upd H2 D o0) scope (compEnvC scope cl s3.heap.objs.size X.env) fp) [] H5 b := fun b hb =>
    ⟨n5 b hb, (I5.ok.exf b hb).1, I5.ok.exfs b hb, .inl hb, fun x c e => (I5.ok.exf b hb).2 x c e, fun p hp => nomatch (show p ∈ ([] : List (Addr × Obj)) ++ [] from hp)⟩
  rcases turn i n H5 w5 with ⟨stop, qq⟩ | ⟨go, Nx, hNx, step⟩
  · refine thnF (T.done (X.blk s3 (upd H2 D o0) scope (compEnvC scope cl s3.heap.objs.size X.env) fp) rfl rfl rfl hc i [] s5 _ H5 (fun _ _ => False) I5 fo st5 stop) fun r s6 z => ?_
    obtain ⟨rfl, I6⟩ := z
    exact hend s6 _ H5 I6 qq
  · refine thnF (T.item (X.blk s3 (upd H2 D o0) scope (compEnvC scope cl s3.heap.objs.size X.env) fp) rfl rfl rfl hc i [] s5 _ H5 (fun _ _ => False) I5 fo st5 go) fun r s6 z => ?_
    obtain ⟨u, rfl, h6⟩ := z
    refine thnF h6 fun _ s7 z => ?_
    obtain ⟨x, H7, I7, r7, y7, st7, n7⟩ := z
    have fo7 : ∀ b ∈ fp, FpOk (X.blk s3 (upd H2 D o0) scope (compEnvC scope cl s3.heap.objs.size X.env) fp) [] H7 b := fun b hb =>
      ⟨n7 b hb, (I7.ok.exf b hb).1, I7.ok.exfs b hb, .inl hb, fun x c e => (I7.ok.exf b hb).2 x c e, fun p hp => nomatch (show p ∈ ([] : List (Addr × Obj)) ++ [] from hp)⟩
    have I7' := I7.pinned fo7 (T.obj _ _ st7)
    refine thnF ((hg s3 _ _ _ _).run _ s7 _ H7 x u _ I7' r7 (step x H7 y7)) fun _ s8 z => ?_
    obtain ⟨σ8, H8, I8, hw8, q8⟩ := z
    refine thnF ((ht s3 _ _ _ _).run _ s8 σ8 H8 _ I8 q8) fun b s9 z => ?_
    obtain ⟨H9, I9, q9⟩ := z
    have fin : ∀ {s' : Shared} {H' : Hp}, Inv (X.blk s3 (upd H2 D o0) scope (compEnvC scope cl s3.heap.objs.size X.env) fp) ([] ++ pinsAt fp s7.heap) σ8 H' s' → Nx H' →
        ∃ m, m < n ∧ ∃ i H', (Inv (X.blk s3 (upd H2 D o0) scope (compEnvC scope cl s3.heap.objs.size X.env) fp) [] (wipe σ vs) H' s' ∧ tn i s'.heap ∧ ∀ b ∈ fp, H' b = none) ∧ W i m H' := fun {s' H'} I' nx => by
      obtain ⟨m', hm, w'⟩ := hNx H' nx
      exact ⟨m', hm, i + 1, H', turn_end T st7 I' (by rw [← hw8, wipe_length]) (fun j v e => by rw [← hw8] at e; exact (wipe_some e).1), w'⟩
    cases b with
    | false => exact fin I9 q9
    | true =>
      refine thnF ((hk s3 _ _ _ _).run _ s9 σ8 H9 _ I9 q9) fun z s10 zz => ?_
      obtain ⟨yk, H10, I10, r10, q10⟩ := zz
      refine thnF ((hv s3 _ _ _ _).run _ s10 σ8 H10 _ I10 q10) fun z2 s11 zz => ?_
      obtain ⟨yv, H11, I11, r11, H12, pu, nx⟩ := zz
      exact put_ok (X := X.blk s3 (upd H2 D o0) scope (compEnvC scope cl s3.heap.objs.size X.env) fp) hu I11 pu r10 r11 fun s12 I12 => fin I12 nx
theorem pe_dcG {o0 : HO} {kx vx tg iter : Expr} {ifs : List Expr} {scope : Scope} {own : List (Str × Nat)} {pos : Pos} {wi : TI} {g : TG} {tt : TT} {tk tv : TE} (h0 : o0 = .dK [] ∨ o0 = .dT []) (hu : X.A.units + 1 < cLine) (hc : X.calm = true) (hN : X.N.Nodup) (hi : PI X tg iter wi) (ok : BlkOk X.N X.env.scope scope own)
    (hg : InBlk X scope fun Y => PG Y tg g) (ht : InBlk X scope fun Y => PTs Y ifs tt) (hk : InBlk X scope fun Y => PE Y kx tk) (hv : InBlk X scope fun Y => PE Y vx tv) (hs : ∀ x, foldedSetIterable iter X.env x = pure x := by intro _; rfl) :
    PE X (.DictComp kx vx [⟨tg, iter, ifs, 0⟩] scope pos) (tDcG o0 wi g tt tk tv (own.map (·.2))) := by
  refine ⟨fun pins s σ H Q I h => ?_⟩
  rw [arm_eval_DictComp]
  refine dc_block h0 hc hN I hi ok hs h (loop1 hu hc hg ht hk hv) fun D C s' m H' I' q hn f => ⟨m, hn, fun h'' sb => ?_⟩
  obtain ⟨f0, f1, f2, f3, f4, f5⟩ := f
  exact ⟨.ref D, H', I'.turned (t' := s'.toks) (fun b o hb e => (sb.2 b hb).trans e) f0 f1 f3 f4 f5, rfl, q⟩
end
/-! ### two clauses -/
section
variable {prog : Program} {w : World} {A : Around} {R : Result → Shared → Prop} {s : Shared} {kx vx t0 i0 t1 i1 : Expr} {ifs0 ifs1 : List Expr} {scope : Scope} {pos : Pos} {it acc : Value} {D : Addr} {env : Env}
abbrev dc2 (kx vx t0 i0 t1 i1 : Expr) (ifs0 ifs1 : List Expr) (scope : Scope) (pos : Pos) : Expr := .DictComp kx vx [⟨t0, i0, ifs0, 0⟩, ⟨t1, i1, ifs1, 0⟩] scope pos
theorem turn2_out : compTurn (dc2 kx vx t0 i0 t1 i1 ifs0 ifs1 scope pos) 0 it acc env = (do
    standAt i0.pos
    match ← pyNext it with
    | none => pure (.done .next)
    | some v =>
      letOwnedTupleGo t0 it v
      assign t0 env v
      let mut go := true
      for c in ifs0 do
        if go then go ← isTrue c env (eval c env)
      if go then
        let src ← eval i1 env
        standAt i1.pos
        let src ← foldedSetIterable i1 env src
        let _ ← runOwn (.compStart (dc2 kx vx t0 i0 t1 i1 ifs0 ifs1 scope pos) 1 (← holding [src] (pyIter src)) acc env) env
      again (.compLoop (dc2 kx vx t0 i0 t1 i1 ifs0 ifs1 scope pos) 0 it acc env)) := by rfl
theorem turn2_in : compTurn (dc2 kx vx t0 i0 t1 i1 ifs0 ifs1 scope pos) 1 it (.ref D) env = (do
    standAt i1.pos
    match ← pyNext it with
    | none => pure (.done .next)
    | some v =>
      letOwnedTupleGo t1 it v
      assign t1 env v
      let mut go := true
      for c in ifs1 do
        if go then go ← isTrue c env (eval c env)
      if go then
        (do
          let a ← eval kx env
          let b ← holding [a] (eval vx env)
          standAt { kx.pos with endLine := vx.pos.endLine, endCol := vx.pos.endCol }
          holding [a, b] (dictSet D a b))
      again (.compLoop (dc2 kx vx t0 i0 t1 i1 ifs0 ifs1 scope pos) 1 it (.ref D) env)) := by rfl
/-- the tests of a clause -/
abbrev goes (prog : Program) (w : World) (A : Around) (env : Env) (ifs : List Expr) (Q : Bool → Shared → Prop) (E : Value → Shared → Prop) (s : Shared) : Prop :=
  wpAny (model prog w) A (forIn ifs true fun c r => if r = true then do let ok ← isTrue c env (eval c env); pure (ForInStep.yield ok) else pure (ForInStep.yield r)) Q E s
theorem loop2_out (hs : ∀ x, foldedSetIterable i1 env x = pure x) (I : Nat → Shared → Prop) {E : Value → Shared → Prop} (hE : E = notedBy (model prog w) A env fun e s' => R (.error e) s')
    (turn : ∀ n s, I n s → wpAny (model prog w) A (pyNext it) (fun r s1 => match r with
      | none => R (.ok .next) s1
      | some v => wpAny (model prog w) A (letOwnedTupleGo t0 it v) (fun _ s2 => wpAny (model prog w) A (assign t0 env v) (fun _ s3 => goes prog w A env ifs0 (fun ok s4 =>
          if ok = true then wpAny (model prog w) A (eval i1 env) (fun x s5 => wpAny (model prog w) A (pyIter x) (fun it1 s6 =>
              codeAny (model prog w) A (.compStart (dc2 kx vx t0 i0 t1 i1 ifs0 ifs1 scope pos) 1 it1 acc env) (fun r s' => (∃ f, r = .ok f) ∧ ∃ m, m < n ∧ I m s') s6) E s5) E s4
          else ∃ m, m < n ∧ I m s4) E s3) E s2) E s1) E s) (n : Nat) (h : I n s) :
    codeAny (model prog w) A (.compLoop (dc2 kx vx t0 i0 t1 i1 ifs0 ifs1 scope pos) 0 it acc env) R s := by
  subst hE
  refine codeAny_loop rfl I (fun n s hI => ?_) n h
  show wpAny _ A ((compTurn (dc2 kx vx t0 i0 t1 i1 ifs0 ifs1 scope pos) 0 it acc env).onRaise (fun x => do noteFrame x env; theTreesLotGoes x)) _ _ s
  refine wpAny_noted ?_
  rw [turn2_out]
  refine wpAny_bind (wpAny_standAt (wpAny_bind (thn (turn n s hI) fun r s1 h1 => ?_)))
  cases r with
  | none => exact wpAny_pure h1
  | some v =>
    refine wpAny_bind (thn h1 fun _ s2 h2 => wpAny_bind (thn h2 fun _ s3 h3 => wpAny_bind (thn h3 fun ok s4 h4 => ?_)))
    cases ok with
    | false => exact wpAny_pure ⟨rfl, h4⟩
    | true =>
      refine wpAny_bind (thn h4 fun x s5 h5 => wpAny_bind (wpAny_standAt (wpAny_bind (wpAny_of_eq (hs x) (wpAny_bind (wpAny_holding (thn h5 fun it1 s6 h6 => wpAny_bind (wpAny_runOwn ?_))))))))
      rw [Around.mark_none]
      refine codeAny_mono h6 fun r s' hr => ?_
      obtain ⟨⟨f, rfl⟩, hr⟩ := hr
      first
        | exact wpAny_pure ⟨rfl, hr⟩
        | exact wpAny_bind (wpAny_pure (wpAny_pure ⟨rfl, hr⟩))
theorem loop2_in (I : Nat → Shared → Prop) {E : Value → Shared → Prop} (hE : E = notedBy (model prog w) A env fun e s' => R (.error e) s')
    (turn : ∀ n s, I n s → wpAny (model prog w) A (pyNext it) (fun r s1 => match r with
      | none => R (.ok .next) s1
      | some v => wpAny (model prog w) A (letOwnedTupleGo t1 it v) (fun _ s2 => wpAny (model prog w) A (assign t1 env v) (fun _ s3 => goes prog w A env ifs1 (fun ok s4 =>
          if ok = true then wpAny (model prog w) A (eval kx env) (fun a s5 => wpAny (model prog w) A (eval vx env) (fun b s6 => wpAny (model prog w) A (dictSet D a b) (fun _ s7 => ∃ m, m < n ∧ I m s7) E s6) E s5) E s4
          else ∃ m, m < n ∧ I m s4) E s3) E s2) E s1) E s) (n : Nat) (h : I n s) :
    codeAny (model prog w) A (.compLoop (dc2 kx vx t0 i0 t1 i1 ifs0 ifs1 scope pos) 1 it (.ref D) env) R s := by
  subst hE
  refine codeAny_loop rfl I (fun n s hI => ?_) n h
  show wpAny _ A ((compTurn (dc2 kx vx t0 i0 t1 i1 ifs0 ifs1 scope pos) 1 it (.ref D) env).onRaise (fun x => do noteFrame x env; theTreesLotGoes x)) _ _ s
  refine wpAny_noted ?_
  rw [turn2_in]
  refine wpAny_bind (wpAny_standAt (wpAny_bind (thn (turn n s hI) fun r s1 h1 => ?_)))
  cases r with
  | none => exact wpAny_pure h1
  | some v =>
    refine wpAny_bind (thn h1 fun _ s2 h2 => wpAny_bind (thn h2 fun _ s3 h3 => wpAny_bind (thn h3 fun ok s4 h4 => ?_)))
    cases ok with
    | false => exact wpAny_pure ⟨rfl, h4⟩
    | true => exact wpAny_bind (wpAny_bind (thn h4 fun a s5 h5 => wpAny_bind (wpAny_holding (thn h5 fun b s6 h6 => wpAny_bind (wpAny_standAt (wpAny_holding (thn h6 fun _ s7 h7 => wpAny_pure ⟨rfl, h7⟩)))))))
theorem start2 (h0 : codeAny (model prog w) A (.compLoop (dc2 kx vx t0 i0 t1 i1 ifs0 ifs1 scope pos) 1 it acc env) R s)
    (h : wpAny (model prog w) A (pyIter it) (fun it' s' => codeAny (model prog w) A (.compLoop (dc2 kx vx t0 i0 t1 i1 ifs0 ifs1 scope pos) 1 it' acc env) R s') (notedBy (model prog w) A env fun x s' => R (.error x) s') s) :
    codeAny (model prog w) A (.compStart (dc2 kx vx t0 i0 t1 i1 ifs0 ifs1 scope pos) 1 it acc env) R s := by
  refine codeAny_of_tree ?_
  show wpAny _ _ ((compStart (dc2 kx vx t0 i0 t1 i1 ifs0 ifs1 scope pos) 1 it acc env).onRaise (fun x => do noteFrame x env; standAt theWindowsPlace)) _ _ s
  refine wpAny_notedAt ?_
  unfold compStart
  show wpAny _ _ (ask >>= _) _ _ s
  refine wpAny_bind (wpAny_askSetting (wpAny_ite ?_))
  split
  · first
      | exact wpAny_bind (wpAny_pure (wpAny_pure (And.intro rfl h0)))
      | exact wpAny_pure (And.intro rfl h0)
  · first
      | exact wpAny_bind (wpAny_rule (wpAny_bind (wpAny_standAt (wpAny_bind (thn h fun it' s' h' => wpAny_pure (And.intro rfl h'))))))
      | (refine wpAny_bind (wpAny_rule ?_); show wpAny _ _ (standAt i1.pos >>= _) _ _ s; exact wpAny_bind (wpAny_standAt (wpAny_bind (thn h fun it' s' h' => wpAny_pure (And.intro rfl h')))))
end
end Dl
/-! Dl9: two clauses; a display with one tuple key. -/
namespace Dl
open PySem PySem.Spec L2
open PyProof.Rows hiding St
section
variable {X : Cx}
def DcW2 (o0 : HO) (g : TG) (tt : TT) (wi1 : TI) (g1 : TG) (tt1 : TT) (tk tv : TE) (vs vs1 : List Nat) (σ : St) (Q : VK) (J : It) (H1 : Hp) : Prop := ∀ D, H1 D = none → ∃ W : Nat → Nat → Hp → Prop, (∃ m, W 0 m (upd H1 D o0)) ∧ ∀ i m H, W i m H →
  (J.stop i H ∧ Q (.ref D) H) ∨ (J.go i H ∧ ∃ Nx : Hp → Prop, (∀ H', Nx H' → ∃ m', m' < m ∧ W (i + 1) m' H') ∧ ∀ x H', J.yld i H x H' → g x (wipe σ vs) H' fun σ2 H2 => wipe σ2 vs = wipe σ vs ∧ tt σ2 H2 fun b H3 =>
    if b = true then wi1 σ2 H3 fun J1 H4 => ∃ W1 : Nat → Nat → Hp → Prop, (∃ m, W1 0 m H4) ∧ ∀ j k H, W1 j k H →
      (J1.stop j H ∧ Nx H) ∨ (J1.go j H ∧ ∃ Nx1 : Hp → Prop, (∀ H', Nx1 H' → ∃ k', k' < k ∧ W1 (j + 1) k' H') ∧ ∀ x H', J1.yld j H x H' → g1 x (wipe σ2 vs1) H' fun σ3 H5 => wipe σ3 vs1 = wipe σ2 vs1 ∧ tt1 σ3 H5 fun b H6 =>
        if b = true then tk σ3 H6 fun y H7 => tv σ3 H7 fun z H8 => ∃ H9, DPut H8 D y z H9 ∧ Nx1 H9 else Nx1 H6)
    else Nx H3)
def tDcG2 (o0 : HO) (wi : TI) (g : TG) (tt : TT) (wi1 : TI) (g1 : TG) (tt1 : TT) (tk tv : TE) (vs vs1 : List Nat) : TE := fun σ H Q => wi σ H (DcW2 o0 g tt wi1 g1 tt1 tk tv vs vs1 σ Q)
theorem loop2 {σ : St} {vs vs1 : List Nat} {Q : VK} {o0 : HO} {kx vx tg iter tg1 iter1 : Expr} {ifs ifs1 : List Expr} {scope : Scope} {pos : Pos} {wi1 : TI} {g g1 : TG} {tt tt1 : TT} {tk tv : TE} (hu : X.A.units + 1 < cLine) (hc : X.calm = true) (hvs : ∀ i ∈ vs1, i ∈ vs)
    (hg : InBlk X scope fun Y => PG Y tg g) (ht : InBlk X scope fun Y => PTs Y ifs tt) (hi1 : InBlk X scope fun Y => PI Y tg1 iter1 wi1) (hg1 : InBlk X scope fun Y => PG Y tg1 g1) (ht1 : InBlk X scope fun Y => PTs Y ifs1 tt1)
    (hk : InBlk X scope fun Y => PE Y kx tk) (hv : InBlk X scope fun Y => PE Y vx tv) (hs1 : ∀ env x, foldedSetIterable iter1 env x = pure x) :
    LoopOf X σ vs Q o0 (DcW2 o0 g tt wi1 g1 tt1 tk tv vs vs1 σ Q) tg scope (dc2 kx vx tg iter tg1 iter1 ifs ifs1 scope pos) := by
  intro it D fp tn J s3 s4 H2 cl Post I4 T st4 n4 hD q hend
  obtain ⟨W, ⟨m0, w0⟩, turn⟩ := q D hD
  refine loop2_out (E := notedBy (model X.prog X.w) X.A (compEnvC scope cl s3.heap.objs.size X.env) fun e s' => Post (.error e) s') (hs1 _)
    (fun n s' => ∃ i H', (Inv (X.blk s3 (upd H2 D o0) scope (compEnvC scope cl s3.heap.objs.size X.env) fp) [] (wipe σ vs) H' s' ∧ tn i s'.heap ∧ ∀ b ∈ fp, H' b = none) ∧ W i n H') rfl ?_ m0 ⟨0, _, ⟨I4, st4, n4⟩, w0⟩
  rintro n s5 ⟨i, H5, ⟨I5, st5, n5⟩, w5⟩
  have fo : ∀ b ∈ fp, FpOk (X.blk s3 (upd H2 D o0) scope (compEnvC scope cl s3.heap.objs.size X.env) fp) [] H5 b := fun b hb =>
    ⟨n5 b hb, (I5.ok.exf b hb).1, I5.ok.exfs b hb, .inl hb, fun x c e => (I5.ok.exf b hb).2 x c e, fun p hp => nomatch (show p ∈ ([] : List (Addr × Obj)) ++ [] from hp)⟩
  rcases turn i n H5 w5 with ⟨stop, qq⟩ | ⟨go, Nx, hNx, step⟩
  · refine thnF (T.done (X.blk s3 (upd H2 D o0) scope (compEnvC scope cl s3.heap.objs.size X.env) fp) rfl rfl rfl hc i [] s5 _ H5 (fun _ _ => False) I5 fo st5 stop) fun r s6 z => ?_
    obtain ⟨rfl, I6⟩ := z
    exact hend s6 _ H5 I6 qq
  · refine thnF (T.item (X.blk s3 (upd H2 D o0) scope (compEnvC scope cl s3.heap.objs.size X.env) fp) rfl rfl rfl hc i [] s5 _ H5 (fun _ _ => False) I5 fo st5 go) fun r s6 z => ?_
    obtain ⟨u, rfl, h6⟩ := z
    refine thnF h6 fun _ s7 z => ?_
    obtain ⟨x, H7, I7, r7, y7, st7, n7⟩ := z
    have fo7 : ∀ b ∈ fp, FpOk (X.blk s3 (upd H2 D o0) scope (compEnvC scope cl s3.heap.objs.size X.env) fp) [] H7 b := fun b hb =>
      ⟨n7 b hb, (I7.ok.exf b hb).1, I7.ok.exfs b hb, .inl hb, fun x c e => (I7.ok.exf b hb).2 x c e, fun p hp => nomatch (show p ∈ ([] : List (Addr × Obj)) ++ [] from hp)⟩
    have I7' := I7.pinned fo7 (T.obj _ _ st7)
    refine thnF ((hg s3 _ _ _ _).run _ s7 _ H7 x u _ I7' r7 (step x H7 y7)) fun _ s8 z => ?_
    obtain ⟨σ8, H8, I8, hw8, q8⟩ := z
    refine thnF ((ht s3 _ _ _ _).run _ s8 σ8 H8 _ I8 q8) fun b s9 z => ?_
    obtain ⟨H9, I9, q9⟩ := z
    have hl8 : (wipe σ vs).length = σ8.length := by rw [← hw8, wipe_length]
    have hk8 : ∀ (j : Nat) v, (wipe σ vs)[j]? = some (some v) → σ8[j]? = some (some v) := fun j v e => by
      rw [← hw8] at e
      exact (wipe_some e).1
    have hk9 : ∀ (j : Nat) v, (wipe σ vs)[j]? = some (some v) → (wipe σ8 vs1)[j]? = some (some v) := fun j v e => by
      rw [← hw8] at e
      obtain ⟨e1, e2⟩ := wipe_some e
      exact (wipe_out fun z => e2 (hvs j z)).trans e1
    have fin : ∀ {σ9 : St} {s' : Shared} {H' : Hp}, Inv (X.blk s3 (upd H2 D o0) scope (compEnvC scope cl s3.heap.objs.size X.env) fp) ([] ++ pinsAt fp s7.heap) σ9 H' s' → (wipe σ vs).length = σ9.length → (∀ (j : Nat) v, (wipe σ vs)[j]? = some (some v) → σ9[j]? = some (some v)) → Nx H' →
        ∃ m, m < n ∧ ∃ i H', (Inv (X.blk s3 (upd H2 D o0) scope (compEnvC scope cl s3.heap.objs.size X.env) fp) [] (wipe σ vs) H' s' ∧ tn i s'.heap ∧ ∀ b ∈ fp, H' b = none) ∧ W i m H' := fun {σ9 s' H'} I' hl hk nx => by
      obtain ⟨m', hm, w'⟩ := hNx H' nx
      exact ⟨m', hm, i + 1, H', turn_end T st7 I' hl hk, w'⟩
    cases b with
    | false => exact fin I9 hl8 hk8 q9
    | true =>
      refine thnF ((hi1 s3 _ _ _ _).run _ s9 σ8 H9 _ I9 q9) fun xv s10 hx => thnF hx fun itv s11 h11 => ?_
      obtain ⟨it1, fp1, tn1, J1, H11, rfl, I11, T1, st11, f11, W1, ⟨m1, w1⟩, turn1⟩ := h11
      have f1 : ∀ {H' : Hp}, (∀ b ∈ fp1, H' b = none) → ∀ b ∈ fp1, FpOk (X.blk s3 (upd H2 D o0) scope (compEnvC scope cl s3.heap.objs.size X.env) fp) ([] ++ pinsAt fp s7.heap) H' b := fun hn b hb => ⟨hn b hb, (f11 b hb).2⟩
      have inner : codeAny (model X.prog X.w) X.A (.compLoop (dc2 kx vx tg iter tg1 iter1 ifs ifs1 scope pos) 1 (.ref it1) (.ref D) (compEnvC scope cl s3.heap.objs.size X.env))
          (fun r s' => (∃ f, r = .ok f) ∧ ∃ m, m < n ∧ ∃ i H', (Inv (X.blk s3 (upd H2 D o0) scope (compEnvC scope cl s3.heap.objs.size X.env) fp) [] (wipe σ vs) H' s' ∧ tn i s'.heap ∧ ∀ b ∈ fp, H' b = none) ∧ W i m H') s11 := by
        refine loop2_in (fun k s' => ∃ j H', (Inv (X.blk s3 (upd H2 D o0) scope (compEnvC scope cl s3.heap.objs.size X.env) fp) ([] ++ pinsAt fp s7.heap) (wipe σ8 vs1) H' s' ∧ tn1 j s'.heap ∧ ∀ b ∈ fp1, H' b = none) ∧ W1 j k H') rfl ?_ m1
          ⟨0, H11, ⟨I11.weak (wipe_length _ _) (fun j v e => (wipe_some e).1), st11, fun b hb => (f11 b hb).1⟩, w1⟩
        rintro k s12 ⟨j, H12, ⟨I12, st12, n12⟩, w12⟩
        rcases turn1 j k H12 w12 with ⟨stop1, nx1⟩ | ⟨go1, Nx1, hNx1, step1⟩
        · refine thnF (T1.done (X.blk s3 (upd H2 D o0) scope (compEnvC scope cl s3.heap.objs.size X.env) fp) rfl rfl rfl hc j _ s12 (wipe σ8 vs1) H12 (fun _ _ => False) I12 (f1 n12) st12 stop1) fun r s13 z => ?_
          obtain ⟨rfl, I13⟩ := z
          exact ⟨⟨_, rfl⟩, fin I13 (hl8.trans (wipe_length σ8 vs1).symm) hk9 nx1⟩
        · refine thnF (T1.item (X.blk s3 (upd H2 D o0) scope (compEnvC scope cl s3.heap.objs.size X.env) fp) rfl rfl rfl hc j _ s12 (wipe σ8 vs1) H12 (fun _ _ => False) I12 (f1 n12) st12 go1) fun r s13 z => ?_
          obtain ⟨u1, rfl, h13⟩ := z
          refine thnF h13 fun _ s14 z => ?_
          obtain ⟨x1, H14, I14, r14, y14, st14, n14⟩ := z
          have I14' := I14.pinned (f1 n14) (T1.obj _ _ st14)
          refine thnF ((hg1 s3 _ _ _ _).run _ s14 (wipe σ8 vs1) H14 x1 u1 _ I14' r14 (step1 x1 H14 y14)) fun _ s15 z => ?_
          obtain ⟨σ15, H15, I15, hw15, q15⟩ := z
          refine thnF ((ht1 s3 _ _ _ _).run _ s15 σ15 H15 _ I15 q15) fun b1 s16 z => ?_
          obtain ⟨H16, I16, q16⟩ := z
          have fin1 : ∀ {s' : Shared} {H' : Hp}, Inv (X.blk s3 (upd H2 D o0) scope (compEnvC scope cl s3.heap.objs.size X.env) fp) (([] ++ pinsAt fp s7.heap) ++ pinsAt fp1 s14.heap) σ15 H' s' → Nx1 H' →
              ∃ m, m < k ∧ ∃ j H', (Inv (X.blk s3 (upd H2 D o0) scope (compEnvC scope cl s3.heap.objs.size X.env) fp) ([] ++ pinsAt fp s7.heap) (wipe σ8 vs1) H' s' ∧ tn1 j s'.heap ∧ ∀ b ∈ fp1, H' b = none) ∧ W1 j m H' := fun {s' H'} I' nx => by
            obtain ⟨m', hm, w'⟩ := hNx1 H' nx
            exact ⟨m', hm, j + 1, H', turn_end T1 st14 I' (by rw [← hw15, wipe_length]) (fun j v e => by rw [← hw15] at e; exact (wipe_some e).1), w'⟩
          cases b1 with
          | false => exact fin1 I16 q16
          | true =>
            refine thnF ((hk s3 _ _ _ _).run _ s16 σ15 H16 _ I16 q16) fun z s17 zz => ?_
            obtain ⟨yk, H17, I17, r17, q17⟩ := zz
            refine thnF ((hv s3 _ _ _ _).run _ s17 σ15 H17 _ I17 q17) fun z2 s18 zz => ?_
            obtain ⟨yv, H18, I18, r18, H19, pu, nx⟩ := zz
            exact put_ok (X := X.blk s3 (upd H2 D o0) scope (compEnvC scope cl s3.heap.objs.size X.env) fp) hu I18 pu r17 r18 fun s19 I19 => fin1 I19 nx
      exact start2 inner (T1.self X.A 0 _ _ _ st11 inner)
theorem pe_dcG2 {o0 : HO} {kx vx tg iter tg1 iter1 : Expr} {ifs ifs1 : List Expr} {scope : Scope} {own : List (Str × Nat)} {vs1 : List Nat} {pos : Pos} {wi wi1 : TI} {g g1 : TG} {tt tt1 : TT} {tk tv : TE} (h0 : o0 = .dK [] ∨ o0 = .dT []) (hu : X.A.units + 1 < cLine) (hc : X.calm = true) (hN : X.N.Nodup) (hi : PI X tg iter wi) (ok : BlkOk X.N X.env.scope scope own) (hvs : ∀ i ∈ vs1, i ∈ own.map (·.2))
    (hg : InBlk X scope fun Y => PG Y tg g) (ht : InBlk X scope fun Y => PTs Y ifs tt) (hi1 : InBlk X scope fun Y => PI Y tg1 iter1 wi1) (hg1 : InBlk X scope fun Y => PG Y tg1 g1) (ht1 : InBlk X scope fun Y => PTs Y ifs1 tt1)
    (hk : InBlk X scope fun Y => PE Y kx tk) (hv : InBlk X scope fun Y => PE Y vx tv) (hs : ∀ x, foldedSetIterable iter X.env x = pure x := by intro _; rfl) (hs1 : ∀ env x, foldedSetIterable iter1 env x = pure x := by intro _ _; rfl) :
    PE X (dc2 kx vx tg iter tg1 iter1 ifs ifs1 scope pos) (tDcG2 o0 wi g tt wi1 g1 tt1 tk tv (own.map (·.2)) vs1) := by
  refine ⟨fun pins s σ H Q I h => ?_⟩
  rw [arm_eval_DictComp]
  refine dc_block h0 hc hN I hi ok hs h (loop2 hu hc hvs hg ht hi1 hg1 ht1 hk hv hs1) fun D C s' m H' I' q hn f => ⟨m, hn, fun h'' sb => ?_⟩
  obtain ⟨f0, f1, f2, f3, f4, f5⟩ := f
  exact ⟨.ref D, H', I'.turned (t' := s'.toks) (fun b o hb e => (sb.2 b hb).trans e) f0 f1 f3 f4 f5, rfl, q⟩
/-- {k: v}, k a tuple -/
def tDisp1 (tk tv : TE) : TE := fun σ H Q => ∀ p, H p = none → tk σ (upd H p (.dT [])) fun x H1 => tv σ H1 fun y H2 => ∃ b k, x = .ref b ∧ H2 b = some (.tup (k.map kV)) ∧ H2 p = some (.dT []) ∧ Q (.ref p) (upd H2 p (.dT [(k, y)]))
theorem pe_disp1 {k v : Expr} {pos : Pos} {tk tv : TE} (hu : X.A.units + 1 < cLine) (hk : PE X k tk) (hv : PE X v tv) : PE X (.Dict [some k] [v] pos) (tDisp1 tk tv) := by
  refine ⟨fun pins s σ H Q I q => ?_⟩
  have hn := I.hok.fresh (Nat.le_refl s.heap.objs.size)
  have I1 := I.laid (a := s.heap.objs.size) (o := .dT []) (h' := s.heap.push { cls := .type "dict", data := .dict #[] }) (t' := s.toks) (fun _ _ q => Heap.get?_push_of_some _ q) (Nat.le_refl _) (dt_empty s.heap I.big)
  have hp := pairTrees_length [some k] [v] X.env pos rfl rfl
  rw [arm_eval_Dict, zip_pairTrees [some k] [v] X.env pos rfl rfl, dictDisplay_pairs _ (by intro e; rw [e] at hp; cases hp) (by rw [hp]; show 1 < 17; decide)]
  refine wpAny_bind (wpAny_standAt (wpAny_bind (wpAny_subDictH (knd := tupleKind (mixKind X.prog X.w)) (show X.A.units < cLine by omega) (by rw [hp]; show 1 ≤ 15; decide) ?_)))
  refine pairTrees_cons_walk (thn (hk.run pins _ σ _ _ I1 (q _ hn)) fun kv s1 z => ?_)
  obtain ⟨x, H1, I2, rx, q1⟩ := z
  refine thn (hv.run pins s1 σ H1 _ I2 q1) fun vv s2 z => ?_
  obtain ⟨y, H2, I3, ry, b, ks, rfl, hb, hd, q2⟩ := z
  cases (show kv = Value.ref b from rx)
  refine pairTrees_nil_walk ?_
  obtain ⟨z1, hm, xs, rel, dd⟩ := dt_of I3.hok hd
  cases rel
  refine ⟨[(ks, b, vv)], ?_, dd, fun h' tk dd' sb => ?_⟩
  · exact ⟨rfl, rfl, key_of I3.hok hb, True.intro⟩
  · refine wpAny_pure ⟨.ref s.heap.objs.size, _, ?_, rfl, q2⟩
    obtain ⟨q, es, ep, hq, h2, h3, h4, _, h5⟩ := dd'
    refine d_write (t' := tk) I3 (by rw [hd]; exact True.intro) sb ⟨q, hq⟩ ⟨by show 1 ≤ sizeLine; decide, hm, [(ks, b, vv)], .cons ⟨rfl, ?_, ry⟩ .nil, q, es, ep, hq, h2, h3, h4, h5⟩
    rw [upd_ne (ne_of hb hd nofun)]
    exact hb
end
end Dl
/-! Dl10: tables: dicts whose keys are tuples of ints. -/
namespace Dl
open PySem PySem.Spec L2
abbrev Tb (α : Type) := List (List Int × α)
abbrev kI (s : List Int) : List Key := s.map Sum.inl
theorem kI_V (s : List Int) : (kI s).map kV = s.map V.int := by rw [List.map_map]; rfl
theorem kI_inj {s t : List Int} (h : kI s = kI t) : s = t := by
  induction s generalizing t with
  | nil => cases t with
    | nil => rfl
    | cons _ _ => cases h
  | cons a s ih => cases t with
    | nil => cases h
    | cons b t =>
      simp only [kI, List.map_cons, List.cons.injEq, Sum.inl.injEq] at h
      rw [h.1, ih h.2]
section
variable {α : Type}
def look : Tb α → List Int → Option α
  | [], _ => none
  | p :: t, k => if p.1 = k then some p.2 else look t k
def has (t : Tb α) (k : List Int) : Bool := t.any fun p => decide (p.1 = k)
def put (t : Tb α) (k : List Int) (x : α) : Tb α := if has t k = true then t.map (fun p => if p.1 = k then (p.1, x) else p) else t ++ [(k, x)]
theorem put_len (t : Tb α) (k : List Int) (x : α) : (put t k x).length ≤ t.length + 1 := by
  unfold put
  split <;> simp
theorem has_look (t : Tb α) (k : List Int) : has t k = (look t k).isSome := by
  induction t with
  | nil => rfl
  | cons p t ih =>
    show (decide (p.1 = k) || has t k) = (if p.1 = k then some p.2 else look t k).isSome
    by_cases h : p.1 = k
    · rw [decide_eq_true h, if_pos h]; rfl
    · rw [decide_eq_false h, if_neg h, Bool.false_or, ih]
theorem look_app (t u : Tb α) (k : List Int) : look (t ++ u) k = (look t k).or (look u k) := by
  induction t with
  | nil => rfl
  | cons p t ih =>
    show (if p.1 = k then some p.2 else look (t ++ u) k) = (if p.1 = k then some p.2 else look t k).or _
    split
    · rfl
    · exact ih
theorem look_put (t : Tb α) (k k' : List Int) (x : α) : look (put t k x) k' = if k = k' then some x else look t k' := by
  unfold put
  split
  · rename_i h
    induction t with
    | nil => cases h
    | cons p t ih =>
      rw [List.map_cons]
      by_cases hp : p.1 = k
      · rw [if_pos hp]
        show (if p.1 = k' then some x else look _ k') = if k = k' then some x else if p.1 = k' then some p.2 else look t k'
        by_cases hk : k = k'
        · rw [if_pos hk, if_pos (hp.trans hk)]
        · rw [if_neg hk, if_neg (fun q => hk (hp.symm.trans q)), if_neg (fun q => hk (hp.symm.trans q))]
          clear ih h
          induction t with
          | nil => rfl
          | cons q t ih =>
            rw [List.map_cons]
            by_cases hq : q.1 = k
            · rw [if_pos hq]
              show (if q.1 = k' then some x else look _ k') = if q.1 = k' then some q.2 else look t k'
              rw [if_neg (fun z => hk (hq.symm.trans z)), if_neg (fun z => hk (hq.symm.trans z))]
              exact ih
            · rw [if_neg hq]
              show (if q.1 = k' then some q.2 else look _ k') = if q.1 = k' then some q.2 else look t k'
              rw [ih]
      · rw [if_neg hp]
        show (if p.1 = k' then some p.2 else look _ k') = if k = k' then some x else if p.1 = k' then some p.2 else look t k'
        have h' : has t k = true := by
          unfold has at h ⊢
          rw [List.any_cons, decide_eq_false hp, Bool.false_or] at h
          exact h
        rw [ih h']
        by_cases hk : k = k'
        · rw [if_pos hk, if_neg (fun q => hp (q.trans hk.symm)), if_pos hk]
        · rw [if_neg hk, if_neg hk]
  · rename_i h
    rw [look_app]
    have hn : look t k = none := by
      cases e : look t k with
      | none => rfl
      | some y => rw [has_look, e] at h; exact absurd rfl h
    show (look t k').or (if k = k' then some x else none) = _
    by_cases hk : k = k'
    · subst hk; rw [hn, if_pos rfl]; rfl
    · rw [if_neg hk, if_neg hk]; simp
theorem put_keys (t : Tb α) (k : List Int) (x : α) : (put t k x).map Prod.fst = if k ∈ t.map Prod.fst then t.map Prod.fst else t.map Prod.fst ++ [k] := by
  have hm : has t k = true ↔ k ∈ t.map Prod.fst := by
    unfold has
    rw [List.any_eq_true]
    simp only [decide_eq_true_eq, List.mem_map]
  unfold put
  by_cases h : has t k = true
  · rw [if_pos h, if_pos (hm.mp h), List.map_map]
    apply List.map_congr_left
    intro p _
    show (if p.1 = k then (p.1, x) else p).1 = p.1
    split <;> rfl
  · rw [if_neg h, if_neg (fun q => h (hm.mpr q))]
    simp
theorem put_nodup {t : Tb α} {k : List Int} {x : α} (h : (t.map Prod.fst).Nodup) : ((put t k x).map Prod.fst).Nodup := by
  rw [put_keys]
  split
  · exact h
  · rename_i hk
    rw [List.nodup_append]
    refine ⟨h, by simp, fun a ha b hb => ?_⟩
    rw [List.mem_singleton.mp hb]
    exact fun q => hk (q ▸ ha)
theorem mem_put {t : Tb α} {k k' : List Int} {x : α} : k' ∈ (put t k x).map Prod.fst ↔ k' = k ∨ k' ∈ t.map Prod.fst := by
  rw [put_keys]
  split
  · rename_i h
    exact ⟨.inr, fun q => q.elim (fun e => e ▸ h) id⟩
  · rw [List.mem_append, List.mem_singleton]
    exact ⟨fun q => q.symm, fun q => q.symm⟩
theorem look_mem {t : Tb α} {k : List Int} : (look t k).isSome = true ↔ k ∈ t.map Prod.fst := by
  rw [← has_look]
  unfold has
  rw [List.any_eq_true]
  simp only [decide_eq_true_eq, List.mem_map]
end
inductive Tab {α : Type} (G : Hp) (f : α → D) : List (List Key × V) → Tb α → Prop
  | nil : Tab G f [] []
  | cons {k : List Int} {x : α} {v : V} {kvs : List (List Key × V)} {t : Tb α} : Rp G v (f x) → Tab G f kvs t → Tab G f ((kI k, v) :: kvs) ((k, x) :: t)
section
variable {α : Type} {G G' H : Hp} {f : α → D} {kvs : List (List Key × V)} {t : Tb α} {v : V}
theorem Tab.mono (e : Ex G G') (h : Tab G f kvs t) : Tab G' f kvs t := by
  induction h with
  | nil => exact .nil
  | cons r _ ih => exact .cons (r.mono e) ih
theorem Tab.length (h : Tab G f kvs t) : kvs.length = t.length := by
  induction h with
  | nil => rfl
  | cons r _ ih => simp only [List.length_cons, ih]
theorem Tab.some {k : List Int} {x : α} (h : Tab G f kvs t) (e : look t k = some x) : ∃ v, valV kvs (kI k) = Option.some v ∧ Rp G v (f x) := by
  induction h with
  | nil => cases e
  | @cons k1 x1 v1 kvs t r _ ih =>
    by_cases hk : k1 = k
    · have e : (if k1 = k then Option.some x1 else look t k) = Option.some x := e
      rw [if_pos hk] at e
      cases e
      exact ⟨v1, valV_pos (by rw [hk]), r⟩
    · have e : (if k1 = k then Option.some x1 else look t k) = Option.some x := e
      rw [if_neg hk] at e
      obtain ⟨v, h1, h2⟩ := ih e
      exact ⟨v, by rw [valV_neg (fun q => hk (kI_inj q))]; exact h1, h2⟩
theorem Tab.none {k : List Int} (h : Tab G f kvs t) (e : look t k = none) : valV kvs (kI k) = Option.none := by
  induction h with
  | nil => rfl
  | @cons k1 x1 v1 kvs t r _ ih =>
    have e : (if k1 = k then Option.some x1 else look t k) = Option.none := e
    split at e
    · cases e
    · rename_i hk
      rw [valV_neg (fun q => hk (kI_inj q))]
      exact ih e
theorem Tab.put {k : List Int} {x : α} (h : Tab G f kvs t) (r : Rp G v (f x)) : Tab G f (putK kvs (kI k) v) (put t k x) := by
  have ea : (kvs.any fun kv => decide (kv.1 = kI k)) = has t k := by
    unfold has
    clear r
    induction h with
    | nil => rfl
    | @cons k1 x1 v1 kvs t _ _ ih =>
      rw [List.any_cons, List.any_cons, ih]
      have : decide (kI k1 = kI k) = decide (k1 = k) := decide_eq_decide.mpr ⟨kI_inj, fun q => by rw [q]⟩
      show (decide (kI k1 = kI k) || _) = (decide (k1 = k) || _)
      rw [this]
  unfold putK Dl.put
  rw [ea]
  split
  · clear ea
    rename_i hx
    clear hx
    induction h with
    | nil => exact .nil
    | @cons k1 x1 v1 kvs t r1 _ ih =>
      rw [List.map_cons, List.map_cons]
      by_cases hk : k1 = k
      · rw [if_pos (show (kI k1, v1).1 = kI k by show kI k1 = _; rw [hk]), if_pos (show (k1, x1).1 = k from hk)]
        exact .cons r ih
      · rw [if_neg (show ¬ (kI k1, v1).1 = kI k from fun q => hk (kI_inj q)), if_neg (show ¬ (k1, x1).1 = k from hk)]
        exact .cons r1 ih
  · clear ea
    rename_i hx
    clear hx
    induction h with
    | nil => exact .cons r .nil
    | cons r1 _ ih => exact .cons r1 ih
theorem Tab.zip : ∀ {t : Tb α} {vs : List V}, RpL G vs (t.map fun p => f p.2) → Tab G f ((t.map fun p => kI p.1).zip vs) t
  | [], _, .nil => .nil
  | (k, x) :: t, _, .cons r h => .cons r (Tab.zip h)
theorem Tab.un (h : Tab G f kvs t) : ∃ vs, kvs = (t.map fun p => kI p.1).zip vs ∧ (t.map fun p => kI p.1).length = vs.length ∧ RpL G vs (t.map fun p => f p.2) := by
  induction h with
  | nil => exact ⟨[], rfl, rfl, .nil⟩
  | @cons k x v kvs t r _ ih =>
    obtain ⟨vs, h1, h2, h3⟩ := ih
    exact ⟨v :: vs, by rw [h1]; rfl, by simp only [List.map_cons, List.length_cons, h2], .cons r h3⟩
abbrev tabD (f : α → D) (t : Tb α) : D := .dt (t.map fun p => kI p.1) (t.map fun p => f p.2)
abbrev tabZ (f : α → D) (t : Tb α) : D := .dz (t.map fun p => kI p.1) (t.map fun p => f p.2)
theorem RpO.tab {o : Option HO} (h : RpO G o (tabD f t)) : ∃ kvs, o = Option.some (.dT kvs) ∧ Tab G f kvs t := by
  obtain ⟨vs, h1, h2, h3⟩ := h
  exact ⟨_, h1, .zip h3⟩
theorem RpO.ofTab (h : Tab G f kvs t) : RpO G (Option.some (.dT kvs)) (tabD f t) := by
  obtain ⟨vs, h1, h2, h3⟩ := h.un
  exact ⟨vs, by rw [h1], h2, h3⟩
theorem Rp.tab (h : Rp G v (tabD f t)) : ∃ a kvs, v = .ref a ∧ G a = Option.some (.dT kvs) ∧ Tab G f kvs t := by
  cases h with
  | dt h l r => exact ⟨_, _, rfl, h, .zip r⟩
theorem Rp.tabZ (h : Rp G v (tabZ f t)) : ∃ a o kvs, v = .ref a ∧ G a = Option.some (.frz o (.dT kvs)) ∧ Tab G f kvs t := by
  cases h with
  | dz h l r => exact ⟨_, _, _, rfl, h, .zip r⟩
theorem Rp.ofTabZ {a : Addr} {o : Obj} (h : Tab G f kvs t) (e : G a = Option.some (.frz o (.dT kvs))) : Rp G (.ref a) (Dl.tabZ f t) := by
  obtain ⟨vs, h1, h2, h3⟩ := h.un
  rw [h1] at e
  exact .dz e h2 h3
theorem rp_key {k : List Int} (h : Rp G v (tupI k)) : ∃ b, v = .ref b ∧ G b = Option.some (.tup ((kI k).map kV)) := by
  cases h with
  | @tup a vs _ h r =>
    have := RpL.ints r
    subst this
    exact ⟨a, rfl, by rw [kI_V]; exact h⟩
/-- a tuple that stands is frozen -/
theorem Stp.tupIn (e : Ex G H) {q : Addr} {vs : List V} (h : H q = Option.some (.tup vs)) : Stp G H (upd G q (.tup vs)) H where
  gg := fun a u k => by
    by_cases z : a = q
    · subst z; rw [upd_same]; rw [e _ _ k] at h; exact h.symm
    · rw [upd_ne z]; exact k
  hh := Ex.refl H
  gh := fun a u k => by
    by_cases z : a = q
    · subst z; rw [upd_same] at k; rw [← k]; exact h
    · rw [upd_ne z] at k; exact e a u k
  fr := fun a o k ht n => by
    by_cases z : a = q
    · subst z; rw [h] at k; cases k; cases ht
    · rw [upd_ne z]; exact n
theorem Stp.key (e : Ex G H) {q : Addr} {k : List Int} (h : H q = Option.some (.tup ((kI k).map kV))) : ∃ G', Stp G H G' H ∧ Rp G' (.ref q) (tupI k) :=
  ⟨_, Stp.tupIn e h, .tup (vs := k.map V.int) (by rw [upd_same, kI_V]) (rpL_ints k)⟩
end
/-- a table is read -/
def EvTb {α : Type} (te : TE) (Γ : Ga) (f : α → D) (t : Tb α) : Prop := ∀ G W σ H, Ok G W Γ σ H → ∀ Q : VK, (∀ a kvs G' H', Stp G H G' H' → Rd H' a (.dT kvs) → Tab G' f kvs t → Q (.ref a) H') → te σ H Q
section
variable {α : Type} {te td tk tv : TE} {Γ : Ga} {f : α → D} {t : Tb α} {i : Nat} {k : List Int} {x : α} {A : AE} {p : Addr}
theorem tb_own (h : Γ[i]? = some (.own (tabD f t))) : EvTb (tVar i) Γ f t := fun G W σ H ok Q q => by
  obtain ⟨a, h1, h2, h3, h4⟩ := ok.own i _ h
  obtain ⟨kvs, h5, h6⟩ := h4.tab
  exact ⟨.ref a, h1, q a kvs G H (.refl ok.g) (.inl h5) h6⟩
theorem tb_mem (h : Γ[i]? = some (.mem p (tabD f t))) : EvTb (tVar i) Γ f t := fun G W σ H ok Q q => by
  obtain ⟨h1, h2, h3, h4⟩ := ok.mem i _ _ h
  obtain ⟨kvs, h5, h6⟩ := h4.tab
  exact ⟨.ref p, h1, q p kvs G H (.refl ok.g) (.inl h5) h6⟩
theorem tb_dat (h : EvD te Γ (tabD f t)) : EvTb te Γ f t := fun G W σ H ok Q q => h G W σ H ok Q fun v G' H' s r => by
  obtain ⟨a, kvs, rfl, h1, h2⟩ := r.tab
  exact q a kvs G' H' s (.inl (s.gh _ _ h1)) h2
theorem tb_z (h : EvD te Γ (tabZ f t)) : EvTb te Γ f t := fun G W σ H ok Q q => h G W σ H ok Q fun v G' H' s r => by
  obtain ⟨a, o, kvs, rfl, h1, h2⟩ := r.tabZ
  exact q a kvs G' H' s (.inr ⟨o, s.gh _ _ h1⟩) h2
theorem rd_hh {H H' : Hp} {a : Addr} {u : HO} (e : Ex H H') (h : Rd H a u) : Rd H' a u := h.elim (fun h => .inl (e _ _ h)) fun ⟨o, h⟩ => .inr ⟨o, e _ _ h⟩
theorem ev_dget (hd : EvTb td Γ f t) (hk : EvD tk Γ (tupI k)) (e : look t k = some x) : EvD (tDGet td tk) Γ (f x) := fun G W σ H ok Q q => hd G W σ H ok _ fun a kvs G1 H1 s1 hr ht => hk G1 W σ H1 (ok.stp s1) _ fun v G2 H2 s2 r => by
  obtain ⟨b, rfl, hb⟩ := rp_key r
  obtain ⟨v, h1, h2⟩ := ht.some e
  exact ⟨a, v, rfl, .inr ⟨kvs, kI k, b, rd_hh s2.hh hr, rfl, s2.gh _ _ hb, h1.symm⟩, q v G2 H2 (s1.trans s2) (h2.mono s2.gg)⟩
theorem ev_din (hk : EvD tk Γ (tupI k)) (hd : EvTb td Γ f t) : EvD (tDIn tk td) Γ (.bl (look t k).isSome) := fun G W σ H ok Q q => hk G W σ H ok _ fun v G1 H1 s1 r => hd G1 W σ H1 (ok.stp s1) _ fun a kvs G2 H2 s2 hr ht => by
  obtain ⟨b, rfl, hb⟩ := rp_key r
  refine ⟨a, valV kvs (kI k), rfl, .inr ⟨kvs, kI k, b, hr, rfl, s2.gh _ _ (s2.gg _ _ hb), rfl⟩, ?_⟩
  have e : (valV kvs (kI k)).isSome = (look t k).isSome := by
    cases h : look t k with
    | none => rw [ht.none h]; rfl
    | some x =>
      obtain ⟨v, h1, _⟩ := ht.some h
      rw [h1]; rfl
  rw [e]
  exact q _ G2 H2 (s1.trans s2) (.bl _)
/-- d[k] = v -/
theorem sd_dput (h : Γ[i]? = some (.own (tabD f t))) (hv : EvD tv Γ (f x)) (hk : EvD tk Γ (tupI k)) (hl : t.length < sizeLine) (nx : A.nx (Γ.set i (.own (tabD f (put t k x))))) : SD (sDPut (tVar i) tk tv) Γ A := fun G W σ H D ok hnx _ _ _ => hv G W σ H ok _ fun v G1 H1 s1 r1 => by
  have ok1 := ok.stp s1
  obtain ⟨a, h1, h2, h3, h4⟩ := ok1.own i _ h
  obtain ⟨kvs, h5, h6⟩ := h4.tab
  refine ⟨.ref a, h1, hk G1 W σ H1 ok1 _ fun w G2 H2 s2 r2 => ?_⟩
  obtain ⟨b, rfl, hb⟩ := rp_key r2
  refine ⟨a, _, rfl, DPut.t (s2.hh _ _ h5) (s2.gh _ _ hb) (by rw [h6.length]; exact hl), ?_⟩
  exact hnx _ G2 σ _ nx (s1.trans s2).gg ((ok1.stp s2).write h h1 (RpO.ofTab ((h6.mono s2.gg).put (r1.mono s2.gg))))
theorem sd_dputM (one : ∀ (j : Nat) q e', Γ[j]? = some (.mem q e') → j = i) (h : Γ[i]? = some (.mem p (tabD f t))) (hv : EvD tv Γ (f x)) (hk : EvD tk Γ (tupI k)) (hl : t.length < sizeLine) (nx : A.nx (Γ.set i (.mem p (tabD f (put t k x))))) : SD (sDPut (tVar i) tk tv) Γ A := fun G W σ H D ok hnx _ _ _ => hv G W σ H ok _ fun v G1 H1 s1 r1 => by
  have ok1 := ok.stp s1
  obtain ⟨h1, h2, h3, h4⟩ := ok1.mem i _ _ h
  obtain ⟨kvs, h5, h6⟩ := h4.tab
  refine ⟨.ref p, h1, hk G1 W σ H1 ok1 _ fun w G2 H2 s2 r2 => ?_⟩
  obtain ⟨b, rfl, hb⟩ := rp_key r2
  refine ⟨p, _, rfl, DPut.t (s2.hh _ _ h5) (s2.gh _ _ hb) (by rw [h6.length]; exact hl), ?_⟩
  exact hnx _ G2 σ _ nx (s1.trans s2).gg ((ok1.stp s2).writeM one h (RpO.ofTab ((h6.mono s2.gg).put (r1.mono s2.gg))))
end
end Dl
/-! Dl11: tables made, walked, locked. -/
namespace Dl
open PySem PySem.Spec L2
section
variable {α : Type} {te td tk tv : TE} {tt tt1 : TT} {Γ : Ga} {f : α → D} {t : Tb α} {i n : Nat} {k : List Int} {x : α} {A : AE} {p : Addr} {wi wi1 : TI} {item : Nat → D} {g g1 : TG} {vs vs1 : List Nat}
theorem ixD_at {ds : List D} {i : Nat} {d : D} (h : ds[i]? = some d) : ixD ds i = d := by
  unfold ixD
  rw [List.getD_eq_getElem?_getD, h]; rfl
theorem Tab.at {G : Hp} {kvs : List (List Key × V)} (h : Tab G f kvs t) {i : Nat} {k : List Key} {v : V} (e : kvs[i]? = Option.some (k, v)) : ∃ q, t[i]? = Option.some q ∧ k = kI q.1 ∧ Rp G v (f q.2) := by
  induction h generalizing i with
  | nil => cases e
  | @cons k1 x1 v1 kvs t r _ ih =>
    cases i with
    | zero => cases e; exact ⟨(k1, x1), rfl, rfl, r⟩
    | succ i => exact ih (by simpa using e)
/-- for v in d.values() -/
theorem ei_vals (h : EvD te Γ (tabZ f t)) : EvI (iValsT te) Γ t.length (fun i => ixD (t.map fun p => f p.2) i) := fun G W σ H ok R q => h G W σ H ok _ fun v G1 H1 s r => by
  obtain ⟨a, o, kvs, rfl, h1, h2⟩ := r.tabZ
  refine ⟨a, o, kvs, rfl, s.gh _ _ h1, q _ G1 H1 s fun i G' H' e1 e2 => ?_⟩
  have ha := e2 _ _ (e1 _ _ h1)
  refine ⟨fun hi => ⟨⟨ha, by rw [h2.length]; exact hi⟩, fun x H2 hy => ?_⟩, fun hi => ⟨ha, by rw [h2.length]; exact hi⟩⟩
  obtain ⟨rfl, k, hk⟩ := hy
  obtain ⟨q, e, _, r⟩ := h2.at hk
  refine ⟨G', .refl e2, ?_⟩
  dsimp only
  rw [ixD_at (d := f q.2) (by rw [List.getElem?_map, e]; rfl)]
  exact r.mono e1
/-- for k, v in d.items() -/
theorem ei_items (h : EvD te Γ (tabZ f t)) : EvI (iItemsT te) Γ t.length (fun i => ixD (t.map fun p => D.tup [tupI p.1, f p.2]) i) := fun G W σ H ok R q => h G W σ H ok _ fun v G1 H1 s r => by
  obtain ⟨a, o, kvs, rfl, h1, h2⟩ := r.tabZ
  refine ⟨a, o, kvs, rfl, s.gh _ _ h1, q _ G1 H1 s fun i G' H' e1 e2 => ?_⟩
  have ha := e2 _ _ (e1 _ _ h1)
  refine ⟨fun hi => ⟨⟨ha, by rw [h2.length]; exact hi⟩, fun x H2 hy => ?_⟩, fun hi => ⟨ha, by rw [h2.length]; exact hi⟩⟩
  obtain ⟨T, k, v, b, hk, hb, rfl, hT, rfl⟩ := hy
  obtain ⟨q, e, rfl, r⟩ := h2.at hk
  obtain ⟨G2, s2, rk⟩ := Stp.key e2 hb
  have s3 := Stp.new (o := .tup [.ref b, v]) s2.gh hT
  refine ⟨_, s2.trans s3, ?_⟩
  dsimp only
  rw [ixD_at (d := D.tup [tupI q.1, f q.2]) (by rw [List.getElem?_map, e]; rfl)]
  exact .tup upd_same (.cons (rk.mono s3.gg) (.cons ((r.mono e1).mono (s2.gg.trans s3.gg)) .nil))

/-- what a dict comprehension has made -/
def madeF (t0 : Tb α) (c : Nat → Bool) (key : Nat → List Int) (val : Nat → α) : Nat → Tb α
  | 0 => t0
  | n + 1 => if c n = true then put (madeF t0 c key val n) (key n) (val n) else madeF t0 c key val n
theorem madeF_len (t0 : Tb α) (c : Nat → Bool) (key : Nat → List Int) (val : Nat → α) : ∀ n, (madeF t0 c key val n).length ≤ t0.length + n
  | 0 => Nat.le_refl _
  | n + 1 => by
    have ih := madeF_len t0 c key val n
    have hp := put_len (madeF t0 c key val n) (key n) (val n)
    unfold madeF
    split <;> omega
theorem upd_own {G H G' H' : Hp} {a : Addr} {o : HO} (s : Stp G H G' H') (h : H a = none) (g : G' a = none) : Stp G H G' (upd H' a o) := by
  refine ⟨s.gg, fun b u e => ?_, fun b u e => ?_, s.fr⟩
  · rw [upd_ne (ne_of_none e h)]; exact s.hh b u e
  · rw [upd_ne (fun q => by rw [q, g] at e; cases e)]; exact s.gh b u e
theorem en_dc {Γi : Nat → Ga} (c : Nat → Bool) (key : Nat → List Int) (val : Nat → α) (hi : EvIc wi Γ n item) (hg : ∀ i, i < n → EvG g vs (wipeG Γ vs) (item i) (Γi i)) (ht : ∀ i, i < n → EvT tt (Γi i) (c i))
    (hk : ∀ i, i < n → c i = true → EvD tk (Γi i) (tupI (key i))) (hv : ∀ i, i < n → c i = true → EvD tv (Γi i) (f (val i))) (hn : n < sizeLine) :
    EvN (tDcG (.dT []) wi g tt tk tv vs) Γ (tabD f (madeF [] c key val n)) := fun G W σ H ok Q q => hi G W σ H ok _ fun J G1 H1 s cc => fun dd hD => by
  let Pv : Nat → Hp → Prop := fun i H' => ∃ G', Stp G1 H1 G' H' ∧ G' dd = none ∧ ∃ kvs, H' dd = some (.dT kvs) ∧ Tab G' f kvs (madeF [] c key val i)
  have k1 := ok.stp s
  refine ⟨fun i m H' => i + m = n ∧ Pv i H', ⟨n, by omega, G1, Stp.own s.gh hD, fresh_g (Stp.refl s.gh) hD, [], upd_same, .nil⟩, fun i m H' ⟨hm, G', s', gD, kvs, hacc, tab⟩ => ?_⟩
  have k2 := k1.stp s'
  rcases Nat.lt_or_ge i n with hin | hin
  · right
    obtain ⟨hgo, hyl⟩ := (cc i G' H' s').1 hin
    refine ⟨hgo, Pv (i + 1), fun H2 p => ⟨m - 1, by omega, by omega, p⟩, fun x H2 hy => ?_⟩
    obtain ⟨G2, s2, rx⟩ := hyl x H2 hy
    have k3 := k2.stp s2
    refine hg i hin G2 W _ H2 (k3.wipe vs) x rx _ fun σ2 tr l4 e4 => ⟨wipe_back l4 e4, ?_⟩
    have k4 := tr _ _ (.refl _) (k3.wipe vs)
    refine ht i hin G2 W σ2 H2 k4 _ fun G3 H3 s3 => ?_
    cases hf : c i with
    | true =>
      rw [if_pos rfl]
      refine hk i hin hf G3 W σ2 H3 (k4.stp s3) _ fun y G4 H4 s4 ry => hv i hin hf G4 W σ2 H4 ((k4.stp s3).stp s4) _ fun z G5 H5 s5 rz => ?_
      obtain ⟨b, rfl, hb⟩ := rp_key ry
      have s25 := ((s2.trans s3).trans s4).trans s5
      have hlen := tab.length
      have hml := madeF_len [] c key val i
      refine ⟨_, DPut.t (s25.hh _ _ hacc) (s5.gh _ _ (s5.gg _ _ hb)) (by simp only [List.length_nil] at hml; omega), G5, upd_own (s'.trans s25) hD (s25.fr _ _ hacc rfl gD), s25.fr _ _ hacc rfl gD, _, upd_same, ?_⟩
      show Tab G5 f _ (if c i = true then _ else _)
      rw [if_pos hf]
      exact (tab.mono s25.gg).put rz
    | false =>
      rw [if_neg (by simp)]
      have s23 := s2.trans s3
      refine ⟨G3, s'.trans s23, s23.fr _ _ hacc rfl gD, kvs, s23.hh _ _ hacc, ?_⟩
      show Tab G3 f _ (if c i = true then _ else _)
      rw [if_neg (by rw [hf]; simp)]
      exact tab.mono s23.gg
  · left
    have : i = n := by omega
    subst this
    exact ⟨(cc i G' H' s').2 (Nat.le_refl _), q dd G' H' (s.trans s') (fresh_of s hD) gD (by rw [hacc]; exact RpO.ofTab tab)⟩
/-- two clauses -/
def madeF2 (c : Nat → Bool) (n1 : Nat → Nat) (c1 : Nat → Nat → Bool) (key : Nat → Nat → List Int) (val : Nat → Nat → α) : Nat → Tb α
  | 0 => []
  | n + 1 => if c n = true then madeF (madeF2 c n1 c1 key val n) (c1 n) (key n) (val n) (n1 n) else madeF2 c n1 c1 key val n
theorem madeF2_len (c : Nat → Bool) (n1 : Nat → Nat) (c1 : Nat → Nat → Bool) (key : Nat → Nat → List Int) (val : Nat → Nat → α) (m : Nat) : ∀ n, (∀ i, i < n → n1 i ≤ m) → (madeF2 c n1 c1 key val n).length ≤ n * m
  | 0, _ => Nat.zero_le _
  | n + 1, h => by
    have ih := madeF2_len c n1 c1 key val m n fun i hi => h i (by omega)
    have hp := madeF_len (madeF2 c n1 c1 key val n) (c1 n) (key n) (val n) (n1 n)
    have := h n (by omega)
    unfold madeF2
    rw [Nat.succ_mul]
    split <;> omega
theorem en_dc2 {Γi : Nat → Ga} {Γj : Nat → Nat → Ga} (c : Nat → Bool) (n1 : Nat → Nat) (c1 : Nat → Nat → Bool) (key : Nat → Nat → List Int) (val : Nat → Nat → α) (m : Nat) {item1 : Nat → Nat → D} (hi : EvIc wi Γ n item) (hg : ∀ i, i < n → EvG g vs (wipeG Γ vs) (item i) (Γi i)) (ht : ∀ i, i < n → EvT tt (Γi i) (c i))
    (hi1 : ∀ i, i < n → c i = true → EvI wi1 (Γi i) (n1 i) (item1 i)) (hg1 : ∀ i, i < n → ∀ j, j < n1 i → EvG g1 vs1 (wipeG (Γi i) vs1) (item1 i j) (Γj i j)) (ht1 : ∀ i, i < n → ∀ j, j < n1 i → EvT tt1 (Γj i j) (c1 i j))
    (hk : ∀ i, i < n → ∀ j, j < n1 i → c1 i j = true → EvD tk (Γj i j) (tupI (key i j))) (hv : ∀ i, i < n → ∀ j, j < n1 i → c1 i j = true → EvD tv (Γj i j) (f (val i j))) (hm : ∀ i, i < n → n1 i ≤ m) (hn : n * m < sizeLine) :
    EvN (tDcG2 (.dT []) wi g tt wi1 g1 tt1 tk tv vs vs1) Γ (tabD f (madeF2 c n1 c1 key val n)) := fun G W σ H ok Q q => hi G W σ H ok _ fun J G1 H1 s cc => fun dd hD => by
  let Pv : Nat → Hp → Prop := fun i H' => ∃ G', Stp G1 H1 G' H' ∧ G' dd = none ∧ ∃ kvs, H' dd = some (.dT kvs) ∧ Tab G' f kvs (madeF2 c n1 c1 key val i)
  have k1 := ok.stp s
  refine ⟨fun i m H' => i + m = n ∧ Pv i H', ⟨n, by omega, G1, Stp.own s.gh hD, fresh_g (Stp.refl s.gh) hD, [], upd_same, .nil⟩, fun i m' H' ⟨hmm, G', s', gD, kvs, hacc, tab⟩ => ?_⟩
  have k2 := k1.stp s'
  rcases Nat.lt_or_ge i n with hin | hin
  · right
    obtain ⟨hgo, hyl⟩ := (cc i G' H' s').1 hin
    refine ⟨hgo, Pv (i + 1), fun H2 p => ⟨m' - 1, by omega, by omega, p⟩, fun x H2 hy => ?_⟩
    obtain ⟨G2, s2, rx⟩ := hyl x H2 hy
    have k3 := k2.stp s2
    refine hg i hin G2 W _ H2 (k3.wipe vs) x rx _ fun σ2 tr l4 e4 => ⟨wipe_back l4 e4, ?_⟩
    have k4 := tr _ _ (.refl _) (k3.wipe vs)
    refine ht i hin G2 W σ2 H2 k4 _ fun G3 H3 s3 => ?_
    have s23 := s2.trans s3
    cases hf : c i with
    | true =>
      rw [if_pos rfl]
      have k5 := k4.stp s3
      refine hi1 i hin hf G3 W σ2 H3 k5 _ fun J1 G4 H4 s4 c4 => ?_
      have s24 := s23.trans s4
      have gD4 := s24.fr _ _ hacc rfl gD
      have acc4 := s24.hh _ _ hacc
      have tab4 := tab.mono s24.gg
      have sb := s'.trans s24
      have k6 := k5.stp s4
      let Pw : Nat → Hp → Prop := fun j H' => ∃ G', Ex G4 G' ∧ Stp G1 H1 G' H' ∧ G' dd = none ∧ ∃ kvs, H' dd = some (.dT kvs) ∧ Tab G' f kvs (madeF (madeF2 c n1 c1 key val i) (c1 i) (key i) (val i) j)
      refine ⟨fun j m' H' => j + m' = n1 i ∧ Pw j H', ⟨n1 i, by omega, G4, .refl _, sb, gD4, kvs, acc4, tab4⟩, fun j m' H' ⟨hmm, G', eg, s', gD, kvs, hacc, tab⟩ => ?_⟩
      have e2 := (s3.trans s4).gg.trans eg
      have k7 := tr G' H' e2 ((k1.stp s').wipe vs)
      rcases Nat.lt_or_ge j (n1 i) with hjn | hjn
      · right
        obtain ⟨hgo, hyl⟩ := (c4 j G' H' eg s'.gh).1 hjn
        refine ⟨hgo, Pw (j + 1), fun H2 p => ⟨m' - 1, by omega, by omega, p⟩, fun x H2 hy => ?_⟩
        obtain ⟨G5, s5, rx⟩ := hyl x H2 hy
        have k8 := k7.stp s5
        refine hg1 i hin j hjn G5 W _ H2 (k8.wipe vs1) x rx _ fun σ5 tr5 l5 e5 => ⟨wipe_back l5 e5, ?_⟩
        have k9 := tr5 _ _ (.refl _) (k8.wipe vs1)
        refine ht1 i hin j hjn G5 W σ5 H2 k9 _ fun G6 H6 s6 => ?_
        cases hf1 : c1 i j with
        | true =>
          rw [if_pos rfl]
          refine hk i hin j hjn hf1 G6 W σ5 H6 (k9.stp s6) _ fun y G7 H7 s7 ry => hv i hin j hjn hf1 G7 W σ5 H7 ((k9.stp s6).stp s7) _ fun z G8 H8 s8 rz => ?_
          obtain ⟨b, rfl, hb⟩ := rp_key ry
          have s58 := ((s5.trans s6).trans s7).trans s8
          have hlen := tab.length
          have hml := madeF_len (madeF2 c n1 c1 key val i) (c1 i) (key i) (val i) j
          have hml2 := madeF2_len c n1 c1 key val m i fun i' hi' => hm i' (by omega)
          have hmi := hm i hin
          have hmul : i * m + m ≤ n * m := by rw [← Nat.succ_mul]; exact Nat.mul_le_mul_right m hin
          refine ⟨_, DPut.t (s58.hh _ _ hacc) (s8.gh _ _ (s8.gg _ _ hb)) (by omega), G8, eg.trans s58.gg, upd_own (s'.trans s58) hD (s58.fr _ _ hacc rfl gD), s58.fr _ _ hacc rfl gD, _, upd_same, ?_⟩
          show Tab G8 f _ (if c1 i j = true then _ else _)
          rw [if_pos hf1]
          exact (tab.mono s58.gg).put rz
        | false =>
          rw [if_neg (by simp)]
          have s56 := s5.trans s6
          refine ⟨G6, eg.trans s56.gg, s'.trans s56, s56.fr _ _ hacc rfl gD, kvs, s56.hh _ _ hacc, ?_⟩
          show Tab G6 f _ (if c1 i j = true then _ else _)
          rw [if_neg (by rw [hf1]; simp)]
          exact tab.mono s56.gg
      · left
        have : j = n1 i := by omega
        subst this
        refine ⟨(c4 (n1 i) G' H' eg s'.gh).2 (Nat.le_refl _), G', s', gD, kvs, hacc, ?_⟩
        show Tab G' f _ (if c i = true then _ else _)
        rw [if_pos hf]
        exact tab
    | false =>
      rw [if_neg (by simp)]
      refine ⟨G3, s'.trans s23, s23.fr _ _ hacc rfl gD, kvs, s23.hh _ _ hacc, ?_⟩
      show Tab G3 f _ (if c i = true then _ else _)
      rw [if_neg (by rw [hf]; simp)]
      exact tab.mono s23.gg
  · left
    have : i = n := by omega
    subst this
    exact ⟨(cc i G' H' s').2 (Nat.le_refl _), q dd G' H' (s.trans s') (fresh_of s hD) gD (by rw [hacc]; exact RpO.ofTab tab)⟩
end
end Dl
/-! Dl12: list(table), a display, the lock, xs[i] op= e, tables that a def is handed and writes. -/
namespace Dl
open PySem PySem.Spec L2
section
variable {α : Type} {te td tk tv ta tb : TE} {tt : TT} {ts : TS} {Γ : Ga} {f : α → D} {t : Tb α} {i j n : Nat} {k : List Int} {x : α} {A : AE} {p : Addr} {K : PySem.W.Frag} {X : Cx} {d e : D}
abbrev rListT : List V → Hp → VK → Prop := fun xs H Q => ∃ d kvs, xs = [V.ref d] ∧ Rd H d (.dT kvs) ∧ ∀ p bs, H p = none → IsKeys H kvs bs → Q (.ref p) (upd H p (.lst (bs.map V.ref)))
theorem Stp.keys {G H : Hp} (e : Ex G H) {t : Tb α} : ∀ {kvs : List (List Key × V)} {bs : List Addr}, kvs.map Prod.fst = t.map (fun p => kI p.1) → IsKeys H kvs bs → ∃ G', Stp G H G' H ∧ RpL G' (bs.map V.ref) (t.map fun p => tupI p.1) := by
  induction t with
  | nil =>
    intro kvs bs h r
    cases kvs with
    | nil => cases r; exact ⟨G, .refl e, .nil⟩
    | cons _ _ => cases h
  | cons q t ih =>
    intro kvs bs h r
    cases kvs with
    | nil => cases h
    | cons kv kvs =>
      simp only [List.map_cons, List.cons.injEq] at h
      cases r with
      | cons r rs =>
        obtain ⟨G1, s1, h1⟩ := ih h.2 rs
        rw [h.1] at r
        obtain ⟨G2, s2, h2⟩ := Stp.key s1.gh r
        exact ⟨G2, s1.trans s2, .cons h2 (h1.mono s2.gg)⟩
theorem Tab.keys {G : Hp} {kvs : List (List Key × V)} (h : Tab G f kvs t) : kvs.map Prod.fst = t.map fun p => kI p.1 := by
  induction h with
  | nil => rfl
  | cons _ _ ih => rw [List.map_cons, List.map_cons, ih]
/-- list(d) -/
theorem en_listDT (h : EvTb td Γ f t) : EvN (tCB rListT (tCons td tNil)) Γ (.lst (t.map fun p => tupI p.1)) := fun G W σ H ok Q q => h G W σ H ok _ fun a kvs G1 H1 s1 hr ht => by
  refine ⟨a, kvs, rfl, hr, fun p bs hp hk => ?_⟩
  obtain ⟨G2, s2, h2⟩ := Stp.keys s1.gh ht.keys hk
  have s12 := s1.trans s2
  exact q p G2 _ (s12.trans (Stp.own s2.gh hp)) (fresh_of s12 hp) (fresh_g s2 hp) ⟨_, upd_same, h2⟩
/-- {k: v} -/
theorem en_disp1 (hk : EvD tk Γ (tupI k)) (hv : EvD tv Γ (f x)) : EvN (tDisp1 tk tv) Γ (tabD f [(k, x)]) := fun G W σ H ok Q q => fun p hp => by
  have s0 := Stp.own (o := .dT []) ok.g hp
  refine hk G W σ _ (ok.stp s0) _ fun y G1 H1 s1 r1 => hv G1 W σ H1 ((ok.stp s0).stp s1) _ fun z G2 H2 s2 r2 => ?_
  obtain ⟨b, rfl, hb⟩ := rp_key r1
  have hd := s2.hh _ _ (s1.hh _ _ upd_same)
  have s12 := s1.trans s2
  have g2 : G2 p = none := s12.fr _ _ upd_same rfl (fresh_g (Stp.refl ok.g) hp)
  refine ⟨b, kI k, rfl, s2.gh _ _ (s2.gg _ _ hb), hd, ?_⟩
  refine q p G2 _ (upd_own (s0.trans s12) hp g2) hp g2 ?_
  rw [upd_same]
  exact RpO.ofTab (.cons r2 .nil)
/-- an object that no slot holds is frozen as it is rewritten -/
theorem Ok.newAt {G W H : Hp} {σ : St} {a : Addr} {u : HO} (k : Ok G W Γ σ H) (ga : G a = none) (wa : W a = none) (no : ∀ (j : Nat) d, Γ[j]? = some (.own d) → σ[j]? ≠ some (some (.ref a))) (nm : ∀ (j : Nat) p d, Γ[j]? = some (.mem p d) → p ≠ a) : Ok (upd G a u) W Γ σ (upd H a u) := by
  have eg : Ex G (upd G a u) := Ex.up ga
  refine ⟨fun b o q => ?_, fun b o q => ?_, fun b o q t => ?_, k.len, fun j e q => ?_, k.raw, fun j e q => ?_, k.scr, k.sep, fun j p e q => ?_, k.sepM⟩
  · by_cases hb : b = a
    · subst hb; rw [upd_same] at q ⊢; exact q
    · rw [upd_ne hb] at q ⊢; exact k.g b o q
  · rw [upd_ne (fun z => by rw [z, wa] at q; cases q)]; exact k.w b o q
  · rw [upd_ne (fun z => by rw [z, wa] at q; cases q)]; exact k.dis b o q t
  · obtain ⟨v, e1, e2⟩ := k.dat j e q
    exact ⟨v, e1, e2.mono eg⟩
  · obtain ⟨b, e1, e2, e3, e4⟩ := k.own j e q
    have hb : b ≠ a := fun z => no j e q (by rw [e1, z])
    exact ⟨b, e1, by rw [upd_ne hb]; exact e2, e3, by rw [upd_ne hb]; exact e4.mono eg⟩
  · obtain ⟨e1, e2, e3, e4⟩ := k.mem j p e q
    have hb := nm j p e q
    exact ⟨e1, by rw [upd_ne hb]; exact e2, e3, by rw [upd_ne hb]; exact e4.mono eg⟩
/-- a table of one's own is locked for good -/
theorem sd_lock (i : Nat) (h : Γ[i]? = some (.own (tabD f t))) (k : SD ts (Γ.set i (.dat (tabZ f t))) A) : SD (tLk ts) Γ A := fun G W σ H D ok nx bk ct rt => by
  obtain ⟨a, h1, h2, h3, h4⟩ := ok.own i _ h
  obtain ⟨kvs, h5, h6⟩ := h4.tab
  refine ⟨a, .dT kvs, h5, True.intro, fun od => ?_⟩
  have hσ : σ.set i (some (.ref a)) = σ := by
    apply List.ext_getElem?
    intro j
    rw [getset]
    split
    · rename_i hij
      subst hij
      rw [if_pos (List.getElem?_eq_some_iff.mp h1).1, h1]
    · rfl
  have k0 : Ok G W (Γ.set i .un) (σ.set i (some (.ref a))) H := ok.setU
  rw [hσ] at k0
  have eg : Ex G (upd G a (.frz od (.dT kvs))) := Ex.up h2
  have k1 : Ok (upd G a (.frz od (.dT kvs))) W (Γ.set i .un) σ (upd H a (.frz od (.dT kvs))) := k0.newAt h2 h3 (fun j d q z => by
    rw [getset] at q
    split at q
    · split at q <;> cases q
    · rename_i hij
      exact ok.sep j i d _ (fun z => hij z.symm) q h (by rw [z, h1])) (fun j p d q z => by
    rw [getset] at q
    split at q
    · split at q <;> cases q
    · exact ok.sepM j i p d _ q h (by rw [h1, z]))
  have k2 := k1.setD (i := i) (v := .ref a) (d := tabZ f t) (Rp.ofTabZ (h6.mono eg) upd_same)
  rw [List.set_set, hσ] at k2
  exact k _ W σ _ D k2 (fun Γ2 G2 σ2 H2 q e2 => nx Γ2 G2 σ2 H2 q (eg.trans e2)) (fun Γ2 G2 σ2 H2 q e2 => bk Γ2 G2 σ2 H2 q (eg.trans e2)) (fun Γ2 G2 σ2 H2 q e2 => ct Γ2 G2 σ2 H2 q (eg.trans e2)) fun s' v G2 H2 q e2 => rt s' v G2 H2 q (eg.trans e2)
/-- xs[i] op= e, ints -/
def rGetL : V → V → Hp → VK → Prop := fun o i H Q => ∃ p xs k j v, o = .ref p ∧ i = .int k ∧ H p = some (.lst xs) ∧ ixN xs.length k = some j ∧ xs[j]? = some v ∧ Q v H
theorem get_list : PGet X rGetL := by
  intro pins s σ H o i ov iv Q I ro ri h
  obtain ⟨p, xs, k, j, v, rfl, rfl, hp, hj, hv, q⟩ := h
  cases ro
  obtain ⟨t, rfl⟩ := ri
  obtain ⟨its, n, r, ho, hz⟩ := I.lst hp
  obtain ⟨h1, h2, h3, h4⟩ := ixN_seq hj
  have hl := r.length
  have hn := line63
  obtain ⟨w, hw, rw⟩ := paired_get r hv
  have isl : s.heap.IsList p its.toArray := ⟨_, ho, rfl, n, rfl⟩
  have ha : its.toArray[j]? = some w := by simpa using hw
  by_cases h0 : 0 ≤ k
  · have hk : k.toNat = j := by
      rw [PySem.seqIndex_of h0 h4] at h1
      exact Option.some.inj h1
    exact PySem.wpAny_getItem_list isl h0 (by omega) (by rw [hk]; exact ha) ⟨v, H, I, rw, q⟩
  · have hk : (k + (its.toArray.size : Int)).toNat = j := by
      rw [PySem.seqIndex_neg (by omega) h3] at h1
      rw [List.size_toArray, ← hl]
      exact Option.some.inj h1
    exact PySem.wpAny_getItem_list_neg isl (by omega) (by rw [List.size_toArray, ← hl]; exact h3) (by omega) (by rw [hk]; exact ha) ⟨v, H, I, rw, q⟩
theorem sd_augL {g : Int → Int → Int} {ns : List Int} {z b : Int} (h : Γ[i]? = some (.own (dI ns))) (hz : EvD tb Γ (.int z)) (he : EvD te Γ (.int b)) (hj : ixN ns.length z = some j) (k : A.nx (Γ.set i (.own (dI (ns.set j (g (ns.getD j 0) b)))))) :
    SD (tAugS (tVar i) tb te rGetL (ipI g) rSetL) Γ A := fun G W σ H D ok nx _ _ _ => by
  obtain ⟨a, h1, h2, h3, vs, h4, h5⟩ := ok.own i _ h
  cases RpL.ints h5
  have hjl : j < ns.length := (ixN_seq hj).2.1
  refine ⟨.ref a, h1, hz G W σ H ok _ fun w G1 H1 s1 r1 => ?_⟩
  cases rqI r1
  refine ⟨a, ns.map V.int, z, j, .int (ns.getD j 0), rfl, rfl, s1.hh _ _ h4, by rw [List.length_map]; exact hj, ?_, he G1 W σ H1 (ok.stp s1) _ fun w G2 H2 s2 r2 => ?_⟩
  · rw [List.getElem?_map, List.getElem?_eq_getElem hjl, List.getD_eq_getElem?_getD, List.getElem?_eq_getElem hjl]; rfl
  · cases rqI r2
    have s12 := s1.trans s2
    refine ⟨_, _, rfl, rfl, a, ns.map V.int, z, j, rfl, rfl, s12.hh _ _ h4, by rw [List.length_map]; exact hj, nx _ G2 σ _ k s12.gg ((ok.stp s12).write h h1 ⟨_, rfl, ?_⟩)⟩
    have : (ns.map V.int).set j (.int (g (ns.getD j 0) b)) = (ns.set j (g (ns.getD j 0) b)).map V.int := by rw [List.map_set]
    rw [this]
    exact rpL_ints _
end
end Dl
/-! Dl13: defs that write a table they are handed; defs that hand back a list out of a table of their own. -/
namespace Dl
open PySem PySem.Spec L2
/-- the last argument is a table p of the caller's, which the def may fill; Good holds of it ahead of the call and behind it -/
def MemSp {α : Type} (f : α → D) (Good : Tb α → Prop) (R : List D → D → Prop) : Sp := fun vs H Q _ => ∃ G ds d p t vs1, vs = vs1 ++ [.ref p] ∧ Ex G H ∧ RpL G vs1 ds ∧ G p = none ∧ RpO G (H p) (tabD f t) ∧ R ds d ∧ Good t ∧
  ∀ v G' H' t', Ex G G' → Ex G' H' → (∀ a o, a ≠ p → H a = some o → H' a = some o) → (∀ a o, H a = some o → isT o = false → G a = none → G' a = none) → RpO G' (H' p) (tabD f t') → Good t' → Rp G' v d → Q v H'
def memG (n : Nat) (ds : List D) (p : Addr) (e : D) : Ga := ds.map Sl.dat ++ .mem p e :: List.replicate (n - ds.length - 1) .un
theorem memG_dat {n : Nat} {ds : List D} {p : Addr} {e : D} {i : Nat} {s : Sl} (h : (memG n ds p e)[i]? = some s) : (∃ d, ds[i]? = some d ∧ s = .dat d) ∨ (i = ds.length ∧ s = .mem p e) ∨ s = .un := by
  unfold memG at h
  by_cases hi : i < ds.length
  · rw [List.getElem?_append_left (by rw [List.length_map]; exact hi), List.getElem?_map, List.getElem?_eq_getElem hi] at h
    exact .inl ⟨_, List.getElem?_eq_getElem hi, (Option.some.inj h).symm⟩
  · rw [List.getElem?_append_right (by rw [List.length_map]; omega), List.length_map] at h
    by_cases he : i = ds.length
    · subst he
      rw [Nat.sub_self] at h
      exact .inr (.inl ⟨rfl, (Option.some.inj h).symm⟩)
    · obtain ⟨m, hm⟩ : ∃ m, i - ds.length = m + 1 := ⟨i - ds.length - 1, by omega⟩
      rw [hm, List.getElem?_cons_succ, List.getElem?_replicate] at h
      split at h
      · exact .inr (.inr (Option.some.inj h).symm)
      · cases h
theorem run_mem {α : Type} {f : α → D} {Good : Tb α → Prop} {ts : TS} {N : List Str} {vs : List V} {H : Hp} {Q : VK} {E : XK} {R : List D → D → Prop} (hn : vs.length ≤ N.length) (h : MemSp f Good R vs H Q E)
    (b : ∀ ds d p t, R ds d → Good t → SD ts (memG N.length ds p (tabD f t)) { nx := fun _ => False, rt := fun s => ∃ t', Good t' ∧ s = .two d p (tabD f t') }) : ts { nx := fun _ H' => Q .non H', rt := Q } (L2.start N vs) H := by
  obtain ⟨G, ds, d, p, t, vs1, rfl, g, r, gp, hp, hR, hg, q⟩ := h
  have hl := r.length
  have hlen : vs1.length + 1 ≤ N.length := by simpa using hn
  let W : Hp := fun a => open Classical in if a = p then none else if G a = none then H a else none
  have Wp : W p = none := by show (if p = p then _ else _) = _; rw [if_pos rfl]
  have Wo : ∀ a o, W a = some o → a ≠ p ∧ G a = none ∧ H a = some o := fun a o h => by
    have h : (if a = p then none else if G a = none then H a else none) = some o := h
    split at h
    · cases h
    · rename_i ha
      split at h
      · exact ⟨ha, ‹_›, h⟩
      · cases h
  have oW : ∀ a o, a ≠ p → G a = none → H a = some o → W a = some o := fun a o ha hg h => by
    show (if a = p then none else if G a = none then H a else none) = some o
    rw [if_neg ha, if_pos hg]; exact h
  have at_ : ∀ i, (L2.start N (vs1 ++ [.ref p]))[i]? = if i < vs1.length then (vs1[i]?).map some else if i = vs1.length then some (some (.ref p)) else if i < N.length then some none else none := fun i => by
    unfold L2.start
    by_cases h1 : i < vs1.length
    · rw [if_pos h1, List.getElem?_append_left (by simp; omega), List.getElem?_map, List.getElem?_append_left h1]
    · rw [if_neg h1]
      by_cases h2 : i = vs1.length
      · rw [if_pos h2, List.getElem?_append_left (by simp; omega), List.getElem?_map, List.getElem?_append_right (by omega), h2, Nat.sub_self]; rfl
      · rw [if_neg h2, List.getElem?_append_right (by simp; omega), List.getElem?_replicate]
        simp only [List.length_map, List.length_append, List.length_cons, List.length_nil]
        by_cases h3 : i < N.length
        · rw [if_pos h3, if_pos (by omega)]
        · rw [if_neg h3, if_neg (by omega)]
  have k : Ok G W (memG N.length ds p (tabD f t)) (L2.start N (vs1 ++ [.ref p])) H := by
    refine ⟨g, fun a o h => (Wo a o h).2.2, fun a o h _ => (Wo a o h).2.1, ?_, fun i d h => ?_, fun i v h => ?_, fun i es h => ?_, fun i K' ns h => ?_, fun i j di dj _ h => ?_, fun i p' d h => ?_, fun i j p' d e h h' => ?_⟩
    · unfold L2.start memG
      simp only [List.length_append, List.length_map, List.length_replicate, List.length_cons, List.length_nil]
      omega
    · rcases memG_dat h with ⟨d', h1, h2⟩ | ⟨_, h2⟩ | h2
      · cases h2
        obtain ⟨v, h3, h4⟩ := r.get h1
        have hi : i < vs1.length := (List.getElem?_eq_some_iff.mp h3).1
        refine ⟨v, ?_, h4⟩
        rw [at_, if_pos hi, h3]; rfl
      · cases h2
      · cases h2
    · rcases memG_dat h with ⟨d', h1, h2⟩ | ⟨_, h2⟩ | h2 <;> cases h2
    · rcases memG_dat h with ⟨d', h1, h2⟩ | ⟨_, h2⟩ | h2 <;> cases h2
    · rcases memG_dat h with ⟨d', h1, h2⟩ | ⟨_, h2⟩ | h2 <;> cases h2
    · rcases memG_dat h with ⟨d', h1, h2⟩ | ⟨_, h2⟩ | h2 <;> cases h2
    · rcases memG_dat h with ⟨d', h1, h2⟩ | ⟨h1, h2⟩ | h2
      · cases h2
      · cases h2
        refine ⟨?_, gp, Wp, hp⟩
        rw [at_, if_neg (by omega), if_pos (by omega)]
      · cases h2
    · rcases memG_dat h' with ⟨d', h1, h2⟩ | ⟨_, h2⟩ | h2 <;> cases h2
  refine b ds d p t hR hg G W _ H _ k (fun _ _ _ _ z => z.elim) (fun _ _ _ _ z => z.elim) (fun _ _ _ _ z => z.elim) (fun s v G' H' z e e' w di rs => ?_)
  obtain ⟨t', ht, rfl⟩ := z
  obtain ⟨r1, r2, r3, r4⟩ := rs
  refine q v G' H' t' e e' (fun a o ha h => ?_) (fun a o h nt n => ?_) r4 ht r1
  · cases hG : G a with
    | none => exact w a o (oW a o ha hG h)
    | some u =>
      have := g a u hG
      rw [h] at this
      cases this
      exact e' a _ (e a _ hG)
  · by_cases ha : a = p
    · rw [ha]; exact r2
    · exact di a o (oW a o ha n h) nt
/-- a def that hands back a flat list which stands in an object of its own -/
theorem run_newF {ts : TS} {N : List Str} {vs : List V} {H : Hp} {Q : VK} {E : XK} {R : List D → D → Prop} (hn : vs.length ≤ N.length) (h : NewSp R vs H Q E) (hR : ∀ ds es, R ds es → ∃ xs ys : List Int, ds = [dI xs] ∧ es = dI ys ∧ xs ≠ ys)
    (b : ∀ ds es, R ds es → SD ts (startG N.length ds) { nx := fun _ => False, rt := fun s => s = .dat es }) : ts { nx := fun _ H' => Q .non H', rt := Q } (L2.start N vs) H := by
  obtain ⟨G, ds, es, g, r, hRR, q⟩ := h
  obtain ⟨xs, ys, rfl, rfl, hne⟩ := hR ds es hRR
  cases r with
  | cons r r0 =>
  cases r0
  cases r with
  | @lst p ws _ hG rl =>
  cases RpL.ints rl
  let G0 : Hp := fun a => open Classical in if a = p then G a else none
  have G0p : G0 p = some (.lst (xs.map V.int)) := by show (if p = p then G p else none) = _; rw [if_pos rfl]; exact hG
  have G0n : ∀ a, a ≠ p → G0 a = none := fun a ha => if_neg ha
  have g0 : Ex G0 H := fun a o h => by
    by_cases ha : a = p
    · subst ha; rw [G0p] at h; cases h; exact g _ _ hG
    · rw [G0n a ha] at h; cases h
  have k := ok_start (N := N) (ds := [dI xs]) g0 (.cons (.lst G0p (rpL_ints xs)) .nil) hn
  refine b [dI xs] (dI ys) hRR G0 _ _ H _ k (fun _ _ _ _ z => z.elim) (fun _ _ _ _ z => z.elim) (fun _ _ _ _ z => z.elim) (fun s v G' H' z e e' w di rs => ?_)
  subst z
  have rs : Rp G' v (dI ys) := rs
  cases rs with
  | @lst a us _ ha ru =>
  cases RpL.ints ru
  have hap : a ≠ p := fun z => by
    have := e _ _ G0p
    rw [← z, ha] at this
    have h2 : ys.map V.int = xs.map V.int := HO.lst.inj (Option.some.inj this)
    exact hne ((List.map_inj_right (fun _ _ h => V.int.inj h)).mp h2).symm
  have wa : ∀ o, H a = some o → (open Classical in if G0 a = none then H a else none) = some o := fun o h => by rw [if_pos (G0n a hap)]; exact h
  have hn : H a = none := by
    cases z : H a with
    | none => rfl
    | some o =>
      have h1 := w a o (wa o z)
      have h2 := e' a _ ha
      rw [h1] at h2
      cases h2
      have := di a _ (wa _ z) rfl
      rw [ha] at this
      cases this
  have hh : Ex H H' := fun c o h => by
    by_cases hc : c = p
    · subst hc
      have := g0 _ _ G0p
      rw [h] at this
      cases this
      exact e' _ _ (e _ _ G0p)
    · exact w c o (by show (if G0 c = none then H c else none) = _; rw [if_pos (G0n c hc)]; exact h)
  refine q a G H' ⟨Ex.refl G, hh, g.trans hh, fun _ _ _ _ n => n⟩ hn ?_ ?_
  · cases z : G a with
    | none => rfl
    | some o => have := g a o z; rw [hn] at this; cases this
  · exact ⟨_, e' a _ ha, rpL_ints ys⟩
section
variable {P : Program} {w : World} {K : PySem.W.Frag} {mg : Str → Option Value} {base : Heap}
theorem fn_mem {α : Type} {g : α → D} {Good : Tb α → Prop} {x qual : Str} {st : Stmt} {f : Addr} {fd : FuncData} {N ps : List Str} {k : Nat} {R : List D → D → Prop} (F : Fun K x qual st f fd) (S : FnScope N ps (defScope st)) (hlen : ∀ ds d, R ds d → ds.length + 1 = ps.length) (hN : ps.length ≤ N.length)
    (hbody : ∀ (cdv : Value) (A : Around) (outer : List Env) (s : Shared) (H : Hp) (E : XK), Room k (A.deeper (PyProof.Rows.envOfC qual (defScope st) s.heap.objs.size f cdv)) →
      ∃ t, PSs (cxOf CX0 P w K mg base N qual (defScope st) f cdv A outer s H E).nox (defBody st) t ∧ ∀ ds d p tb, R ds d → Good tb → SD t (memG N.length ds p (tabD g tb)) { nx := fun _ => False, rt := fun s => ∃ t', Good t' ∧ s = .two d p (tabD g t') }) : FnOk P w K mg base CX0 (k + 1) f fd ps (MemSp g Good R) := by
  have lv : ∀ vs H Q E, MemSp g Good R vs H Q E → vs.length = ps.length := fun vs H Q E h => by
    obtain ⟨G, ds, d, p, t, vs1, rfl, _, r, _, _, hR, _⟩ := h
    rw [List.length_append, r.length]; exact hlen ds d hR
  refine F.ok S lv fun cdv A outer s H vs Q E hr h => ?_
  obtain ⟨t, p, b⟩ := hbody cdv A outer s H E hr
  exact ⟨t, p, run_mem (by rw [lv vs H Q E h]; exact hN) h b⟩
theorem fn_newF {x qual : Str} {st : Stmt} {f : Addr} {fd : FuncData} {N ps : List Str} {k : Nat} {R : List D → D → Prop} (F : Fun K x qual st f fd) (S : FnScope N ps (defScope st)) (hlen : ps.length = 1) (hN : ps.length ≤ N.length) (hR : ∀ ds es, R ds es → ∃ xs ys : List Int, ds = [dI xs] ∧ es = dI ys ∧ xs ≠ ys)
    (hbody : ∀ (cdv : Value) (A : Around) (outer : List Env) (s : Shared) (H : Hp) (E : XK), Room k (A.deeper (PyProof.Rows.envOfC qual (defScope st) s.heap.objs.size f cdv)) →
      ∃ t, PSs (cxOf CX0 P w K mg base N qual (defScope st) f cdv A outer s H E).nox (defBody st) t ∧ ∀ ds es, R ds es → SD t (startG N.length ds) { nx := fun _ => False, rt := fun s => s = .dat es }) : FnOk P w K mg base CX0 (k + 1) f fd ps (NewSp R) := by
  have lv : ∀ vs H Q E, NewSp R vs H Q E → vs.length = ps.length := fun vs H Q E h => by
    obtain ⟨G, ds, es, g, r, hRR, q⟩ := h
    obtain ⟨xs, ys, rfl, _⟩ := hR ds es hRR
    rw [r.length, hlen]; rfl
  refine F.ok S lv fun cdv A outer s H vs Q E hr h => ?_
  obtain ⟨t, p, b⟩ := hbody cdv A outer s H E hr
  exact ⟨t, p, run_newF (by rw [lv vs H Q E h]; exact hN) h hR b⟩
end
/-! ### calls of such defs -/
/-- the value is data; the slots are then as P says -/
def EvM (te : TE) (Γ : Ga) (P : Ga → Prop) (d : D) : Prop := ∀ G W σ H, Ok G W Γ σ H → ∀ Q : VK, (∀ v Γ' G' H', P Γ' → Ex G G' → Ok G' W Γ' σ H' → Rp G' v d → Q v H') → te σ H Q
section
variable {α : Type} {te ta tb : TE} {tas : TA} {tt : TT} {ts : TS} {Γ : Ga} {f : α → D} {t : Tb α} {i j n : Nat} {A : AE} {p : Addr} {K : PySem.W.Frag} {d e : D} {ds : List D} {Good : Tb α → Prop} {R : List D → D → Prop} {E : XK} {P : Ga → Prop}
def OneM (Γ : Ga) (i : Nat) : Prop := ∀ (j : Nat) q e', Γ[j]? = some (.mem q e') → j = i
theorem em_call (one : OneM Γ i) (h : Γ[i]? = some (.mem p (tabD f t))) (ha : EvD ta Γ e) (hR : R [e] d) (hg : Good t) : EvM (tCall (MemSp f Good R) [] E (tCons ta (tCons (tVar i) tNil))) Γ (fun Γ' => ∃ t', Good t' ∧ Γ' = Γ.set i (.mem p (tabD f t'))) d := fun G W σ H ok Q q =>
  ha G W σ H ok _ fun v G1 H1 s1 r1 => by
    have k1 := ok.stp s1
    obtain ⟨h1, h2, h3, h4⟩ := k1.mem i _ _ h
    refine ⟨.ref p, h1, G1, [e], d, p, t, [v], rfl, s1.gh, .cons r1 .nil, h2, h4, hR, hg, fun v' G' H' t' e1 e2 keep nf hp ht rv => ?_⟩
    refine q v' _ G' H' ⟨t', ht, rfl⟩ (s1.gg.trans e1) ?_ rv
    have hW : ∀ a o, W a = some o → H' a = some o := fun a o h => keep a o (fun z => by rw [z, h3] at h; cases h) (k1.w a o h)
    refine ⟨e2, hW, fun a o h nt => nf a o (k1.w a o h) nt (k1.dis a o h nt), by rw [List.length_set]; exact k1.len, fun j e' q => ?_, fun j e' q => ?_, fun j e' q => ?_, fun j K' e' q => ?_, fun x y dx dy hxy hx hy => ?_, fun j p' e' q => ?_, fun x y p' dx dy hx hy => ?_⟩
    · rw [getset] at q
      split at q
      · split at q <;> cases q
      · obtain ⟨v, f1, f2⟩ := k1.dat j e' q
        exact ⟨v, f1, f2.mono e1⟩
    · rw [getset] at q
      split at q
      · split at q <;> cases q
      · exact k1.raw j e' q
    · rw [getset] at q
      split at q
      · split at q <;> cases q
      · obtain ⟨c, f1, f2, f3, f4⟩ := k1.own j e' q
        have hc : c ≠ p := fun z => k1.sepM i j p _ e' h q (by rw [f1, z])
        obtain ⟨u, hu, nt⟩ := f4.nt
        refine ⟨c, f1, nf c u hu nt f2, f3, ?_⟩
        rw [keep c u hc hu, ← hu]
        exact f4.mono e1
    · rw [getset] at q
      split at q
      · split at q <;> cases q
      · exact k1.scr j K' e' q
    · rw [getset] at hx hy
      split at hx
      · split at hx <;> cases hx
      · split at hy
        · split at hy <;> cases hy
        · exact k1.sep x y dx dy hxy hx hy
    · rw [getset] at q
      split at q
      · rename_i hij
        subst hij
        split at q
        · cases q
          obtain ⟨u, hu, nt⟩ := h4.nt
          exact ⟨h1, nf p u hu nt h2, h3, hp⟩
        · cases q
      · rename_i hij
        exact absurd (one j p' e' q).symm hij
    · rw [getset] at hx hy
      split at hy
      · split at hy <;> cases hy
      · split at hx
        · split at hx
          · cases hx; exact k1.sepM i y p _ dy h hy
          · cases hx
        · exact k1.sepM x y p' dx dy hx hy
theorem sd_asgM (h : EvM te Γ P d) (k : ∀ Γ', P Γ' → A.nx (Γ'.set i (.dat d))) : SD (tAsg te (gName i)) Γ A := fun G W σ H D ok nx _ _ _ => h G W σ H ok _ fun v Γ' G' H' hp e k' r => nx _ G' _ H' (k Γ' hp) e (k'.setD r)
theorem sd_asgMcat {xs ys : List Int} (h : EvM ta Γ P (dI xs)) (hb : ∀ Γ', P Γ' → EvB tb Γ' (dI ys)) (hl : xs.length + ys.length ≤ 1000000) (k : ∀ Γ', P Γ' → A.nx (Γ'.set i (.own (dI (xs ++ ys))))) : SD (tAsg (tOp rAddA ta tb) (gName i)) Γ A := fun G W σ H D ok nx _ _ _ =>
  h G W σ H ok _ fun v Γ' G' H' hp e k' r => hb Γ' hp G' W σ H' k' _ fun w G2 H2 s2 r2 => by
    have k2 := k'.stp s2
    obtain ⟨a, vs, rfl, ha, r3⟩ := (RpB.dat (r.mono s2.gg) : RpB G2 H2 v _).lst k2.g
    obtain ⟨b, ws, rfl, hb, r4⟩ := r2.lst k2.g
    refine .inr ⟨a, b, vs, ws, rfl, rfl, ha, hb, by rw [r3.length, r4.length, List.length_map, List.length_map]; exact Nat.le_trans hl (by decide), ?_⟩
    refine newList (Q := fun x H1 => gName i x σ H1 D.nx) k2.g (r3.append r4) fun a' G3 H3 s3 ha' ga' h' => ?_
    rw [← List.map_append] at h'
    exact nx _ G3 _ H3 (k Γ' hp) (e.trans (s2.gg.trans s3.gg)) ((k2.stp s3).setN ga' (k2.wNone ha') (k2.newNot ha') (k2.newNotM ha') h')
theorem sd_asgMadd {x y : Int} (ha : EvD ta Γ (.int x)) (h : EvM tb Γ P (.int y)) (k : ∀ Γ', P Γ' → A.nx (Γ'.set i (.dat (.int (x + y))))) : SD (tAsg (tOp rAddA ta tb) (gName i)) Γ A := fun G W σ H D ok nx _ _ _ =>
  ha G W σ H ok _ fun v G1 H1 s1 r1 => h G1 W σ H1 (ok.stp s1) _ fun w Γ' G' H' hp e k' r => by
    cases rqI r1
    cases rqI r
    exact .inl (.inl ⟨x, y, rfl, rfl, nx _ G' _ H' (k Γ' hp) (s1.gg.trans e) (k'.setD (.int _))⟩)
theorem sd_retM (hm : Γ[i]? = some (.mem p e)) (h : EvD te Γ d) (k : A.rt (.two d p e)) : SD (tRet te) Γ A := fun G W σ H D ok _ _ _ rt => h G W σ H ok _ fun v G' H' s r => by
  have k' := ok.stp s
  obtain ⟨_, h2, h3, h4⟩ := k'.mem i _ _ hm
  exact rt _ v G' H' k s.gg s.gh (ok.w.trans s.hh) k'.dis ⟨r, h2, h3, h4⟩
/-- called with a new empty table -/
theorem ev_callM (ha : EvD ta Γ e) (hR : R [e] d) (hg : Good []) : EvD (tCall (MemSp f Good R) [] E (tCons ta (tCons tDNewT tNil))) Γ d := fun G W σ H ok Q q =>
  ha G W σ H ok _ fun v G1 H1 s1 r1 => fun p hp => by
    have s2 := Stp.own (o := .dT []) s1.gh hp
    refine ⟨G1, [e], d, p, [], [v], rfl, s2.gh, .cons r1 .nil, fresh_g (Stp.refl s1.gh) hp, ?_, hR, hg, fun v' G' H' t' e1 e2 keep nf hp' ht rv => ?_⟩
    · rw [upd_same]; exact RpO.ofTab .nil
    · refine q v' G' H' (s1.trans ⟨e1, fun a o h => keep a o (fun z => by rw [z, hp] at h; cases h) (s2.hh a o h), e2, fun a o h nt n => nf a o (s2.hh a o h) nt n⟩) rv
end
end Dl
/-! Dl14: y = {k: v for ..} on one line. -/
namespace Dl
open PySem PySem.Spec L2
open PyProof.Rows hiding St
theorem sw_dict {kx vx : Expr} {gs : List Comprehension} {scope : Scope} {pos py : Pos} {y : Str} {l : Nat} {env : Env} (hk : env.scope.kind = .function) (hy : env.scope.names.lookup y = some .local) (hl : (py.line == pos.line) = true)
    (ha : (scope.names.any fun (n, k) => n == y && (k == .local || k == .cell)) = false) : swapsWith (.DictComp kx vx gs scope pos) (some (.Name y py)) l env = pure true := by
  have ky : env.kindOf y = some .local := hy
  have hb : env.blockKind = .function := by
    unfold Env.blockKind
    rw [hk]
    rfl
  unfold swapsWith
  simp only [hb, ky, ha, Expr.pos, hl]
  rfl
section
variable {X : Cx}
theorem ps_setDc {o0 : HO} {i : Nat} {y : Str} {py : Pos} {kx vx tg iter : Expr} {ifs : List Expr} {scope : Scope} {own : List (Str × Nat)} {pos spos : Pos} {wi : TI} {g : TG} {tt : TT} {tk tv : TE} (h0 : o0 = .dK [] ∨ o0 = .dT []) (hu : X.A.units + 1 < cLine) (hc : X.calm = true) (hN : X.N.Nodup) (hy : X.N[i]? = some y) (hyl : X.env.scope.names.lookup y = some .local)
    (hsw : swapsWith (.DictComp kx vx [⟨tg, iter, ifs, 0⟩] scope pos) (some (.Name y py)) spos.line X.env = pure true) (hi : PI X tg iter wi) (ok : BlkOk X.N X.env.scope scope own)
    (hg : InBlk X scope fun Y => PG Y tg g) (ht : InBlk X scope fun Y => PTs Y ifs tt) (hk : InBlk X scope fun Y => PE Y kx tk) (hv : InBlk X scope fun Y => PE Y vx tv) (hs : ∀ x, foldedSetIterable iter X.env x = pure x := by intro _; rfl) :
    PS X (.Assign [.Name y py] (.DictComp kx vx [⟨tg, iter, ifs, 0⟩] scope pos) spos) (tAsg (tDcG o0 wi g tt tk tv (own.map (·.2))) (gName i)) := by
  refine ⟨fun pins s σ H D I h => ?_⟩
  rw [exec_Assign_Name_used _ _ _ _ hsw]
  refine wpAny_bind (wpAny_standAt (wpAny_bind ?_))
  show wpAny _ X.A (do let _ ← comprehension (.DictComp kx vx [⟨tg, iter, ifs, 0⟩] scope pos) scope X.env (firstIterPos [⟨tg, iter, ifs, 0⟩] pos) newDict false (eval iter X.env) (some (assign (.Name y py) X.env))) _ _ s
  have h' : tDcG o0 wi g tt tk tv (own.map (·.2)) σ H (fun x H1 => gName i x σ H1 D.nx) := h
  refine wpAny_bind (thn (dc_block (Qf := fun _ s' => SP X pins D .next s') h0 hc hN I hi ok hs h' (loop1 hu hc hg ht hk hv) fun L C s' m H' I' q hn f => ?_) fun _ s' hq => wpAny_pure (wpAny_pure hq))
  show wpAny _ _ (assign (.Name y py) X.env (.ref L)) _ _ _
  refine wpAny_assign_Name (store_ok2 (v := V.ref L) I' hN hy (.inl hyl) rfl (fun s2 I2 z => ?_) (.inr hyl))
  obtain ⟨a, sb, ha⟩ := z
  obtain ⟨f0, f1, f2, f3, f4, f5⟩ := f
  have haC : C ≠ a := ha.elim (fun z => by rw [z]; exact f1) fun z e => f4 y a z e.symm
  exact ⟨m, hn.sameBut sb haC, fun h3 sb3 => ⟨_, H', I2.turned (t' := s2.toks) (fun b o hb e => (sb3.2 b hb).trans e) f0 f1 f3 f4 f5, q⟩⟩
end
end Dl
namespace Kt
open PySem PySem.Spec L2 Dl
local macro_rules | `(tactic| walk_at "side") => `(tactic| first
  | exact cpow18
  | (simp only [List.length_cons, List.length_nil]; decide)
  | ((fail_if_success (with_reducible apply isEvD)); (fail_if_success (with_reducible apply isEvB)); (fail_if_success (with_reducible apply isEvN)); (fail_if_success (with_reducible apply isEvA)); (fail_if_success (with_reducible apply isEvAB)); (fail_if_success (with_reducible apply isEvT)); (fail_if_success (with_reducible apply isEvO)); (fail_if_success (intro _; (with_reducible apply isEvD))); (fail_if_success (intro _; (with_reducible apply isEvT)))))
local macro_rules | `(tactic| walk_at "evB") => `(tactic| first
  | ((with_reducible apply eb_own) <;> exact rfl)
  | ((with_reducible apply EvD.rd) <;> first | walk_at "any" | walk_at "side"))
local macro_rules | `(tactic| walk_at "evA") => `(tactic| first
  | with_reducible exact ea_nil
  | ((with_reducible apply ea_cons) <;> first | walk_at "any" | walk_at "side"))
local macro_rules | `(tactic| walk_at "evAB") => `(tactic| first
  | with_reducible exact eab_nil
  | ((with_reducible apply eab_cons) <;> first | walk_at "any" | walk_at "side"))
local macro_rules | `(tactic| walk_at "eo") => `(tactic| first
  | with_reducible exact eo_none
  | ((with_reducible apply eo_some) <;> first | walk_at "any" | walk_at "side"))
local macro_rules | `(tactic| walk_at "evN") => `(tactic| first
  | ((with_reducible apply en_lst) <;> first | walk_at "any" | walk_at "side")
  | ((with_reducible apply en_list) <;> first | walk_at "any" | walk_at "side")
  | ((with_reducible apply en_listT) <;> first | walk_at "any" | walk_at "side")
  | ((with_reducible apply en_sorted) <;> first | walk_at "any" | walk_at "side")
  | ((with_reducible apply en_sortedR) <;> first | walk_at "any" | walk_at "side")
  | ((with_reducible apply en_rev) <;> first | walk_at "any" | walk_at "side")
  | ((with_reducible apply en_sl) <;> first | walk_at "any" | walk_at "side")
  | ((with_reducible apply en_cat) <;> first | walk_at "any" | walk_at "side")
  | ((with_reducible apply en_rep1) <;> first | walk_at "any" | walk_at "side")
  | ((with_reducible apply en_call) <;> first | walk_at "any" | walk_at "side"))
local macro_rules | `(tactic| walk_at "ev") => `(tactic| first
  | ((with_reducible apply ev_var) <;> exact rfl)
  | with_reducible exact ev_int
  | with_reducible exact ev_str
  | with_reducible exact ev_bl
  | with_reducible exact ev_non
  | ((with_reducible apply ev_intI) <;> first | walk_at "any" | walk_at "side")
  | ((with_reducible apply ev_add) <;> first | walk_at "any" | walk_at "side")
  | ((with_reducible apply ev_sub) <;> first | walk_at "any" | walk_at "side")
  | ((with_reducible apply ev_mul) <;> first | walk_at "any" | walk_at "side")
  | ((with_reducible apply ev_mod) <;> first | walk_at "any" | walk_at "side")
  | ((with_reducible apply ev_fdiv) <;> first | walk_at "any" | walk_at "side")
  | ((with_reducible apply ev_pow) <;> first | walk_at "any" | walk_at "side")
  | ((with_reducible apply ev_lt) <;> first | walk_at "any" | walk_at "side")
  | ((with_reducible apply ev_le) <;> first | walk_at "any" | walk_at "side")
  | ((with_reducible apply ev_gt) <;> first | walk_at "any" | walk_at "side")
  | ((with_reducible apply ev_ge) <;> first | walk_at "any" | walk_at "side")
  | ((with_reducible apply ev_eqI) <;> first | walk_at "any" | walk_at "side")
  | ((with_reducible apply ev_neI) <;> first | walk_at "any" | walk_at "side")
  | ((with_reducible apply ev_eqS) <;> first | walk_at "any" | walk_at "side")
  | ((with_reducible apply ev_neS) <;> first | walk_at "any" | walk_at "side")
  | ((with_reducible apply ev_chainI) <;> first | walk_at "any" | walk_at "side")
  | ((with_reducible apply ev_isN) <;> first | walk_at "any" | walk_at "side")
  | ((with_reducible apply ev_notN) <;> first | walk_at "any" | walk_at "side")
  | ((with_reducible apply ev_neg) <;> first | walk_at "any" | walk_at "side")
  | ((with_reducible apply ev_abs) <;> first | walk_at "any" | walk_at "side")
  | ((with_reducible apply ev_max2) <;> first | walk_at "any" | walk_at "side")
  | ((with_reducible apply ev_min2) <;> first | walk_at "any" | walk_at "side")
  | ((with_reducible apply ev_sum) <;> first | walk_at "any" | walk_at "side")
  | ((with_reducible apply ev_maxL) <;> first | walk_at "any" | walk_at "side")
  | ((with_reducible apply ev_minL) <;> first | walk_at "any" | walk_at "side")
  | ((with_reducible apply ev_lenL) <;> first | walk_at "any" | walk_at "side")
  | ((with_reducible apply ev_lenT) <;> first | walk_at "any" | walk_at "side")
  | ((with_reducible apply ev_lenS) <;> first | walk_at "any" | walk_at "side")
  | ((with_reducible apply ev_inI) <;> first | walk_at "any" | walk_at "side")
  | ((with_reducible apply ev_ninI) <;> first | walk_at "any" | walk_at "side")
  | ((with_reducible apply ev_inB) <;> first | walk_at "any" | walk_at "side")
  | ((with_reducible apply ev_ninB) <;> first | walk_at "any" | walk_at "side")
  | ((with_reducible apply ev_ixI) <;> first | walk_at "any" | walk_at "side")
  | ((with_reducible apply ev_tup) <;> first | walk_at "any" | walk_at "side")
  | ((with_reducible apply ev_tuple) <;> first | walk_at "any" | walk_at "side")
  | ((with_reducible apply ev_andV) <;> first | walk_at "any" | walk_at "side")
  | ((with_reducible apply ev_orV) <;> first | walk_at "any" | walk_at "side")
  | ((with_reducible apply ev_notV) <;> first | walk_at "any" | walk_at "side")
  | ((with_reducible apply ev_cell) <;> first | exact rfl | walk_at "any" | decide)
  | ((with_reducible apply ev_call) <;> first | walk_at "any" | walk_at "side")
  | ((with_reducible apply EvN.dt) <;> first | walk_at "any" | walk_at "side"))
local macro_rules | `(tactic| walk_at "et") => `(tactic| first
  | ((with_reducible apply et_not) <;> first | walk_at "any" | walk_at "side")
  | ((with_reducible apply et_and) <;> first | walk_at "any" | walk_at "side")
  | ((with_reducible apply et_or) <;> first | walk_at "any" | walk_at "side")
  | ((with_reducible apply et_test) <;> first | walk_at "any" | walk_at "side")
  | ((with_reducible apply et_B) <;> first | walk_at "any" | walk_at "side"))
local macro_rules | `(tactic| walk_at "any") => `(tactic| first
  | ((with_reducible apply isEvD); walk_at "ev")
  | ((with_reducible apply isEvB); walk_at "evB")
  | ((with_reducible apply isEvT); walk_at "et")
  | ((with_reducible apply isEvA); walk_at "evA")
  | ((with_reducible apply isEvN); walk_at "evN")
  | ((with_reducible apply isEvAB); walk_at "evAB")
  | ((with_reducible apply isEvO); walk_at "eo")
  | (intro _; walk_at "any"))
local macro_rules | `(tactic| walk_at "s if") => `(tactic| (apply sd_if <;> first | walk_at "any" | exact rfl | skip))
local macro_rules | `(tactic| walk_at "q if") => `(tactic| (apply sd_seq; apply sd_if <;> first | walk_at "any" | exact rfl | skip))
local macro_rules | `(tactic| walk_at "s asg") => `(tactic| (apply sd_asg <;> first | walk_at "any" | exact rfl | skip))
local macro_rules | `(tactic| walk_at "q asg") => `(tactic| (apply sd_seq; apply sd_asg <;> first | walk_at "any" | exact rfl | skip))
local macro_rules | `(tactic| walk_at "s new") => `(tactic| (apply sd_asgN <;> first | walk_at "any" | exact rfl | skip))
local macro_rules | `(tactic| walk_at "q new") => `(tactic| (apply sd_seq; apply sd_asgN <;> first | walk_at "any" | exact rfl | skip))
local macro_rules | `(tactic| walk_at "s app") => `(tactic| (apply sd_app <;> first | walk_at "any" | exact rfl | skip))
local macro_rules | `(tactic| walk_at "q app") => `(tactic| (apply sd_seq; apply sd_app <;> first | walk_at "any" | exact rfl | skip))
local macro_rules | `(tactic| walk_at "s aug") => `(tactic| (apply sd_aug <;> first | walk_at "any" | exact rfl | skip))
local macro_rules | `(tactic| walk_at "q aug") => `(tactic| (apply sd_seq; apply sd_aug <;> first | walk_at "any" | exact rfl | skip))
local macro_rules | `(tactic| walk_at "s ret") => `(tactic| (apply sd_ret <;> first | walk_at "any" | exact rfl | skip))
local macro_rules | `(tactic| walk_at "q ret") => `(tactic| (apply sd_seq; apply sd_ret <;> first | walk_at "any" | exact rfl | skip))
local macro_rules | `(tactic| walk_at "s retN") => `(tactic| (apply sd_retN <;> first | walk_at "any" | exact rfl | skip))
local macro_rules | `(tactic| walk_at "q retN") => `(tactic| (apply sd_seq; apply sd_retN <;> first | walk_at "any" | exact rfl | skip))
local macro_rules | `(tactic| walk_at "s ifAsg") => `(tactic| (apply sd_ifAsg <;> first | walk_at "any" | exact rfl | skip))
local macro_rules | `(tactic| walk_at "q ifAsg") => `(tactic| (apply sd_seq; apply sd_ifAsg <;> first | walk_at "any" | exact rfl | skip))
local macro_rules | `(tactic| walk_at "s ifAsgI") => `(tactic| (apply sd_ifAsgI <;> first | walk_at "any" | exact rfl | skip))
local macro_rules | `(tactic| walk_at "q ifAsgI") => `(tactic| (apply sd_seq; apply sd_ifAsgI <;> first | walk_at "any" | exact rfl | skip))
local macro_rules | `(tactic| walk_at "s drop") => `(tactic| (apply sd_drop <;> first | walk_at "any" | exact rfl | skip))
local macro_rules | `(tactic| walk_at "q drop") => `(tactic| (apply sd_seq; apply sd_drop <;> first | walk_at "any" | exact rfl | skip))

def topS (i : Nat) : Stmt := PySem.Challenge.pw_barebough_k43_whole_counts.main.body.getD i (.Pass ⟨0, 0, 0, 0⟩)
abbrev s_normal : Stmt := topS 1
theorem sc_normal : FnScope ["values", "value"] ["values"] (defScope s_normal) := ⟨rfl, rfl, rfl, by decide +kernel, rfl, by decide +kernel, by decide +kernel⟩
abbrev s_take : Stmt := topS 2
theorem sc_take : FnScope ["sizes", "place", "lowered"] ["sizes", "place"] (defScope s_take) := ⟨rfl, rfl, rfl, by decide +kernel, rfl, by decide +kernel, by decide +kernel⟩
abbrev s_take_largest : Stmt := topS 3
theorem sc_take_largest : FnScope ["sizes"] ["sizes"] (defScope s_take_largest) := ⟨rfl, rfl, rfl, by decide +kernel, rfl, by decide +kernel, by decide +kernel⟩
abbrev s_take_smallest : Stmt := topS 4
theorem sc_take_smallest : FnScope ["sizes"] ["sizes"] (defScope s_take_smallest) := ⟨rfl, rfl, rfl, by decide +kernel, rfl, by decide +kernel, by decide +kernel⟩
abbrev s_best_plucks : Stmt := topS 6
theorem sc_best_plucks : FnScope ["word", "after_keeper"] ["word"] (defScope s_best_plucks) := ⟨rfl, rfl, rfl, by decide +kernel, rfl, by decide +kernel, by decide +kernel⟩
abbrev s_play_layers : Stmt := topS 7
theorem sc_play_layers : FnScope ["starts", "layers", "words", "sizes", "_", "layer", "word", "pair", "after"] ["starts"] (defScope s_play_layers) := ⟨rfl, rfl, rfl, by decide +kernel, rfl, by decide +kernel, by decide +kernel⟩
abbrev s_order_counts : Stmt := topS 8
theorem sc_order_counts : FnScope ["starts", "counts", "layer", "word", "after_keeper", "after_raider"] ["starts"] (defScope s_order_counts) := ⟨rfl, rfl, rfl, by decide +kernel, rfl, by decide +kernel, by decide +kernel⟩
abbrev s_count_orders : Stmt := topS 9
theorem sc_count_orders : FnScope ["sizes"] ["sizes"] (defScope s_count_orders) := ⟨rfl, rfl, rfl, by decide +kernel, rfl, by decide +kernel, by decide +kernel⟩
abbrev s_raid_counts : Stmt := topS 10
theorem sc_raid_counts : FnScope ["sizes", "counts", "layer", "longer", "word", "after_keeper", "after_raider", "row", "raids", "count"] ["sizes"] (defScope s_raid_counts) := ⟨rfl, rfl, rfl, by decide +kernel, rfl, by decide +kernel, by decide +kernel⟩
abbrev s_cell : Stmt := topS 12
theorem sc_cell : FnScope ["_law_script", "_law_k"] ["_law_script", "_law_k"] (defScope s_cell) := ⟨rfl, rfl, rfl, by decide +kernel, rfl, by decide +kernel, by decide +kernel⟩
abbrev s_mixed : Stmt := topS 13
theorem sc_mixed : FnScope ["_law_cell_here", "_law_k", "_law_size", "_law_mixed_here"] ["_law_cell_here", "_law_k", "_law_size"] (defScope s_mixed) := ⟨rfl, rfl, rfl, by decide +kernel, rfl, by decide +kernel, by decide +kernel⟩
abbrev s_draws : Stmt := topS 14
theorem sc_draws : FnScope ["_law_cell_here", "_law_menu", "_law_found", "_law_rest", "_law_k"] ["_law_cell_here", "_law_menu"] (defScope s_draws) := ⟨rfl, rfl, rfl, by decide +kernel, rfl, by decide +kernel, by decide +kernel⟩
abbrev s_like : Stmt := topS 15
theorem sc_like : FnScope ["_law_actual", "_law_due", "_law_k"] ["_law_actual", "_law_due"] (defScope s_like) := ⟨rfl, rfl, rfl, by decide +kernel, rfl, by decide +kernel, by decide +kernel⟩
abbrev s_list : Stmt := topS 16
theorem sc_list : FnScope ["_law_cell_here", "_law_total", "_law_head", "_law_draws_here", "_law_found", "_law_rest", "_law_k", "_law_part"] ["_law_cell_here", "_law_total"] (defScope s_list) := ⟨rfl, rfl, rfl, by decide +kernel, rfl, by decide +kernel, by decide +kernel⟩
abbrev s_lower : Stmt := topS 17
theorem sc_lower : FnScope ["_law_sizes", "_law_place", "_law_lowered", "_law_entry"] ["_law_sizes", "_law_place"] (defScope s_lower) := ⟨rfl, rfl, rfl, by decide +kernel, rfl, by decide +kernel, by decide +kernel⟩
abbrev s_best : Stmt := topS 18
theorem sc_best : FnScope ["_law_sizes", "_law_letter"] ["_law_sizes", "_law_letter"] (defScope s_best) := ⟨rfl, rfl, rfl, by decide +kernel, rfl, by decide +kernel, by decide +kernel⟩
abbrev s_sums : Stmt := topS 19
theorem sc_sums : FnScope ["_law_sizes", "_law_k"] ["_law_sizes"] (defScope s_sums) := ⟨rfl, rfl, rfl, by decide +kernel, rfl, by decide +kernel, by decide +kernel⟩
abbrev s_fits : Stmt := topS 20
theorem sc_fits : FnScope ["_law_sizes", "_law_row", "_law_sums_here", "_law_k"] ["_law_sizes", "_law_row"] (defScope s_fits) := ⟨rfl, rfl, rfl, by decide +kernel, rfl, by decide +kernel, by decide +kernel⟩
abbrev s_lives : Stmt := topS 21
theorem sc_lives : FnScope ["_law_sizes", "_law_order", "_law_aim", "_law_rest", "_law_letter"] ["_law_sizes", "_law_order", "_law_aim"] (defScope s_lives) := ⟨rfl, rfl, rfl, by decide +kernel, rfl, by decide +kernel, by decide +kernel⟩
abbrev s_words : Stmt := topS 22
theorem sc_words : FnScope ["_law_turns", "_law_words_here", "_law_k", "_law_word"] ["_law_turns"] (defScope s_words) := ⟨rfl, rfl, rfl, by decide +kernel, rfl, by decide +kernel, by decide +kernel⟩
abbrev s_played : Stmt := topS 23
theorem sc_played : FnScope ["_law_sizes", "_law_row", "_law_order", "_law_raiders"] ["_law_sizes"] (defScope s_played) := ⟨rfl, rfl, rfl, by decide +kernel, rfl, by decide +kernel, by decide +kernel⟩
abbrev s_triangle : Stmt := topS 24
theorem sc_triangle : FnScope ["_law_size", "_law_row", "_law_k", "_law_j"] ["_law_size"] (defScope s_triangle) := ⟨rfl, rfl, rfl, by decide +kernel, rfl, by decide +kernel, by decide +kernel⟩
abbrev s_pair : Stmt := topS 25
theorem sc_pair : FnScope ["_law_row", "_law_low", "_law_due", "_law_k"] ["_law_row", "_law_low"] (defScope s_pair) := ⟨rfl, rfl, rfl, by decide +kernel, rfl, by decide +kernel, by decide +kernel⟩
abbrev s_tally : Stmt := topS 26
theorem sc_tally : FnScope ["_law_sizes", "_law_known", "_law_word", "_law_row", "_law_lowered", "_law_below", "_law_k"] ["_law_sizes", "_law_known"] (defScope s_tally) := ⟨rfl, rfl, rfl, by decide +kernel, rfl, by decide +kernel, by decide +kernel⟩
abbrev s_count : Stmt := topS 27
theorem sc_count : FnScope ["_law_sizes", "_law_known", "_law_word", "_law_count_here", "_law_lowered"] ["_law_sizes", "_law_known"] (defScope s_count) := ⟨rfl, rfl, rfl, by decide +kernel, rfl, by decide +kernel, by decide +kernel⟩
abbrev s_other : Stmt := topS 28
theorem sc_other : FnScope ["_law_sizes", "_law_due"] ["_law_sizes"] (defScope s_other) := ⟨rfl, rfl, rfl, by decide +kernel, rfl, by decide +kernel, by decide +kernel⟩
abbrev s_law : Stmt := topS 29
theorem sc_law : FnScope ["_law_script", "_law_head", "_law_kind", "_law_total", "_law_sizes", "_law_other_here", "_law_given", "_law_row", "_law_due", "_law_count_here", "_law_told"] ["_law_script"] (defScope s_law) := ⟨rfl, rfl, rfl, by decide +kernel, rfl, by decide +kernel, by decide +kernel⟩

structure Adr where
  a_normal : Addr
  d_normal : FuncData
  a_take : Addr
  d_take : FuncData
  a_take_largest : Addr
  d_take_largest : FuncData
  a_take_smallest : Addr
  d_take_smallest : FuncData
  a_best_plucks : Addr
  d_best_plucks : FuncData
  a_play_layers : Addr
  d_play_layers : FuncData
  a_order_counts : Addr
  d_order_counts : FuncData
  a_count_orders : Addr
  d_count_orders : FuncData
  a_raid_counts : Addr
  d_raid_counts : FuncData
  a_cell : Addr
  d_cell : FuncData
  a_mixed : Addr
  d_mixed : FuncData
  a_draws : Addr
  d_draws : FuncData
  a_like : Addr
  d_like : FuncData
  a_list : Addr
  d_list : FuncData
  a_lower : Addr
  d_lower : FuncData
  a_best : Addr
  d_best : FuncData
  a_sums : Addr
  d_sums : FuncData
  a_fits : Addr
  d_fits : FuncData
  a_lives : Addr
  d_lives : FuncData
  a_words : Addr
  d_words : FuncData
  a_played : Addr
  d_played : FuncData
  a_triangle : Addr
  d_triangle : FuncData
  a_pair : Addr
  d_pair : FuncData
  a_tally : Addr
  d_tally : FuncData
  a_count : Addr
  d_count : FuncData
  a_other : Addr
  d_other : FuncData
  a_law : Addr
  d_law : FuncData
structure Txt (K : PySem.W.Frag) (mg : Str → Option Value) (a : Adr) : Prop where
  F_normal : Fun K "normal" "normal" s_normal a.a_normal a.d_normal
  b_normal : Binds K a.d_normal ["values"] []
  g_normal : mg "normal" = some (.ref a.a_normal)
  F_take : Fun K "take" "take" s_take a.a_take a.d_take
  b_take : Binds K a.d_take ["sizes", "place"] []
  g_take : mg "take" = some (.ref a.a_take)
  F_take_largest : Fun K "take_largest" "take_largest" s_take_largest a.a_take_largest a.d_take_largest
  b_take_largest : Binds K a.d_take_largest ["sizes"] []
  g_take_largest : mg "take_largest" = some (.ref a.a_take_largest)
  F_take_smallest : Fun K "take_smallest" "take_smallest" s_take_smallest a.a_take_smallest a.d_take_smallest
  b_take_smallest : Binds K a.d_take_smallest ["sizes"] []
  g_take_smallest : mg "take_smallest" = some (.ref a.a_take_smallest)
  F_best_plucks : Fun K "best_plucks" "best_plucks" s_best_plucks a.a_best_plucks a.d_best_plucks
  b_best_plucks : Binds K a.d_best_plucks ["word"] []
  g_best_plucks : mg "best_plucks" = some (.ref a.a_best_plucks)
  F_play_layers : Fun K "play_layers" "play_layers" s_play_layers a.a_play_layers a.d_play_layers
  b_play_layers : Binds K a.d_play_layers ["starts"] []
  g_play_layers : mg "play_layers" = some (.ref a.a_play_layers)
  F_order_counts : Fun K "order_counts" "order_counts" s_order_counts a.a_order_counts a.d_order_counts
  b_order_counts : Binds K a.d_order_counts ["starts"] []
  g_order_counts : mg "order_counts" = some (.ref a.a_order_counts)
  F_count_orders : Fun K "count_orders" "count_orders" s_count_orders a.a_count_orders a.d_count_orders
  b_count_orders : Binds K a.d_count_orders ["sizes"] []
  g_count_orders : mg "count_orders" = some (.ref a.a_count_orders)
  F_raid_counts : Fun K "raid_counts" "raid_counts" s_raid_counts a.a_raid_counts a.d_raid_counts
  b_raid_counts : Binds K a.d_raid_counts ["sizes"] []
  g_raid_counts : mg "raid_counts" = some (.ref a.a_raid_counts)
  F_cell : Fun K "_law_cell" "_law_cell" s_cell a.a_cell a.d_cell
  b_cell : Binds K a.d_cell ["_law_script", "_law_k"] []
  g_cell : mg "_law_cell" = some (.ref a.a_cell)
  F_mixed : Fun K "_law_mixed" "_law_mixed" s_mixed a.a_mixed a.d_mixed
  b_mixed : Binds K a.d_mixed ["_law_cell_here", "_law_k", "_law_size"] []
  g_mixed : mg "_law_mixed" = some (.ref a.a_mixed)
  F_draws : Fun K "_law_draws" "_law_draws" s_draws a.a_draws a.d_draws
  b_draws : Binds K a.d_draws ["_law_cell_here", "_law_menu"] []
  g_draws : mg "_law_draws" = some (.ref a.a_draws)
  F_like : Fun K "_law_like" "_law_like" s_like a.a_like a.d_like
  b_like : Binds K a.d_like ["_law_actual", "_law_due"] []
  g_like : mg "_law_like" = some (.ref a.a_like)
  F_list : Fun K "_law_list" "_law_list" s_list a.a_list a.d_list
  b_list : Binds K a.d_list ["_law_cell_here", "_law_total"] []
  g_list : mg "_law_list" = some (.ref a.a_list)
  F_lower : Fun K "_law_lower" "_law_lower" s_lower a.a_lower a.d_lower
  b_lower : Binds K a.d_lower ["_law_sizes", "_law_place"] []
  g_lower : mg "_law_lower" = some (.ref a.a_lower)
  F_best : Fun K "_law_best" "_law_best" s_best a.a_best a.d_best
  b_best : Binds K a.d_best ["_law_sizes", "_law_letter"] []
  g_best : mg "_law_best" = some (.ref a.a_best)
  F_sums : Fun K "_law_sums" "_law_sums" s_sums a.a_sums a.d_sums
  b_sums : Binds K a.d_sums ["_law_sizes"] []
  g_sums : mg "_law_sums" = some (.ref a.a_sums)
  F_fits : Fun K "_law_fits" "_law_fits" s_fits a.a_fits a.d_fits
  b_fits : Binds K a.d_fits ["_law_sizes", "_law_row"] []
  g_fits : mg "_law_fits" = some (.ref a.a_fits)
  F_lives : Fun K "_law_lives" "_law_lives" s_lives a.a_lives a.d_lives
  b_lives : Binds K a.d_lives ["_law_sizes", "_law_order", "_law_aim"] []
  g_lives : mg "_law_lives" = some (.ref a.a_lives)
  F_words : Fun K "_law_words" "_law_words" s_words a.a_words a.d_words
  b_words : Binds K a.d_words ["_law_turns"] []
  g_words : mg "_law_words" = some (.ref a.a_words)
  F_played : Fun K "_law_played" "_law_played" s_played a.a_played a.d_played
  b_played : Binds K a.d_played ["_law_sizes"] []
  g_played : mg "_law_played" = some (.ref a.a_played)
  F_triangle : Fun K "_law_triangle" "_law_triangle" s_triangle a.a_triangle a.d_triangle
  b_triangle : Binds K a.d_triangle ["_law_size"] []
  g_triangle : mg "_law_triangle" = some (.ref a.a_triangle)
  F_pair : Fun K "_law_pair" "_law_pair" s_pair a.a_pair a.d_pair
  b_pair : Binds K a.d_pair ["_law_row", "_law_low"] []
  g_pair : mg "_law_pair" = some (.ref a.a_pair)
  F_tally : Fun K "_law_tally" "_law_tally" s_tally a.a_tally a.d_tally
  b_tally : Binds K a.d_tally ["_law_sizes", "_law_known"] []
  g_tally : mg "_law_tally" = some (.ref a.a_tally)
  F_count : Fun K "_law_count" "_law_count" s_count a.a_count a.d_count
  b_count : Binds K a.d_count ["_law_sizes", "_law_known"] []
  g_count : mg "_law_count" = some (.ref a.a_count)
  F_other : Fun K "_law_other" "_law_other" s_other a.a_other a.d_other
  b_other : Binds K a.d_other ["_law_sizes"] []
  g_other : mg "_law_other" = some (.ref a.a_other)
  F_law : Fun K "law" "law" s_law a.a_law a.d_law
  b_law : Binds K a.d_law ["_law_script"] []
  g_law : mg "law" = some (.ref a.a_law)
  z_abs : mg "abs" = none
  z_len : mg "len" = none
  z_sum : mg "sum" = none
  z_max : mg "max" = none
  z_min : mg "min" = none
  z_sorted : mg "sorted" = none
  z_int : mg "int" = none
  z_str : mg "str" = none
  z_bool : mg "bool" = none
  z_list : mg "list" = none
  z_tuple : mg "tuple" = none
  z_range : mg "range" = none
  z_enumerate : mg "enumerate" = none
  z_reversed : mg "reversed" = none
  z_isinstance : mg "isinstance" = none


/-! ### draws -/
def mixed (c k n : Int) : Int :=
  let m1 := (c + 7919 * k + 13) % 2147483647
  let m2 := (m1 * (m1 + 48271)) % 2147483629
  let m3 := (m2 * (m2 + 69621) + 31 * k) % 2147483647
  (m3 / 9) % n
def step (c : Int) (menu : List Int) (s : List Int × Int) (k : Nat) : List Int × Int :=
  if 10 ^ 18 ≤ c ∧ 0 < s.2 then (s.1 ++ [s.2 % menu.getD k 0], s.2 / menu.getD k 0) else (s.1 ++ [mixed c k (menu.getD k 0)], s.2)
def drawn (c : Int) (menu : List Int) (n : Nat) : List Int × Int := (List.range n).foldl (step c menu) ([], c)
def draws (c : Int) (menu : List Int) : List Int := (drawn c menu menu.length).1
theorem drawn_succ (c : Int) (menu : List Int) (n : Nat) : drawn c menu (n + 1) = step c menu (drawn c menu n) n := by
  unfold drawn
  rw [List.range_succ, List.foldl_append]
  rfl
theorem drawn_len (c : Int) (menu : List Int) : ∀ n, (drawn c menu n).1.length = n
  | 0 => rfl
  | n + 1 => by
    rw [drawn_succ]
    unfold step
    split <;> simp [drawn_len c menu n]
theorem draws_len (c : Int) (menu : List Int) : (draws c menu).length = menu.length := drawn_len c menu _
theorem mixed_in {c k n : Int} (h : 0 < n) : 0 ≤ mixed c k n ∧ mixed c k n < n := ⟨Int.emod_nonneg _ (by omega), Int.emod_lt_of_pos _ h⟩
theorem drawn_in (c : Int) (menu : List Int) (hm : ∀ m ∈ menu, 0 < m) : ∀ n, n ≤ menu.length → ∀ i, i < n → 0 ≤ (drawn c menu n).1.getD i 0 ∧ (drawn c menu n).1.getD i 0 < menu.getD i 0
  | 0, _, i, h => by omega
  | n + 1, hn, i, h => by
    have hp : 0 < menu.getD n 0 := by
      rw [List.getD_eq_getElem?_getD, List.getElem?_eq_getElem (by omega)]
      exact hm _ (List.getElem_mem _)
    have hl := drawn_len c menu n
    rw [drawn_succ]
    by_cases hi : i < n
    · have := drawn_in c menu hm n (by omega) i hi
      unfold step
      split
      · rw [List.getD_eq_getElem?_getD, List.getElem?_append_left (by omega), ← List.getD_eq_getElem?_getD]; exact this
      · rw [List.getD_eq_getElem?_getD, List.getElem?_append_left (by omega), ← List.getD_eq_getElem?_getD]; exact this
    · have : i = n := by omega
      subst this
      unfold step
      split
      · rw [List.getD_eq_getElem?_getD, List.getElem?_append_right (by omega), hl, Nat.sub_self]
        exact ⟨Int.emod_nonneg _ (by omega), Int.emod_lt_of_pos _ hp⟩
      · rw [List.getD_eq_getElem?_getD, List.getElem?_append_right (by omega), hl, Nat.sub_self]
        exact mixed_in hp
theorem draws_in {c : Int} {menu : List Int} (hm : ∀ m ∈ menu, 0 < m) {i : Nat} (h : i < menu.length) : 0 ≤ (draws c menu).getD i 0 ∧ (draws c menu).getD i 0 < menu.getD i 0 := drawn_in c menu hm _ (Nat.le_refl _) i h
theorem drawn_rest (c : Int) (menu : List Int) (hm : ∀ m ∈ menu, 0 < m) (hc : 0 ≤ c) : ∀ n, n ≤ menu.length → 0 ≤ (drawn c menu n).2
  | 0, _ => hc
  | n + 1, hn => by
    have hp : 0 < menu.getD n 0 := by
      rw [List.getD_eq_getElem?_getD, List.getElem?_eq_getElem (by omega)]
      exact hm _ (List.getElem_mem _)
    rw [drawn_succ]
    unfold step
    split
    · exact Int.ediv_nonneg (drawn_rest c menu hm hc n (by omega)) (by omega)
    · exact drawn_rest c menu hm hc n (by omega)

section
variable {P : Program} {w : World} {K : PySem.W.Frag} {mg : Str → Option Value} {base : Heap} {a : Adr}
theorem ok_cell (T : Txt K mg a) : FnOk P w K mg base CX0 1 a.a_cell a.d_cell ["_law_script", "_law_k"] (CellSp K) := by
  refine T.F_cell.ok sc_cell (fun vs H Q E h => ?_) fun cdv A outer s H vs Q E hr h => ?_
  · obtain ⟨x, ns, k, rfl, _⟩ := h
    rfl
  · obtain ⟨x, ns, k, rfl, hS, hk, q⟩ := h
    refine ⟨_, (pss_cons (ps_if (pt_cmpR op_lt (pv 1) (pe_callB (lenK (K := K)) (by rfl) T.z_len bt_len (pa_cons (pv 0) pa_nil)) (nomark _)) (pss_one (ps_ret (pe_callB call_abs (by rfl) T.z_abs bt_abs (pa_cons (pe_callTy call_int1 (by rfl) T.z_int bt_int (pa_cons (pe_ix (ixK (K := K)) (pv 0) (pv 1) (fun _ _ => rfl)) pa_nil)) pa_nil)))) pss_nil) (pss_one (ps_ret pe_int))), ?_⟩
    -- if k < len(script)
    refine ⟨_, rfl, _, rfl, .ref x, _, rfl, .inl ⟨_, hS, rfl⟩, _, _, rfl, rfl, _, rfl, ite2 (fun c => ?_) (fun c => ?_)⟩
    all_goals
      rw [decide_eq_true_eq] at c
      rw [List.length_map] at c
    · have hlt : k.toNat < ns.length := by omega
      have e : ns.getD k.toNat 0 = ns[k.toNat] := by rw [List.getD_eq_getElem?_getD, List.getElem?_eq_getElem hlt]; rfl
      refine ⟨_, rfl, _, rfl, .inl ⟨x, _, k, .int ns[k.toNat], rfl, rfl, hS, ?_, .inl ⟨_, rfl, _, rfl, ?_⟩⟩⟩
      · exact atI_ok hk (by rw [List.getElem?_map, List.getElem?_eq_getElem hlt]; rfl)
      · have := q H (Ex.refl H)
        unfold cell at this
        rw [if_pos c, e] at this
        exact this
    · have := q H (Ex.refl H)
      unfold cell at this
      rw [if_neg c] at this
      exact this
def RMixed (ds : List D) (d : D) : Prop := ∃ c k n : Int, ds = [.int c, .int k, .int n] ∧ 0 < n ∧ d = .int (mixed c k n)
theorem mod_small (x : Int) {n : Int} (h : 0 < n) (hn : n ≤ 4294967296) : CMul (x % n) ((x % n) + 48271) ∧ CMul (x % n) ((x % n) + 69621) := by
  have h1 := Int.emod_nonneg x (by omega : n ≠ 0)
  have h2 := Int.emod_lt_of_pos x h
  exact ⟨.inl ⟨by omega, by omega⟩, .inl ⟨by omega, by omega⟩⟩
theorem ok_mixed (T : Txt K mg a) : FnOk P w K mg base CX0 1 a.a_mixed a.d_mixed ["_law_cell_here", "_law_k", "_law_size"] (PureSp RMixed) := by
  refine fn_pure T.F_mixed sc_mixed (fun ds d ⟨_, _, _, e, _⟩ => by rw [e]; rfl) (by decide) fun cdv A outer s H E hr => ⟨_, (pss_cons (ps_set (i := 3) sc_mixed.nd rfl (by first | exact Or.inl rfl | exact Or.inr rfl) (pe_op op_mod (pe_callTy call_int1 (by rfl) T.z_int bt_int (pa_cons (pe_op op_addA (pe_op op_addA (pv 0) (pe_op op_mulA pe_int (pv 1))) pe_int) pa_nil)) pe_int)) (pss_cons (ps_set (i := 3) sc_mixed.nd rfl (by first | exact Or.inl rfl | exact Or.inr rfl) (pe_op op_mod (pe_callTy call_int1 (by rfl) T.z_int bt_int (pa_cons (pe_op op_mulA (pv 3) (pe_op op_addA (pv 3) pe_int)) pa_nil)) pe_int)) (pss_cons (ps_set (i := 3) sc_mixed.nd rfl (by first | exact Or.inl rfl | exact Or.inr rfl) (pe_op op_mod (pe_callTy call_int1 (by rfl) T.z_int bt_int (pa_cons (pe_op op_addA (pe_op op_mulA (pv 3) (pe_op op_addA (pv 3) pe_int)) (pe_op op_mulA pe_int (pv 1))) pa_nil)) pe_int)) (pss_one (ps_ret (pe_op op_mod (pe_callTy call_int1 (by rfl) T.z_int bt_int (pa_cons (pe_op op_fdivW (pv 3) pe_int) pa_nil)) (pv 2))))))), ?_⟩
  rintro ds d ⟨c, k, n, rfl, hn, rfl⟩
  refine sd_seq (sd_asg (ev_mod (ev_intI (ev_add (ev_add (ev_var rfl) (ev_mul ev_int (ev_var rfl) (.inl (by decide)))) ev_int)) ev_int (by decide)) ?_)
  refine sd_seq (sd_asg (ev_mod (ev_intI (ev_mul (ev_var rfl) (ev_add (ev_var rfl) ev_int) ?_)) ev_int (by decide)) ?_)
  · exact (mod_small _ (by decide) (by decide)).1
  refine sd_seq (sd_asg (ev_mod (ev_intI (ev_add (ev_mul (ev_var rfl) (ev_add (ev_var rfl) ev_int) ?_) (ev_mul ev_int (ev_var rfl) (.inl (by decide))))) ev_int (by decide)) ?_)
  · exact (mod_small _ (by decide) (by decide)).2
  exact sd_ret (ev_mod (ev_intI (ev_fdiv (ev_var rfl) ev_int ⟨by decide, by decide⟩)) (ev_var rfl) hn) (.inl rfl)
def RDraws (ds : List D) (d : D) : Prop := ∃ (c : Int) (menu : List Int), ds = [.int c, dI menu] ∧ (∀ m ∈ menu, 0 < m ∧ m < 1000000) ∧ menu.length ≤ 100000 ∧ d = dI (draws c menu)
theorem ok_draws (T : Txt K mg a) : FnOk P w K mg base CX0 2 a.a_draws a.d_draws ["_law_cell_here", "_law_menu"] (NewSp RDraws) := by
  refine fn_new T.F_draws sc_draws (fun ds d ⟨_, _, e, _⟩ => by rw [e]; rfl) (by decide) fun cdv A outer s H E hr => ⟨_, (pss_cons (ps_set (i := 2) sc_draws.nd rfl (by first | exact Or.inl rfl | exact Or.inr rfl) (pe_lst pa_nil)) (pss_cons (ps_set (i := 3) sc_draws.nd rfl (by first | exact Or.inl rfl | exact Or.inr rfl) (pv 0)) (pss_cons (ps_for PassesOwn.never rfl (pi_range1 rfl T.z_range (pa_cons (pe_callB (lenK (K := K)) (by rfl) T.z_len bt_len (pa_cons (pv 1) pa_nil)) pa_nil)) (pg_name (i := 4) sc_draws.nd rfl (by first | exact Or.inl rfl | exact Or.inr rfl)) (pss_one (ps_if (PW.pt (pw_and (pt_cmpR op_ge (pv 0) (pe_op op_pow pe_int pe_int) (nomark _)) (pw_and1 (pt_cmpR op_gt (pv 3) pe_int (nomark _))))) (pss_cons (ps_expr (bmK (K := K) PySem.F.plainAttrs_list PySem.F.slot_list_append PySem.F.type_list_append mt_append (pv 2) (pa_cons (pe_op op_mod (pe_callTy call_int1 (by rfl) T.z_int bt_int (pa_cons (pv 3) pa_nil)) (pe_ix (ixK (K := K)) (pv 1) (pv 4) (fun _ _ => rfl))) pa_nil))) (pss_one (ps_set (i := 3) sc_draws.nd rfl (by first | exact Or.inl rfl | exact Or.inr rfl) (pe_op op_fdivW (pv 3) (pe_ix (ixK (K := K)) (pv 1) (pv 4) (fun _ _ => rfl)))))) (pss_one (ps_expr (bmK (K := K) PySem.F.plainAttrs_list PySem.F.slot_list_append PySem.F.type_list_append mt_append (pv 2) (pa_cons (pe_call (ok_mixed T) (hr.mono (by first | decide | omega)) rfl T.g_mixed T.F_mixed.kp T.b_mixed .nil pass0 (pa_cons (pv 0) (pa_cons (pv 4) (pa_cons (pe_ix (ixK (K := K)) (pv 1) (pv 4) (fun _ _ => rfl)) pa_nil)))) pa_nil))))))) (pss_one (ps_ret (pv 2)))))), ?_⟩
  rintro ds d ⟨c, menu, rfl, hm, hl, rfl⟩
  refine sd_seq (sd_asgN (en_lst ea_nil (by decide)) ?_)
  refine sd_seq (sd_asg (ev_var rfl) ?_)
  refine sd_seq (sd_for (vs := [4]) (ei_rng1 (ev_lenL (ev_var rfl).rd) ?_) (fun i Γ' => ∃ z, Γ' = [.dat (.int c), .dat (dI menu), .own (dI (drawn c menu i).1), .dat (.int (drawn c menu i).2), z]) ⟨_, rfl⟩ ?_ ?_)
  · simp; omega
  · rintro i Γ' hi ⟨z, rfl⟩
    have hi : i < menu.length := by simpa using hi
    have hp : 0 < menu.getD i 0 ∧ menu.getD i 0 < 1000000 := by
      rw [List.getD_eq_getElem?_getD, List.getElem?_eq_getElem (by omega)]
      exact hm _ (List.getElem_mem _)
    have hdl := drawn_len c menu i
    refine ⟨_, eg_name (by simp), ?_⟩
    have ig : (0 : Int) ≤ (i : Int) ∧ (i : Int) < menu.length := by omega
    have hs := drawn_succ c menu i
    walk_at "s if"
    · intro hb
      simp only [Bool.and_eq_true, decide_eq_true_eq] at hb
      have hb' : 10 ^ 18 ≤ c ∧ 0 < (drawn c menu i).2 := hb
      unfold step at hs
      rw [if_pos hb'] at hs
      walk_at "q app"
      · exact ig
      · exact hp.1
      · exact sz2 (by rw [List.length_map, hdl]; omega)
      walk_at "s asg"
      · exact ig
      · exact wide_div (b := 20) hp.1 (by simp only [Int.toNat_natCast]; omega) (by decide) (by decide)
      · exact ⟨.dat (.int i), by rw [hs]; simp [dI]⟩
    · intro hb
      simp only [Bool.and_eq_false_iff, decide_eq_false_iff_not] at hb
      have hb' : ¬ (10 ^ 18 ≤ c ∧ 0 < (drawn c menu i).2) := fun ⟨h1, h2⟩ => hb.elim (fun q => q h1) fun q => q h2
      unfold step at hs
      rw [if_neg hb'] at hs
      walk_at "s app"
      · exact ig
      · exact ⟨_, _, _, rfl, hp.1, rfl⟩
      · exact sz2 (by rw [List.length_map, hdl]; omega)
      · exact ⟨.dat (.int i), by rw [hs]; simp [dI]⟩
  · rintro Γ' ⟨z, rfl⟩
    exact sd_retO rfl (by simp [draws])
def tyN : D → String
  | .int _ => "int"
  | .str _ => "str"
  | .lst _ => "list"
  | _ => "tuple"
theorem like_step (T : Txt K mg a) {k : Nat} {R : List D → D → Prop} (G : FnOk P w K mg base CX0 k a.a_like a.d_like ["_law_actual", "_law_due"] (PureSp R)) :
    FnOk P w K mg base CX0 (k + 1) a.a_like a.d_like ["_law_actual", "_law_due"] (PureSp (LikeR R)) := by
  refine fn_pure T.F_like sc_like (fun ds d ⟨_, _, e, _⟩ => by rw [e]; rfl) (by decide) fun cdv A outer s H E hr => ⟨_, (pss_cons (ps_if (pt_cmpR op_isA (pv 1) pe_non (nomark _)) (pss_one (ps_ret (pe_cmpR op_isA (pv 0) pe_non (nomark _)))) pss_nil) (pss_cons (ps_if (pt_cmpR op_isA (pv 1) pe_bl (nomark _)) (pss_one (ps_ret (pe_cmpR op_isA (pv 0) pe_bl (nomark _)))) pss_nil) (pss_cons (ps_if (pt_cmpR op_isA (pv 1) pe_bl (nomark _)) (pss_one (ps_ret (pe_cmpR op_isA (pv 0) pe_bl (nomark _)))) pss_nil) (pss_cons (ps_if (pt_val (pe_callB (isiK (K := K)) (by rfl) T.z_isinstance bt_isinstance (pa_cons (pv 1) (pa_cons (pe_bltn (v := .ty "str") (by rfl) T.z_str bt_str rfl) pa_nil)))) (pss_one (ps_ret (pe_and (pe_callB (isiK (K := K)) (by rfl) T.z_isinstance bt_isinstance (pa_cons (pv 0) (pa_cons (pe_bltn (v := .ty "str") (by rfl) T.z_str bt_str rfl) pa_nil))) (pe_one (pe_cmpR (eqK (K := K) hr.units) (pv 0) (pv 1) (nomark _)))))) pss_nil) (pss_cons (ps_if (pt_val (pe_callB (isiK (K := K)) (by rfl) T.z_isinstance bt_isinstance (pa_cons (pv 1) (pa_cons (pe_bltn (v := .ty "int") (by rfl) T.z_int bt_int rfl) pa_nil)))) (pss_one (ps_ret (pe_and (pe_callB (isiK (K := K)) (by rfl) T.z_isinstance bt_isinstance (pa_cons (pv 0) (pa_cons (pe_bltn (v := .ty "int") (by rfl) T.z_int bt_int rfl) pa_nil))) (pe_and (pe_not (pe_callB (isiK (K := K)) (by rfl) T.z_isinstance bt_isinstance (pa_cons (pv 0) (pa_cons (pe_bltn (v := .ty "bool") (by rfl) T.z_bool bt_bool rfl) pa_nil)))) (pe_one (pe_cmpR (eqK (K := K) hr.units) (pv 0) (pv 1) (nomark _))))))) pss_nil) (pss_cons (ps_if (pt_val (pe_callB (isiK (K := K)) (by rfl) T.z_isinstance bt_isinstance (pa_cons (pv 1) (pa_cons (pe_bltn (v := .ty "list") (by rfl) T.z_list bt_list rfl) pa_nil)))) (pss_one (ps_if (PW.pt (pw_or (pt_not (pt_val (pe_callB (isiK (K := K)) (by rfl) T.z_isinstance bt_isinstance (pa_cons (pv 0) (pa_cons (pe_bltn (v := .ty "list") (by rfl) T.z_list bt_list rfl) pa_nil))))) (pw_or1 (pt_cmpR (neK (K := K) hr.units) (pe_callB (lenK (K := K)) (by rfl) T.z_len bt_len (pa_cons (pv 0) pa_nil)) (pe_callB (lenK (K := K)) (by rfl) T.z_len bt_len (pa_cons (pv 1) pa_nil)) (nomark _))))) (pss_one (ps_ret pe_bl)) pss_nil)) (pss_one (ps_if (PW.pt (pw_or (pt_not (pt_val (pe_callB (isiK (K := K)) (by rfl) T.z_isinstance bt_isinstance (pa_cons (pv 0) (pa_cons (pe_bltn (v := .ty "tuple") (by rfl) T.z_tuple bt_tuple rfl) pa_nil))))) (pw_or1 (pt_cmpR (neK (K := K) hr.units) (pe_callB (lenK (K := K)) (by rfl) T.z_len bt_len (pa_cons (pv 0) pa_nil)) (pe_callB (lenK (K := K)) (by rfl) T.z_len bt_len (pa_cons (pv 1) pa_nil)) (nomark _))))) (pss_one (ps_ret pe_bl)) pss_nil))) (pss_cons (ps_for PassesOwn.never rfl (pi_range1 rfl T.z_range (pa_cons (pe_callB (lenK (K := K)) (by rfl) T.z_len bt_len (pa_cons (pv 1) pa_nil)) pa_nil)) (pg_name (i := 2) sc_like.nd rfl (by first | exact Or.inl rfl | exact Or.inr rfl)) (pss_one (ps_if (pt_not (pt_val (pe_call G (hr.mono (by first | decide | omega)) rfl T.g_like T.F_like.kp T.b_like .nil pass0 (pa_cons (pe_ix (ixK (K := K)) (pv 0) (pv 2) (fun _ _ => rfl)) (pa_cons (pe_ix (ixK (K := K)) (pv 1) (pv 2) (fun _ _ => rfl)) pa_nil))))) (pss_one (ps_ret pe_bl)) pss_nil))) (pss_one (ps_ret pe_bl))))))))), ?_⟩
  rintro _ _ ⟨rfl, d, rfl, hd⟩
  have isB : ∀ b, EvD (tOp rIsA (tVar 1) (tC (.bl b))) (startG 3 [d, d]) (.bl (d.isB b)) := fun b => ev_isB (ev_var rfl).rd
  have isN : EvD (tOp rIsA (tVar 1) (tC .non)) (startG 3 [d, d]) (.bl d.isN) := ev_isN (ev_var rfl).rd
  have isB0 : ∀ b, EvD (tOp rIsA (tVar 0) (tC (.bl b))) (startG 3 [d, d]) (.bl (d.isB b)) := fun b => ev_isB (ev_var rfl).rd
  have isN0 : EvD (tOp rIsA (tVar 0) (tC .non)) (startG 3 [d, d]) (.bl d.isN) := ev_isN (ev_var rfl).rd
  refine sd_seq (sd_if (et_test isN) (fun h => sd_ret isN0 (.inl (by rw [h]))) fun h1 => sd_next ?_)
  refine sd_seq (sd_if (et_test (isB true)) (fun h => sd_ret (isB0 true) (.inl (by rw [h]))) fun h2 => sd_next ?_)
  refine sd_seq (sd_if (et_test (isB false)) (fun h => sd_ret (isB0 false) (.inl (by rw [h]))) fun h3 => sd_next ?_)
  have isi : ∀ {i : Nat} {T : String} {b : Bool}, (startG 3 [d, d])[i]? = some (.dat d) → (∀ C fs xs, d ≠ .obj C fs xs) → kitB (tyN d) T = some b → (d.isN = false → d.isB true = false → d.isB false = false → (∀ ks xs, d ≠ .dk ks xs) → (∀ ks xs, d ≠ .dt ks xs) → d.isZ = false → EvD (tCB (rIsi K) (tCons (tVar i) (tCons (tC (.ty T)) tNil))) (startG 3 [d, d]) (.bl b)) := fun {i T b} hi hx hk n1 n2 n3 n4 n5 n6 => by
    refine ev_isi (ev_var hi).rd hx ?_ n6
    cases d with
    | non => cases n1
    | bl c =>
      cases c
      · exact absurd n3 (by decide)
      · exact absurd n2 (by decide)
    | int i => exact kt hk
    | str i => exact kt hk
    | lst i => exact kt hk
    | tup i => exact kt hk
    | dk i j => exact absurd rfl (n4 i j)
    | dt i j => exact absurd rfl (n5 i j)
    | dz i j => cases n6
    | obj i j l => exact absurd rfl (hx i j l)
  rcases hd with rfl | ⟨b, rfl⟩ | ⟨i, rfl⟩ | ⟨z, rfl⟩ | ⟨es, he, hl, hR⟩
  · cases h1
  · cases b
    · exact absurd h3 (by decide)
    · exact absurd h2 (by decide)
  · have no := fun C fs xs => (show D.int i ≠ .obj C fs xs from nofun)
    refine sd_seq (sd_if (et_B (isi rfl no (b := false) (by show kitB "int" "str" = _; decide +kernel) rfl rfl rfl nofun nofun rfl)) (nofun) fun _ => sd_next ?_)
    refine sd_seq (sd_if (et_B (isi rfl no (b := true) (by show kitB "int" "int" = _; decide +kernel) rfl rfl rfl nofun nofun rfl)) (fun _ => ?_) nofun)
    refine sd_ret (ev_andV (isi rfl no (b := true) (by show kitB "int" "int" = _; decide +kernel) rfl rfl rfl nofun nofun rfl) fun _ => ev_andV (ev_notV (isi rfl no (b := false) (by show kitB "int" "bool" = _; decide +kernel) rfl rfl rfl nofun nofun rfl)) fun _ => ev_eqI (ev_var rfl) (ev_var rfl)) (.inl (by simp))
  · have no := fun C fs xs => (show D.str z ≠ .obj C fs xs from nofun)
    refine sd_seq (sd_if (et_B (isi rfl no (b := true) (by show kitB "str" "str" = _; decide +kernel) rfl rfl rfl nofun nofun rfl)) (fun _ => ?_) nofun)
    refine sd_ret (ev_andV (isi rfl no (b := true) (by show kitB "str" "str" = _; decide +kernel) rfl rfl rfl nofun nofun rfl) fun _ => ev_eqS (ev_var rfl) (ev_var rfl)) (.inl (by simp))
  · have len : ∀ i, (startG 3 [d, d])[i]? = some (.dat d) → EvD (tCB (rLenA K) (tCons (tVar i) tNil)) (startG 3 [d, d]) (.int (es.length : Int)) := fun i hi => by
      rcases he with rfl | rfl
      · exact ev_lenL (ev_var hi).rd
      · exact ev_lenT (ev_var hi).rd
    have item : ∀ (i : Nat) (j : Nat) (hj : j < es.length), i < 2 → EvD (tOp (rIx K) (tVar i) (tVar 2)) [.dat d, .dat d, .dat (.int (j : Int))] es[j] := fun i j hj hi => by
      have h0 : ([.dat d, .dat d, .dat (.int (j : Int))] : Ga)[i]? = some (.dat d) := by
        match i, hi with
        | 0, _ => rfl
        | 1, _ => rfl
      have hq := List.getElem?_eq_getElem hj
      rcases he with rfl | rfl
      · exact ev_ixLn (ev_var h0).rd (ev_var rfl) hq
      · exact ev_ixTn (ev_var h0) (ev_var rfl) hq
    have no : ∀ C fs xs, d ≠ .obj C fs xs := fun C fs xs q => by rcases he with rfl | rfl <;> cases q
    have nk : ∀ ks xs, d ≠ .dk ks xs := fun ks xs q => by rcases he with rfl | rfl <;> cases q
    have nt : ∀ ks xs, d ≠ .dt ks xs := fun ks xs q => by rcases he with rfl | rfl <;> cases q
    have nz : d.isZ = false := by rcases he with rfl | rfl <;> rfl
    refine sd_seq (sd_if (et_B (isi rfl no (b := false) (by rcases he with rfl | rfl; (show kitB "list" "str" = _; decide +kernel); (show kitB "tuple" "str" = _; decide +kernel)) h1 h2 h3 nk nt nz)) (nofun) fun _ => sd_next ?_)
    refine sd_seq (sd_if (et_B (isi rfl no (b := false) (by rcases he with rfl | rfl; (show kitB "list" "int" = _; decide +kernel); (show kitB "tuple" "int" = _; decide +kernel)) h1 h2 h3 nk nt nz)) (nofun) fun _ => sd_next ?_)
    have loop : SD (tSeq (tFor (iRng1 (tCons (tCB (rLenA K) (tCons (tVar 1) tNil)) tNil)) (gName 2) (tIfS (tNot (tB (tCall (PureSp R) [] E0 (tCons (tOp (rIx K) (tVar 0) (tVar 2)) (tCons (tOp (rIx K) (tVar 1) (tVar 2)) tNil))))) (tRet (tC (.bl false))) tNext)) (tRet (tC (.bl true)))) (startG 3 [d, d]) { nx := fun _ => D.bl true = .non, rt := fun s => s = .dat (.bl true) ∨ s = .own (.bl true) } := by
      refine sd_seq (sd_for (vs := [2]) (ei_rng1 (len 1 rfl) (by omega)) (fun i Γ' => ∃ z, Γ' = [.dat d, .dat d, z]) ⟨_, rfl⟩ ?_ ?_)
      · rintro i Γ' hi ⟨z, rfl⟩
        have hi : i < es.length := by simpa using hi
        refine ⟨_, eg_name (by simp), ?_⟩
        refine sd_if (et_not (et_B (ev_call (ea_cons (item 0 i hi (by decide)) (ea_cons (item 1 i hi (by decide)) ea_nil)) (hR _ (List.getElem_mem _))))) (nofun) fun _ => sd_next ⟨_, rfl⟩
      · rintro Γ' ⟨z, rfl⟩
        exact sd_ret ev_bl (.inl rfl)
    rcases he with rfl | rfl
    · refine sd_seq (sd_if (et_B (isi rfl no (b := true) (by show kitB "list" "list" = _; decide +kernel) rfl rfl rfl nk nt nz)) (fun _ => ?_) nofun)
      refine sd_if (b := false) (EvT.of (et_or (et_not (et_B (isi rfl no (b := true) (by show kitB "list" "list" = _; decide +kernel) rfl rfl rfl nk nt nz))) fun _ => et_test (ev_neI (len 0 rfl) (len 1 rfl))) (by simp)) nofun fun _ => sd_next ?_
      exact loop
    · refine sd_seq (sd_if (et_B (isi rfl no (b := false) (by show kitB "tuple" "list" = _; decide +kernel) rfl rfl rfl nk nt nz)) nofun fun _ => ?_)
      refine sd_if (b := false) (EvT.of (et_or (et_not (et_B (isi rfl no (b := true) (by show kitB "tuple" "tuple" = _; decide +kernel) rfl rfl rfl nk nt nz))) fun _ => et_test (ev_neI (len 0 rfl) (len 1 rfl))) (by simp)) nofun fun _ => sd_next ?_
      exact loop
theorem ok_like (T : Txt K mg a) : ∀ n, FnOk P w K mg base CX0 n a.a_like a.d_like ["_law_actual", "_law_due"] (PureSp (likeR n))
  | 0 => fn_false
  | n + 1 => like_step T (ok_like T n)
end
end Kt
namespace Kt
open PySem PySem.Spec L2 Dl
local macro_rules | `(tactic| walk_at "side") => `(tactic| first
  | exact cpow18
  | (simp only [List.length_cons, List.length_nil]; decide)
  | ((fail_if_success (with_reducible apply isEvD)); (fail_if_success (with_reducible apply isEvB)); (fail_if_success (with_reducible apply isEvN)); (fail_if_success (with_reducible apply isEvA)); (fail_if_success (with_reducible apply isEvAB)); (fail_if_success (with_reducible apply isEvT)); (fail_if_success (with_reducible apply isEvO)); (fail_if_success (intro _; (with_reducible apply isEvD))); (fail_if_success (intro _; (with_reducible apply isEvT)))))
local macro_rules | `(tactic| walk_at "evB") => `(tactic| first
  | ((with_reducible apply eb_own) <;> exact rfl)
  | ((with_reducible apply EvD.rd) <;> first | walk_at "any" | walk_at "side"))
local macro_rules | `(tactic| walk_at "evA") => `(tactic| first
  | with_reducible exact ea_nil
  | ((with_reducible apply ea_cons) <;> first | walk_at "any" | walk_at "side"))
local macro_rules | `(tactic| walk_at "evAB") => `(tactic| first
  | with_reducible exact eab_nil
  | ((with_reducible apply eab_cons) <;> first | walk_at "any" | walk_at "side"))
local macro_rules | `(tactic| walk_at "eo") => `(tactic| first
  | with_reducible exact eo_none
  | ((with_reducible apply eo_some) <;> first | walk_at "any" | walk_at "side"))
local macro_rules | `(tactic| walk_at "evN") => `(tactic| first
  | ((with_reducible apply en_lst) <;> first | walk_at "any" | walk_at "side")
  | ((with_reducible apply en_list) <;> first | walk_at "any" | walk_at "side")
  | ((with_reducible apply en_listT) <;> first | walk_at "any" | walk_at "side")
  | ((with_reducible apply en_sorted) <;> first | walk_at "any" | walk_at "side")
  | ((with_reducible apply en_sortedR) <;> first | walk_at "any" | walk_at "side")
  | ((with_reducible apply en_rev) <;> first | walk_at "any" | walk_at "side")
  | ((with_reducible apply en_sl) <;> first | walk_at "any" | walk_at "side")
  | ((with_reducible apply en_cat) <;> first | walk_at "any" | walk_at "side")
  | ((with_reducible apply en_rep1) <;> first | walk_at "any" | walk_at "side")
  | ((with_reducible apply en_call) <;> first | walk_at "any" | walk_at "side"))
local macro_rules | `(tactic| walk_at "ev") => `(tactic| first
  | ((with_reducible apply ev_var) <;> exact rfl)
  | with_reducible exact ev_int
  | with_reducible exact ev_str
  | with_reducible exact ev_bl
  | with_reducible exact ev_non
  | ((with_reducible apply ev_intI) <;> first | walk_at "any" | walk_at "side")
  | ((with_reducible apply ev_add) <;> first | walk_at "any" | walk_at "side")
  | ((with_reducible apply ev_sub) <;> first | walk_at "any" | walk_at "side")
  | ((with_reducible apply ev_mul) <;> first | walk_at "any" | walk_at "side")
  | ((with_reducible apply ev_mod) <;> first | walk_at "any" | walk_at "side")
  | ((with_reducible apply ev_fdiv) <;> first | walk_at "any" | walk_at "side")
  | ((with_reducible apply ev_pow) <;> first | walk_at "any" | walk_at "side")
  | ((with_reducible apply ev_lt) <;> first | walk_at "any" | walk_at "side")
  | ((with_reducible apply ev_le) <;> first | walk_at "any" | walk_at "side")
  | ((with_reducible apply ev_gt) <;> first | walk_at "any" | walk_at "side")
  | ((with_reducible apply ev_ge) <;> first | walk_at "any" | walk_at "side")
  | ((with_reducible apply ev_eqI) <;> first | walk_at "any" | walk_at "side")
  | ((with_reducible apply ev_neI) <;> first | walk_at "any" | walk_at "side")
  | ((with_reducible apply ev_eqS) <;> first | walk_at "any" | walk_at "side")
  | ((with_reducible apply ev_neS) <;> first | walk_at "any" | walk_at "side")
  | ((with_reducible apply ev_chainI) <;> first | walk_at "any" | walk_at "side")
  | ((with_reducible apply ev_isN) <;> first | walk_at "any" | walk_at "side")
  | ((with_reducible apply ev_notN) <;> first | walk_at "any" | walk_at "side")
  | ((with_reducible apply ev_neg) <;> first | walk_at "any" | walk_at "side")
  | ((with_reducible apply ev_abs) <;> first | walk_at "any" | walk_at "side")
  | ((with_reducible apply ev_max2) <;> first | walk_at "any" | walk_at "side")
  | ((with_reducible apply ev_min2) <;> first | walk_at "any" | walk_at "side")
  | ((with_reducible apply ev_sum) <;> first | walk_at "any" | walk_at "side")
  | ((with_reducible apply ev_maxL) <;> first | walk_at "any" | walk_at "side")
  | ((with_reducible apply ev_minL) <;> first | walk_at "any" | walk_at "side")
  | ((with_reducible apply ev_lenL) <;> first | walk_at "any" | walk_at "side")
  | ((with_reducible apply ev_lenT) <;> first | walk_at "any" | walk_at "side")
  | ((with_reducible apply ev_lenS) <;> first | walk_at "any" | walk_at "side")
  | ((with_reducible apply ev_inI) <;> first | walk_at "any" | walk_at "side")
  | ((with_reducible apply ev_ninI) <;> first | walk_at "any" | walk_at "side")
  | ((with_reducible apply ev_inB) <;> first | walk_at "any" | walk_at "side")
  | ((with_reducible apply ev_ninB) <;> first | walk_at "any" | walk_at "side")
  | ((with_reducible apply ev_ixI) <;> first | walk_at "any" | walk_at "side")
  | ((with_reducible apply ev_tup) <;> first | walk_at "any" | walk_at "side")
  | ((with_reducible apply ev_tuple) <;> first | walk_at "any" | walk_at "side")
  | ((with_reducible apply ev_andV) <;> first | walk_at "any" | walk_at "side")
  | ((with_reducible apply ev_orV) <;> first | walk_at "any" | walk_at "side")
  | ((with_reducible apply ev_notV) <;> first | walk_at "any" | walk_at "side")
  | ((with_reducible apply ev_cell) <;> first | exact rfl | walk_at "any" | decide)
  | ((with_reducible apply ev_call) <;> first | walk_at "any" | walk_at "side")
  | ((with_reducible apply EvN.dt) <;> first | walk_at "any" | walk_at "side"))
local macro_rules | `(tactic| walk_at "et") => `(tactic| first
  | ((with_reducible apply et_not) <;> first | walk_at "any" | walk_at "side")
  | ((with_reducible apply et_and) <;> first | walk_at "any" | walk_at "side")
  | ((with_reducible apply et_or) <;> first | walk_at "any" | walk_at "side")
  | ((with_reducible apply et_test) <;> first | walk_at "any" | walk_at "side")
  | ((with_reducible apply et_B) <;> first | walk_at "any" | walk_at "side"))
local macro_rules | `(tactic| walk_at "any") => `(tactic| first
  | ((with_reducible apply isEvD); walk_at "ev")
  | ((with_reducible apply isEvB); walk_at "evB")
  | ((with_reducible apply isEvT); walk_at "et")
  | ((with_reducible apply isEvA); walk_at "evA")
  | ((with_reducible apply isEvN); walk_at "evN")
  | ((with_reducible apply isEvAB); walk_at "evAB")
  | ((with_reducible apply isEvO); walk_at "eo")
  | (intro _; walk_at "any"))
local macro_rules | `(tactic| walk_at "s if") => `(tactic| (apply sd_if <;> first | walk_at "any" | exact rfl | skip))
local macro_rules | `(tactic| walk_at "q if") => `(tactic| (apply sd_seq; apply sd_if <;> first | walk_at "any" | exact rfl | skip))
local macro_rules | `(tactic| walk_at "s asg") => `(tactic| (apply sd_asg <;> first | walk_at "any" | exact rfl | skip))
local macro_rules | `(tactic| walk_at "q asg") => `(tactic| (apply sd_seq; apply sd_asg <;> first | walk_at "any" | exact rfl | skip))
local macro_rules | `(tactic| walk_at "s new") => `(tactic| (apply sd_asgN <;> first | walk_at "any" | exact rfl | skip))
local macro_rules | `(tactic| walk_at "q new") => `(tactic| (apply sd_seq; apply sd_asgN <;> first | walk_at "any" | exact rfl | skip))
local macro_rules | `(tactic| walk_at "s app") => `(tactic| (apply sd_app <;> first | walk_at "any" | exact rfl | skip))
local macro_rules | `(tactic| walk_at "q app") => `(tactic| (apply sd_seq; apply sd_app <;> first | walk_at "any" | exact rfl | skip))
local macro_rules | `(tactic| walk_at "s aug") => `(tactic| (apply sd_aug <;> first | walk_at "any" | exact rfl | skip))
local macro_rules | `(tactic| walk_at "q aug") => `(tactic| (apply sd_seq; apply sd_aug <;> first | walk_at "any" | exact rfl | skip))
local macro_rules | `(tactic| walk_at "s ret") => `(tactic| (apply sd_ret <;> first | walk_at "any" | exact rfl | skip))
local macro_rules | `(tactic| walk_at "q ret") => `(tactic| (apply sd_seq; apply sd_ret <;> first | walk_at "any" | exact rfl | skip))
local macro_rules | `(tactic| walk_at "s retN") => `(tactic| (apply sd_retN <;> first | walk_at "any" | exact rfl | skip))
local macro_rules | `(tactic| walk_at "q retN") => `(tactic| (apply sd_seq; apply sd_retN <;> first | walk_at "any" | exact rfl | skip))
local macro_rules | `(tactic| walk_at "s ifAsg") => `(tactic| (apply sd_ifAsg <;> first | walk_at "any" | exact rfl | skip))
local macro_rules | `(tactic| walk_at "q ifAsg") => `(tactic| (apply sd_seq; apply sd_ifAsg <;> first | walk_at "any" | exact rfl | skip))
local macro_rules | `(tactic| walk_at "s ifAsgI") => `(tactic| (apply sd_ifAsgI <;> first | walk_at "any" | exact rfl | skip))
local macro_rules | `(tactic| walk_at "q ifAsgI") => `(tactic| (apply sd_seq; apply sd_ifAsgI <;> first | walk_at "any" | exact rfl | skip))
local macro_rules | `(tactic| walk_at "s drop") => `(tactic| (apply sd_drop <;> first | walk_at "any" | exact rfl | skip))
local macro_rules | `(tactic| walk_at "q drop") => `(tactic| (apply sd_seq; apply sd_drop <;> first | walk_at "any" | exact rfl | skip))


/-! ### size lists that are drawn -/
def part (h0 h1 x rest k : Int) : Int :=
  if (decide (h0 = 3) && decide (0 < k)) = true then 1
  else if decide (h0 = 2) = true then min rest (1 + h1 + x % 2)
  else if decide (h0 = 1) = true then 1 + x % min rest 3
  else 1 + x % rest
theorem part_in {h0 h1 x rest k : Int} (hh : 0 ≤ h1) (hr : 0 < rest) : 1 ≤ part h0 h1 x rest k ∧ part h0 h1 x rest k ≤ rest := by
  have a1 := Int.emod_nonneg x (by omega : rest ≠ 0)
  have a2 := Int.emod_lt_of_pos x hr
  have a3 := Int.emod_nonneg x (by omega : min rest 3 ≠ 0)
  have a4 := Int.emod_lt_of_pos x (by omega : 0 < min rest 3)
  have a5 := Int.emod_nonneg x (by omega : (2 : Int) ≠ 0)
  have a6 := Int.emod_lt_of_pos x (by omega : (0 : Int) < 2)
  unfold part
  split
  · omega
  · split
    · omega
    · split <;> omega
def lmenu (total : Int) : List Int := [4, 9] ++ List.replicate total.toNat (max 1 total)
def lstep (c total : Int) (s : List Int × Int) (k : Nat) : List Int × Int :=
  if 0 < s.2 then
    (s.1 ++ [part ((draws c [4, 9]).getD 0 0) ((draws c [4, 9]).getD 1 0) ((draws c (lmenu total)).getD (2 + k) 0) s.2 k], s.2 - part ((draws c [4, 9]).getD 0 0) ((draws c [4, 9]).getD 1 0) ((draws c (lmenu total)).getD (2 + k) 0) s.2 k)
  else s
def lgo (c total : Int) (n : Nat) : List Int × Int := (List.range n).foldl (lstep c total) ([], total)
def lst (c total : Int) : List Int := dsc (lgo c total total.toNat).1
theorem lgo_succ (c total : Int) (n : Nat) : lgo c total (n + 1) = lstep c total (lgo c total n) n := by
  unfold lgo
  rw [List.range_succ, List.foldl_append]
  rfl
theorem h1_nn (c : Int) : 0 ≤ (draws c [4, 9]).getD 1 0 := (draws_in (by simp) (by decide : 1 < [4, 9].length)).1
theorem lgo_in (c total : Int) (ht : 0 ≤ total) : ∀ n, (∀ x ∈ (lgo c total n).1, 1 ≤ x) ∧ (lgo c total n).1.sum + (lgo c total n).2 = total ∧ 0 ≤ (lgo c total n).2 ∧ (lgo c total n).2 ≤ max 0 (total - n) ∧ (lgo c total n).1.length ≤ n
  | 0 => ⟨fun x h => (nomatch h), by show (0 : Int) + total = total; omega, ht, by show total ≤ max 0 (total - (0 : Nat)); omega, Nat.le_refl _⟩
  | n + 1 => by
    obtain ⟨h1, h2, h3, h4, h5⟩ := lgo_in c total ht n
    rw [lgo_succ]
    unfold lstep
    split
    · rename_i hp
      have hq := part_in (h0 := (draws c [4, 9]).getD 0 0) (x := (draws c (lmenu total)).getD (2 + n) 0) (k := n) (h1_nn c) hp
      refine ⟨fun x hx => ?_, ?_, ?_, ?_, ?_⟩
      · rcases List.mem_append.mp hx with hx | hx
        · exact h1 x hx
        · rw [List.mem_singleton.mp hx]; exact hq.1
      · simp only [List.sum_append, List.sum_cons, List.sum_nil]; omega
      · show 0 ≤ _ - _; omega
      · show _ - _ ≤ max 0 _; omega
      · simp only [List.length_append, List.length_cons, List.length_nil]; omega
    · exact ⟨h1, h2, h3, by omega, by omega⟩
/-- a size list: positive, falling -/
structure Szs (s : List Int) : Prop where
  pos : ∀ x ∈ s, 1 ≤ x
  down : s.Pairwise (· ≥ ·)
theorem dsc_mem {ns : List Int} {x : Int} : x ∈ dsc ns ↔ x ∈ ns := (dsc_perm ns).mem_iff
theorem sum_perm {xs ys : List Int} (h : xs.Perm ys) : xs.sum = ys.sum := by
  induction h with
  | nil => rfl
  | cons x _ ih => simp only [List.sum_cons, ih]
  | swap x y l => simp only [List.sum_cons]; omega
  | trans _ _ h1 h2 => exact h1.trans h2
theorem dsc_sum (ns : List Int) : (dsc ns).sum = ns.sum := sum_perm (dsc_perm ns)
theorem dsc_length (ns : List Int) : (dsc ns).length = ns.length := (dsc_perm ns).length_eq
theorem lst_szs (c total : Int) (ht : 0 ≤ total) : Szs (lst c total) := ⟨fun x hx => (lgo_in c total ht _).1 x (dsc_mem.mp hx), dsc_sorted _⟩
theorem lst_sum (c total : Int) (ht : 0 ≤ total) : (lst c total).sum = total := by
  obtain ⟨h1, h2, h3, h4, h5⟩ := lgo_in c total ht total.toNat
  unfold lst
  rw [dsc_sum]
  omega
theorem lst_len (c total : Int) (ht : 0 ≤ total) : (lst c total).length ≤ total.toNat := by
  unfold lst
  rw [dsc_length]
  exact (lgo_in c total ht _).2.2.2.2

section
variable {P : Program} {w : World} {K : PySem.W.Frag} {mg : Str → Option Value} {base : Heap} {a : Adr}
def RList (ds : List D) (d : D) : Prop := ∃ c total : Int, ds = [.int c, .int total] ∧ 0 ≤ total ∧ total ≤ 1000 ∧ d = dI (lst c total)
theorem ok_list (T : Txt K mg a) : FnOk P w K mg base CX0 3 a.a_list a.d_list ["_law_cell_here", "_law_total"] (NewSp RList) := by
  refine fn_new T.F_list sc_list (fun ds d ⟨_, _, e, _⟩ => by rw [e]; rfl) (by decide) fun cdv A outer s H E hr => ⟨_, (pss_cons (ps_set (i := 2) sc_list.nd rfl (by first | exact Or.inl rfl | exact Or.inr rfl) (pe_call (ok_draws T) (hr.mono (by first | decide | omega)) rfl T.g_draws T.F_draws.kp T.b_draws .nil pass0 (pa_cons (pv 0) (pa_cons (pe_lst (pa_cons pe_int (pa_cons pe_int pa_nil))) pa_nil)))) (pss_cons (ps_set (i := 3) sc_list.nd rfl (by first | exact Or.inl rfl | exact Or.inr rfl) (pe_call (ok_draws T) (hr.mono (by first | decide | omega)) rfl T.g_draws T.F_draws.kp T.b_draws .nil pass0 (pa_cons (pv 0) (pa_cons (pe_op op_addA (pe_lst (pa_cons pe_int (pa_cons pe_int pa_nil))) (pe_op op_mulA (pe_lst (pa_cons (pe_callB (call_max2 rfl) (by rfl) T.z_max bt_max (pa_cons pe_int (pa_cons (pv 1) pa_nil))) pa_nil)) (pv 1))) pa_nil)))) (pss_cons (ps_set (i := 4) sc_list.nd rfl (by first | exact Or.inl rfl | exact Or.inr rfl) (pe_lst pa_nil)) (pss_cons (ps_set (i := 5) sc_list.nd rfl (by first | exact Or.inl rfl | exact Or.inr rfl) (pv 1)) (pss_cons (ps_for PassesOwn.never rfl (pi_range1 rfl T.z_range (pa_cons (pv 1) pa_nil)) (pg_name (i := 6) sc_list.nd rfl (by first | exact Or.inl rfl | exact Or.inr rfl)) (pss_one (ps_if (pt_cmpR op_gt (pv 5) pe_int (nomark _)) (pss_cons (ps_set (i := 7) sc_list.nd rfl (by first | exact Or.inl rfl | exact Or.inr rfl) (pe_op op_addA pe_int (pe_op op_mod (pe_callTy call_int1 (by rfl) T.z_int bt_int (pa_cons (pe_ix (ixK (K := K)) (pv 3) (pe_op op_addA pe_int (pv 6)) (fun _ _ => rfl)) pa_nil)) (pv 5)))) (pss_cons (ps_if (pt_cmpR (eqK (K := K) hr.units) (pe_ix (ixK (K := K)) (pv 2) pe_int (fun _ _ => rfl)) pe_int (nomark _)) (pss_one (ps_set (i := 7) sc_list.nd rfl (by first | exact Or.inl rfl | exact Or.inr rfl) (pe_op op_addA pe_int (pe_op op_mod (pe_callTy call_int1 (by rfl) T.z_int bt_int (pa_cons (pe_ix (ixK (K := K)) (pv 3) (pe_op op_addA pe_int (pv 6)) (fun _ _ => rfl)) pa_nil)) (pe_callB (call_min2 rfl) (by rfl) T.z_min bt_min (pa_cons (pv 5) (pa_cons pe_int pa_nil))))))) pss_nil) (pss_cons (ps_if (pt_cmpR (eqK (K := K) hr.units) (pe_ix (ixK (K := K)) (pv 2) pe_int (fun _ _ => rfl)) pe_int (nomark _)) (pss_one (ps_set (i := 7) sc_list.nd rfl (by first | exact Or.inl rfl | exact Or.inr rfl) (pe_callB (call_min2 rfl) (by rfl) T.z_min bt_min (pa_cons (pv 5) (pa_cons (pe_op op_addA (pe_op op_addA pe_int (pe_ix (ixK (K := K)) (pv 2) pe_int (fun _ _ => rfl))) (pe_op op_mod (pe_callTy call_int1 (by rfl) T.z_int bt_int (pa_cons (pe_ix (ixK (K := K)) (pv 3) (pe_op op_addA pe_int (pv 6)) (fun _ _ => rfl)) pa_nil)) pe_int)) pa_nil))))) pss_nil) (pss_cons (ps_if (PW.pt (pw_and (pt_cmpR (eqK (K := K) hr.units) (pe_ix (ixK (K := K)) (pv 2) pe_int (fun _ _ => rfl)) pe_int (nomark _)) (pw_and1 (pt_cmpR op_gt (pv 6) pe_int (nomark _))))) (pss_one (ps_set (i := 7) sc_list.nd rfl (by first | exact Or.inl rfl | exact Or.inr rfl) pe_int)) pss_nil) (pss_cons (ps_expr (bmK (K := K) PySem.F.plainAttrs_list PySem.F.slot_list_append PySem.F.type_list_append mt_append (pv 4) (pa_cons (pv 7) pa_nil))) (pss_one (ps_set (i := 5) sc_list.nd rfl (by first | exact Or.inl rfl | exact Or.inr rfl) (pe_op op_sub (pv 5) (pv 7))))))))) pss_nil))) (pss_one (ps_ret (pe_callBK (sortedRevK (K := K) (b := true)) (by rfl) T.z_sorted bt_sorted (pa_cons (pv 4) pa_nil) (pk_cons pe_bl pk_nil))))))))), ?_⟩
  rintro ds d ⟨c, total, rfl, h0, h1, rfl⟩
  have hl9 : (draws c [4, 9]).length = 2 := draws_len _ _
  have hlm : (lmenu total).length = 2 + total.toNat := by simp [lmenu]; omega
  have hld : (draws c (lmenu total)).length = 2 + total.toNat := by rw [draws_len, hlm]
  refine sd_seq (sd_asg (d := dI (draws c [4, 9])) (ev_callN (ea_cons (ev_var rfl) (ea_cons (EvN.dt (en_lst (ea_cons ev_int (ea_cons ev_int ea_nil)) (by decide))) ea_nil)) ⟨c, [4, 9], rfl, by simp, by decide, rfl⟩) ?_)
  refine sd_seq (sd_asg (d := dI (draws c (lmenu total))) ?_ ?_)
  · refine ev_callN (ds := [.int c, dI (lmenu total)]) (ea_cons (ev_var rfl) (ea_cons (EvN.dt (EvN.of (en_cat (EvN.dt (en_lst (ea_cons ev_int (ea_cons ev_int ea_nil)) (by decide))).rd (EvN.dt (en_rep1 (EvN.dt (en_lst (ea_cons (ev_max2 ev_int (ev_var rfl)) ea_nil) (by show 1 ≤ sizeLine; decide))).rd (ev_var rfl) (by omega))).rd ?_) ?_)) ea_nil)) ⟨c, lmenu total, rfl, ?_, by omega, rfl⟩
    · exact sz1 (by simp; omega)
    · simp [lmenu]
    · intro m hm
      unfold lmenu at hm
      rcases List.mem_append.mp hm with hm | hm
      · simp at hm; omega
      · rw [List.mem_replicate] at hm; omega
  walk_at "q new"
  walk_at "q asg"
  refine sd_seq (sd_for (vs := [6]) (ei_rng1 (ev_var rfl) (by omega)) (fun i Γ' => ∃ z z', Γ' = [.dat (.int c), .dat (.int total), .dat (dI (draws c [4, 9])), .dat (dI (draws c (lmenu total))), .own (dI (lgo c total i).1), .dat (.int (lgo c total i).2), z, z']) ⟨_, _, rfl⟩ ?_ ?_)
  · rintro i Γ' hi ⟨z, z', rfl⟩
    obtain ⟨f1, f2, f3, f4, f5⟩ := lgo_in c total h0 i
    have hs := lgo_succ c total i
    have hi2 : (0 : Int) ≤ 2 + (i : Int) ∧ 2 + (i : Int) < (draws c (lmenu total)).length := by rw [hld]; omega
    have e2 : ((2 : Int) + (i : Int)).toNat = 2 + i := by omega
    refine ⟨_, eg_name (by simp), ?_⟩
    walk_at "s if"
    · intro hb
      simp only [decide_eq_true_eq] at hb
      unfold lstep at hs
      rw [if_pos hb] at hs
      walk_at "q asg"
      · exact hi2
      · exact hb
      walk_at "q ifAsgI"
      · rw [hl9]; omega
      · exact hi2
      · show 0 < min _ _
        omega
      walk_at "q ifAsgI"
      · rw [hl9]; omega
      · rw [hl9]; omega
      · exact hi2
      · decide
      walk_at "q ifAsgI"
      · rw [hl9]; omega
      walk_at "q app"
      · exact sz2 (by rw [List.length_map]; omega)
      walk_at "s asg"
      refine ⟨.dat (.int i), .dat (.int (part ((draws c [4, 9]).getD 0 0) ((draws c [4, 9]).getD 1 0) ((draws c (lmenu total)).getD (2 + i) 0) (lgo c total i).2 i)), ?_⟩
      rw [hs]
      simp only [dI, List.map_append, List.map_cons, List.map_nil, e2]
      rfl
    · intro hb
      simp only [decide_eq_false_iff_not] at hb
      unfold lstep at hs
      rw [if_neg hb] at hs
      exact sd_next ⟨.dat (.int i), z', by rw [hs]; rfl⟩
  · rintro Γ' ⟨z, z', rfl⟩
    walk_at "s retN"
end
end Kt
namespace Kt
open PySem PySem.Spec L2 Dl
local macro_rules | `(tactic| walk_at "side") => `(tactic| first
  | exact cpow18
  | (simp only [List.length_cons, List.length_nil]; decide)
  | ((fail_if_success (with_reducible apply isEvD)); (fail_if_success (with_reducible apply isEvB)); (fail_if_success (with_reducible apply isEvN)); (fail_if_success (with_reducible apply isEvA)); (fail_if_success (with_reducible apply isEvAB)); (fail_if_success (with_reducible apply isEvT)); (fail_if_success (with_reducible apply isEvO)); (fail_if_success (intro _; (with_reducible apply isEvD))); (fail_if_success (intro _; (with_reducible apply isEvT)))))
local macro_rules | `(tactic| walk_at "evB") => `(tactic| first
  | ((with_reducible apply eb_own) <;> exact rfl)
  | ((with_reducible apply EvD.rd) <;> first | walk_at "any" | walk_at "side"))
local macro_rules | `(tactic| walk_at "evA") => `(tactic| first
  | with_reducible exact ea_nil
  | ((with_reducible apply ea_cons) <;> first | walk_at "any" | walk_at "side"))
local macro_rules | `(tactic| walk_at "evAB") => `(tactic| first
  | with_reducible exact eab_nil
  | ((with_reducible apply eab_cons) <;> first | walk_at "any" | walk_at "side"))
local macro_rules | `(tactic| walk_at "eo") => `(tactic| first
  | with_reducible exact eo_none
  | ((with_reducible apply eo_some) <;> first | walk_at "any" | walk_at "side"))
local macro_rules | `(tactic| walk_at "evN") => `(tactic| first
  | ((with_reducible apply en_lst) <;> first | walk_at "any" | walk_at "side")
  | ((with_reducible apply en_list) <;> first | walk_at "any" | walk_at "side")
  | ((with_reducible apply en_listT) <;> first | walk_at "any" | walk_at "side")
  | ((with_reducible apply en_sorted) <;> first | walk_at "any" | walk_at "side")
  | ((with_reducible apply en_sortedR) <;> first | walk_at "any" | walk_at "side")
  | ((with_reducible apply en_rev) <;> first | walk_at "any" | walk_at "side")
  | ((with_reducible apply en_sl) <;> first | walk_at "any" | walk_at "side")
  | ((with_reducible apply en_cat) <;> first | walk_at "any" | walk_at "side")
  | ((with_reducible apply en_rep1) <;> first | walk_at "any" | walk_at "side")
  | ((with_reducible apply en_call) <;> first | walk_at "any" | walk_at "side"))
local macro_rules | `(tactic| walk_at "ev") => `(tactic| first
  | ((with_reducible apply ev_var) <;> exact rfl)
  | with_reducible exact ev_int
  | with_reducible exact ev_str
  | with_reducible exact ev_bl
  | with_reducible exact ev_non
  | ((with_reducible apply ev_intI) <;> first | walk_at "any" | walk_at "side")
  | ((with_reducible apply ev_add) <;> first | walk_at "any" | walk_at "side")
  | ((with_reducible apply ev_sub) <;> first | walk_at "any" | walk_at "side")
  | ((with_reducible apply ev_mul) <;> first | walk_at "any" | walk_at "side")
  | ((with_reducible apply ev_mod) <;> first | walk_at "any" | walk_at "side")
  | ((with_reducible apply ev_fdiv) <;> first | walk_at "any" | walk_at "side")
  | ((with_reducible apply ev_pow) <;> first | walk_at "any" | walk_at "side")
  | ((with_reducible apply ev_lt) <;> first | walk_at "any" | walk_at "side")
  | ((with_reducible apply ev_le) <;> first | walk_at "any" | walk_at "side")
  | ((with_reducible apply ev_gt) <;> first | walk_at "any" | walk_at "side")
  | ((with_reducible apply ev_ge) <;> first | walk_at "any" | walk_at "side")
  | ((with_reducible apply ev_eqI) <;> first | walk_at "any" | walk_at "side")
  | ((with_reducible apply ev_neI) <;> first | walk_at "any" | walk_at "side")
  | ((with_reducible apply ev_eqS) <;> first | walk_at "any" | walk_at "side")
  | ((with_reducible apply ev_neS) <;> first | walk_at "any" | walk_at "side")
  | ((with_reducible apply ev_chainI) <;> first | walk_at "any" | walk_at "side")
  | ((with_reducible apply ev_isN) <;> first | walk_at "any" | walk_at "side")
  | ((with_reducible apply ev_notN) <;> first | walk_at "any" | walk_at "side")
  | ((with_reducible apply ev_neg) <;> first | walk_at "any" | walk_at "side")
  | ((with_reducible apply ev_abs) <;> first | walk_at "any" | walk_at "side")
  | ((with_reducible apply ev_max2) <;> first | walk_at "any" | walk_at "side")
  | ((with_reducible apply ev_min2) <;> first | walk_at "any" | walk_at "side")
  | ((with_reducible apply ev_sum) <;> first | walk_at "any" | walk_at "side")
  | ((with_reducible apply ev_maxL) <;> first | walk_at "any" | walk_at "side")
  | ((with_reducible apply ev_minL) <;> first | walk_at "any" | walk_at "side")
  | ((with_reducible apply ev_lenL) <;> first | walk_at "any" | walk_at "side")
  | ((with_reducible apply ev_lenT) <;> first | walk_at "any" | walk_at "side")
  | ((with_reducible apply ev_lenS) <;> first | walk_at "any" | walk_at "side")
  | ((with_reducible apply ev_inI) <;> first | walk_at "any" | walk_at "side")
  | ((with_reducible apply ev_ninI) <;> first | walk_at "any" | walk_at "side")
  | ((with_reducible apply ev_inB) <;> first | walk_at "any" | walk_at "side")
  | ((with_reducible apply ev_ninB) <;> first | walk_at "any" | walk_at "side")
  | ((with_reducible apply ev_ixI) <;> first | walk_at "any" | walk_at "side")
  | ((with_reducible apply ev_tup) <;> first | walk_at "any" | walk_at "side")
  | ((with_reducible apply ev_tuple) <;> first | walk_at "any" | walk_at "side")
  | ((with_reducible apply ev_andV) <;> first | walk_at "any" | walk_at "side")
  | ((with_reducible apply ev_orV) <;> first | walk_at "any" | walk_at "side")
  | ((with_reducible apply ev_notV) <;> first | walk_at "any" | walk_at "side")
  | ((with_reducible apply ev_cell) <;> first | exact rfl | walk_at "any" | decide)
  | ((with_reducible apply ev_call) <;> first | walk_at "any" | walk_at "side")
  | ((with_reducible apply EvN.dt) <;> first | walk_at "any" | walk_at "side"))
local macro_rules | `(tactic| walk_at "et") => `(tactic| first
  | ((with_reducible apply et_not) <;> first | walk_at "any" | walk_at "side")
  | ((with_reducible apply et_and) <;> first | walk_at "any" | walk_at "side")
  | ((with_reducible apply et_or) <;> first | walk_at "any" | walk_at "side")
  | ((with_reducible apply et_test) <;> first | walk_at "any" | walk_at "side")
  | ((with_reducible apply et_B) <;> first | walk_at "any" | walk_at "side"))
local macro_rules | `(tactic| walk_at "any") => `(tactic| first
  | ((with_reducible apply isEvD); walk_at "ev")
  | ((with_reducible apply isEvB); walk_at "evB")
  | ((with_reducible apply isEvT); walk_at "et")
  | ((with_reducible apply isEvA); walk_at "evA")
  | ((with_reducible apply isEvN); walk_at "evN")
  | ((with_reducible apply isEvAB); walk_at "evAB")
  | ((with_reducible apply isEvO); walk_at "eo")
  | (intro _; walk_at "any"))
local macro_rules | `(tactic| walk_at "s if") => `(tactic| (apply sd_if <;> first | walk_at "any" | exact rfl | skip))
local macro_rules | `(tactic| walk_at "q if") => `(tactic| (apply sd_seq; apply sd_if <;> first | walk_at "any" | exact rfl | skip))
local macro_rules | `(tactic| walk_at "s asg") => `(tactic| (apply sd_asg <;> first | walk_at "any" | exact rfl | skip))
local macro_rules | `(tactic| walk_at "q asg") => `(tactic| (apply sd_seq; apply sd_asg <;> first | walk_at "any" | exact rfl | skip))
local macro_rules | `(tactic| walk_at "s new") => `(tactic| (apply sd_asgN <;> first | walk_at "any" | exact rfl | skip))
local macro_rules | `(tactic| walk_at "q new") => `(tactic| (apply sd_seq; apply sd_asgN <;> first | walk_at "any" | exact rfl | skip))
local macro_rules | `(tactic| walk_at "s app") => `(tactic| (apply sd_app <;> first | walk_at "any" | exact rfl | skip))
local macro_rules | `(tactic| walk_at "q app") => `(tactic| (apply sd_seq; apply sd_app <;> first | walk_at "any" | exact rfl | skip))
local macro_rules | `(tactic| walk_at "s aug") => `(tactic| (apply sd_aug <;> first | walk_at "any" | exact rfl | skip))
local macro_rules | `(tactic| walk_at "q aug") => `(tactic| (apply sd_seq; apply sd_aug <;> first | walk_at "any" | exact rfl | skip))
local macro_rules | `(tactic| walk_at "s ret") => `(tactic| (apply sd_ret <;> first | walk_at "any" | exact rfl | skip))
local macro_rules | `(tactic| walk_at "q ret") => `(tactic| (apply sd_seq; apply sd_ret <;> first | walk_at "any" | exact rfl | skip))
local macro_rules | `(tactic| walk_at "s retN") => `(tactic| (apply sd_retN <;> first | walk_at "any" | exact rfl | skip))
local macro_rules | `(tactic| walk_at "q retN") => `(tactic| (apply sd_seq; apply sd_retN <;> first | walk_at "any" | exact rfl | skip))
local macro_rules | `(tactic| walk_at "s ifAsg") => `(tactic| (apply sd_ifAsg <;> first | walk_at "any" | exact rfl | skip))
local macro_rules | `(tactic| walk_at "q ifAsg") => `(tactic| (apply sd_seq; apply sd_ifAsg <;> first | walk_at "any" | exact rfl | skip))
local macro_rules | `(tactic| walk_at "s ifAsgI") => `(tactic| (apply sd_ifAsgI <;> first | walk_at "any" | exact rfl | skip))
local macro_rules | `(tactic| walk_at "q ifAsgI") => `(tactic| (apply sd_seq; apply sd_ifAsgI <;> first | walk_at "any" | exact rfl | skip))
local macro_rules | `(tactic| walk_at "s drop") => `(tactic| (apply sd_drop <;> first | walk_at "any" | exact rfl | skip))
local macro_rules | `(tactic| walk_at "q drop") => `(tactic| (apply sd_seq; apply sd_drop <;> first | walk_at "any" | exact rfl | skip))

/-! ### the best plucks -/
/-- the entry at p lowered by one, those that are 0 left out -/
def lower (s : List Int) (p : Nat) : List Int := dsc ((s.set p (s.getD p 0 - 1)).filter fun x => decide (0 < x))
def bestK (s : List Int) : List Int := lower s 0
def bestR (s : List Int) : List Int := lower s (s.length - 1)
def optD : Option (List Int) → D
  | none => .non
  | some s => dI s
def best (s : List Int) (k : Bool) : Option (List Int) := if k = true then some (bestK s) else if s.length ≤ 1 then none else some (bestR s)
theorem set_eq (s : List Int) {p : Nat} (h : p < s.length) (x : Int) : s.take p ++ [x] ++ s.drop (p + 1) = s.set p x := by
  rw [List.set_eq_take_append_cons_drop, if_pos h]
  simp
theorem lower_szs (s : List Int) (p : Nat) : Szs (lower s p) := ⟨fun x hx => by
  have := (List.mem_filter.mp (dsc_mem.mp hx)).2
  simp at this; omega, dsc_sorted _⟩
theorem lower_len (s : List Int) (p : Nat) : (lower s p).length ≤ s.length := by
  unfold lower
  rw [dsc_length]
  exact Nat.le_trans (List.length_filter_le _ _) (by simp)
theorem filter_sum : ∀ s : List Int, (∀ x ∈ s, 0 ≤ x) → (s.filter fun x => decide (0 < x)).sum = s.sum
  | [], _ => rfl
  | x :: s, h => by
    have ih := filter_sum s fun y hy => h y (List.mem_cons_of_mem _ hy)
    have h0 := h x List.mem_cons_self
    rw [List.filter_cons]
    split
    · simp only [List.sum_cons, ih]
    · rename_i q
      simp at q
      simp only [List.sum_cons, ih]
      omega
theorem set_mem {s : List Int} {p : Nat} {x y : Int} (h : y ∈ s.set p x) : y = x ∨ y ∈ s := by
  rcases List.mem_or_eq_of_mem_set h with h | h
  · exact .inr h
  · exact .inl h
theorem sum_set' : ∀ (s : List Int) (p : Nat) (x : Int), p < s.length → (s.set p x).sum = s.sum - s.getD p 0 + x
  | y :: s, 0, x, _ => by simp; omega
  | y :: s, p + 1, x, h => by
    have ih := sum_set' s p x (by simpa using h)
    simp only [List.set_cons_succ, List.sum_cons, ih, List.getD_cons_succ]
    omega
theorem lower_sum {s : List Int} (h : Szs s) {p : Nat} (hp : p < s.length) : (lower s p).sum = s.sum - 1 := by
  unfold lower
  have h1 : 1 ≤ s.getD p 0 := h.pos _ (getDmem hp)
  rw [dsc_sum, filter_sum, sum_set' s p _ hp]
  · omega
  · intro x hx
    rcases set_mem hx with rfl | hx
    · omega
    · have := h.pos x hx; omega
theorem pos_len {s : List Int} (h : ∀ x ∈ s, 1 ≤ x) : (s.length : Int) ≤ s.sum := by
  induction s with
  | nil => exact Int.le_refl 0
  | cons x s ih =>
    have := ih fun y hy => h y (List.mem_cons_of_mem _ hy)
    have := h x List.mem_cons_self
    simp only [List.length_cons, List.sum_cons]
    omega

/-! ### the numbers: by letters R, in all -/
/-- row of the greater list, row of the lesser one a place to the right -/
def addR (xs ys : List Int) : List Int := (List.range ys.length).foldl (fun r k => r.set (k + 1) (r.getD (k + 1) 0 + ys.getD k 0)) (xs ++ [0])
def lives : List Int → List Bool → Bool
  | _, [] => true
  | s, b :: o => match best s b with
    | none => false
    | some s' => lives s' o
def words : Nat → List (List Bool)
  | 0 => [[]]
  | n + 1 => (words n).map (true :: ·) ++ (words n).map (false :: ·)
def nR (o : List Bool) : Nat := (o.filter (!·)).length
def playedGo (s : List Int) (n : Nat) (ws : List (List Bool)) : List Int := ws.foldl (fun r o => if lives s o = true then r.set (nR o) (r.getD (nR o) 0 + 1) else r) (List.replicate (n + 1) 0)
def played (s : List Int) : List Int := playedGo s s.sum.toNat (words s.sum.toNat)
def triGo : Nat → List Int
  | 0 => [1]
  | n + 1 => [1] ++ (List.range n).map (fun j => (triGo n).getD j 0 + (triGo n).getD (j + 1) 0) ++ [1]
def pairGo (r : List Int) (low : Int) (n : Nat) : List Int := (List.range n).foldl (fun d k => if (((k : Nat) : Int) + 1) ≤ low then d ++ [r.getD (k + 1) 0 - r.getD k 0] else d ++ [0]) [1]
def pair (r : List Int) (low : Int) : List Int := pairGo r low (r.length - 1)
theorem triGo_len : ∀ n, (triGo n).length = n + 1
  | 0 => rfl
  | n + 1 => by simp [triGo]
theorem words_len : ∀ n, (words n).length = 2 ^ n
  | 0 => rfl
  | n + 1 => by simp [words, words_len n, Nat.pow_succ]; omega
theorem words_in : ∀ n, ∀ o ∈ words n, o.length = n
  | 0, o, h => by simp [words] at h; subst h; rfl
  | n + 1, o, h => by
    unfold words at h
    rcases List.mem_append.mp h with h | h
    all_goals
      obtain ⟨p, hp, rfl⟩ := List.mem_map.mp h
      simp [words_in n p hp]

section
variable {P : Program} {w : World} {K : PySem.W.Frag} {mg : Str → Option Value} {base : Heap} {a : Adr}
def RLower (ds : List D) (d : D) : Prop := ∃ (s : List Int) (p : Nat), ds = [dI s, .int (p : Int)] ∧ p < s.length ∧ s.length ≤ 1000 ∧ d = dI (lower s p)
theorem ok_lower (T : Txt K mg a) : FnOk P w K mg base CX0 1 a.a_lower a.d_lower ["_law_sizes", "_law_place"] (NewSp RLower) := by
  refine fn_new T.F_lower sc_lower (fun ds d ⟨_, _, e, _⟩ => by rw [e]; rfl) (by decide) fun cdv A outer s H E hr => ⟨_, (pss_cons (ps_set (i := 2) sc_lower.nd rfl (by first | exact Or.inl rfl | exact Or.inr rfl) (pe_op op_addA (pe_op op_addA (pe_slice (slK (K := K)) (pv 0) po_none (po_some (pv 1))) (pe_lst (pa_cons (pe_op op_sub (pe_ix (ixK (K := K)) (pv 0) (pv 1) (fun _ _ => rfl)) pe_int) pa_nil))) (pe_slice (slK (K := K)) (pv 0) (po_some (pe_op op_addA (pv 1) pe_int)) po_none))) (pss_one (ps_ret (pe_callBK (sortedRevK (K := K) (b := true)) (by rfl) T.z_sorted bt_sorted (pa_cons (pe_lc (own := [("_law_entry", 3)]) rfl sc_lower.nd (seqK (K := K) (pv 2)) (blkOk_by rfl) (fun _ _ _ _ _ => (pg_name (i := 3) sc_lower.nd rfl (by first | exact Or.inl rfl | exact Or.inr rfl))) (fun _ _ _ _ _ => (pts_one (pt_cmpR op_gt (pv 3) pe_int (nomark _)))) (fun _ _ _ _ _ => (pv 3))) pa_nil) (pk_cons pe_bl pk_nil))))), ?_⟩
  rintro ds d ⟨s, p, rfl, hp, hl, rfl⟩
  have e1 : cutD s none (some (p : Int)) ++ [s.getD p 0 - 1] ++ cutD s (some ((p : Int) + 1)) none = s.set p (s.getD p 0 - 1) := by
    rw [cut_to, show (p : Int) + 1 = ((p + 1 : Nat) : Int) from by omega, cut_from]
    exact set_eq s hp _
  refine sd_seq (sd_asgN (d := dI (s.set p (s.getD p 0 - 1))) (EvN.of (en_catT (f := D.int) (en_catT (f := D.int) (en_slT (f := D.int) (ev_var rfl).rd eo_none (eo_some (ev_var rfl))).dt.rd
    ((EvN.of (en_lst (ea_cons (ev_sub (ev_ixI (ev_var rfl).rd (ev_var rfl) (by omega)) ev_int) ea_nil) (by show 1 ≤ sizeLine; decide)) (show D.lst _ = dI [s.getD p 0 - 1] from rfl)).dt.rd) ?_).dt.rd (en_slT (f := D.int) (ev_var rfl).rd (eo_some (ev_add (ev_var rfl) ev_int)) eo_none).dt.rd ?_) (by rw [e1])) ?_)
  · rw [cut_to]; simp; omega
  · rw [cut_to, show (p : Int) + 1 = ((p + 1 : Nat) : Int) from by omega, cut_from]; simp; omega
  refine sd_retN (en_sortedR (ns := (s.set p (s.getD p 0 - 1)).filter fun x => decide (0 < x)) ?_) rfl
  exact (en_lcT (f := D.int) (fun x => decide (0 < x)) D.int (eb_own rfl) (by decide) (by rw [List.length_set]; omega) (fun x _ => et_test (ev_gt (ev_var rfl) ev_int)) (fun x _ _ => ev_var rfl)).dt.rd
def RBest (ds : List D) (d : D) : Prop := ∃ (s : List Int) (k : Bool), ds = [dI s, .str (ordS [k])] ∧ (k = true → s ≠ []) ∧ s.length ≤ 1000 ∧ d = optD (best s k)
theorem ok_best (T : Txt K mg a) : FnOk P w K mg base CX0 2 a.a_best a.d_best ["_law_sizes", "_law_letter"] (PureSp RBest) := by
  refine fn_pure T.F_best sc_best (fun ds d ⟨_, _, e, _⟩ => by rw [e]; rfl) (by decide) fun cdv A outer s H E hr => ⟨_, (pss_cons (ps_if (pt_cmpR (eqK (K := K) hr.units) (pv 1) pe_str (nomark _)) (pss_one (ps_ret (pe_call (ok_lower T) (hr.mono (by first | decide | omega)) rfl T.g_lower T.F_lower.kp T.b_lower .nil pass0 (pa_cons (pv 0) (pa_cons pe_int pa_nil))))) pss_nil) (pss_cons (ps_if (pt_cmpR op_le (pe_callB (lenK (K := K)) (by rfl) T.z_len bt_len (pa_cons (pv 0) pa_nil)) pe_int (nomark _)) (pss_one (ps_ret pe_non)) pss_nil) (pss_one (ps_ret (pe_call (ok_lower T) (hr.mono (by first | decide | omega)) rfl T.g_lower T.F_lower.kp T.b_lower .nil pass0 (pa_cons (pv 0) (pa_cons (pe_op op_sub (pe_callB (lenK (K := K)) (by rfl) T.z_len bt_len (pa_cons (pv 0) pa_nil)) pe_int) pa_nil))))))), ?_⟩
  rintro ds d ⟨s, k, rfl, hk, hl, rfl⟩
  refine sd_seq (sd_if (et_test (ev_isK (ev_var rfl))) (fun hb => ?_) fun hb => sd_next ?_)
  · have hne : 0 < s.length := List.length_pos_iff.mpr (hk hb)
    refine sd_retN (en_call (ea_cons (ev_var rfl) (ea_cons ev_int ea_nil)) ⟨s, 0, rfl, hne, hl, rfl⟩) (.inr ?_)
    unfold best
    rw [if_pos hb]; rfl
  refine sd_seq (sd_if (et_test (ev_le (ev_lenL (ev_var rfl).rd) ev_int)) (fun h1 => ?_) fun h1 => sd_next ?_)
  · simp at h1
    refine sd_ret ev_non (.inl ?_)
    unfold best
    rw [if_neg (by rw [hb]; simp), if_pos (by omega)]; rfl
  · simp at h1
    refine sd_retN (en_call (ea_cons (ev_var rfl) (ea_cons (ev_sub (ev_lenL (ev_var rfl).rd) ev_int) ea_nil)) ⟨s, s.length - 1, ?_, by omega, hl, rfl⟩) (.inr ?_)
    · rw [List.length_map, show ((s.length : Int) - 1) = ((s.length - 1 : Nat) : Int) from by omega]
    · unfold best
      rw [if_neg (by rw [hb]; simp), if_neg (by omega)]; rfl
/-- the list before the turn i -/
def afterN (s : List Int) : List Bool → Option (List Int)
  | [] => some s
  | b :: o => (best s b).bind fun s' => afterN s' o
theorem afterN_snoc (s : List Int) (o : List Bool) (b : Bool) : afterN s (o ++ [b]) = (afterN s o).bind fun s' => best s' b := by
  induction o generalizing s with
  | nil => show (best s b).bind _ = _; simp [afterN]
  | cons c o ih =>
    show (best s c).bind (fun s' => afterN s' (o ++ [b])) = ((best s c).bind fun s' => afterN s' o).bind _
    cases best s c with
    | none => rfl
    | some s' => exact ih s'
theorem lives_after (s : List Int) (o : List Bool) : lives s o = (afterN s o).isSome := by
  induction o generalizing s with
  | nil => rfl
  | cons b o ih =>
    unfold lives afterN
    cases best s b with
    | none => rfl
    | some s' => exact ih s'
theorem best_szs {s s' : List Int} {b : Bool} (h : best s b = some s') : Szs s' ∧ s'.length ≤ s.length := by
  unfold best at h
  split at h
  · cases h; exact ⟨lower_szs _ _, lower_len _ _⟩
  · split at h
    · cases h
    · cases h; exact ⟨lower_szs _ _, lower_len _ _⟩
theorem best_sum {s s' : List Int} {b : Bool} (hs : Szs s) (hne : s ≠ []) (h : best s b = some s') : s'.sum = s.sum - 1 := by
  have h0 : 0 < s.length := List.length_pos_iff.mpr hne
  unfold best at h
  split at h
  · cases h; exact lower_sum hs h0
  · split at h
    · cases h
    · cases h; exact lower_sum hs (by omega)
theorem sum_nil {s : List Int} (hs : Szs s) (h : 1 ≤ s.sum) : s ≠ [] := fun e => by rw [e] at h; exact absurd h (by decide)
theorem afterN_in {s : List Int} (hs : Szs s) : ∀ (o : List Bool) {s' : List Int}, (o.length : Int) ≤ s.sum → afterN s o = some s' → Szs s' ∧ s'.length ≤ s.length ∧ s'.sum = s.sum - o.length := by
  intro o
  induction o generalizing s with
  | nil => intro s' _ h; cases h; exact ⟨hs, Nat.le_refl _, by simp⟩
  | cons b o ih =>
    intro s' hl h
    unfold afterN at h
    cases e : best s b with
    | none => rw [e] at h; cases h
    | some s1 =>
      rw [e] at h
      obtain ⟨h1, h2⟩ := best_szs e
      simp only [List.length_cons] at hl
      have hne := sum_nil hs (by omega)
      have h3 := best_sum hs hne e
      obtain ⟨g1, g2, g3⟩ := ih h1 (by omega) h
      exact ⟨g1, by omega, by simp only [List.length_cons]; omega⟩
def RLives (ds : List D) (d : D) : Prop := ∃ (s : List Int) (o : List Bool), ds = [dI s, .str (ordS o), .non] ∧ Szs s ∧ (o.length : Int) ≤ s.sum ∧ s.length ≤ 1000 ∧ d = .bl (lives s o)
theorem ok_fits (T : Txt K mg a) : FnOk P w K mg base CX0 1 a.a_fits a.d_fits ["_law_sizes", "_law_row"] (PureSp fun _ _ => False) := fn_false
theorem ok_lives (T : Txt K mg a) : FnOk P w K mg base CX0 3 a.a_lives a.d_lives ["_law_sizes", "_law_order", "_law_aim"] (PureSp RLives) := by
  refine fn_pure T.F_lives sc_lives (fun ds d ⟨_, _, e, _⟩ => by rw [e]; rfl) (by decide) fun cdv A outer s H E hr => ⟨_, (pss_cons (ps_set (i := 3) sc_lives.nd rfl (by first | exact Or.inl rfl | exact Or.inr rfl) (pe_callTy (listK (K := K)) (by rfl) T.z_list bt_list (pa_cons (pv 0) pa_nil))) (pss_cons (ps_for PassesOwn.never rfl (seqK (K := K) (pv 1)) (pg_name (i := 4) sc_lives.nd rfl (by first | exact Or.inl rfl | exact Or.inr rfl)) (pss_cons (ps_set (i := 3) sc_lives.nd rfl (by first | exact Or.inl rfl | exact Or.inr rfl) (pe_call (ok_best T) (hr.mono (by first | decide | omega)) rfl T.g_best T.F_best.kp T.b_best .nil pass0 (pa_cons (pv 3) (pa_cons (pv 4) pa_nil)))) (pss_one (ps_if (pt_cmpR op_isA (pv 3) pe_non (nomark _)) (pss_one (ps_ret pe_bl)) pss_nil)))) (pss_one (ps_ret (pe_or (pe_cmpR op_isA (pv 2) pe_non (nomark _)) (pe_one (pe_call (ok_fits T) (hr.mono (by first | decide | omega)) rfl T.g_fits T.F_fits.kp T.b_fits .nil pass0 (pa_cons (pv 3) (pa_cons (pv 2) pa_nil))))))))), ?_⟩
  rintro ds d ⟨s, o, rfl, hs, ho, hl, rfl⟩
  walk_at "q new"
  refine sd_freeze 3 rfl ?_
  refine sd_seq (sd_forO (ev_var rfl) (fun i Γ' => ∃ z s', afterN s (o.take i) = some s' ∧ Γ' = [.dat (dI s), .dat (.str (ordS o)), .dat .non, .dat (dI s'), z]) ⟨_, s, rfl, rfl⟩ ?_ ?_)
  · rintro i hi Γ' ⟨z, s', e, rfl⟩
    have hol : (o.take i).length = i := by rw [List.length_take]; omega
    obtain ⟨g1, g2, g3⟩ := afterN_in hs (o.take i) (by omega) e
    have hne : s' ≠ [] := sum_nil g1 (by omega)
    have e2 : afterN s (o.take (i + 1)) = best s' o[i] := by
      rw [List.take_succ, List.getElem?_eq_getElem hi]
      show afterN s (o.take i ++ [o[i]]) = _
      rw [afterN_snoc, e]; rfl
    refine sd_seq (sd_asg (ev_call (ea_cons (ev_var rfl) (ea_cons (ev_var rfl) ea_nil)) ⟨s', o[i], rfl, fun _ => hne, by omega, rfl⟩) ?_)
    refine sd_if (et_test (ev_isN (ev_var rfl).rd)) (fun hb => ?_) fun hb => sd_next ?_
    · refine sd_ret ev_bl (.inl ?_)
      have : best s' o[i] = none := by
        cases q : best s' o[i] with
        | none => rfl
        | some u => rw [q] at hb; cases hb
      have h0 : afterN s o = none := by
        have h1 : ∀ (o1 o2 : List Bool) (s : List Int), afterN s o1 = none → afterN s (o1 ++ o2) = none := by
          intro o1 o2
          induction o1 with
          | nil => intro s h; cases h
          | cons c o1 ih =>
            intro s h
            unfold afterN at h
            show (best s c).bind (fun s' => afterN s' (o1 ++ o2)) = none
            cases q : best s c with
            | none => rfl
            | some u => rw [q] at h; exact ih u h
        have := h1 (o.take (i + 1)) (o.drop (i + 1)) s (e2.trans this)
        rwa [List.take_append_drop] at this
      rw [lives_after, h0]; rfl
    · cases q : best s' o[i] with
      | none => rw [q] at hb; cases hb
      | some u => exact ⟨.dat (.str (ordS [o[i]])), u, e2.trans q, rfl⟩
  · rintro Γ' ⟨z, s', e, rfl⟩
    rw [List.take_length] at e
    refine sd_ret (ev_orV (ev_isN (ev_var rfl).rd) (b := false) (fun h => by cases h)) (.inl ?_)
    rw [lives_after, e]; rfl
def RWords (ds : List D) (d : D) : Prop := ∃ n : Nat, ds = [.int (n : Int)] ∧ n ≤ 18 ∧ d = .lst ((words n).map fun o => .str (ordS o))
theorem ok_words (T : Txt K mg a) : FnOk P w K mg base CX0 1 a.a_words a.d_words ["_law_turns"] (NewSp RWords) := by
  refine fn_new T.F_words sc_words (fun ds d ⟨_, e, _⟩ => by rw [e]; rfl) (by decide) fun cdv A outer s H E hr => ⟨_, (pss_cons (ps_set (i := 1) sc_words.nd rfl (by first | exact Or.inl rfl | exact Or.inr rfl) (pe_lst (pa_cons pe_str pa_nil))) (pss_cons (ps_for PassesOwn.never rfl (pi_range1 rfl T.z_range (pa_cons (pv 0) pa_nil)) (pg_name (i := 2) sc_words.nd rfl (by first | exact Or.inl rfl | exact Or.inr rfl)) (pss_one (ps_set (i := 1) sc_words.nd rfl (by first | exact Or.inl rfl | exact Or.inr rfl) (pe_op op_addA (pe_lc (own := [("_law_word", 3)]) rfl sc_words.nd (seqK (K := K) (pv 1)) (blkOk_by rfl) (fun _ _ _ _ _ => (pg_name (i := 3) sc_words.nd rfl (by first | exact Or.inl rfl | exact Or.inr rfl))) (fun _ _ _ _ _ => pts_nil) (fun _ _ _ _ _ => (pe_op op_addA pe_str (pv 3)))) (pe_lc (own := [("_law_word", 3)]) rfl sc_words.nd (seqK (K := K) (pv 1)) (blkOk_by rfl) (fun _ _ _ _ _ => (pg_name (i := 3) sc_words.nd rfl (by first | exact Or.inl rfl | exact Or.inr rfl))) (fun _ _ _ _ _ => pts_nil) (fun _ _ _ _ _ => (pe_op op_addA pe_str (pv 3)))))))) (pss_one (ps_ret (pv 1))))), ?_⟩
  rintro ds d ⟨n, rfl, hn, rfl⟩
  refine sd_seq (sd_asgN (d := .lst ((words 0).map fun o => .str (ordS o))) ((en_lst (ea_cons ev_str ea_nil) (by show 1 ≤ sizeLine; decide)).of (by rw [ordS_nil]; rfl)) ?_)
  refine sd_seq (sd_forR (ev_var rfl) (by omega) (fun i Γ' => ∃ z z', Γ' = [.dat (.int (n : Int)), .own (.lst ((words i).map fun o => .str (ordS o))), z, z']) ⟨_, _, rfl⟩ ?_ ?_)
  · rintro i hi Γ' ⟨z, z', rfl⟩
    have hp : (words i).length ≤ 2 ^ 18 := by rw [words_len]; exact Nat.pow_le_pow_right (by decide) (by omega)
    have hp' : (2 : Nat) ^ 18 = 262144 := by decide
    have half : ∀ (b : Bool) (z : Str), z = ordS [b] → EvN (tLc (iSeq K (tVar 1)) (gName 3) tYes (tOp rAddA (tC (.str z)) (tVar 3)) [3]) [.dat (.int (n : Int)), .own (.lst ((words i).map fun o => .str (ordS o))), .dat (.int (i : Int)), z'] (.lst (((words i).map (b :: ·)).map fun o => .str (ordS o))) := fun b z hz => by
      refine EvN.of (en_lcM (f := fun o => .str (ordS o)) (fun o => .str (ordS (b :: o))) (eb_own rfl) (by decide) (by omega) fun o ho => ?_) (by rw [List.map_map]; rfl)
      have := words_in i o ho
      refine (ev_addS ev_str (ev_var rfl) ?_).of ?_
      · rw [hz, ordS_len, ordS_len, this]; simp; omega
      · rw [hz, ordS_app]; rfl
    refine sd_asgN (d := .lst ((words (i + 1)).map fun o => .str (ordS o))) (EvN.of (en_catT (f := fun o => D.str (ordS o)) (half true _ ordS_K).dt.rd (half false _ ordS_R).dt.rd ?_) rfl) ⟨_, _, rfl⟩
    simp; omega
  · rintro Γ' ⟨z, z', rfl⟩
    exact sd_retO rfl (by simp)
end
end Kt
namespace Kt
open PySem PySem.Spec L2 Dl
local macro_rules | `(tactic| walk_at "side") => `(tactic| first
  | exact cpow18
  | (simp only [List.length_cons, List.length_nil]; decide)
  | ((fail_if_success (with_reducible apply isEvD)); (fail_if_success (with_reducible apply isEvB)); (fail_if_success (with_reducible apply isEvN)); (fail_if_success (with_reducible apply isEvA)); (fail_if_success (with_reducible apply isEvAB)); (fail_if_success (with_reducible apply isEvT)); (fail_if_success (with_reducible apply isEvO)); (fail_if_success (intro _; (with_reducible apply isEvD))); (fail_if_success (intro _; (with_reducible apply isEvT)))))
local macro_rules | `(tactic| walk_at "evB") => `(tactic| first
  | ((with_reducible apply eb_own) <;> exact rfl)
  | ((with_reducible apply EvD.rd) <;> first | walk_at "any" | walk_at "side"))
local macro_rules | `(tactic| walk_at "evA") => `(tactic| first
  | with_reducible exact ea_nil
  | ((with_reducible apply ea_cons) <;> first | walk_at "any" | walk_at "side"))
local macro_rules | `(tactic| walk_at "evAB") => `(tactic| first
  | with_reducible exact eab_nil
  | ((with_reducible apply eab_cons) <;> first | walk_at "any" | walk_at "side"))
local macro_rules | `(tactic| walk_at "eo") => `(tactic| first
  | with_reducible exact eo_none
  | ((with_reducible apply eo_some) <;> first | walk_at "any" | walk_at "side"))
local macro_rules | `(tactic| walk_at "evN") => `(tactic| first
  | ((with_reducible apply en_lst) <;> first | walk_at "any" | walk_at "side")
  | ((with_reducible apply en_list) <;> first | walk_at "any" | walk_at "side")
  | ((with_reducible apply en_listT) <;> first | walk_at "any" | walk_at "side")
  | ((with_reducible apply en_sorted) <;> first | walk_at "any" | walk_at "side")
  | ((with_reducible apply en_sortedR) <;> first | walk_at "any" | walk_at "side")
  | ((with_reducible apply en_rev) <;> first | walk_at "any" | walk_at "side")
  | ((with_reducible apply en_sl) <;> first | walk_at "any" | walk_at "side")
  | ((with_reducible apply en_cat) <;> first | walk_at "any" | walk_at "side")
  | ((with_reducible apply en_rep1) <;> first | walk_at "any" | walk_at "side")
  | ((with_reducible apply en_call) <;> first | walk_at "any" | walk_at "side"))
local macro_rules | `(tactic| walk_at "ev") => `(tactic| first
  | ((with_reducible apply ev_var) <;> exact rfl)
  | with_reducible exact ev_int
  | with_reducible exact ev_str
  | with_reducible exact ev_bl
  | with_reducible exact ev_non
  | ((with_reducible apply ev_intI) <;> first | walk_at "any" | walk_at "side")
  | ((with_reducible apply ev_add) <;> first | walk_at "any" | walk_at "side")
  | ((with_reducible apply ev_sub) <;> first | walk_at "any" | walk_at "side")
  | ((with_reducible apply ev_mul) <;> first | walk_at "any" | walk_at "side")
  | ((with_reducible apply ev_mod) <;> first | walk_at "any" | walk_at "side")
  | ((with_reducible apply ev_fdiv) <;> first | walk_at "any" | walk_at "side")
  | ((with_reducible apply ev_pow) <;> first | walk_at "any" | walk_at "side")
  | ((with_reducible apply ev_lt) <;> first | walk_at "any" | walk_at "side")
  | ((with_reducible apply ev_le) <;> first | walk_at "any" | walk_at "side")
  | ((with_reducible apply ev_gt) <;> first | walk_at "any" | walk_at "side")
  | ((with_reducible apply ev_ge) <;> first | walk_at "any" | walk_at "side")
  | ((with_reducible apply ev_eqI) <;> first | walk_at "any" | walk_at "side")
  | ((with_reducible apply ev_neI) <;> first | walk_at "any" | walk_at "side")
  | ((with_reducible apply ev_eqS) <;> first | walk_at "any" | walk_at "side")
  | ((with_reducible apply ev_neS) <;> first | walk_at "any" | walk_at "side")
  | ((with_reducible apply ev_chainI) <;> first | walk_at "any" | walk_at "side")
  | ((with_reducible apply ev_isN) <;> first | walk_at "any" | walk_at "side")
  | ((with_reducible apply ev_notN) <;> first | walk_at "any" | walk_at "side")
  | ((with_reducible apply ev_neg) <;> first | walk_at "any" | walk_at "side")
  | ((with_reducible apply ev_abs) <;> first | walk_at "any" | walk_at "side")
  | ((with_reducible apply ev_max2) <;> first | walk_at "any" | walk_at "side")
  | ((with_reducible apply ev_min2) <;> first | walk_at "any" | walk_at "side")
  | ((with_reducible apply ev_sum) <;> first | walk_at "any" | walk_at "side")
  | ((with_reducible apply ev_maxL) <;> first | walk_at "any" | walk_at "side")
  | ((with_reducible apply ev_minL) <;> first | walk_at "any" | walk_at "side")
  | ((with_reducible apply ev_lenL) <;> first | walk_at "any" | walk_at "side")
  | ((with_reducible apply ev_lenT) <;> first | walk_at "any" | walk_at "side")
  | ((with_reducible apply ev_lenS) <;> first | walk_at "any" | walk_at "side")
  | ((with_reducible apply ev_inI) <;> first | walk_at "any" | walk_at "side")
  | ((with_reducible apply ev_ninI) <;> first | walk_at "any" | walk_at "side")
  | ((with_reducible apply ev_inB) <;> first | walk_at "any" | walk_at "side")
  | ((with_reducible apply ev_ninB) <;> first | walk_at "any" | walk_at "side")
  | ((with_reducible apply ev_ixI) <;> first | walk_at "any" | walk_at "side")
  | ((with_reducible apply ev_tup) <;> first | walk_at "any" | walk_at "side")
  | ((with_reducible apply ev_tuple) <;> first | walk_at "any" | walk_at "side")
  | ((with_reducible apply ev_andV) <;> first | walk_at "any" | walk_at "side")
  | ((with_reducible apply ev_orV) <;> first | walk_at "any" | walk_at "side")
  | ((with_reducible apply ev_notV) <;> first | walk_at "any" | walk_at "side")
  | ((with_reducible apply ev_cell) <;> first | exact rfl | walk_at "any" | decide)
  | ((with_reducible apply ev_call) <;> first | walk_at "any" | walk_at "side")
  | ((with_reducible apply EvN.dt) <;> first | walk_at "any" | walk_at "side"))
local macro_rules | `(tactic| walk_at "et") => `(tactic| first
  | ((with_reducible apply et_not) <;> first | walk_at "any" | walk_at "side")
  | ((with_reducible apply et_and) <;> first | walk_at "any" | walk_at "side")
  | ((with_reducible apply et_or) <;> first | walk_at "any" | walk_at "side")
  | ((with_reducible apply et_test) <;> first | walk_at "any" | walk_at "side")
  | ((with_reducible apply et_B) <;> first | walk_at "any" | walk_at "side"))
local macro_rules | `(tactic| walk_at "any") => `(tactic| first
  | ((with_reducible apply isEvD); walk_at "ev")
  | ((with_reducible apply isEvB); walk_at "evB")
  | ((with_reducible apply isEvT); walk_at "et")
  | ((with_reducible apply isEvA); walk_at "evA")
  | ((with_reducible apply isEvN); walk_at "evN")
  | ((with_reducible apply isEvAB); walk_at "evAB")
  | ((with_reducible apply isEvO); walk_at "eo")
  | (intro _; walk_at "any"))
local macro_rules | `(tactic| walk_at "s if") => `(tactic| (apply sd_if <;> first | walk_at "any" | exact rfl | skip))
local macro_rules | `(tactic| walk_at "q if") => `(tactic| (apply sd_seq; apply sd_if <;> first | walk_at "any" | exact rfl | skip))
local macro_rules | `(tactic| walk_at "s asg") => `(tactic| (apply sd_asg <;> first | walk_at "any" | exact rfl | skip))
local macro_rules | `(tactic| walk_at "q asg") => `(tactic| (apply sd_seq; apply sd_asg <;> first | walk_at "any" | exact rfl | skip))
local macro_rules | `(tactic| walk_at "s new") => `(tactic| (apply sd_asgN <;> first | walk_at "any" | exact rfl | skip))
local macro_rules | `(tactic| walk_at "q new") => `(tactic| (apply sd_seq; apply sd_asgN <;> first | walk_at "any" | exact rfl | skip))
local macro_rules | `(tactic| walk_at "s app") => `(tactic| (apply sd_app <;> first | walk_at "any" | exact rfl | skip))
local macro_rules | `(tactic| walk_at "q app") => `(tactic| (apply sd_seq; apply sd_app <;> first | walk_at "any" | exact rfl | skip))
local macro_rules | `(tactic| walk_at "s aug") => `(tactic| (apply sd_aug <;> first | walk_at "any" | exact rfl | skip))
local macro_rules | `(tactic| walk_at "q aug") => `(tactic| (apply sd_seq; apply sd_aug <;> first | walk_at "any" | exact rfl | skip))
local macro_rules | `(tactic| walk_at "s ret") => `(tactic| (apply sd_ret <;> first | walk_at "any" | exact rfl | skip))
local macro_rules | `(tactic| walk_at "q ret") => `(tactic| (apply sd_seq; apply sd_ret <;> first | walk_at "any" | exact rfl | skip))
local macro_rules | `(tactic| walk_at "s retN") => `(tactic| (apply sd_retN <;> first | walk_at "any" | exact rfl | skip))
local macro_rules | `(tactic| walk_at "q retN") => `(tactic| (apply sd_seq; apply sd_retN <;> first | walk_at "any" | exact rfl | skip))
local macro_rules | `(tactic| walk_at "s ifAsg") => `(tactic| (apply sd_ifAsg <;> first | walk_at "any" | exact rfl | skip))
local macro_rules | `(tactic| walk_at "q ifAsg") => `(tactic| (apply sd_seq; apply sd_ifAsg <;> first | walk_at "any" | exact rfl | skip))
local macro_rules | `(tactic| walk_at "s ifAsgI") => `(tactic| (apply sd_ifAsgI <;> first | walk_at "any" | exact rfl | skip))
local macro_rules | `(tactic| walk_at "q ifAsgI") => `(tactic| (apply sd_seq; apply sd_ifAsgI <;> first | walk_at "any" | exact rfl | skip))
local macro_rules | `(tactic| walk_at "s drop") => `(tactic| (apply sd_drop <;> first | walk_at "any" | exact rfl | skip))
local macro_rules | `(tactic| walk_at "q drop") => `(tactic| (apply sd_seq; apply sd_drop <;> first | walk_at "any" | exact rfl | skip))


theorem pairGo_len (r : List Int) (low : Int) : ∀ n, (pairGo r low n).length = n + 1
  | 0 => rfl
  | n + 1 => by
    unfold pairGo
    rw [List.range_succ, List.foldl_append]
    have ih := pairGo_len r low n
    unfold pairGo at ih
    simp only [List.foldl_cons, List.foldl_nil]
    split <;> (rw [List.length_append, ih]; rfl)
theorem playedGo_len (s : List Int) (n : Nat) (ws : List (List Bool)) : (playedGo s n ws).length = n + 1 := by
  unfold playedGo
  have : ∀ (ws : List (List Bool)) (r : List Int), (ws.foldl (fun r o => if lives s o = true then r.set (nR o) (r.getD (nR o) 0 + 1) else r) r).length = r.length := by
    intro ws
    induction ws with
    | nil => intro r; rfl
    | cons o ws ih =>
      intro r
      rw [List.foldl_cons, ih]
      split <;> simp
  rw [this]
  simp
theorem playedGo_snoc (s : List Int) (n : Nat) (ws : List (List Bool)) (o : List Bool) : playedGo s n (ws ++ [o]) = if lives s o = true then (playedGo s n ws).set (nR o) ((playedGo s n ws).getD (nR o) 0 + 1) else playedGo s n ws := by
  unfold playedGo
  rw [List.foldl_append]; rfl
theorem nR_le (o : List Bool) : nR o ≤ o.length := List.length_filter_le _ _
section
variable {P : Program} {w : World} {K : PySem.W.Frag} {mg : Str → Option Value} {base : Heap} {a : Adr}
def RPlayed (ds : List D) (d : D) : Prop := ∃ s : List Int, ds = [dI s] ∧ Szs s ∧ s.sum ≤ 18 ∧ d = dI (played s)
theorem ok_played (T : Txt K mg a) : FnOk P w K mg base CX0 4 a.a_played a.d_played ["_law_sizes"] (NewSp RPlayed) := by
  refine fn_new T.F_played sc_played (fun ds d ⟨_, e, _⟩ => by rw [e]; rfl) (by decide) fun cdv A outer s H E hr => ⟨_, (pss_cons (ps_set (i := 1) sc_played.nd rfl (by first | exact Or.inl rfl | exact Or.inr rfl) (pe_op op_mulA (pe_lst (pa_cons pe_int pa_nil)) (pe_op op_addA (pe_callB (sumK (K := K) rfl) (by rfl) T.z_sum bt_sum (pa_cons (pv 0) pa_nil)) pe_int))) (pss_cons (ps_for PassesOwn.never rfl (seqK (K := K) (pe_call (ok_words T) (hr.mono (by first | decide | omega)) rfl T.g_words T.F_words.kp T.b_words .nil pass0 (pa_cons (pe_callB (sumK (K := K) rfl) (by rfl) T.z_sum bt_sum (pa_cons (pv 0) pa_nil)) pa_nil))) (pg_name (i := 2) sc_played.nd rfl (by first | exact Or.inl rfl | exact Or.inr rfl)) (pss_one (ps_if (pt_val (pe_call (ok_lives T) (hr.mono (by first | decide | omega)) rfl T.g_lives T.F_lives.kp T.b_lives .nil pass0 (pa_cons (pv 0) (pa_cons (pv 2) (pa_cons pe_non pa_nil))))) (pss_cons (ps_set (i := 3) sc_played.nd rfl (by first | exact Or.inl rfl | exact Or.inr rfl) (bmK (K := K) PySem.F.plainAttrs_str PySem.F.slot_str_count PySem.F.type_str_count mt_count (pv 2) (pa_cons pe_str pa_nil))) (pss_one (ps_asg (pe_op op_addA (pe_ix (ixK (K := K)) (pv 1) (pv 3) (fun _ _ => rfl)) pe_int) (pg_sub (pv 1) (pv 3) set_list)))) pss_nil))) (pss_one (ps_ret (pv 1))))), ?_⟩
  rintro ds d ⟨s, rfl, hs, hS, rfl⟩
  have hp := pos_len hs.pos
  have hn : s.sum = (s.sum.toNat : Int) := by omega
  refine sd_seq (sd_asgN (d := dI (playedGo s s.sum.toNat [])) (EvN.of (en_rep1 (en_lst (ea_cons ev_int ea_nil) (by show 1 ≤ sizeLine; decide)).dt.rd (ev_add (ev_sum (ev_var rfl).rd) ev_int) (by omega)) ?_) ?_)
  · show D.lst _ = D.lst _
    rw [show (s.sum + 1).toNat = s.sum.toNat + 1 from by omega]
    simp [playedGo]
  refine sd_seq (sd_forT (f := fun o => D.str (ordS o)) (xs := words s.sum.toNat) (ev_callN (ea_cons (ev_sum (ev_var rfl).rd) ea_nil) ⟨s.sum.toNat, by rw [← hn], by omega, rfl⟩)
    (fun i Γ' => ∃ z z', Γ' = [.dat (dI s), .own (dI (playedGo s s.sum.toNat ((words s.sum.toNat).take i))), z, z']) ⟨_, _, rfl⟩ ?_ ?_)
  · rintro i hi Γ' ⟨z, z', rfl⟩
    have hw := words_in s.sum.toNat _ (List.getElem_mem hi)
    have hl := playedGo_len s s.sum.toNat ((words s.sum.toNat).take i)
    have hsn := playedGo_snoc s s.sum.toNat ((words s.sum.toNat).take i) (words s.sum.toNat)[i]
    have hnr := nR_le (words s.sum.toNat)[i]
    have et : (words s.sum.toNat).take (i + 1) = (words s.sum.toNat).take i ++ [(words s.sum.toNat)[i]] := by rw [List.take_succ, List.getElem?_eq_getElem hi]; rfl
    generalize (words s.sum.toNat)[i] = o at *
    have hc : ∀ {te : TE} {Γ : Ga}, EvD te Γ (.int (((o.filter (· == false)).length : Nat) : Int)) → EvD te Γ (.int ((nR o : Nat) : Int)) := fun h => h.of (by
      unfold nR
      have e : (fun x : Bool => x == false) = (fun x => !x) := by funext x; cases x <;> rfl
      rw [e])
    refine sd_if (et_B (ev_call (ea_cons (ev_var rfl) (ea_cons (ev_var rfl) (ea_cons ev_non ea_nil))) ⟨s, o, rfl, hs, by omega, by omega, rfl⟩)) (fun hb => ?_) fun hb => sd_next ?_
    · refine sd_seq (sd_asg (d := .int ((nR o : Nat) : Int)) (hc (ev_countO (ev_var rfl) (ev_str.of (by rw [ordS_R])))) ?_)
      refine sd_setL (j := nR o) rfl (ev_add (ev_ixI (eb_own rfl) (ev_var rfl) (by omega)) ev_int) (ev_var rfl) (ixN_nat (by rw [List.length_map]; omega)) ⟨.dat (.str (ordS o)), .dat (.int ((nR o : Nat) : Int)), ?_⟩
      rw [et, hsn, if_pos hb]
      simp [dI, List.map_set]
    · exact ⟨_, z', by rw [et, hsn, if_neg (by rw [hb]; simp)]; rfl⟩
  · rintro Γ' ⟨z, z', rfl⟩
    rw [List.take_length]
    exact sd_retO rfl rfl
def RTri (ds : List D) (d : D) : Prop := ∃ n : Nat, ds = [.int (n : Int)] ∧ n ≤ 1000 ∧ d = dI (triGo n)
theorem ok_triangle (T : Txt K mg a) : FnOk P w K mg base CX0 1 a.a_triangle a.d_triangle ["_law_size"] (NewSp RTri) := by
  refine fn_new T.F_triangle sc_triangle (fun ds d ⟨_, e, _⟩ => by rw [e]; rfl) (by decide) fun cdv A outer s H E hr => ⟨_, (pss_cons (ps_set (i := 1) sc_triangle.nd rfl (by first | exact Or.inl rfl | exact Or.inr rfl) (pe_lst (pa_cons pe_int pa_nil))) (pss_cons (ps_for PassesOwn.never rfl (pi_range1 rfl T.z_range (pa_cons (pv 0) pa_nil)) (pg_name (i := 2) sc_triangle.nd rfl (by first | exact Or.inl rfl | exact Or.inr rfl)) (pss_one (ps_set (i := 1) sc_triangle.nd rfl (by first | exact Or.inl rfl | exact Or.inr rfl) (pe_op op_addA (pe_op op_addA (pe_lst (pa_cons pe_int pa_nil)) (pe_lc (own := [("_law_j", 3)]) rfl sc_triangle.nd (pi_range1 rfl T.z_range (pa_cons (pv 2) pa_nil)) (blkOk_by rfl) (fun _ _ _ _ _ => (pg_name (i := 3) sc_triangle.nd rfl (by first | exact Or.inl rfl | exact Or.inr rfl))) (fun _ _ _ _ _ => pts_nil) (fun _ _ _ _ _ => (pe_op op_addA (pe_ix (ixK (K := K)) (pv 1) (pv 3) (fun _ _ => rfl)) (pe_ix (ixK (K := K)) (pv 1) (pe_op op_addA (pv 3) pe_int) (fun _ _ => rfl)))))) (pe_lst (pa_cons pe_int pa_nil)))))) (pss_one (ps_ret (pv 1))))), ?_⟩
  rintro ds d ⟨n, rfl, hn, rfl⟩
  refine sd_seq (sd_asgN (d := dI (triGo 0)) (EvN.of (en_lst (ea_cons ev_int ea_nil) (by show 1 ≤ sizeLine; decide)) rfl) ?_)
  refine sd_seq (sd_forR (ev_var rfl) (by omega) (fun i Γ' => ∃ z z', Γ' = [.dat (.int (n : Int)), .own (dI (triGo i)), z, z']) ⟨_, _, rfl⟩ ?_ ?_)
  · rintro i hi Γ' ⟨z, z', rfl⟩
    have hl := triGo_len i
    refine sd_asgN (d := dI (triGo (i + 1))) (EvN.of (en_catT (f := D.int) (en_catT (f := D.int) (EvN.of (en_lst (ea_cons ev_int ea_nil) (by show 1 ≤ sizeLine; decide)) (show D.lst _ = dI [1] from rfl)).dt.rd
      (EvN.of (en_lcR (n := i) (fun j => .int ((triGo i).getD j 0 + (triGo i).getD (j + 1) 0)) (ev_var rfl) (by decide) (by omega) fun j hj => ?_) (show D.lst _ = dI ((List.range i).map fun j => (triGo i).getD j 0 + (triGo i).getD (j + 1) 0) from ?_)).dt.rd ?_).dt.rd (EvN.of (en_lst (ea_cons ev_int ea_nil) (by show 1 ≤ sizeLine; decide)) (show D.lst _ = dI [1] from rfl)).dt.rd ?_) rfl) ⟨_, _, rfl⟩
    · refine ev_add (ev_ixI (i := (j : Int)) (eb_own rfl) (ev_var rfl) (by omega)) ((ev_ixI (i := (j : Int) + 1) (eb_own rfl) (ev_add (ev_var rfl) ev_int) (by omega)).of ?_)
      rw [show ((j : Int) + 1).toNat = j + 1 from by omega]
    · simp [dI]
    · simp; omega
    · simp; omega
  · rintro Γ' ⟨z, z', rfl⟩
    exact sd_retO rfl (by simp)
def RPair (ds : List D) (d : D) : Prop := ∃ (r : List Int) (low : Int), ds = [dI r, .int low] ∧ r ≠ [] ∧ r.length ≤ 1000 ∧ d = dI (pair r low)
theorem ok_pair (T : Txt K mg a) : FnOk P w K mg base CX0 1 a.a_pair a.d_pair ["_law_row", "_law_low"] (NewSp RPair) := by
  refine fn_new T.F_pair sc_pair (fun ds d ⟨_, _, e, _⟩ => by rw [e]; rfl) (by decide) fun cdv A outer s H E hr => ⟨_, (pss_cons (ps_set (i := 2) sc_pair.nd rfl (by first | exact Or.inl rfl | exact Or.inr rfl) (pe_lst (pa_cons pe_int pa_nil))) (pss_cons (ps_for PassesOwn.never rfl (pi_range2 rfl T.z_range (pa_cons pe_int (pa_cons (pe_callB (lenK (K := K)) (by rfl) T.z_len bt_len (pa_cons (pv 0) pa_nil)) pa_nil))) (pg_name (i := 3) sc_pair.nd rfl (by first | exact Or.inl rfl | exact Or.inr rfl)) (pss_one (ps_if (pt_cmpR op_le (pv 3) (pv 1) (nomark _)) (pss_one (ps_expr (bmK (K := K) PySem.F.plainAttrs_list PySem.F.slot_list_append PySem.F.type_list_append mt_append (pv 2) (pa_cons (pe_op op_sub (pe_ix (ixK (K := K)) (pv 0) (pv 3) (fun _ _ => rfl)) (pe_ix (ixK (K := K)) (pv 0) (pe_op op_sub (pv 3) pe_int) (fun _ _ => rfl))) pa_nil)))) (pss_one (ps_expr (bmK (K := K) PySem.F.plainAttrs_list PySem.F.slot_list_append PySem.F.type_list_append mt_append (pv 2) (pa_cons pe_int pa_nil))))))) (pss_one (ps_ret (pv 2))))), ?_⟩
  rintro ds d ⟨r, low, rfl, h0, hn, rfl⟩
  have h0 : 0 < r.length := List.length_pos_iff.mpr h0
  refine sd_seq (sd_asgN (d := dI (pairGo r low 0)) (EvN.of (en_lst (ea_cons ev_int ea_nil) (by show 1 ≤ sizeLine; decide)) rfl) ?_)
  refine sd_seq (sd_forR2 ev_int (ev_lenL (ev_var rfl).rd) (by rw [List.length_map]; omega) (fun i Γ' => ∃ z, Γ' = [.dat (dI r), .dat (.int low), .own (dI (pairGo r low i)), z]) ⟨_, rfl⟩ ?_ ?_)
  · rintro i hi Γ' ⟨z, rfl⟩
    rw [List.length_map] at hi
    have hl := pairGo_len r low i
    have hs : pairGo r low (i + 1) = if ((i : Int) + 1) ≤ low then pairGo r low i ++ [r.getD (i + 1) 0 - r.getD i 0] else pairGo r low i ++ [0] := by
      unfold pairGo
      rw [List.range_succ, List.foldl_append]; rfl
    refine sd_if (et_test (ev_le (ev_var rfl) (ev_var rfl))) (fun hb => ?_) fun hb => ?_
    · simp at hb
      refine sd_app rfl (ev_sub (ev_ixI (ev_var rfl).rd (ev_var rfl) (by omega)) (ev_ixI (ev_var rfl).rd (ev_sub (ev_var rfl) ev_int) (by omega))) (sz2 (by rw [List.length_map]; omega)) ⟨.dat (.int (1 + (i : Int))), ?_⟩
      rw [hs, if_pos (by omega), show (1 + (i : Int)).toNat = i + 1 from by omega, show (1 + (i : Int) - 1).toNat = i from by omega]
      simp [dI]
    · simp at hb
      refine sd_app rfl ev_int (sz2 (by rw [List.length_map]; omega)) ⟨.dat (.int (1 + (i : Int))), ?_⟩
      rw [hs, if_neg (by omega)]
      simp [dI]
  · rintro Γ' ⟨z, rfl⟩
    refine sd_retO rfl ?_
    rw [List.length_map, show ((r.length : Int) - 1).toNat = r.length - 1 from by omega]
    rfl
end
end Kt
namespace Kt
open PySem PySem.Spec L2 Dl
local macro_rules | `(tactic| walk_at "side") => `(tactic| first
  | exact cpow18
  | (simp only [List.length_cons, List.length_nil]; decide)
  | ((fail_if_success (with_reducible apply isEvD)); (fail_if_success (with_reducible apply isEvB)); (fail_if_success (with_reducible apply isEvN)); (fail_if_success (with_reducible apply isEvA)); (fail_if_success (with_reducible apply isEvAB)); (fail_if_success (with_reducible apply isEvT)); (fail_if_success (with_reducible apply isEvO)); (fail_if_success (intro _; (with_reducible apply isEvD))); (fail_if_success (intro _; (with_reducible apply isEvT)))))
local macro_rules | `(tactic| walk_at "evB") => `(tactic| first
  | ((with_reducible apply eb_own) <;> exact rfl)
  | ((with_reducible apply EvD.rd) <;> first | walk_at "any" | walk_at "side"))
local macro_rules | `(tactic| walk_at "evA") => `(tactic| first
  | with_reducible exact ea_nil
  | ((with_reducible apply ea_cons) <;> first | walk_at "any" | walk_at "side"))
local macro_rules | `(tactic| walk_at "evAB") => `(tactic| first
  | with_reducible exact eab_nil
  | ((with_reducible apply eab_cons) <;> first | walk_at "any" | walk_at "side"))
local macro_rules | `(tactic| walk_at "eo") => `(tactic| first
  | with_reducible exact eo_none
  | ((with_reducible apply eo_some) <;> first | walk_at "any" | walk_at "side"))
local macro_rules | `(tactic| walk_at "evN") => `(tactic| first
  | ((with_reducible apply en_lst) <;> first | walk_at "any" | walk_at "side")
  | ((with_reducible apply en_list) <;> first | walk_at "any" | walk_at "side")
  | ((with_reducible apply en_listT) <;> first | walk_at "any" | walk_at "side")
  | ((with_reducible apply en_sorted) <;> first | walk_at "any" | walk_at "side")
  | ((with_reducible apply en_sortedR) <;> first | walk_at "any" | walk_at "side")
  | ((with_reducible apply en_rev) <;> first | walk_at "any" | walk_at "side")
  | ((with_reducible apply en_sl) <;> first | walk_at "any" | walk_at "side")
  | ((with_reducible apply en_cat) <;> first | walk_at "any" | walk_at "side")
  | ((with_reducible apply en_rep1) <;> first | walk_at "any" | walk_at "side")
  | ((with_reducible apply en_call) <;> first | walk_at "any" | walk_at "side"))
local macro_rules | `(tactic| walk_at "ev") => `(tactic| first
  | ((with_reducible apply ev_var) <;> exact rfl)
  | with_reducible exact ev_int
  | with_reducible exact ev_str
  | with_reducible exact ev_bl
  | with_reducible exact ev_non
  | ((with_reducible apply ev_intI) <;> first | walk_at "any" | walk_at "side")
  | ((with_reducible apply ev_add) <;> first | walk_at "any" | walk_at "side")
  | ((with_reducible apply ev_sub) <;> first | walk_at "any" | walk_at "side")
  | ((with_reducible apply ev_mul) <;> first | walk_at "any" | walk_at "side")
  | ((with_reducible apply ev_mod) <;> first | walk_at "any" | walk_at "side")
  | ((with_reducible apply ev_fdiv) <;> first | walk_at "any" | walk_at "side")
  | ((with_reducible apply ev_pow) <;> first | walk_at "any" | walk_at "side")
  | ((with_reducible apply ev_lt) <;> first | walk_at "any" | walk_at "side")
  | ((with_reducible apply ev_le) <;> first | walk_at "any" | walk_at "side")
  | ((with_reducible apply ev_gt) <;> first | walk_at "any" | walk_at "side")
  | ((with_reducible apply ev_ge) <;> first | walk_at "any" | walk_at "side")
  | ((with_reducible apply ev_eqI) <;> first | walk_at "any" | walk_at "side")
  | ((with_reducible apply ev_neI) <;> first | walk_at "any" | walk_at "side")
  | ((with_reducible apply ev_eqS) <;> first | walk_at "any" | walk_at "side")
  | ((with_reducible apply ev_neS) <;> first | walk_at "any" | walk_at "side")
  | ((with_reducible apply ev_chainI) <;> first | walk_at "any" | walk_at "side")
  | ((with_reducible apply ev_isN) <;> first | walk_at "any" | walk_at "side")
  | ((with_reducible apply ev_notN) <;> first | walk_at "any" | walk_at "side")
  | ((with_reducible apply ev_neg) <;> first | walk_at "any" | walk_at "side")
  | ((with_reducible apply ev_abs) <;> first | walk_at "any" | walk_at "side")
  | ((with_reducible apply ev_max2) <;> first | walk_at "any" | walk_at "side")
  | ((with_reducible apply ev_min2) <;> first | walk_at "any" | walk_at "side")
  | ((with_reducible apply ev_sum) <;> first | walk_at "any" | walk_at "side")
  | ((with_reducible apply ev_maxL) <;> first | walk_at "any" | walk_at "side")
  | ((with_reducible apply ev_minL) <;> first | walk_at "any" | walk_at "side")
  | ((with_reducible apply ev_lenL) <;> first | walk_at "any" | walk_at "side")
  | ((with_reducible apply ev_lenT) <;> first | walk_at "any" | walk_at "side")
  | ((with_reducible apply ev_lenS) <;> first | walk_at "any" | walk_at "side")
  | ((with_reducible apply ev_inI) <;> first | walk_at "any" | walk_at "side")
  | ((with_reducible apply ev_ninI) <;> first | walk_at "any" | walk_at "side")
  | ((with_reducible apply ev_inB) <;> first | walk_at "any" | walk_at "side")
  | ((with_reducible apply ev_ninB) <;> first | walk_at "any" | walk_at "side")
  | ((with_reducible apply ev_ixI) <;> first | walk_at "any" | walk_at "side")
  | ((with_reducible apply ev_tup) <;> first | walk_at "any" | walk_at "side")
  | ((with_reducible apply ev_tuple) <;> first | walk_at "any" | walk_at "side")
  | ((with_reducible apply ev_andV) <;> first | walk_at "any" | walk_at "side")
  | ((with_reducible apply ev_orV) <;> first | walk_at "any" | walk_at "side")
  | ((with_reducible apply ev_notV) <;> first | walk_at "any" | walk_at "side")
  | ((with_reducible apply ev_cell) <;> first | exact rfl | walk_at "any" | decide)
  | ((with_reducible apply ev_call) <;> first | walk_at "any" | walk_at "side")
  | ((with_reducible apply EvN.dt) <;> first | walk_at "any" | walk_at "side"))
local macro_rules | `(tactic| walk_at "et") => `(tactic| first
  | ((with_reducible apply et_not) <;> first | walk_at "any" | walk_at "side")
  | ((with_reducible apply et_and) <;> first | walk_at "any" | walk_at "side")
  | ((with_reducible apply et_or) <;> first | walk_at "any" | walk_at "side")
  | ((with_reducible apply et_test) <;> first | walk_at "any" | walk_at "side")
  | ((with_reducible apply et_B) <;> first | walk_at "any" | walk_at "side"))
local macro_rules | `(tactic| walk_at "any") => `(tactic| first
  | ((with_reducible apply isEvD); walk_at "ev")
  | ((with_reducible apply isEvB); walk_at "evB")
  | ((with_reducible apply isEvT); walk_at "et")
  | ((with_reducible apply isEvA); walk_at "evA")
  | ((with_reducible apply isEvN); walk_at "evN")
  | ((with_reducible apply isEvAB); walk_at "evAB")
  | ((with_reducible apply isEvO); walk_at "eo")
  | (intro _; walk_at "any"))
local macro_rules | `(tactic| walk_at "s if") => `(tactic| (apply sd_if <;> first | walk_at "any" | exact rfl | skip))
local macro_rules | `(tactic| walk_at "q if") => `(tactic| (apply sd_seq; apply sd_if <;> first | walk_at "any" | exact rfl | skip))
local macro_rules | `(tactic| walk_at "s asg") => `(tactic| (apply sd_asg <;> first | walk_at "any" | exact rfl | skip))
local macro_rules | `(tactic| walk_at "q asg") => `(tactic| (apply sd_seq; apply sd_asg <;> first | walk_at "any" | exact rfl | skip))
local macro_rules | `(tactic| walk_at "s new") => `(tactic| (apply sd_asgN <;> first | walk_at "any" | exact rfl | skip))
local macro_rules | `(tactic| walk_at "q new") => `(tactic| (apply sd_seq; apply sd_asgN <;> first | walk_at "any" | exact rfl | skip))
local macro_rules | `(tactic| walk_at "s app") => `(tactic| (apply sd_app <;> first | walk_at "any" | exact rfl | skip))
local macro_rules | `(tactic| walk_at "q app") => `(tactic| (apply sd_seq; apply sd_app <;> first | walk_at "any" | exact rfl | skip))
local macro_rules | `(tactic| walk_at "s aug") => `(tactic| (apply sd_aug <;> first | walk_at "any" | exact rfl | skip))
local macro_rules | `(tactic| walk_at "q aug") => `(tactic| (apply sd_seq; apply sd_aug <;> first | walk_at "any" | exact rfl | skip))
local macro_rules | `(tactic| walk_at "s ret") => `(tactic| (apply sd_ret <;> first | walk_at "any" | exact rfl | skip))
local macro_rules | `(tactic| walk_at "q ret") => `(tactic| (apply sd_seq; apply sd_ret <;> first | walk_at "any" | exact rfl | skip))
local macro_rules | `(tactic| walk_at "s retN") => `(tactic| (apply sd_retN <;> first | walk_at "any" | exact rfl | skip))
local macro_rules | `(tactic| walk_at "q retN") => `(tactic| (apply sd_seq; apply sd_retN <;> first | walk_at "any" | exact rfl | skip))
local macro_rules | `(tactic| walk_at "s ifAsg") => `(tactic| (apply sd_ifAsg <;> first | walk_at "any" | exact rfl | skip))
local macro_rules | `(tactic| walk_at "q ifAsg") => `(tactic| (apply sd_seq; apply sd_ifAsg <;> first | walk_at "any" | exact rfl | skip))
local macro_rules | `(tactic| walk_at "s ifAsgI") => `(tactic| (apply sd_ifAsgI <;> first | walk_at "any" | exact rfl | skip))
local macro_rules | `(tactic| walk_at "q ifAsgI") => `(tactic| (apply sd_seq; apply sd_ifAsgI <;> first | walk_at "any" | exact rfl | skip))
local macro_rules | `(tactic| walk_at "s drop") => `(tactic| (apply sd_drop <;> first | walk_at "any" | exact rfl | skip))
local macro_rules | `(tactic| walk_at "q drop") => `(tactic| (apply sd_seq; apply sd_drop <;> first | walk_at "any" | exact rfl | skip))

section
variable {P : Program} {w : World} {K : PySem.W.Frag} {mg : Str → Option Value} {base : Heap} {a : Adr}
def normal (xs : List Int) : List Int := dsc (xs.filter fun x => !decide (x = 0))
theorem nz {x : Int} (h : 0 ≤ x) : (!decide (x = 0)) = decide (0 < x) := by
  rw [Bool.eq_iff_iff]
  simp
  omega
theorem normal_lower {s : List Int} (hs : ∀ x ∈ s, 1 ≤ x) (p : Nat) (hp : p < s.length) : normal (s.set p (s.getD p 0 - 1)) = lower s p := by
  unfold normal lower
  congr 1
  apply List.filter_congr
  intro x hx
  have h1 : 1 ≤ s.getD p 0 := hs _ (getDmem hp)
  apply nz
  rcases set_mem hx with e | h
  · omega
  · have := hs x h; omega
def RNormal (ds : List D) (d : D) : Prop := ∃ xs : List Int, ds = [dI xs] ∧ xs.length ≤ 1000 ∧ d = dI (normal xs)
theorem ok_normal (T : Txt K mg a) : FnOk P w K mg base CX0 1 a.a_normal a.d_normal ["values"] (NewSp RNormal) := by
  refine fn_new T.F_normal sc_normal (fun ds d ⟨_, e, _⟩ => by rw [e]; rfl) (by decide) fun cdv A outer s H E hr => ⟨_, (pss_one (ps_ret (pe_callBK (sortedRevK (K := K) (b := true)) (by rfl) T.z_sorted bt_sorted (pa_cons (pe_lc (own := [("value", 1)]) rfl sc_normal.nd (seqK (K := K) (pv 0)) (blkOk_by rfl) (fun _ _ _ _ _ => (pg_name (i := 1) sc_normal.nd rfl (by first | exact Or.inl rfl | exact Or.inr rfl))) (fun _ _ _ _ _ => (pts_one (pt_cmpR (neK (K := K) hr.units) (pv 1) pe_int (nomark _)))) (fun _ _ _ _ _ => (pv 1))) pa_nil) (pk_cons pe_bl pk_nil)))), ?_⟩
  rintro ds d ⟨xs, rfl, hl, rfl⟩
  refine sd_retN (en_sortedR (ns := xs.filter fun x => !decide (x = 0)) ?_) rfl
  exact (en_lcT (f := D.int) (fun x => !decide (x = 0)) D.int (ev_var rfl).rd (by decide) (by omega) (fun x _ => et_test (ev_neI (ev_var rfl) ev_int)) (fun x _ _ => ev_var rfl)).dt.rd
def RTake (ds : List D) (d : D) : Prop := ∃ (s : List Int) (p : Nat), ds = [dI s, .int (p : Int)] ∧ Szs s ∧ p < s.length ∧ s.length ≤ 1000 ∧ d = dI (lower s p)
theorem ok_take (T : Txt K mg a) : FnOk P w K mg base CX0 2 a.a_take a.d_take ["sizes", "place"] (NewSp RTake) := by
  refine fn_new T.F_take sc_take (fun ds d ⟨_, _, e, _⟩ => by rw [e]; rfl) (by decide) fun cdv A outer s H E hr => ⟨_, (pss_cons (ps_set (i := 2) sc_take.nd rfl (by first | exact Or.inl rfl | exact Or.inr rfl) (pe_callTy (listK (K := K)) (by rfl) T.z_list bt_list (pa_cons (pv 0) pa_nil))) (pss_cons (ps_augS (pv 2) (pv 1) get_list pe_int ip_sub set_list) (pss_one (ps_ret (pe_call (ok_normal T) (hr.mono (by first | decide | omega)) rfl T.g_normal T.F_normal.kp T.b_normal .nil pass0 (pa_cons (pv 2) pa_nil)))))), ?_⟩
  rintro ds d ⟨s, p, rfl, hs, hp, hl, rfl⟩
  refine sd_seq (sd_asgN (en_list (ev_var rfl).rd) ?_)
  refine sd_seq (sd_augL (g := fun i j => i - j) (b := 1) rfl (ev_var rfl) ev_int (ixN_nat hp) ?_)
  refine sd_retN (en_callB (ds := [dI (s.set p (s.getD p 0 - 1))]) (eab_cons (eb_own rfl) eab_nil) ⟨_, rfl, by rw [List.length_set]; exact hl, rfl⟩ ?_) (by rw [normal_lower hs.pos p hp])
  simp [D.flat]
def RTakeL (ds : List D) (d : D) : Prop := ∃ s : List Int, ds = [dI s] ∧ Szs s ∧ s ≠ [] ∧ s.length ≤ 1000 ∧ d = dI (bestK s)
theorem ok_take_largest (T : Txt K mg a) : FnOk P w K mg base CX0 3 a.a_take_largest a.d_take_largest ["sizes"] (NewSp RTakeL) := by
  refine fn_new T.F_take_largest sc_take_largest (fun ds d ⟨_, e, _⟩ => by rw [e]; rfl) (by decide) fun cdv A outer s H E hr => ⟨_, (pss_one (ps_ret (pe_call (ok_take T) (hr.mono (by first | decide | omega)) rfl T.g_take T.F_take.kp T.b_take .nil pass0 (pa_cons (pv 0) (pa_cons pe_int pa_nil))))), ?_⟩
  rintro ds d ⟨s, rfl, hs, hn, hl, rfl⟩
  exact sd_retN (en_call (ea_cons (ev_var rfl) (ea_cons ev_int ea_nil)) ⟨s, 0, rfl, hs, List.length_pos_iff.mpr hn, hl, rfl⟩) rfl
def RTakeS (ds : List D) (d : D) : Prop := ∃ s : List Int, ds = [dI s] ∧ Szs s ∧ s ≠ [] ∧ s.length ≤ 1000 ∧ d = dI (bestR s)
theorem ok_take_smallest (T : Txt K mg a) : FnOk P w K mg base CX0 3 a.a_take_smallest a.d_take_smallest ["sizes"] (NewSp RTakeS) := by
  refine fn_new T.F_take_smallest sc_take_smallest (fun ds d ⟨_, e, _⟩ => by rw [e]; rfl) (by decide) fun cdv A outer s H E hr => ⟨_, (pss_one (ps_ret (pe_call (ok_take T) (hr.mono (by first | decide | omega)) rfl T.g_take T.F_take.kp T.b_take .nil pass0 (pa_cons (pv 0) (pa_cons (pe_op op_sub (pe_callB (lenK (K := K)) (by rfl) T.z_len bt_len (pa_cons (pv 0) pa_nil)) pe_int) pa_nil))))), ?_⟩
  rintro ds d ⟨s, rfl, hs, hn, hl, rfl⟩
  have h0 := List.length_pos_iff.mpr hn
  refine sd_retN (en_call (ea_cons (ev_var rfl) (ea_cons (ev_sub (ev_lenL (ev_var rfl).rd) ev_int) ea_nil)) ⟨s, s.length - 1, ?_, hs, by omega, hl, rfl⟩) rfl
  rw [List.length_map, show ((s.length : Int) - 1) = ((s.length - 1 : Nat) : Int) from by omega]
/-- what comes of a list: behind K, behind R -/
def pairD (s : List Int) : D := .tup [tupI (bestK s), if s.length = 1 then .non else tupI (bestR s)]
def RPlucks (ds : List D) (d : D) : Prop := ∃ s : List Int, ds = [tupI s] ∧ Szs s ∧ s ≠ [] ∧ s.length ≤ 1000 ∧ d = pairD s
theorem ok_best_plucks (T : Txt K mg a) : FnOk P w K mg base CX0 4 a.a_best_plucks a.d_best_plucks ["word"] (PureSp RPlucks) := by
  refine fn_pure T.F_best_plucks sc_best_plucks (fun ds d ⟨_, e, _⟩ => by rw [e]; rfl) (by decide) fun cdv A outer s H E hr => ⟨_, (pss_cons (ps_set (i := 1) sc_best_plucks.nd rfl (by first | exact Or.inl rfl | exact Or.inr rfl) (pe_callTy (tupleK (K := K)) (by rfl) T.z_tuple bt_tuple (pa_cons (pe_call (ok_take_largest T) (hr.mono (by first | decide | omega)) rfl T.g_take_largest T.F_take_largest.kp T.b_take_largest .nil pass0 (pa_cons (pe_callTy (listK (K := K)) (by rfl) T.z_list bt_list (pa_cons (pv 0) pa_nil)) pa_nil)) pa_nil))) (pss_cons (ps_if (pt_cmpR (eqK (K := K) hr.units) (pe_callB (lenK (K := K)) (by rfl) T.z_len bt_len (pa_cons (pv 0) pa_nil)) pe_int (nomark _)) (pss_one (ps_ret (pe_tup (pa_cons (pv 1) (pa_cons pe_non pa_nil))))) pss_nil) (pss_one (ps_ret (pe_tup (pa_cons (pv 1) (pa_cons (pe_callTy (tupleK (K := K)) (by rfl) T.z_tuple bt_tuple (pa_cons (pe_call (ok_take_smallest T) (hr.mono (by first | decide | omega)) rfl T.g_take_smallest T.F_take_smallest.kp T.b_take_smallest .nil pass0 (pa_cons (pe_callTy (listK (K := K)) (by rfl) T.z_list bt_list (pa_cons (pv 0) pa_nil)) pa_nil)) pa_nil)) pa_nil))))))), ?_⟩
  rintro ds d ⟨s, rfl, hs, hn, hl, rfl⟩
  refine sd_seq (sd_asg (d := tupI (bestK s)) (ev_tuple (ev_callN (ea_cons (en_listT (ev_var rfl)).dt ea_nil) ⟨s, rfl, hs, hn, hl, rfl⟩).rd) ?_)
  refine sd_seq (sd_if (et_test (ev_eqI (ev_lenT (ev_var rfl).rd) ev_int)) (fun hb => ?_) fun hb => sd_next ?_)
  · simp at hb
    refine sd_ret (ev_tup (ea_cons (ev_var rfl) (ea_cons ev_non ea_nil)) (by show 2 ≤ sizeLine; decide)) (.inl ?_)
    unfold pairD
    rw [if_pos (by omega)]
  · simp at hb
    refine sd_ret (ev_tup (ea_cons (ev_var rfl) (ea_cons (d := tupI (bestR s)) (ev_tuple (ev_callN (ea_cons (en_listT (ev_var rfl)).dt ea_nil) ⟨s, rfl, hs, hn, hl, rfl⟩).rd) ea_nil)) (by show 2 ≤ sizeLine; decide)) (.inl ?_)
    unfold pairD
    rw [if_neg (by omega)]
end
end Kt
namespace Kt
open PySem PySem.Spec L2 Dl
/-! ### how many size lists there are -/
def prow (prev : List Nat) (d : Nat) : Nat → List Nat
  | 0 => []
  | n + 1 => prow prev d n ++ [prev.getD n 0 + if d ≤ n then (prow prev d n).getD (n - d) 0 else 0]
def ptab : Nat → List Nat
  | 0 => prow (1 :: List.replicate 60 0) 100 61
  | m + 1 => prow (ptab m) (m + 1) 61
theorem prow_len (prev : List Nat) (d : Nat) : ∀ n, (prow prev d n).length = n
  | 0 => rfl
  | n + 1 => by simp [prow, prow_len prev d n]
theorem prow_get (prev : List Nat) (d : Nat) : ∀ (n i : Nat), i < n → (prow prev d n).getD i 0 = prev.getD i 0 + if d ≤ i then (prow prev d i).getD (i - d) 0 else 0
  | 0, i, h => by omega
  | n + 1, i, h => by
    have hl := prow_len prev d n
    have e : prow prev d (n + 1) = prow prev d n ++ [prev.getD n 0 + if d ≤ n then (prow prev d n).getD (n - d) 0 else 0] := rfl
    rw [e, List.getD_eq_getElem?_getD]
    rcases Nat.lt_or_ge i n with h1 | h1
    · rw [List.getElem?_append_left (by omega), ← List.getD_eq_getElem?_getD]
      exact prow_get prev d n i h1
    · have : i = n := by omega
      subst this
      rw [List.getElem?_append_right (by omega), hl, Nat.sub_self]; rfl
theorem prow_pre (prev : List Nat) (d : Nat) (n m i : Nat) (h1 : i < n) (h2 : i < m) : (prow prev d n).getD i 0 = (prow prev d m).getD i 0 := by
  rw [prow_get _ _ n i h1, prow_get _ _ m i h2]
theorem ptab_succ (m n : Nat) (h : n < 61) : (ptab (m + 1)).getD n 0 = (ptab m).getD n 0 + if m + 1 ≤ n then (ptab (m + 1)).getD (n - (m + 1)) 0 else 0 := by
  show (prow (ptab m) (m + 1) 61).getD n 0 = _
  rw [prow_get _ _ 61 n h]
  by_cases hm : m + 1 ≤ n
  · rw [if_pos hm, if_pos hm]
    show _ + _ = _ + (prow (ptab m) (m + 1) 61).getD _ 0
    rw [prow_pre _ _ n 61 (n - (m + 1)) (by omega) (by omega)]
  · rw [if_neg hm, if_neg hm]
theorem ptab_zero : ∀ n, n < 61 → (ptab 0).getD n 0 = if n = 0 then 1 else 0 := by decide +kernel
theorem filter_two {α : Type} (p : α → Bool) (l : List α) : l.length = (l.filter p).length + (l.filter fun x => !p x).length := by
  induction l with
  | nil => rfl
  | cons x l ih =>
    rw [List.filter_cons, List.filter_cons]
    cases p x <;> simp <;> omega
theorem parts_le : ∀ (m n : Nat), n < 61 → ∀ L : List (List Int), L.Nodup → (∀ k ∈ L, Szs k ∧ k.sum = n ∧ ∀ x ∈ k, x ≤ (m : Int)) → L.length ≤ (ptab m).getD n 0 := by
  intro m
  induction m with
  | zero =>
    intro n hn L nd h
    rw [ptab_zero n hn]
    have hnil : ∀ k ∈ L, k = [] ∧ n = 0 := fun k hk => by
      obtain ⟨h1, h2, h3⟩ := h k hk
      cases k with
      | nil => exact ⟨rfl, by simp at h2; omega⟩
      | cons x r =>
        have a1 := h1.pos x List.mem_cons_self
        have a2 := h3 x List.mem_cons_self
        omega
    cases L with
    | nil => exact Nat.zero_le _
    | cons a L =>
      obtain ⟨rfl, h0⟩ := hnil a List.mem_cons_self
      rw [if_pos h0]
      cases L with
      | nil => exact Nat.le_refl _
      | cons b L =>
        obtain ⟨rfl, _⟩ := hnil b (List.mem_cons_of_mem _ List.mem_cons_self)
        exact absurd List.mem_cons_self (List.nodup_cons.mp nd).1
  | succ m ihm =>
    intro n
    induction n using Nat.strongRecOn with
    | _ n ihn =>
      intro hn L nd h
      have e := filter_two (fun k => decide (k.head? = some ((m : Int) + 1))) L
      rw [ptab_succ m n hn]
      have hB : (L.filter fun k => !decide (k.head? = some ((m : Int) + 1))).length ≤ (ptab m).getD n 0 := by
        refine ihm n hn _ (nd.sublist List.filter_sublist) fun k hk => ?_
        obtain ⟨h1, h2⟩ := List.mem_filter.mp hk
        obtain ⟨h3, h4, h5⟩ := h k h1
        refine ⟨h3, h4, fun x hx => ?_⟩
        cases k with
        | nil => cases hx
        | cons y r =>
          simp at h2
          have a1 := h5 y List.mem_cons_self
          have hd := List.rel_of_pairwise_cons h3.down (a' := x)
          rcases List.mem_cons.mp hx with rfl | hx
          · push_cast at *; omega
          · have := hd hx
            push_cast at *
            omega
      have hA : (L.filter fun k => decide (k.head? = some ((m : Int) + 1))).length ≤ if m + 1 ≤ n then (ptab (m + 1)).getD (n - (m + 1)) 0 else 0 := by
        by_cases hm : m + 1 ≤ n
        · rw [if_pos hm]
          have := ihn (n - (m + 1)) (by omega) (by omega) ((L.filter fun k => decide (k.head? = some ((m : Int) + 1))).map List.tail) ?_ ?_
          · rwa [List.length_map] at this
          · have nf : (L.filter fun k => decide (k.head? = some ((m : Int) + 1))).Nodup := nd.sublist List.filter_sublist
            refine List.pairwise_map.mpr (List.Pairwise.imp_of_mem (fun {x y} hx hy hne => ?_) nf)
            intro et
            apply hne
            have hx2 := (List.mem_filter.mp hx).2
            have hy2 := (List.mem_filter.mp hy).2
            simp only [decide_eq_true_eq] at hx2 hy2
            cases x with
            | nil => cases hx2
            | cons a x =>
              cases y with
              | nil => cases hy2
              | cons b y =>
                simp only [List.head?_cons, Option.some.injEq] at hx2 hy2
                simp only [List.tail_cons] at et
                rw [hx2, hy2, et]
          · intro k hk
            obtain ⟨k0, h1, rfl⟩ := List.mem_map.mp hk
            obtain ⟨h2, h3⟩ := List.mem_filter.mp h1
            obtain ⟨h4, h5, h6⟩ := h k0 h2
            cases k0 with
            | nil => simp at h3
            | cons y r =>
              simp only [decide_eq_true_eq, List.head?_cons, Option.some.injEq] at h3
              refine ⟨⟨fun x hx => h4.pos x (List.mem_cons_of_mem _ hx), (List.pairwise_cons.mp h4.down).2⟩, ?_, fun x hx => h6 x (List.mem_cons_of_mem _ hx)⟩
              simp only [List.tail_cons, List.sum_cons] at h5 ⊢
              push_cast at *
              omega
        · rw [if_neg hm]
          rw [Nat.le_zero, List.length_eq_zero_iff]
          cases hf : (L.filter fun k => decide (k.head? = some ((m : Int) + 1))) with
          | nil => rfl
          | cons k0 r =>
            have h1 : k0 ∈ L.filter fun k => decide (k.head? = some ((m : Int) + 1)) := by rw [hf]; exact List.mem_cons_self
            obtain ⟨h2, h3⟩ := List.mem_filter.mp h1
            obtain ⟨h4, h5, h6⟩ := h k0 h2
            cases k0 with
            | nil => simp at h3
            | cons y r =>
              simp only [decide_eq_true_eq, List.head?_cons, Option.some.injEq] at h3
              have hr := pos_len (s := r) fun x hx => h4.pos x (List.mem_cons_of_mem _ hx)
              simp only [List.sum_cons] at h5
              omega
      omega
theorem sum60 : ((List.range 61).map fun n => (ptab 60).getD n 0).sum ≤ 8000000 := by decide +kernel
theorem by_sum (g : Nat → Nat) : ∀ (N : Nat) (L : List (List Int)), (∀ k ∈ L, 0 ≤ k.sum ∧ k.sum < (N : Int)) → (∀ n, n < N → (L.filter fun k => decide (k.sum = (n : Int))).length ≤ g n) → L.length ≤ ((List.range N).map g).sum
  | 0, L, h, _ => by
    cases L with
    | nil => exact Nat.zero_le _
    | cons k L => have := h k List.mem_cons_self; omega
  | N + 1, L, h, hg => by
    rw [List.range_succ, List.map_append, List.sum_append]
    have e := filter_two (fun k => decide (k.sum = (N : Int))) L
    have h1 := hg N (by omega)
    have h2 := by_sum g N (L.filter fun k => !decide (k.sum = (N : Int))) (fun k hk => by
      obtain ⟨a, b⟩ := List.mem_filter.mp hk
      have := h k a
      simp at b
      omega) fun n hn => Nat.le_trans (List.filter_sublist.filter _).length_le (hg n (by omega))
    simp only [List.map_cons, List.map_nil, List.sum_cons, List.sum_nil]
    omega
theorem mem_le_sum : ∀ {k : List Int}, (∀ x ∈ k, 1 ≤ x) → ∀ x ∈ k, x ≤ k.sum
  | y :: r, h, x, hx => by
    have h0 := pos_len (s := r) fun z hz => h z (List.mem_cons_of_mem _ hz)
    have h1 := h y List.mem_cons_self
    rw [List.sum_cons]
    rcases List.mem_cons.mp hx with rfl | hx
    · omega
    · have := mem_le_sum (fun z hz => h z (List.mem_cons_of_mem _ hz)) x hx
      omega
/-- size lists of at most 60 cells: fewer than 8 million -/
theorem few {L : List (List Int)} (nd : L.Nodup) (h : ∀ k ∈ L, Szs k ∧ k.sum ≤ 60) : L.length ≤ 8000000 := by
  refine Nat.le_trans (by_sum (fun n => (ptab 60).getD n 0) 61 L (fun k hk => ?_) fun n hn => ?_) sum60
  · obtain ⟨h1, h2⟩ := h k hk
    have := pos_len h1.pos
    omega
  · refine parts_le 60 n hn _ (nd.sublist List.filter_sublist) fun k hk => ?_
    obtain ⟨h1, h2⟩ := List.mem_filter.mp hk
    obtain ⟨h3, h4⟩ := h k h1
    simp only [decide_eq_true_eq] at h2
    refine ⟨h3, h2, fun x hx => ?_⟩
    have := mem_le_sum h3.pos x hx
    push_cast
    omega
end Kt
namespace Kt
open PySem PySem.Spec L2 Dl
local macro_rules | `(tactic| walk_at "side") => `(tactic| first
  | exact cpow18
  | (simp only [List.length_cons, List.length_nil]; decide)
  | ((fail_if_success (with_reducible apply isEvD)); (fail_if_success (with_reducible apply isEvB)); (fail_if_success (with_reducible apply isEvN)); (fail_if_success (with_reducible apply isEvA)); (fail_if_success (with_reducible apply isEvAB)); (fail_if_success (with_reducible apply isEvT)); (fail_if_success (with_reducible apply isEvO)); (fail_if_success (intro _; (with_reducible apply isEvD))); (fail_if_success (intro _; (with_reducible apply isEvT)))))
local macro_rules | `(tactic| walk_at "evB") => `(tactic| first
  | ((with_reducible apply eb_own) <;> exact rfl)
  | ((with_reducible apply EvD.rd) <;> first | walk_at "any" | walk_at "side"))
local macro_rules | `(tactic| walk_at "evA") => `(tactic| first
  | with_reducible exact ea_nil
  | ((with_reducible apply ea_cons) <;> first | walk_at "any" | walk_at "side"))
local macro_rules | `(tactic| walk_at "evAB") => `(tactic| first
  | with_reducible exact eab_nil
  | ((with_reducible apply eab_cons) <;> first | walk_at "any" | walk_at "side"))
local macro_rules | `(tactic| walk_at "eo") => `(tactic| first
  | with_reducible exact eo_none
  | ((with_reducible apply eo_some) <;> first | walk_at "any" | walk_at "side"))
local macro_rules | `(tactic| walk_at "evN") => `(tactic| first
  | ((with_reducible apply en_lst) <;> first | walk_at "any" | walk_at "side")
  | ((with_reducible apply en_list) <;> first | walk_at "any" | walk_at "side")
  | ((with_reducible apply en_listT) <;> first | walk_at "any" | walk_at "side")
  | ((with_reducible apply en_sorted) <;> first | walk_at "any" | walk_at "side")
  | ((with_reducible apply en_sortedR) <;> first | walk_at "any" | walk_at "side")
  | ((with_reducible apply en_rev) <;> first | walk_at "any" | walk_at "side")
  | ((with_reducible apply en_sl) <;> first | walk_at "any" | walk_at "side")
  | ((with_reducible apply en_cat) <;> first | walk_at "any" | walk_at "side")
  | ((with_reducible apply en_rep1) <;> first | walk_at "any" | walk_at "side")
  | ((with_reducible apply en_call) <;> first | walk_at "any" | walk_at "side"))
local macro_rules | `(tactic| walk_at "ev") => `(tactic| first
  | ((with_reducible apply ev_var) <;> exact rfl)
  | with_reducible exact ev_int
  | with_reducible exact ev_str
  | with_reducible exact ev_bl
  | with_reducible exact ev_non
  | ((with_reducible apply ev_intI) <;> first | walk_at "any" | walk_at "side")
  | ((with_reducible apply ev_add) <;> first | walk_at "any" | walk_at "side")
  | ((with_reducible apply ev_sub) <;> first | walk_at "any" | walk_at "side")
  | ((with_reducible apply ev_mul) <;> first | walk_at "any" | walk_at "side")
  | ((with_reducible apply ev_mod) <;> first | walk_at "any" | walk_at "side")
  | ((with_reducible apply ev_fdiv) <;> first | walk_at "any" | walk_at "side")
  | ((with_reducible apply ev_pow) <;> first | walk_at "any" | walk_at "side")
  | ((with_reducible apply ev_lt) <;> first | walk_at "any" | walk_at "side")
  | ((with_reducible apply ev_le) <;> first | walk_at "any" | walk_at "side")
  | ((with_reducible apply ev_gt) <;> first | walk_at "any" | walk_at "side")
  | ((with_reducible apply ev_ge) <;> first | walk_at "any" | walk_at "side")
  | ((with_reducible apply ev_eqI) <;> first | walk_at "any" | walk_at "side")
  | ((with_reducible apply ev_neI) <;> first | walk_at "any" | walk_at "side")
  | ((with_reducible apply ev_eqS) <;> first | walk_at "any" | walk_at "side")
  | ((with_reducible apply ev_neS) <;> first | walk_at "any" | walk_at "side")
  | ((with_reducible apply ev_chainI) <;> first | walk_at "any" | walk_at "side")
  | ((with_reducible apply ev_isN) <;> first | walk_at "any" | walk_at "side")
  | ((with_reducible apply ev_notN) <;> first | walk_at "any" | walk_at "side")
  | ((with_reducible apply ev_neg) <;> first | walk_at "any" | walk_at "side")
  | ((with_reducible apply ev_abs) <;> first | walk_at "any" | walk_at "side")
  | ((with_reducible apply ev_max2) <;> first | walk_at "any" | walk_at "side")
  | ((with_reducible apply ev_min2) <;> first | walk_at "any" | walk_at "side")
  | ((with_reducible apply ev_sum) <;> first | walk_at "any" | walk_at "side")
  | ((with_reducible apply ev_maxL) <;> first | walk_at "any" | walk_at "side")
  | ((with_reducible apply ev_minL) <;> first | walk_at "any" | walk_at "side")
  | ((with_reducible apply ev_lenL) <;> first | walk_at "any" | walk_at "side")
  | ((with_reducible apply ev_lenT) <;> first | walk_at "any" | walk_at "side")
  | ((with_reducible apply ev_lenS) <;> first | walk_at "any" | walk_at "side")
  | ((with_reducible apply ev_inI) <;> first | walk_at "any" | walk_at "side")
  | ((with_reducible apply ev_ninI) <;> first | walk_at "any" | walk_at "side")
  | ((with_reducible apply ev_inB) <;> first | walk_at "any" | walk_at "side")
  | ((with_reducible apply ev_ninB) <;> first | walk_at "any" | walk_at "side")
  | ((with_reducible apply ev_ixI) <;> first | walk_at "any" | walk_at "side")
  | ((with_reducible apply ev_tup) <;> first | walk_at "any" | walk_at "side")
  | ((with_reducible apply ev_tuple) <;> first | walk_at "any" | walk_at "side")
  | ((with_reducible apply ev_andV) <;> first | walk_at "any" | walk_at "side")
  | ((with_reducible apply ev_orV) <;> first | walk_at "any" | walk_at "side")
  | ((with_reducible apply ev_notV) <;> first | walk_at "any" | walk_at "side")
  | ((with_reducible apply ev_cell) <;> first | exact rfl | walk_at "any" | decide)
  | ((with_reducible apply ev_call) <;> first | walk_at "any" | walk_at "side")
  | ((with_reducible apply EvN.dt) <;> first | walk_at "any" | walk_at "side"))
local macro_rules | `(tactic| walk_at "et") => `(tactic| first
  | ((with_reducible apply et_not) <;> first | walk_at "any" | walk_at "side")
  | ((with_reducible apply et_and) <;> first | walk_at "any" | walk_at "side")
  | ((with_reducible apply et_or) <;> first | walk_at "any" | walk_at "side")
  | ((with_reducible apply et_test) <;> first | walk_at "any" | walk_at "side")
  | ((with_reducible apply et_B) <;> first | walk_at "any" | walk_at "side"))
local macro_rules | `(tactic| walk_at "any") => `(tactic| first
  | ((with_reducible apply isEvD); walk_at "ev")
  | ((with_reducible apply isEvB); walk_at "evB")
  | ((with_reducible apply isEvT); walk_at "et")
  | ((with_reducible apply isEvA); walk_at "evA")
  | ((with_reducible apply isEvN); walk_at "evN")
  | ((with_reducible apply isEvAB); walk_at "evAB")
  | ((with_reducible apply isEvO); walk_at "eo")
  | (intro _; walk_at "any"))
local macro_rules | `(tactic| walk_at "s if") => `(tactic| (apply sd_if <;> first | walk_at "any" | exact rfl | skip))
local macro_rules | `(tactic| walk_at "q if") => `(tactic| (apply sd_seq; apply sd_if <;> first | walk_at "any" | exact rfl | skip))
local macro_rules | `(tactic| walk_at "s asg") => `(tactic| (apply sd_asg <;> first | walk_at "any" | exact rfl | skip))
local macro_rules | `(tactic| walk_at "q asg") => `(tactic| (apply sd_seq; apply sd_asg <;> first | walk_at "any" | exact rfl | skip))
local macro_rules | `(tactic| walk_at "s new") => `(tactic| (apply sd_asgN <;> first | walk_at "any" | exact rfl | skip))
local macro_rules | `(tactic| walk_at "q new") => `(tactic| (apply sd_seq; apply sd_asgN <;> first | walk_at "any" | exact rfl | skip))
local macro_rules | `(tactic| walk_at "s app") => `(tactic| (apply sd_app <;> first | walk_at "any" | exact rfl | skip))
local macro_rules | `(tactic| walk_at "q app") => `(tactic| (apply sd_seq; apply sd_app <;> first | walk_at "any" | exact rfl | skip))
local macro_rules | `(tactic| walk_at "s aug") => `(tactic| (apply sd_aug <;> first | walk_at "any" | exact rfl | skip))
local macro_rules | `(tactic| walk_at "q aug") => `(tactic| (apply sd_seq; apply sd_aug <;> first | walk_at "any" | exact rfl | skip))
local macro_rules | `(tactic| walk_at "s ret") => `(tactic| (apply sd_ret <;> first | walk_at "any" | exact rfl | skip))
local macro_rules | `(tactic| walk_at "q ret") => `(tactic| (apply sd_seq; apply sd_ret <;> first | walk_at "any" | exact rfl | skip))
local macro_rules | `(tactic| walk_at "s retN") => `(tactic| (apply sd_retN <;> first | walk_at "any" | exact rfl | skip))
local macro_rules | `(tactic| walk_at "q retN") => `(tactic| (apply sd_seq; apply sd_retN <;> first | walk_at "any" | exact rfl | skip))
local macro_rules | `(tactic| walk_at "s ifAsg") => `(tactic| (apply sd_ifAsg <;> first | walk_at "any" | exact rfl | skip))
local macro_rules | `(tactic| walk_at "q ifAsg") => `(tactic| (apply sd_seq; apply sd_ifAsg <;> first | walk_at "any" | exact rfl | skip))
local macro_rules | `(tactic| walk_at "s ifAsgI") => `(tactic| (apply sd_ifAsgI <;> first | walk_at "any" | exact rfl | skip))
local macro_rules | `(tactic| walk_at "q ifAsgI") => `(tactic| (apply sd_seq; apply sd_ifAsgI <;> first | walk_at "any" | exact rfl | skip))
local macro_rules | `(tactic| walk_at "s drop") => `(tactic| (apply sd_drop <;> first | walk_at "any" | exact rfl | skip))
local macro_rules | `(tactic| walk_at "q drop") => `(tactic| (apply sd_seq; apply sd_drop <;> first | walk_at "any" | exact rfl | skip))

/-! ### layers of lists -/
section
variable {α : Type}
theorem madeF_nodup {t0 : Tb α} {c : Nat → Bool} {key : Nat → List Int} {val : Nat → α} (h : (t0.map Prod.fst).Nodup) : ∀ n, ((madeF t0 c key val n).map Prod.fst).Nodup
  | 0 => h
  | n + 1 => by
    unfold madeF
    split
    · exact put_nodup (madeF_nodup h n)
    · exact madeF_nodup h n
theorem madeF_mem {t0 : Tb α} {c : Nat → Bool} {key : Nat → List Int} {val : Nat → α} {k : List Int} : ∀ n, k ∈ (madeF t0 c key val n).map Prod.fst ↔ k ∈ t0.map Prod.fst ∨ ∃ j, j < n ∧ c j = true ∧ key j = k
  | 0 => ⟨.inl, fun h => h.elim id fun ⟨_, h, _⟩ => absurd h (Nat.not_lt_zero _)⟩
  | n + 1 => by
    unfold madeF
    split
    · rename_i hc
      rw [mem_put, madeF_mem n]
      constructor
      · rintro (rfl | h | ⟨j, h1, h2, h3⟩)
        · exact .inr ⟨n, by omega, hc, rfl⟩
        · exact .inl h
        · exact .inr ⟨j, by omega, h2, h3⟩
      · rintro (h | ⟨j, h1, h2, h3⟩)
        · exact .inr (.inl h)
        · by_cases hj : j = n
          · subst hj; exact .inl h3.symm
          · exact .inr (.inr ⟨j, by omega, h2, h3⟩)
    · rename_i hc
      rw [madeF_mem n]
      constructor
      · rintro (h | ⟨j, h1, h2, h3⟩)
        · exact .inl h
        · exact .inr ⟨j, by omega, h2, h3⟩
      · rintro (h | ⟨j, h1, h2, h3⟩)
        · exact .inl h
        · by_cases hj : j = n
          · subst hj; exact absurd h2 hc
          · exact .inr ⟨j, by omega, h2, h3⟩
theorem madeF2_nodup {c : Nat → Bool} {n1 : Nat → Nat} {c1 : Nat → Nat → Bool} {key : Nat → Nat → List Int} {val : Nat → Nat → α} : ∀ n, ((madeF2 c n1 c1 key val n).map Prod.fst).Nodup
  | 0 => List.nodup_nil
  | n + 1 => by
    unfold madeF2
    split
    · exact madeF_nodup (madeF2_nodup n) _
    · exact madeF2_nodup n
theorem madeF2_mem {n1 : Nat → Nat} {c1 : Nat → Nat → Bool} {key : Nat → Nat → List Int} {val : Nat → Nat → α} {k : List Int} : ∀ n, k ∈ (madeF2 (fun _ => true) n1 c1 key val n).map Prod.fst ↔ ∃ i, i < n ∧ ∃ j, j < n1 i ∧ c1 i j = true ∧ key i j = k
  | 0 => ⟨fun h => (nomatch h), fun ⟨_, h, _⟩ => absurd h (Nat.not_lt_zero _)⟩
  | n + 1 => by
    unfold madeF2
    rw [if_pos rfl, madeF_mem, madeF2_mem n]
    constructor
    · rintro (⟨i, h1, h⟩ | h)
      · exact ⟨i, by omega, h⟩
      · exact ⟨n, by omega, h⟩
    · rintro ⟨i, h1, h⟩
      by_cases hi : i = n
      · subst hi; exact .inr h
      · exact .inl ⟨i, by omega, h⟩
end
def lay (ws : List (List Int)) : Tb (List Int) := ws.map fun s => (s, s)
def nc (ws : List (List Int)) (i j : Nat) : Bool := decide (j = 0) || !decide ((ws.getD i []).length = 1)
def nk (ws : List (List Int)) (i j : Nat) : List Int := if j = 0 then bestK (ws.getD i []) else bestR (ws.getD i [])
def nextT (ws : List (List Int)) : Tb Unit := madeF2 (fun _ => true) (fun _ => 2) (nc ws) (nk ws) (fun _ _ => ()) ws.length
def nextW (ws : List (List Int)) : List (List Int) := (nextT ws).map Prod.fst
def wordsN (s : List Int) : Nat → List (List Int)
  | 0 => [s]
  | n + 1 => nextW (wordsN s n)
theorem lay_made {ws : List (List Int)} (nd : ws.Nodup) : ∀ n, n ≤ ws.length → madeF [] (fun _ => true) (fun i => ws.getD i []) (fun i => ws.getD i []) n = lay (ws.take n)
  | 0, _ => rfl
  | n + 1, h => by
    have e : ws.getD n [] = ws[n] := by rw [List.getD_eq_getElem?_getD, List.getElem?_eq_getElem (by omega)]; rfl
    unfold madeF
    rw [if_pos rfl, lay_made nd n (by omega), List.take_succ, List.getElem?_eq_getElem (by omega), e]
    have hn : has (lay (ws.take n)) ws[n] = false := by
      rw [Bool.eq_false_iff]
      intro q
      unfold has lay at q
      rw [List.any_map, List.any_eq_true] at q
      obtain ⟨x, hx, hq⟩ := q
      have hq : x = ws[n] := by simpa using hq
      rw [hq] at hx
      obtain ⟨i, hi, hx⟩ := List.mem_take_iff_getElem.mp hx
      have := (List.getElem?_inj (by omega : i < ws.length) nd (j := n)).mp (by rw [List.getElem?_eq_getElem (by omega), List.getElem?_eq_getElem (by omega), hx])
      omega
    unfold put
    rw [if_neg (by rw [hn]; simp)]
    unfold lay
    rw [List.map_append]
    rfl
structure WsOk (m : Int) (ws : List (List Int)) : Prop where
  nd : ws.Nodup
  szs : ∀ k ∈ ws, Szs k ∧ k.sum = m
theorem next_mem {ws : List (List Int)} {k : List Int} : k ∈ nextW ws ↔ ∃ u ∈ ws, k = bestK u ∨ (u.length ≠ 1 ∧ k = bestR u) := by
  unfold nextW nextT
  rw [madeF2_mem]
  constructor
  · rintro ⟨i, hi, j, hj, h1, h2⟩
    have e : ws.getD i [] = ws[i] := by rw [List.getD_eq_getElem?_getD, List.getElem?_eq_getElem (by omega)]; rfl
    refine ⟨ws[i], List.getElem_mem _, ?_⟩
    unfold nc at h1
    unfold nk at h2
    rw [e] at h1 h2
    by_cases h0 : j = 0
    · rw [if_pos h0] at h2; exact .inl h2.symm
    · rw [if_neg h0] at h2
      rw [decide_eq_false h0] at h1
      simp at h1
      exact .inr ⟨h1, h2.symm⟩
  · rintro ⟨u, hu, h⟩
    obtain ⟨i, hi, rfl⟩ := List.getElem_of_mem hu
    have e : ws.getD i [] = ws[i] := by rw [List.getD_eq_getElem?_getD, List.getElem?_eq_getElem (by omega)]; rfl
    rcases h with rfl | ⟨h1, rfl⟩
    · exact ⟨i, hi, 0, by omega, rfl, by unfold nk; rw [if_pos rfl, e]⟩
    · refine ⟨i, hi, 1, by omega, ?_, by unfold nk; rw [if_neg (by decide), e]⟩
      unfold nc
      rw [e]
      simp [h1]
theorem bestK_ok {s : List Int} (hs : Szs s) (h : 1 ≤ s.sum) : Szs (bestK s) ∧ (bestK s).sum = s.sum - 1 ∧ (bestK s).length ≤ s.length := by
  have h0 : 0 < s.length := List.length_pos_iff.mpr (sum_nil hs h)
  exact ⟨lower_szs _ _, lower_sum hs h0, lower_len _ _⟩
theorem bestR_ok {s : List Int} (hs : Szs s) (h : 1 ≤ s.sum) : Szs (bestR s) ∧ (bestR s).sum = s.sum - 1 ∧ (bestR s).length ≤ s.length := by
  have h0 : 0 < s.length := List.length_pos_iff.mpr (sum_nil hs h)
  exact ⟨lower_szs _ _, lower_sum hs (by omega), lower_len _ _⟩
theorem next_ok {m : Int} {ws : List (List Int)} (h : WsOk m ws) (hm : 1 ≤ m) : WsOk (m - 1) (nextW ws) := by
  refine ⟨madeF2_nodup _, fun k hk => ?_⟩
  obtain ⟨u, hu, q⟩ := next_mem.mp hk
  obtain ⟨h1, h2⟩ := h.szs u hu
  rcases q with rfl | ⟨_, rfl⟩
  · obtain ⟨a, b, _⟩ := bestK_ok h1 (by omega)
    exact ⟨a, by omega⟩
  · obtain ⟨a, b, _⟩ := bestR_ok h1 (by omega)
    exact ⟨a, by omega⟩
theorem words_ok {s : List Int} (hs : Szs s) : ∀ n : Nat, (n : Int) ≤ s.sum → WsOk (s.sum - n) (wordsN s n)
  | 0, _ => ⟨List.nodup_cons.mpr ⟨by simp, List.nodup_nil⟩, fun k hk => by
    rw [List.mem_singleton.mp hk]; exact ⟨hs, by simp⟩⟩
  | n + 1, h => by
    have := next_ok (words_ok hs n (by omega)) (by omega)
    have e : s.sum - ((n + 1 : Nat) : Int) = s.sum - n - 1 := by omega
    rw [e]
    exact this
theorem ws_few {m : Int} {ws : List (List Int)} (h : WsOk m ws) (hm : m ≤ 60) : ws.length ≤ 8000000 := few h.nd fun k hk => ⟨(h.szs k hk).1, by rw [(h.szs k hk).2]; exact hm⟩
section
variable {P : Program} {w : World} {K : PySem.W.Frag} {mg : Str → Option Value} {base : Heap} {a : Adr}
theorem wset_len {Γ : Ga} {i : Nat} {s : Sl} : (Γ.set i s).length = Γ.length := List.length_set
def layersD (s : List Int) (n : Nat) : D := .lst ((List.range n).map fun k => tabZ pairD (lay (wordsN s k)))
def RPlay (ds : List D) (d : D) : Prop := ∃ s : List Int, ds = [.lst [dI s]] ∧ Szs s ∧ s.sum ≤ 60 ∧ d = layersD s s.sum.toNat
theorem ok_play_layers (T : Txt K mg a) : FnOk P w K mg base CX0 5 a.a_play_layers a.d_play_layers ["starts"] (NewSp RPlay) := by
  refine fn_new T.F_play_layers sc_play_layers (fun ds d ⟨_, e, _⟩ => by rw [e]; rfl) (by decide) fun cdv A outer s H E hr => ⟨_, (pss_cons (ps_set (i := 1) sc_play_layers.nd rfl (by first | exact Or.inl rfl | exact Or.inr rfl) (pe_lst pa_nil)) (pss_cons (ps_setLc (i := 2) (own := [("sizes", 3)]) rfl sc_play_layers.nd rfl rfl (sw_true rfl rfl rfl (by decide +kernel)) (seqK (K := K) (pv 0)) (blkOk_by rfl) (fun _ _ _ _ _ => (pg_name (i := 3) sc_play_layers.nd rfl (by first | exact Or.inl rfl | exact Or.inr rfl))) (fun _ _ _ _ _ => pts_nil) (fun _ _ _ _ _ => (pe_callTy (tupleK (K := K)) (by rfl) T.z_tuple bt_tuple (pa_cons (pv 3) pa_nil)))) (pss_cons (ps_for PassesOwn.never rfl (pi_range1 rfl T.z_range (pa_cons (pe_callB (sumK (K := K) rfl) (by rfl) T.z_sum bt_sum (pa_cons (pe_ix (ixK (K := K)) (pv 0) pe_int (fun _ _ => rfl)) pa_nil)) pa_nil)) (pg_name (i := 4) sc_play_layers.nd rfl (by first | exact Or.inl rfl | exact Or.inr rfl)) (pss_cons (ps_setDc (o0 := .dT []) (i := 5) (own := [("word", 6)]) (.inr rfl) (hu_of hr) rfl sc_play_layers.nd rfl rfl (sw_dict rfl rfl rfl (by decide +kernel)) (seqK (K := K) (pv 2)) (blkOk_by rfl) (fun _ _ _ _ _ => (pg_name (i := 6) sc_play_layers.nd rfl (by first | exact Or.inl rfl | exact Or.inr rfl))) (fun _ _ _ _ _ => pts_nil) (fun _ _ _ _ _ => (pv 6)) (fun _ _ _ _ _ => (pe_call (ok_best_plucks T) (hr.mono (by first | decide | omega)) rfl T.g_best_plucks T.F_best_plucks.kp T.b_best_plucks .nil pass0 (pa_cons (pv 6) pa_nil)))) (pss_cons (ps_lk (ps_expr (bmK (K := K) PySem.F.plainAttrs_list PySem.F.slot_list_append PySem.F.type_list_append mt_append (pv 1) (pa_cons (pv 5) pa_nil)))) (pss_one (ps_set (i := 2) sc_play_layers.nd rfl (by first | exact Or.inl rfl | exact Or.inr rfl) (pe_callTy (call_list_dT rfl) (by rfl) T.z_list bt_list (pa_cons (pe_dcG2 (o0 := .dT []) (own := [("pair", 7), ("after", 8)]) (vs1 := [8]) (.inr rfl) (hu_of hr) rfl sc_play_layers.nd (pi_valuesT (pv 5)) (blkOk_by rfl) (by decide) (fun _ _ _ _ _ => (pg_name (i := 7) sc_play_layers.nd rfl (by first | exact Or.inl rfl | exact Or.inr rfl))) (fun _ _ _ _ _ => pts_nil) (fun _ _ _ _ _ => (seqK (K := K) (pv 7))) (fun _ _ _ _ _ => (pg_name (i := 8) sc_play_layers.nd rfl (by first | exact Or.inl rfl | exact Or.inr rfl))) (fun _ _ _ _ _ => (pts_one (pt_cmpR op_isnotA (pv 8) pe_non (nomark _)))) (fun _ _ _ _ _ => (pv 8)) (fun _ _ _ _ _ => pe_bl)) pa_nil))))))) (pss_one (ps_ret (pv 1)))))), ?_⟩
  rintro ds d ⟨s, rfl, hs, h60, rfl⟩
  have hp := pos_len hs.pos
  refine sd_seq (sd_asgN (d := layersD s 0) ((en_lst ea_nil (by decide)).of rfl) ?_)
  refine sd_seq (sd_asgN (d := .lst ((wordsN s 0).map tupI)) (EvN.of (en_lcT (f := dI) (xs := [s]) (fun _ => true) tupI (ev_var rfl).rd (by decide) (by show 1 ≤ 1000000; decide) (fun x _ => et_yes) (fun x _ _ => ev_tuple (ev_var rfl).rd)) rfl) ?_)
  refine sd_seq (sd_forR (n := s.sum) (ev_sum (ev_ixLn (i := 0) (ev_var rfl).rd ev_int rfl).rd) (by omega)
    (fun i Γ' => ∃ z4 z5, Γ' = [.dat (.lst [dI s]), .own (layersD s i), .own (.lst ((wordsN s i).map tupI)), .un, z4, z5, .un, .un, .un]) ⟨_, _, rfl⟩ ?_ ?_)
  · rintro i hi Γ' ⟨z4, z5, rfl⟩
    have ok := words_ok hs i (by omega)
    have hfew := ws_few ok (by omega)
    have hnil : ∀ u ∈ wordsN s i, u ≠ [] := fun u hu => sum_nil (ok.szs u hu).1 (by rw [(ok.szs u hu).2]; omega)
    have hlen : ∀ u ∈ wordsN s i, u.length ≤ 1000 := fun u hu => by
      have := pos_len (ok.szs u hu).1.pos
      have := (ok.szs u hu).2
      omega
    have e3 : wordsN s (i + 1) = nextW (wordsN s i) := rfl
    have e4 : layersD s (i + 1) = .lst (((List.range i).map fun k => tabZ pairD (lay (wordsN s k))) ++ [tabZ pairD (lay (wordsN s i))]) := by
      unfold layersD
      rw [List.range_succ, List.map_append]; rfl
    have hl1 : ((List.range i).map fun k => tabZ pairD (lay (wordsN s k))).length < sizeLine := by
      rw [List.length_map, List.length_range]
      exact sz2 (by omega)
    rw [e4, e3]
    generalize wordsN s i = ws at *
    have hmem : ∀ {j : Nat}, j < ws.length → ws.getD j [] ∈ ws := fun {j} hj => by
      rw [List.getD_eq_getElem?_getD, List.getElem?_eq_getElem hj]; exact List.getElem_mem _
    refine sd_seq (sd_asgN (d := tabD pairD (lay ws)) (EvN.of (en_dc (f := pairD) (Γi := fun j => [.dat (.lst [dI s]), .own (layersD s i), .own (.lst (ws.map tupI)), .un, .dat (.int (i : Int)), z5, .dat (tupI (ws.getD j [])), .un, .un]) (fun _ => true) (fun j => ws.getD j []) (fun j => ws.getD j []) (eic_list (eb_own rfl)) (fun j hj => ?_) (fun j hj => et_yes) (fun j hj _ => ev_var rfl) (fun j hj _ => ?_) ?_) ?_) ?_)
    · rw [List.length_map] at hj
      rw [ixD_at (d := tupI (ws.getD j [])) (by rw [List.getElem?_map, List.getElem?_eq_getElem hj, List.getD_eq_getElem?_getD, List.getElem?_eq_getElem hj]; rfl)]
      exact eg_name (by simp)
    · rw [List.length_map] at hj
      exact ev_call (ea_cons (ev_var rfl) ea_nil) ⟨ws.getD j [], rfl, (ok.szs _ (hmem hj)).1, hnil _ (hmem hj), hlen _ (hmem hj), rfl⟩
    · rw [List.length_map]; exact Nat.lt_of_le_of_lt hfew (by decide)
    · rw [List.length_map, lay_made ok.nd _ (Nat.le_refl _), List.take_length]
    refine sd_seq (sd_lock 5 rfl ?_)
    refine sd_app rfl (ev_var rfl) hl1 ?_
    refine sd_asgN (d := .lst ((nextW ws).map tupI)) (EvN.of (en_listDT (t := nextT ws) (f := fun _ => D.bl true) (tb_dat (EvN.dt (EvN.of (en_dc2 (f := fun _ : Unit => D.bl true)
      (Γi := fun j => [.dat (.lst [dI s]), .own (.lst (((List.range i).map fun k => tabZ pairD (lay (wordsN s k))) ++ [tabZ pairD (lay ws)])), .own (.lst (ws.map tupI)), .un, .dat (.int (i : Int)), .dat (tabZ pairD (lay ws)), .un, .dat (pairD (ws.getD j [])), .un])
      (Γj := fun j l => [.dat (.lst [dI s]), .own (.lst (((List.range i).map fun k => tabZ pairD (lay (wordsN s k))) ++ [tabZ pairD (lay ws)])), .own (.lst (ws.map tupI)), .un, .dat (.int (i : Int)), .dat (tabZ pairD (lay ws)), .un, .dat (pairD (ws.getD j [])), .dat (if l = 0 then tupI (bestK (ws.getD j [])) else if (ws.getD j []).length = 1 then .non else tupI (bestR (ws.getD j [])))])
      (fun _ => true) (fun _ => 2) (nc ws) (nk ws) (fun _ _ => ()) 2 (ei_vals (ev_var rfl)).c (fun j hj => ?_) (fun j hj => et_yes) (fun j hj _ => ei_tup (ds := [tupI (bestK (ws.getD j [])), if (ws.getD j []).length = 1 then .non else tupI (bestR (ws.getD j []))]) (ev_var rfl)) (fun j hj l hl => ?_) (fun j hj l hl => ?_) (fun j hj l hl hc => ?_) (fun j hj l hl hc => ev_bl) (fun j hj => Nat.le_refl _) ?_) ?_)))) ?_) ⟨_, _, rfl⟩
    · have hj : j < ws.length := by simpa [lay] using hj
      rw [ixD_at (d := pairD (ws.getD j [])) (by
        unfold lay
        rw [List.map_map, List.getElem?_map, List.getElem?_eq_getElem hj, List.getD_eq_getElem?_getD, List.getElem?_eq_getElem hj]; rfl)]
      exact eg_name (by simp)
    · refine (?_ : EvG _ _ _ _ _)
      have e : ixD [tupI (bestK (ws.getD j [])), if (ws.getD j []).length = 1 then D.non else tupI (bestR (ws.getD j []))] l = if l = 0 then tupI (bestK (ws.getD j [])) else if (ws.getD j []).length = 1 then .non else tupI (bestR (ws.getD j [])) := by
        have hl : l < 2 := hl
        match l, hl with
        | 0, _ => rfl
        | 1, _ => rfl
      rw [e]
      exact eg_name (by simp)
    · refine (et_test (ev_notN (ev_var rfl).rd)).of ?_
      unfold nc
      by_cases h0 : l = 0
      · subst h0; rfl
      · rw [if_neg h0, decide_eq_false h0, Bool.false_or]
        by_cases h1 : (ws.getD j []).length = 1
        · rw [if_pos h1, decide_eq_true h1]; rfl
        · rw [if_neg h1, decide_eq_false h1]; rfl
    · refine (ev_var rfl).of ?_
      unfold nk
      unfold nc at hc
      by_cases h0 : l = 0
      · rw [if_pos h0, if_pos h0]
      · rw [if_neg h0, if_neg h0]
        rw [decide_eq_false h0, Bool.false_or] at hc
        rw [if_neg (by simpa using hc)]
    · have : (lay ws).length = ws.length := by simp [lay]
      rw [this]
      exact Nat.lt_of_le_of_lt (Nat.mul_le_mul_right 2 hfew) (by decide)
    · have : (lay ws).length = ws.length := by simp [lay]
      rw [this]; rfl
    · unfold nextW
      rw [List.map_map]; rfl
  · rintro Γ' ⟨z4, z5, rfl⟩
    exact sd_retO rfl rfl
end
end Kt
namespace Kt
open PySem PySem.Spec L2 Dl
local macro_rules | `(tactic| walk_at "side") => `(tactic| first
  | exact cpow18
  | (simp only [List.length_cons, List.length_nil]; decide)
  | ((fail_if_success (with_reducible apply isEvD)); (fail_if_success (with_reducible apply isEvB)); (fail_if_success (with_reducible apply isEvN)); (fail_if_success (with_reducible apply isEvA)); (fail_if_success (with_reducible apply isEvAB)); (fail_if_success (with_reducible apply isEvT)); (fail_if_success (with_reducible apply isEvO)); (fail_if_success (intro _; (with_reducible apply isEvD))); (fail_if_success (intro _; (with_reducible apply isEvT)))))
local macro_rules | `(tactic| walk_at "evB") => `(tactic| first
  | ((with_reducible apply eb_own) <;> exact rfl)
  | ((with_reducible apply EvD.rd) <;> first | walk_at "any" | walk_at "side"))
local macro_rules | `(tactic| walk_at "evA") => `(tactic| first
  | with_reducible exact ea_nil
  | ((with_reducible apply ea_cons) <;> first | walk_at "any" | walk_at "side"))
local macro_rules | `(tactic| walk_at "evAB") => `(tactic| first
  | with_reducible exact eab_nil
  | ((with_reducible apply eab_cons) <;> first | walk_at "any" | walk_at "side"))
local macro_rules | `(tactic| walk_at "eo") => `(tactic| first
  | with_reducible exact eo_none
  | ((with_reducible apply eo_some) <;> first | walk_at "any" | walk_at "side"))
local macro_rules | `(tactic| walk_at "evN") => `(tactic| first
  | ((with_reducible apply en_lst) <;> first | walk_at "any" | walk_at "side")
  | ((with_reducible apply en_list) <;> first | walk_at "any" | walk_at "side")
  | ((with_reducible apply en_listT) <;> first | walk_at "any" | walk_at "side")
  | ((with_reducible apply en_sorted) <;> first | walk_at "any" | walk_at "side")
  | ((with_reducible apply en_sortedR) <;> first | walk_at "any" | walk_at "side")
  | ((with_reducible apply en_rev) <;> first | walk_at "any" | walk_at "side")
  | ((with_reducible apply en_sl) <;> first | walk_at "any" | walk_at "side")
  | ((with_reducible apply en_cat) <;> first | walk_at "any" | walk_at "side")
  | ((with_reducible apply en_rep1) <;> first | walk_at "any" | walk_at "side")
  | ((with_reducible apply en_call) <;> first | walk_at "any" | walk_at "side"))
local macro_rules | `(tactic| walk_at "ev") => `(tactic| first
  | ((with_reducible apply ev_var) <;> exact rfl)
  | with_reducible exact ev_int
  | with_reducible exact ev_str
  | with_reducible exact ev_bl
  | with_reducible exact ev_non
  | ((with_reducible apply ev_intI) <;> first | walk_at "any" | walk_at "side")
  | ((with_reducible apply ev_add) <;> first | walk_at "any" | walk_at "side")
  | ((with_reducible apply ev_sub) <;> first | walk_at "any" | walk_at "side")
  | ((with_reducible apply ev_mul) <;> first | walk_at "any" | walk_at "side")
  | ((with_reducible apply ev_mod) <;> first | walk_at "any" | walk_at "side")
  | ((with_reducible apply ev_fdiv) <;> first | walk_at "any" | walk_at "side")
  | ((with_reducible apply ev_pow) <;> first | walk_at "any" | walk_at "side")
  | ((with_reducible apply ev_lt) <;> first | walk_at "any" | walk_at "side")
  | ((with_reducible apply ev_le) <;> first | walk_at "any" | walk_at "side")
  | ((with_reducible apply ev_gt) <;> first | walk_at "any" | walk_at "side")
  | ((with_reducible apply ev_ge) <;> first | walk_at "any" | walk_at "side")
  | ((with_reducible apply ev_eqI) <;> first | walk_at "any" | walk_at "side")
  | ((with_reducible apply ev_neI) <;> first | walk_at "any" | walk_at "side")
  | ((with_reducible apply ev_eqS) <;> first | walk_at "any" | walk_at "side")
  | ((with_reducible apply ev_neS) <;> first | walk_at "any" | walk_at "side")
  | ((with_reducible apply ev_chainI) <;> first | walk_at "any" | walk_at "side")
  | ((with_reducible apply ev_isN) <;> first | walk_at "any" | walk_at "side")
  | ((with_reducible apply ev_notN) <;> first | walk_at "any" | walk_at "side")
  | ((with_reducible apply ev_neg) <;> first | walk_at "any" | walk_at "side")
  | ((with_reducible apply ev_abs) <;> first | walk_at "any" | walk_at "side")
  | ((with_reducible apply ev_max2) <;> first | walk_at "any" | walk_at "side")
  | ((with_reducible apply ev_min2) <;> first | walk_at "any" | walk_at "side")
  | ((with_reducible apply ev_sum) <;> first | walk_at "any" | walk_at "side")
  | ((with_reducible apply ev_maxL) <;> first | walk_at "any" | walk_at "side")
  | ((with_reducible apply ev_minL) <;> first | walk_at "any" | walk_at "side")
  | ((with_reducible apply ev_lenL) <;> first | walk_at "any" | walk_at "side")
  | ((with_reducible apply ev_lenT) <;> first | walk_at "any" | walk_at "side")
  | ((with_reducible apply ev_lenS) <;> first | walk_at "any" | walk_at "side")
  | ((with_reducible apply ev_inI) <;> first | walk_at "any" | walk_at "side")
  | ((with_reducible apply ev_ninI) <;> first | walk_at "any" | walk_at "side")
  | ((with_reducible apply ev_inB) <;> first | walk_at "any" | walk_at "side")
  | ((with_reducible apply ev_ninB) <;> first | walk_at "any" | walk_at "side")
  | ((with_reducible apply ev_ixI) <;> first | walk_at "any" | walk_at "side")
  | ((with_reducible apply ev_tup) <;> first | walk_at "any" | walk_at "side")
  | ((with_reducible apply ev_tuple) <;> first | walk_at "any" | walk_at "side")
  | ((with_reducible apply ev_andV) <;> first | walk_at "any" | walk_at "side")
  | ((with_reducible apply ev_orV) <;> first | walk_at "any" | walk_at "side")
  | ((with_reducible apply ev_notV) <;> first | walk_at "any" | walk_at "side")
  | ((with_reducible apply ev_cell) <;> first | exact rfl | walk_at "any" | decide)
  | ((with_reducible apply ev_call) <;> first | walk_at "any" | walk_at "side")
  | ((with_reducible apply EvN.dt) <;> first | walk_at "any" | walk_at "side"))
local macro_rules | `(tactic| walk_at "et") => `(tactic| first
  | ((with_reducible apply et_not) <;> first | walk_at "any" | walk_at "side")
  | ((with_reducible apply et_and) <;> first | walk_at "any" | walk_at "side")
  | ((with_reducible apply et_or) <;> first | walk_at "any" | walk_at "side")
  | ((with_reducible apply et_test) <;> first | walk_at "any" | walk_at "side")
  | ((with_reducible apply et_B) <;> first | walk_at "any" | walk_at "side"))
local macro_rules | `(tactic| walk_at "any") => `(tactic| first
  | ((with_reducible apply isEvD); walk_at "ev")
  | ((with_reducible apply isEvB); walk_at "evB")
  | ((with_reducible apply isEvT); walk_at "et")
  | ((with_reducible apply isEvA); walk_at "evA")
  | ((with_reducible apply isEvN); walk_at "evN")
  | ((with_reducible apply isEvAB); walk_at "evAB")
  | ((with_reducible apply isEvO); walk_at "eo")
  | (intro _; walk_at "any"))
local macro_rules | `(tactic| walk_at "s if") => `(tactic| (apply sd_if <;> first | walk_at "any" | exact rfl | skip))
local macro_rules | `(tactic| walk_at "q if") => `(tactic| (apply sd_seq; apply sd_if <;> first | walk_at "any" | exact rfl | skip))
local macro_rules | `(tactic| walk_at "s asg") => `(tactic| (apply sd_asg <;> first | walk_at "any" | exact rfl | skip))
local macro_rules | `(tactic| walk_at "q asg") => `(tactic| (apply sd_seq; apply sd_asg <;> first | walk_at "any" | exact rfl | skip))
local macro_rules | `(tactic| walk_at "s new") => `(tactic| (apply sd_asgN <;> first | walk_at "any" | exact rfl | skip))
local macro_rules | `(tactic| walk_at "q new") => `(tactic| (apply sd_seq; apply sd_asgN <;> first | walk_at "any" | exact rfl | skip))
local macro_rules | `(tactic| walk_at "s app") => `(tactic| (apply sd_app <;> first | walk_at "any" | exact rfl | skip))
local macro_rules | `(tactic| walk_at "q app") => `(tactic| (apply sd_seq; apply sd_app <;> first | walk_at "any" | exact rfl | skip))
local macro_rules | `(tactic| walk_at "s aug") => `(tactic| (apply sd_aug <;> first | walk_at "any" | exact rfl | skip))
local macro_rules | `(tactic| walk_at "q aug") => `(tactic| (apply sd_seq; apply sd_aug <;> first | walk_at "any" | exact rfl | skip))
local macro_rules | `(tactic| walk_at "s ret") => `(tactic| (apply sd_ret <;> first | walk_at "any" | exact rfl | skip))
local macro_rules | `(tactic| walk_at "q ret") => `(tactic| (apply sd_seq; apply sd_ret <;> first | walk_at "any" | exact rfl | skip))
local macro_rules | `(tactic| walk_at "s retN") => `(tactic| (apply sd_retN <;> first | walk_at "any" | exact rfl | skip))
local macro_rules | `(tactic| walk_at "q retN") => `(tactic| (apply sd_seq; apply sd_retN <;> first | walk_at "any" | exact rfl | skip))
local macro_rules | `(tactic| walk_at "s ifAsg") => `(tactic| (apply sd_ifAsg <;> first | walk_at "any" | exact rfl | skip))
local macro_rules | `(tactic| walk_at "q ifAsg") => `(tactic| (apply sd_seq; apply sd_ifAsg <;> first | walk_at "any" | exact rfl | skip))
local macro_rules | `(tactic| walk_at "s ifAsgI") => `(tactic| (apply sd_ifAsgI <;> first | walk_at "any" | exact rfl | skip))
local macro_rules | `(tactic| walk_at "q ifAsgI") => `(tactic| (apply sd_seq; apply sd_ifAsgI <;> first | walk_at "any" | exact rfl | skip))
local macro_rules | `(tactic| walk_at "s drop") => `(tactic| (apply sd_drop <;> first | walk_at "any" | exact rfl | skip))
local macro_rules | `(tactic| walk_at "q drop") => `(tactic| (apply sd_seq; apply sd_drop <;> first | walk_at "any" | exact rfl | skip))

/-! ### the numbers -/
def cntN : Nat → List Int → Int
  | 0, _ => 1
  | n + 1, s => if s.length = 1 then cntN n (bestK s) else cntN n (bestK s) + cntN n (bestR s)
def rowN : Nat → List Int → List Int
  | 0, _ => [1]
  | n + 1, s => if s.length = 1 then rowN n (bestK s) ++ [0] else addR (rowN n (bestK s)) (rowN n (bestR s))
def cnt (s : List Int) : Int := cntN s.sum.toNat s
def row (s : List Int) : List Int := rowN s.sum.toNat s
def addGo (xs ys : List Int) (j : Nat) : List Int := (List.range j).foldl (fun r k => r.set (k + 1) (r.getD (k + 1) 0 + ys.getD k 0)) (xs ++ [0])
theorem addGo_succ (xs ys : List Int) (j : Nat) : addGo xs ys (j + 1) = (addGo xs ys j).set (j + 1) ((addGo xs ys j).getD (j + 1) 0 + ys.getD j 0) := by
  unfold addGo
  rw [List.range_succ, List.foldl_append]; rfl
theorem addGo_len (xs ys : List Int) : ∀ j, (addGo xs ys j).length = xs.length + 1
  | 0 => by simp [addGo]
  | j + 1 => by rw [addGo_succ, List.length_set]; exact addGo_len xs ys j
theorem addR_len (xs ys : List Int) : (addR xs ys).length = xs.length + 1 := addGo_len xs ys ys.length
theorem rowN_len : ∀ n s, (rowN n s).length = n + 1
  | 0, _ => rfl
  | n + 1, s => by
    unfold rowN
    split
    · simp [rowN_len n]
    · rw [addR_len, rowN_len n]
theorem nil_of {s : List Int} (hs : Szs s) (h : s.sum = 0) : s = [] := by
  have := pos_len hs.pos
  exact List.length_eq_zero_iff.mp (by omega)
theorem sum_nn {s : List Int} (hs : Szs s) : 0 ≤ s.sum := by have := pos_len hs.pos; omega
theorem cnt_step {s : List Int} (hs : Szs s) (h : 1 ≤ s.sum) : cnt s = if s.length = 1 then cnt (bestK s) else cnt (bestK s) + cnt (bestR s) := by
  obtain ⟨_, h1, _⟩ := bestK_ok hs h
  obtain ⟨_, h2, _⟩ := bestR_ok hs h
  unfold cnt
  obtain ⟨n, hn⟩ : ∃ n, s.sum.toNat = n + 1 := ⟨s.sum.toNat - 1, by omega⟩
  rw [hn, show (bestK s).sum.toNat = n from by omega, show (bestR s).sum.toNat = n from by omega]
  rfl
theorem row_step {s : List Int} (hs : Szs s) (h : 1 ≤ s.sum) : row s = if s.length = 1 then row (bestK s) ++ [0] else addR (row (bestK s)) (row (bestR s)) := by
  obtain ⟨_, h1, _⟩ := bestK_ok hs h
  obtain ⟨_, h2, _⟩ := bestR_ok hs h
  unfold row
  obtain ⟨n, hn⟩ : ∃ n, s.sum.toNat = n + 1 := ⟨s.sum.toNat - 1, by omega⟩
  rw [hn, show (bestK s).sum.toNat = n from by omega, show (bestR s).sum.toNat = n from by omega]
  rfl
theorem row_len (s : List Int) : (row s).length = s.sum.toNat + 1 := rowN_len _ _
/-- a table whose entries are right -/
structure Good {α : Type} (v : List Int → α) (t : Tb α) : Prop where
  nd : (t.map Prod.fst).Nodup
  ok : ∀ k x, look t k = some x → x = v k ∧ Szs k ∧ k.sum ≤ 60
def Has {α : Type} (t : Tb α) (k : List Int) : Prop := (look t k).isSome = true
theorem Good.at {α : Type} {v : List Int → α} {t : Tb α} {k : List Int} (g : Good v t) (h : Has t k) : look t k = some (v k) := by
  obtain ⟨x, hx⟩ := Option.isSome_iff_exists.mp h
  rw [hx, (g.ok k x hx).1]
theorem Good.len {α : Type} {v : List Int → α} {t : Tb α} (g : Good v t) : t.length ≤ 8000000 := by
  have := few g.nd fun k hk => by
    obtain ⟨x, hx⟩ := Option.isSome_iff_exists.mp (look_mem.mpr hk)
    exact (g.ok k x hx).2
  rwa [List.length_map] at this
theorem Good.put {α : Type} {v : List Int → α} {t : Tb α} {k : List Int} (g : Good v t) (hk : Szs k) (h : k.sum ≤ 60) : Good v (put t k (v k)) := by
  refine ⟨put_nodup g.nd, fun k' x hx => ?_⟩
  rw [look_put] at hx
  split at hx
  · rename_i e
    cases hx
    subst e
    exact ⟨rfl, hk, h⟩
  · exact g.ok k' x hx
theorem Has.put {α : Type} {t : Tb α} {k k' : List Int} {x : α} (h : Has t k' ∨ k' = k) : Has (put t k x) k' := by
  unfold Has
  rw [look_put]
  split
  · rfl
  · rename_i hn
    rcases h with h | h
    · exact h
    · exact absurd h.symm hn
theorem Good.nil {α : Type} {v : List Int → α} : Good v [] := ⟨List.nodup_nil, fun _ _ h => nomatch h⟩
theorem put_put {α : Type} {v : List Int → α} {t : Tb α} {k : List Int} {y : α} (g : Good v t) (hk : Szs k) (h : k.sum ≤ 60) : Good v (Dl.put (Dl.put t k y) k (v k)) := by
  refine ⟨put_nodup (put_nodup g.nd), fun k' x hx => ?_⟩
  rw [look_put, look_put] at hx
  split at hx
  · rename_i e
    cases hx
    subst e
    exact ⟨rfl, hk, h⟩
  · exact g.ok k' x hx
/-- order_counts' table -/
def ostep (t : Tb Int) (u : List Int) : Tb Int := if u.length = 1 then put t u (cnt (bestK u)) else put (put t u (cnt (bestK u))) u (cnt (bestK u) + cnt (bestR u))
def ordT (s : List Int) : Nat → Tb Int
  | 0 => [([], 1)]
  | i + 1 => (wordsN s (s.sum.toNat - 1 - i)).foldl ostep (ordT s i)
theorem ostep_good {t : Tb Int} {u : List Int} (g : Good cnt t) (hu : Szs u) (h1 : 1 ≤ u.sum) (h : u.sum ≤ 60) : Good cnt (ostep t u) := by
  have e := cnt_step hu h1
  unfold ostep
  split
  · rename_i hl
    rw [if_pos hl] at e
    rw [← e]
    exact g.put hu h
  · rename_i hl
    rw [if_neg hl] at e
    rw [← e]
    exact put_put g hu h
theorem ostep_has {t : Tb Int} {u k : List Int} (h : Has t k ∨ k = u) : Has (ostep t u) k := by
  unfold ostep
  split
  · exact Has.put h
  · exact Has.put (h.imp (fun h => Has.put (.inl h)) id)
theorem fold_good {ws : List (List Int)} (h : ∀ u ∈ ws, Szs u ∧ 1 ≤ u.sum ∧ u.sum ≤ 60) : ∀ {t : Tb Int}, Good cnt t → Good cnt (ws.foldl ostep t) := by
  induction ws with
  | nil => exact fun g => g
  | cons u ws ih =>
    intro t g
    obtain ⟨a, b, c⟩ := h u List.mem_cons_self
    exact ih (fun v hv => h v (List.mem_cons_of_mem _ hv)) (ostep_good g a b c)
theorem fold_has {ws : List (List Int)} {k : List Int} : ∀ {t : Tb Int}, Has t k ∨ k ∈ ws → Has (ws.foldl ostep t) k := by
  induction ws with
  | nil => exact fun h => h.elim id fun h => nomatch h
  | cons u ws ih =>
    intro t h
    apply ih
    rcases h with h | h
    · exact .inl (ostep_has (.inl h))
    · rcases List.mem_cons.mp h with rfl | h
      · exact .inl (ostep_has (.inr rfl))
      · exact .inr h
theorem good_one {α : Type} {v : List Int → α} {x : α} (h : x = v []) : Good v [([], x)] := by
  refine ⟨by simp, fun k y hy => ?_⟩
  have hy : (if ([] : List Int) = k then some x else none) = some y := hy
  split at hy
  · rename_i e
    cases hy
    subst e
    exact ⟨h, ⟨fun _ h => (nomatch h), .nil⟩, by decide⟩
  · cases hy
section
variable {s : List Int}
theorem words_at (hs : Szs s) (h60 : s.sum ≤ 60) {i : Nat} (hi : i < s.sum.toNat) : ∀ u ∈ wordsN s (s.sum.toNat - 1 - i), Szs u ∧ 1 ≤ u.sum ∧ u.sum ≤ 60 ∧ u.sum = (i : Int) + 1 := fun u hu => by
  obtain ⟨a, b⟩ := (words_ok hs (s.sum.toNat - 1 - i) (by omega)).szs u hu
  exact ⟨a, by omega, by omega, by omega⟩
theorem ord_good (hs : Szs s) (h60 : s.sum ≤ 60) : ∀ i, i ≤ s.sum.toNat → Good cnt (ordT s i)
  | 0, _ => good_one rfl
  | i + 1, h => fold_good (fun u hu => by
    obtain ⟨a, b, c, _⟩ := words_at hs h60 (by omega) u hu
    exact ⟨a, b, c⟩) (ord_good hs h60 i (by omega))
/-- the words behind layer s.sum - 1 - i -/
theorem ord_has (hs : Szs s) (h60 : s.sum ≤ 60) : ∀ i, i ≤ s.sum.toNat → ∀ k ∈ wordsN s (s.sum.toNat - i), Has (ordT s i) k
  | 0, _, k, hk => by
    obtain ⟨a, b⟩ := (words_ok hs (s.sum.toNat - 0) (by have := sum_nn hs; omega)).szs k hk
    have := sum_nn hs
    rw [nil_of a (by omega)]
    rfl
  | i + 1, h, k, hk => fold_has (.inr (by rw [show s.sum.toNat - 1 - i = s.sum.toNat - (i + 1) from by omega]; exact hk))
theorem next_of {i : Nat} (hi : i < s.sum.toNat) {u : List Int} (hu : u ∈ wordsN s (s.sum.toNat - 1 - i)) : bestK u ∈ wordsN s (s.sum.toNat - i) ∧ (u.length ≠ 1 → bestR u ∈ wordsN s (s.sum.toNat - i)) := by
  have e : s.sum.toNat - i = (s.sum.toNat - 1 - i) + 1 := by omega
  rw [e]
  exact ⟨next_mem.mpr ⟨u, hu, .inl rfl⟩, fun h => next_mem.mpr ⟨u, hu, .inr ⟨h, rfl⟩⟩⟩
end
section
variable {te : TE} {Γ : Ga} {α : Type} {f : α → D}
theorem en_dnewT : EvN tDNewT Γ (tabD f []) := fun G W σ H ok Q q => fun p hp => q p G _ (Stp.own ok.g hp) hp (fresh_g (Stp.refl ok.g) hp) (by rw [upd_same]; exact RpO.ofTab .nil)
theorem layers_at {s : List Int} {n i : Nat} (h : i < n) : ixD ((List.range n).map fun k => tabZ pairD (lay (wordsN s k))) (((List.range n).map fun k => tabZ pairD (lay (wordsN s k))).length - 1 - i) = tabZ pairD (lay (wordsN s (n - 1 - i))) := by
  apply ixD_at
  rw [List.length_map, List.length_range, List.getElem?_map, List.getElem?_range (by omega)]; rfl
theorem items_at {ws : List (List Int)} {j : Nat} (h : j < ws.length) : ixD ((lay ws).map fun p => D.tup [tupI p.1, pairD p.2]) j = D.tup [tupI ws[j], .tup [tupI (bestK ws[j]), if ws[j].length = 1 then .non else tupI (bestR ws[j])]] := by
  apply ixD_at
  unfold lay
  rw [List.map_map, List.getElem?_map, List.getElem?_eq_getElem h]; rfl
theorem lay_len (ws : List (List Int)) : (lay ws).length = ws.length := by simp [lay]
end
section
variable {P : Program} {w : World} {K : PySem.W.Frag} {mg : Str → Option Value} {base : Heap} {a : Adr}
def ROrd (ds : List D) (d : D) : Prop := ∃ s : List Int, ds = [.lst [dI s]] ∧ Szs s ∧ s.sum ≤ 60 ∧ d = tabD D.int (ordT s s.sum.toNat)
theorem ok_order_counts (T : Txt K mg a) : FnOk P w K mg base CX0 6 a.a_order_counts a.d_order_counts ["starts"] (NewSp ROrd) := by
  refine fn_new T.F_order_counts sc_order_counts (fun ds d ⟨_, e, _⟩ => by rw [e]; rfl) (by decide) fun cdv A outer s H E hr => ⟨_, (pss_cons (ps_set (i := 1) sc_order_counts.nd rfl (by first | exact Or.inl rfl | exact Or.inr rfl) (pe_disp1 (hu_of hr) (pe_tup pa_nil) pe_int)) (pss_cons (ps_for PassesOwn.never rfl (reversedK (K := K) (by rfl) T.z_reversed (pa_cons (pe_call (ok_play_layers T) (hr.mono (by first | decide | omega)) rfl T.g_play_layers T.F_play_layers.kp T.b_play_layers .nil pass0 (pa_cons (pv 0) pa_nil)) pa_nil)) (pg_name (i := 2) sc_order_counts.nd rfl (by first | exact Or.inl rfl | exact Or.inr rfl)) (pss_one (ps_for PassesOwn.never rfl (pi_itemsT (pv 2)) (tupG (K := K) rfl (pgs_cons (pg_name (i := 3) sc_order_counts.nd rfl (by first | exact Or.inl rfl | exact Or.inr rfl)) (pgs_cons (tupG (K := K) rfl (pgs_cons (pg_name (i := 4) sc_order_counts.nd rfl (by first | exact Or.inl rfl | exact Or.inr rfl)) (pgs_cons (pg_name (i := 5) sc_order_counts.nd rfl (by first | exact Or.inl rfl | exact Or.inr rfl)) pgs_nil))) pgs_nil))) (pss_cons (ps_dput (hu_of hr) (pv 1) (pv 3) (pe_dget (hu_of hr) (pv 1) (pv 4) (fun _ _ => rfl)) rfl) (pss_one (ps_if (pt_cmpR op_isnotA (pv 5) pe_non (nomark _)) (pss_one (ps_dput (hu_of hr) (pv 1) (pv 3) (pe_op op_addA (pe_dget (hu_of hr) (pv 1) (pv 4) (fun _ _ => rfl)) (pe_dget (hu_of hr) (pv 1) (pv 5) (fun _ _ => rfl))) rfl)) pss_nil)))))) (pss_one (ps_ret (pv 1))))), ?_⟩
  rintro ds d ⟨s, rfl, hs, h60, rfl⟩
  have hnn := sum_nn hs
  refine sd_seq (sd_asgN (d := tabD D.int (ordT s 0)) (en_disp1 (f := D.int) (k := []) (x := 1) (ev_tup ea_nil (by decide)) ev_int) ?_)
  refine sd_seq (sd_for (vs := [2]) (ei_rev (ds := (List.range s.sum.toNat).map fun k => tabZ pairD (lay (wordsN s k))) (EvN.dt (en_call (ea_cons (ev_var rfl) ea_nil) ⟨s, rfl, hs, h60, rfl⟩)))
    (fun i Γ' => ∃ z2 z3 z4 z5, Γ' = [.dat (.lst [dI s]), .own (tabD D.int (ordT s i)), z2, z3, z4, z5]) ⟨_, _, _, _, rfl⟩ ?_ ?_)
  · rintro i Γ' hi ⟨z2, z3, z4, z5, rfl⟩
    have hi : i < s.sum.toNat := by simpa using hi
    refine ⟨_, eg_name (by simp), ?_⟩
    rw [layers_at hi]
    have hw := words_at hs h60 hi
    have hg := ord_good hs h60 i (by omega)
    have hh := ord_has hs h60 i (by omega)
    have hnx := fun u hu => next_of (s := s) (u := u) hi hu
    have e1 : ordT s (i + 1) = (wordsN s (s.sum.toNat - 1 - i)).foldl ostep (ordT s i) := rfl
    rw [e1]
    generalize wordsN s (s.sum.toNat - 1 - i) = ws at *
    generalize ordT s i = t0 at *
    refine sd_for (vs := [3, 4, 5]) (ei_items (ev_var rfl)) (fun j Γ' => ∃ z3 z4 z5, Γ' = [.dat (.lst [dI s]), .own (tabD D.int ((ws.take j).foldl ostep t0)), .dat (tabZ pairD (lay ws)), z3, z4, z5]) ⟨_, _, _, rfl⟩ ?_ ?_
    · rintro j Γ' hj ⟨z3, z4, z5, rfl⟩
      have hj : j < ws.length := by rw [lay_len] at hj; exact hj
      dsimp only
      rw [items_at hj]
      refine ⟨_, eg_tup (egs_cons (eg_name (by simp)) (egs_cons (eg_tup (egs_cons (eg_name (by simp)) (egs_cons (eg_name (by simp)) egs_nil)) rfl) egs_nil)) rfl, ?_⟩
      have hu : ws[j] ∈ ws := List.getElem_mem _
      obtain ⟨a1, a2, a3, a4⟩ := hw _ hu
      obtain ⟨b1, b2⟩ := hnx _ hu
      have tg : Good cnt ((ws.take j).foldl ostep t0) := fold_good (fun v hv => by
        obtain ⟨a, b, c, _⟩ := hw v (List.mem_of_mem_take hv)
        exact ⟨a, b, c⟩) hg
      have tK := tg.at (fold_has (.inl (hh _ b1)) : Has ((ws.take j).foldl ostep t0) (bestK ws[j]))
      have ef : (ws.take (j + 1)).foldl ostep t0 = ostep ((ws.take j).foldl ostep t0) ws[j] := by
        rw [List.take_succ, List.getElem?_eq_getElem hj, List.foldl_append]; rfl
      rw [ef]
      have tR := fun h => tg.at (fold_has (.inl (hh _ (b2 h))) : Has ((ws.take j).foldl ostep t0) (bestR ws[j]))
      have hlen := tg.len
      obtain ⟨_, sK, _⟩ := bestK_ok a1 a2
      obtain ⟨_, sR, _⟩ := bestR_ok a1 a2
      have nK : ws[j] ≠ bestK ws[j] := fun e => by rw [← e] at sK; omega
      have nR : ws[j] ≠ bestR ws[j] := fun e => by rw [← e] at sR; omega
      generalize (ws.take j).foldl ostep t0 = t at *
      generalize ws[j] = u at *
      refine sd_seq (sd_dput (x := cnt (bestK u)) (k := u) rfl (ev_dget (tb_own rfl) (ev_var rfl) tK) (ev_var rfl) (Nat.lt_of_le_of_lt hlen (by decide)) ?_)
      refine sd_if (et_test (ev_notN (ev_var rfl).rd)) (fun hb => ?_) fun hb => sd_next ?_
      · by_cases hl : u.length = 1
        · rw [if_pos hl] at hb; cases hb
        · have hp := put_len t u (cnt (bestK u))
          have eo : ostep t u = put (put t u (cnt (bestK u))) u (cnt (bestK u) + cnt (bestR u)) := by unfold ostep; rw [if_neg hl]
          rw [eo, if_neg hl]
          refine sd_dput (f := D.int) (x := cnt (bestK u) + cnt (bestR u)) (k := u) rfl (ev_add (ev_dget (f := D.int) (tb_own rfl) (ev_var rfl) ?_) (ev_dget (f := D.int) (tb_own rfl) (ev_var rfl) ?_)) (ev_var rfl) (Nat.lt_of_le_of_lt (Nat.le_trans hp (Nat.succ_le_succ hlen)) (by decide)) ⟨_, _, _, rfl⟩
          · rw [look_put, if_neg nK]; exact tK
          · rw [look_put, if_neg nR]; exact tR hl
      · by_cases hl : u.length = 1
        · have eo : ostep t u = put t u (cnt (bestK u)) := by unfold ostep; rw [if_pos hl]
          rw [eo]
          exact ⟨_, _, _, rfl⟩
        · rw [if_neg hl] at hb; cases hb
    · rintro Γ' ⟨z3, z4, z5, rfl⟩
      rw [lay_len, List.take_length]
      exact ⟨_, _, _, _, rfl⟩
  · rintro Γ' ⟨z2, z3, z4, z5, rfl⟩
    refine sd_retO rfl ?_
    rw [List.length_map, List.length_range]
def RCount (ds : List D) (d : D) : Prop := ∃ s : List Int, ds = [dI s] ∧ Szs s ∧ s.sum ≤ 60 ∧ d = .int (cnt s)
theorem ok_count_orders (T : Txt K mg a) : FnOk P w K mg base CX0 7 a.a_count_orders a.d_count_orders ["sizes"] (PureSp RCount) := by
  refine fn_pure T.F_count_orders sc_count_orders (fun ds d ⟨_, e, _⟩ => by rw [e]; rfl) (by decide) fun cdv A outer s H E hr => ⟨_, (pss_one (ps_ret (pe_dget (hu_of hr) (pe_call (ok_order_counts T) (hr.mono (by first | decide | omega)) rfl T.g_order_counts T.F_order_counts.kp T.b_order_counts .nil pass0 (pa_cons (pe_lst (pa_cons (pv 0) pa_nil)) pa_nil)) (pe_callTy (tupleK (K := K)) (by rfl) T.z_tuple bt_tuple (pa_cons (pv 0) pa_nil)) (fun _ _ => rfl)))), ?_⟩
  rintro ds d ⟨s, rfl, hs, h60, rfl⟩
  have hnn := sum_nn hs
  have hh := ord_has hs h60 s.sum.toNat (Nat.le_refl _) s (by rw [Nat.sub_self]; exact List.mem_singleton.mpr rfl)
  exact sd_ret (ev_dget (f := D.int) (tb_dat (EvN.dt (en_call (ea_cons (EvN.dt (en_lst (ea_cons (ev_var rfl) ea_nil) (by show 1 ≤ sizeLine; decide))) ea_nil) ⟨s, rfl, hs, h60, rfl⟩))) (ev_tuple (ev_var rfl).rd) ((ord_good hs h60 _ (Nat.le_refl _)).at hh)) (.inl rfl)
/-! ### raid_counts -/
def rstep (t : Tb (List Int)) (u : List Int) : Tb (List Int) := put t u (row u)
def raidT (s : List Int) : Nat → Tb (List Int)
  | 0 => [([], [1])]
  | i + 1 => (wordsN s (s.sum.toNat - 1 - i)).foldl rstep []
theorem rfold_good {ws : List (List Int)} (h : ∀ u ∈ ws, Szs u ∧ 1 ≤ u.sum ∧ u.sum ≤ 60) : ∀ {t : Tb (List Int)}, Good row t → Good row (ws.foldl rstep t) := by
  induction ws with
  | nil => exact fun g => g
  | cons u ws ih =>
    intro t g
    obtain ⟨a, b, c⟩ := h u List.mem_cons_self
    exact ih (fun v hv => h v (List.mem_cons_of_mem _ hv)) (g.put a c)
theorem rfold_has {ws : List (List Int)} {k : List Int} : ∀ {t : Tb (List Int)}, Has t k ∨ k ∈ ws → Has (ws.foldl rstep t) k := by
  induction ws with
  | nil => exact fun h => h.elim id fun h => nomatch h
  | cons u ws ih =>
    intro t h
    apply ih
    rcases h with h | h
    · exact .inl (Has.put (.inl h))
    · rcases List.mem_cons.mp h with rfl | h
      · exact .inl (Has.put (.inr rfl))
      · exact .inr h
theorem raid_good {s : List Int} (hs : Szs s) (h60 : s.sum ≤ 60) : ∀ i, i ≤ s.sum.toNat → Good row (raidT s i)
  | 0, _ => good_one rfl
  | i + 1, h => rfold_good (fun u hu => by
    obtain ⟨a, b, c, _⟩ := words_at hs h60 (by omega) u hu
    exact ⟨a, b, c⟩) Good.nil
theorem raid_has {s : List Int} (hs : Szs s) (h60 : s.sum ≤ 60) : ∀ i, i ≤ s.sum.toNat → ∀ k ∈ wordsN s (s.sum.toNat - i), Has (raidT s i) k
  | 0, _, k, hk => by
    obtain ⟨a, b⟩ := (words_ok hs (s.sum.toNat - 0) (by have := sum_nn hs; omega)).szs k hk
    have := sum_nn hs
    rw [nil_of a (by omega)]
    rfl
  | i + 1, h, k, hk => rfold_has (.inr (by rw [show s.sum.toNat - 1 - i = s.sum.toNat - (i + 1) from by omega]; exact hk))
def RRaid (ds : List D) (d : D) : Prop := ∃ s : List Int, ds = [dI s] ∧ Szs s ∧ s.sum ≤ 60 ∧ d = dI (row s)
theorem ok_raid_counts (T : Txt K mg a) : FnOk P w K mg base CX0 6 a.a_raid_counts a.d_raid_counts ["sizes"] (NewSp RRaid) := by
  refine fn_newF T.F_raid_counts sc_raid_counts rfl (by decide) (fun ds es ⟨s, e1, hs, h60, e2⟩ => ⟨s, row s, e1, e2, fun q => ?_⟩) fun cdv A outer s H E hr => ⟨_, (pss_cons (ps_set (i := 1) sc_raid_counts.nd rfl (by first | exact Or.inl rfl | exact Or.inr rfl) (pe_disp1 (hu_of hr) (pe_tup pa_nil) (pe_lst (pa_cons pe_int pa_nil)))) (pss_cons (ps_for PassesOwn.never rfl (reversedK (K := K) (by rfl) T.z_reversed (pa_cons (pe_call (ok_play_layers T) (hr.mono (by first | decide | omega)) rfl T.g_play_layers T.F_play_layers.kp T.b_play_layers .nil pass0 (pa_cons (pe_lst (pa_cons (pv 0) pa_nil)) pa_nil)) pa_nil)) (pg_name (i := 2) sc_raid_counts.nd rfl (by first | exact Or.inl rfl | exact Or.inr rfl)) (pss_cons (ps_set (i := 3) sc_raid_counts.nd rfl (by first | exact Or.inl rfl | exact Or.inr rfl) pe_dnewT) (pss_cons (ps_for PassesOwn.never rfl (pi_itemsT (pv 2)) (tupG (K := K) rfl (pgs_cons (pg_name (i := 4) sc_raid_counts.nd rfl (by first | exact Or.inl rfl | exact Or.inr rfl)) (pgs_cons (tupG (K := K) rfl (pgs_cons (pg_name (i := 5) sc_raid_counts.nd rfl (by first | exact Or.inl rfl | exact Or.inr rfl)) (pgs_cons (pg_name (i := 6) sc_raid_counts.nd rfl (by first | exact Or.inl rfl | exact Or.inr rfl)) pgs_nil))) pgs_nil))) (pss_cons (ps_set (i := 7) sc_raid_counts.nd rfl (by first | exact Or.inl rfl | exact Or.inr rfl) (pe_op op_addA (pe_dget (hu_of hr) (pv 1) (pv 5) (fun _ _ => rfl)) (pe_lst (pa_cons pe_int pa_nil)))) (pss_cons (ps_if (pt_cmpR op_isnotA (pv 6) pe_non (nomark _)) (pss_one (ps_for PassesOwn.never rfl (enumK (K := K) (by rfl) T.z_enumerate (pa_cons (pe_dget (hu_of hr) (pv 1) (pv 6) (fun _ _ => rfl)) pa_nil)) (tupG (K := K) rfl (pgs_cons (pg_name (i := 8) sc_raid_counts.nd rfl (by first | exact Or.inl rfl | exact Or.inr rfl)) (pgs_cons (pg_name (i := 9) sc_raid_counts.nd rfl (by first | exact Or.inl rfl | exact Or.inr rfl)) pgs_nil))) (pss_one (ps_augS (pv 7) (pe_op op_addA (pv 8) pe_int) get_list (pv 9) ip_add set_list)))) pss_nil) (pss_one (ps_dput (hu_of hr) (pv 3) (pv 4) (pv 7) rfl))))) (pss_one (ps_set (i := 1) sc_raid_counts.nd rfl (by first | exact Or.inl rfl | exact Or.inr rfl) (pv 3)))))) (pss_one (ps_ret (pe_dget (hu_of hr) (pv 1) (pe_callTy (tupleK (K := K)) (by rfl) T.z_tuple bt_tuple (pa_cons (pv 0) pa_nil)) (fun _ _ => rfl)))))), ?_⟩
  · have h1 := row_len s
    rw [← q] at h1
    have := pos_len hs.pos
    omega
  rintro ds d ⟨s, rfl, hs, h60, rfl⟩
  have hnn := sum_nn hs
  refine sd_seq (sd_asg (d := tabD dI (raidT s 0)) (EvN.dt (en_disp1 (f := dI) (k := []) (x := [1]) (ev_tup ea_nil (by decide)) (EvN.dt (en_lst (ea_cons ev_int ea_nil) (by show 1 ≤ sizeLine; decide))))) ?_)
  refine sd_seq (sd_for (vs := [2]) (ei_rev (ds := (List.range s.sum.toNat).map fun k => tabZ pairD (lay (wordsN s k))) (EvN.dt (en_call (ea_cons (EvN.dt (en_lst (ea_cons (ev_var rfl) ea_nil) (by show 1 ≤ sizeLine; decide))) ea_nil) ⟨s, rfl, hs, h60, rfl⟩)))
    (fun i Γ' => ∃ z2 z3 z4 z5 z6 z7 z8 z9, Γ' = [.dat (dI s), .dat (tabD dI (raidT s i)), z2, z3, z4, z5, z6, z7, z8, z9]) ⟨_, _, _, _, _, _, _, _, rfl⟩ ?_ ?_)
  · rintro i Γ' hi ⟨z2, z3, z4, z5, z6, z7, z8, z9, rfl⟩
    have hi : i < s.sum.toNat := by simpa using hi
    refine ⟨_, eg_name (by simp), ?_⟩
    rw [layers_at hi]
    have hw := words_at hs h60 hi
    have hg := raid_good hs h60 i (by omega)
    have hh := raid_has hs h60 i (by omega)
    have hnx := fun u hu => next_of (s := s) (u := u) hi hu
    have e1 : raidT s (i + 1) = (wordsN s (s.sum.toNat - 1 - i)).foldl rstep [] := rfl
    rw [e1]
    generalize wordsN s (s.sum.toNat - 1 - i) = ws at *
    generalize raidT s i = t0 at *
    refine sd_seq (sd_asgN (d := tabD dI []) en_dnewT ?_)
    refine sd_seq (sd_for (vs := [4, 5, 6]) (ei_items (ev_var rfl)) (fun j Γ' => ∃ z4 z5 z6 z7 z8 z9, Γ' = [.dat (dI s), .dat (tabD dI t0), .dat (tabZ pairD (lay ws)), .own (tabD dI ((ws.take j).foldl rstep [])), z4, z5, z6, z7, z8, z9]) ⟨_, _, _, _, _, _, rfl⟩ ?_ ?_)
    · rintro j Γ' hj ⟨z4, z5, z6, z7, z8, z9, rfl⟩
      have hj : j < ws.length := by rw [lay_len] at hj; exact hj
      dsimp only
      rw [items_at hj]
      refine ⟨_, eg_tup (egs_cons (eg_name (by simp)) (egs_cons (eg_tup (egs_cons (eg_name (by simp)) (egs_cons (eg_name (by simp)) egs_nil)) rfl) egs_nil)) rfl, ?_⟩
      have hu : ws[j] ∈ ws := List.getElem_mem _
      obtain ⟨a1, a2, a3, a4⟩ := hw _ hu
      obtain ⟨b1, b2⟩ := hnx _ hu
      have tg : Good row ((ws.take j).foldl rstep []) := rfold_good (fun v hv => by
        obtain ⟨a, b, c, _⟩ := hw v (List.mem_of_mem_take hv)
        exact ⟨a, b, c⟩) Good.nil
      have tK := hg.at (hh _ b1)
      have tR := fun h => hg.at (hh _ (b2 h))
      have ef : (ws.take (j + 1)).foldl rstep [] = put ((ws.take j).foldl rstep []) ws[j] (row ws[j]) := by
        rw [List.take_succ, List.getElem?_eq_getElem hj, List.foldl_append]; rfl
      rw [ef]
      have hlen := tg.len
      have hst := row_step a1 a2
      have lK := row_len (bestK ws[j])
      have lR := row_len (bestR ws[j])
      obtain ⟨_, sK, _⟩ := bestK_ok a1 a2
      obtain ⟨_, sR, _⟩ := bestR_ok a1 a2
      generalize (ws.take j).foldl rstep [] = t at *
      generalize ws[j] = u at *
      refine sd_seq (sd_asgN (d := dI (addGo (row (bestK u)) (row (bestR u)) 0)) (EvN.of (en_catT (f := D.int) (ev_dget (f := dI) (tb_dat (ev_var rfl)) (ev_var rfl) tK).rd (EvN.of (en_lst (ea_cons ev_int ea_nil) (by show 1 ≤ sizeLine; decide)) (show D.lst _ = dI [0] from rfl)).dt.rd (by simp only [List.length_cons, List.length_nil]; omega)) rfl) ?_)
      refine sd_seq (sd_if (et_test (ev_notN (ev_var rfl).rd)) (fun hb => ?_) fun hb => sd_next ?_)
      · by_cases hl : u.length = 1
        · rw [if_pos hl] at hb; cases hb
        · rw [if_neg hl] at hst
          rw [if_neg hl]
          refine sd_for (vs := [8, 9]) (ei_enum (ds := (row (bestR u)).map D.int) (ev_dget (f := dI) (tb_dat (ev_var rfl)) (ev_var rfl) (tR hl))) (fun l Γ' => ∃ z8 z9, Γ' = [.dat (dI s), .dat (tabD dI t0), .dat (tabZ pairD (lay ws)), .own (tabD dI t), .dat (tupI u), .dat (tupI (bestK u)), .dat (tupI (bestR u)), .own (dI (addGo (row (bestK u)) (row (bestR u)) l)), z8, z9]) ⟨_, _, rfl⟩ ?_ ?_
          · rintro l Γ' hl2 ⟨z8, z9, rfl⟩
            have hl2 : l < (row (bestR u)).length := by simpa using hl2
            have hgl := addGo_len (row (bestK u)) (row (bestR u)) l
            dsimp only
            rw [ixD_at (d := D.int ((row (bestR u)).getD l 0)) (by rw [List.getElem?_map, List.getElem?_eq_getElem hl2, List.getD_eq_getElem?_getD, List.getElem?_eq_getElem hl2]; rfl)]
            refine ⟨_, eg_tup (egs_cons (eg_name (by simp)) (egs_cons (eg_name (by simp)) egs_nil)) rfl, ?_⟩
            refine sd_augL (g := fun i j => i + j) (j := l + 1) rfl (ev_add (ev_var rfl) ev_int) (ev_var rfl) (by rw [show ((l : Int) + 1) = ((l + 1 : Nat) : Int) from by omega]; exact ixN_nat (by omega)) ⟨.dat (.int (l : Int)), .dat (.int ((row (bestR u)).getD l 0)), ?_⟩
            rw [addGo_succ]; rfl
          · rintro Γ' ⟨z8, z9, rfl⟩
            refine sd_freeze 7 rfl ?_
            refine sd_dput (f := dI) (x := row u) (k := u) rfl ((ev_var rfl).of ?_) (ev_var rfl) (Nat.lt_of_le_of_lt hlen (by decide)) ⟨_, _, _, _, _, _, rfl⟩
            rw [hst, List.length_map]; rfl
      · by_cases hl : u.length = 1
        · rw [if_pos hl] at hst
          refine sd_freeze 7 rfl ?_
          refine sd_dput (f := dI) (x := row u) (k := u) rfl ((ev_var rfl).of ?_) (ev_var rfl) (Nat.lt_of_le_of_lt hlen (by decide)) ⟨_, _, _, _, _, _, rfl⟩
          rw [hst]; rfl
        · rw [if_neg hl] at hb; cases hb
    · rintro Γ' ⟨z4, z5, z6, z7, z8, z9, rfl⟩
      rw [lay_len, List.take_length]
      refine sd_freeze 3 rfl ?_
      exact sd_asg (ev_var rfl) ⟨_, _, _, _, _, _, _, _, rfl⟩
  · rintro Γ' ⟨z2, z3, z4, z5, z6, z7, z8, z9, rfl⟩
    rw [List.length_map, List.length_range]
    have hh := raid_has hs h60 s.sum.toNat (Nat.le_refl _) s (by rw [Nat.sub_self]; exact List.mem_singleton.mpr rfl)
    exact sd_ret (ev_dget (f := dI) (tb_dat (ev_var rfl)) (ev_tuple (ev_var rfl).rd) ((raid_good hs h60 _ (Nat.le_refl _)).at hh)) rfl
end
end Kt
namespace Kt
open PySem PySem.Spec L2 Dl
local macro_rules | `(tactic| walk_at "side") => `(tactic| first
  | exact cpow18
  | (simp only [List.length_cons, List.length_nil]; decide)
  | ((fail_if_success (with_reducible apply isEvD)); (fail_if_success (with_reducible apply isEvB)); (fail_if_success (with_reducible apply isEvN)); (fail_if_success (with_reducible apply isEvA)); (fail_if_success (with_reducible apply isEvAB)); (fail_if_success (with_reducible apply isEvT)); (fail_if_success (with_reducible apply isEvO)); (fail_if_success (intro _; (with_reducible apply isEvD))); (fail_if_success (intro _; (with_reducible apply isEvT)))))
local macro_rules | `(tactic| walk_at "evB") => `(tactic| first
  | ((with_reducible apply eb_own) <;> exact rfl)
  | ((with_reducible apply EvD.rd) <;> first | walk_at "any" | walk_at "side"))
local macro_rules | `(tactic| walk_at "evA") => `(tactic| first
  | with_reducible exact ea_nil
  | ((with_reducible apply ea_cons) <;> first | walk_at "any" | walk_at "side"))
local macro_rules | `(tactic| walk_at "evAB") => `(tactic| first
  | with_reducible exact eab_nil
  | ((with_reducible apply eab_cons) <;> first | walk_at "any" | walk_at "side"))
local macro_rules | `(tactic| walk_at "eo") => `(tactic| first
  | with_reducible exact eo_none
  | ((with_reducible apply eo_some) <;> first | walk_at "any" | walk_at "side"))
local macro_rules | `(tactic| walk_at "evN") => `(tactic| first
  | ((with_reducible apply en_lst) <;> first | walk_at "any" | walk_at "side")
  | ((with_reducible apply en_list) <;> first | walk_at "any" | walk_at "side")
  | ((with_reducible apply en_listT) <;> first | walk_at "any" | walk_at "side")
  | ((with_reducible apply en_sorted) <;> first | walk_at "any" | walk_at "side")
  | ((with_reducible apply en_sortedR) <;> first | walk_at "any" | walk_at "side")
  | ((with_reducible apply en_rev) <;> first | walk_at "any" | walk_at "side")
  | ((with_reducible apply en_sl) <;> first | walk_at "any" | walk_at "side")
  | ((with_reducible apply en_cat) <;> first | walk_at "any" | walk_at "side")
  | ((with_reducible apply en_rep1) <;> first | walk_at "any" | walk_at "side")
  | ((with_reducible apply en_call) <;> first | walk_at "any" | walk_at "side"))
local macro_rules | `(tactic| walk_at "ev") => `(tactic| first
  | ((with_reducible apply ev_var) <;> exact rfl)
  | with_reducible exact ev_int
  | with_reducible exact ev_str
  | with_reducible exact ev_bl
  | with_reducible exact ev_non
  | ((with_reducible apply ev_intI) <;> first | walk_at "any" | walk_at "side")
  | ((with_reducible apply ev_add) <;> first | walk_at "any" | walk_at "side")
  | ((with_reducible apply ev_sub) <;> first | walk_at "any" | walk_at "side")
  | ((with_reducible apply ev_mul) <;> first | walk_at "any" | walk_at "side")
  | ((with_reducible apply ev_mod) <;> first | walk_at "any" | walk_at "side")
  | ((with_reducible apply ev_fdiv) <;> first | walk_at "any" | walk_at "side")
  | ((with_reducible apply ev_pow) <;> first | walk_at "any" | walk_at "side")
  | ((with_reducible apply ev_lt) <;> first | walk_at "any" | walk_at "side")
  | ((with_reducible apply ev_le) <;> first | walk_at "any" | walk_at "side")
  | ((with_reducible apply ev_gt) <;> first | walk_at "any" | walk_at "side")
  | ((with_reducible apply ev_ge) <;> first | walk_at "any" | walk_at "side")
  | ((with_reducible apply ev_eqI) <;> first | walk_at "any" | walk_at "side")
  | ((with_reducible apply ev_neI) <;> first | walk_at "any" | walk_at "side")
  | ((with_reducible apply ev_eqS) <;> first | walk_at "any" | walk_at "side")
  | ((with_reducible apply ev_neS) <;> first | walk_at "any" | walk_at "side")
  | ((with_reducible apply ev_chainI) <;> first | walk_at "any" | walk_at "side")
  | ((with_reducible apply ev_isN) <;> first | walk_at "any" | walk_at "side")
  | ((with_reducible apply ev_notN) <;> first | walk_at "any" | walk_at "side")
  | ((with_reducible apply ev_neg) <;> first | walk_at "any" | walk_at "side")
  | ((with_reducible apply ev_abs) <;> first | walk_at "any" | walk_at "side")
  | ((with_reducible apply ev_max2) <;> first | walk_at "any" | walk_at "side")
  | ((with_reducible apply ev_min2) <;> first | walk_at "any" | walk_at "side")
  | ((with_reducible apply ev_sum) <;> first | walk_at "any" | walk_at "side")
  | ((with_reducible apply ev_maxL) <;> first | walk_at "any" | walk_at "side")
  | ((with_reducible apply ev_minL) <;> first | walk_at "any" | walk_at "side")
  | ((with_reducible apply ev_lenL) <;> first | walk_at "any" | walk_at "side")
  | ((with_reducible apply ev_lenT) <;> first | walk_at "any" | walk_at "side")
  | ((with_reducible apply ev_lenS) <;> first | walk_at "any" | walk_at "side")
  | ((with_reducible apply ev_inI) <;> first | walk_at "any" | walk_at "side")
  | ((with_reducible apply ev_ninI) <;> first | walk_at "any" | walk_at "side")
  | ((with_reducible apply ev_inB) <;> first | walk_at "any" | walk_at "side")
  | ((with_reducible apply ev_ninB) <;> first | walk_at "any" | walk_at "side")
  | ((with_reducible apply ev_ixI) <;> first | walk_at "any" | walk_at "side")
  | ((with_reducible apply ev_tup) <;> first | walk_at "any" | walk_at "side")
  | ((with_reducible apply ev_tuple) <;> first | walk_at "any" | walk_at "side")
  | ((with_reducible apply ev_andV) <;> first | walk_at "any" | walk_at "side")
  | ((with_reducible apply ev_orV) <;> first | walk_at "any" | walk_at "side")
  | ((with_reducible apply ev_notV) <;> first | walk_at "any" | walk_at "side")
  | ((with_reducible apply ev_cell) <;> first | exact rfl | walk_at "any" | decide)
  | ((with_reducible apply ev_call) <;> first | walk_at "any" | walk_at "side")
  | ((with_reducible apply EvN.dt) <;> first | walk_at "any" | walk_at "side"))
local macro_rules | `(tactic| walk_at "et") => `(tactic| first
  | ((with_reducible apply et_not) <;> first | walk_at "any" | walk_at "side")
  | ((with_reducible apply et_and) <;> first | walk_at "any" | walk_at "side")
  | ((with_reducible apply et_or) <;> first | walk_at "any" | walk_at "side")
  | ((with_reducible apply et_test) <;> first | walk_at "any" | walk_at "side")
  | ((with_reducible apply et_B) <;> first | walk_at "any" | walk_at "side"))
local macro_rules | `(tactic| walk_at "any") => `(tactic| first
  | ((with_reducible apply isEvD); walk_at "ev")
  | ((with_reducible apply isEvB); walk_at "evB")
  | ((with_reducible apply isEvT); walk_at "et")
  | ((with_reducible apply isEvA); walk_at "evA")
  | ((with_reducible apply isEvN); walk_at "evN")
  | ((with_reducible apply isEvAB); walk_at "evAB")
  | ((with_reducible apply isEvO); walk_at "eo")
  | (intro _; walk_at "any"))
local macro_rules | `(tactic| walk_at "s if") => `(tactic| (apply sd_if <;> first | walk_at "any" | exact rfl | skip))
local macro_rules | `(tactic| walk_at "q if") => `(tactic| (apply sd_seq; apply sd_if <;> first | walk_at "any" | exact rfl | skip))
local macro_rules | `(tactic| walk_at "s asg") => `(tactic| (apply sd_asg <;> first | walk_at "any" | exact rfl | skip))
local macro_rules | `(tactic| walk_at "q asg") => `(tactic| (apply sd_seq; apply sd_asg <;> first | walk_at "any" | exact rfl | skip))
local macro_rules | `(tactic| walk_at "s new") => `(tactic| (apply sd_asgN <;> first | walk_at "any" | exact rfl | skip))
local macro_rules | `(tactic| walk_at "q new") => `(tactic| (apply sd_seq; apply sd_asgN <;> first | walk_at "any" | exact rfl | skip))
local macro_rules | `(tactic| walk_at "s app") => `(tactic| (apply sd_app <;> first | walk_at "any" | exact rfl | skip))
local macro_rules | `(tactic| walk_at "q app") => `(tactic| (apply sd_seq; apply sd_app <;> first | walk_at "any" | exact rfl | skip))
local macro_rules | `(tactic| walk_at "s aug") => `(tactic| (apply sd_aug <;> first | walk_at "any" | exact rfl | skip))
local macro_rules | `(tactic| walk_at "q aug") => `(tactic| (apply sd_seq; apply sd_aug <;> first | walk_at "any" | exact rfl | skip))
local macro_rules | `(tactic| walk_at "s ret") => `(tactic| (apply sd_ret <;> first | walk_at "any" | exact rfl | skip))
local macro_rules | `(tactic| walk_at "q ret") => `(tactic| (apply sd_seq; apply sd_ret <;> first | walk_at "any" | exact rfl | skip))
local macro_rules | `(tactic| walk_at "s retN") => `(tactic| (apply sd_retN <;> first | walk_at "any" | exact rfl | skip))
local macro_rules | `(tactic| walk_at "q retN") => `(tactic| (apply sd_seq; apply sd_retN <;> first | walk_at "any" | exact rfl | skip))
local macro_rules | `(tactic| walk_at "s ifAsg") => `(tactic| (apply sd_ifAsg <;> first | walk_at "any" | exact rfl | skip))
local macro_rules | `(tactic| walk_at "q ifAsg") => `(tactic| (apply sd_seq; apply sd_ifAsg <;> first | walk_at "any" | exact rfl | skip))
local macro_rules | `(tactic| walk_at "s ifAsgI") => `(tactic| (apply sd_ifAsgI <;> first | walk_at "any" | exact rfl | skip))
local macro_rules | `(tactic| walk_at "q ifAsgI") => `(tactic| (apply sd_seq; apply sd_ifAsgI <;> first | walk_at "any" | exact rfl | skip))
local macro_rules | `(tactic| walk_at "s drop") => `(tactic| (apply sd_drop <;> first | walk_at "any" | exact rfl | skip))
local macro_rules | `(tactic| walk_at "q drop") => `(tactic| (apply sd_seq; apply sd_drop <;> first | walk_at "any" | exact rfl | skip))

theorem addGo_sum (xs ys : List Int) : ∀ j, j ≤ xs.length → j ≤ ys.length → (addGo xs ys j).sum = xs.sum + (ys.take j).sum
  | 0, _, _ => by simp [addGo]
  | j + 1, h1, h2 => by
    have ih := addGo_sum xs ys j (by omega) (by omega)
    have hl := addGo_len xs ys j
    rw [addGo_succ, sum_set' _ _ _ (by omega), ih, List.take_succ, List.getElem?_eq_getElem (by omega), List.sum_append]
    have e : ys.getD j 0 = ys[j] := by rw [List.getD_eq_getElem?_getD, List.getElem?_eq_getElem (by omega)]; rfl
    rw [e]
    simp only [Option.toList_some, List.sum_cons, List.sum_nil]
    omega
theorem row_sum {s : List Int} (hs : Szs s) : (row s).sum = cnt s := by
  have key : ∀ n, ∀ {s : List Int}, Szs s → s.sum = (n : Nat) → (row s).sum = cnt s := by
    intro n
    induction n with
    | zero =>
      intro s hs h
      rw [nil_of hs h]; rfl
    | succ n ih =>
      intro s hs h
      have h1 : 1 ≤ s.sum := by omega
      obtain ⟨k1, k2, _⟩ := bestK_ok hs h1
      obtain ⟨r1, r2, _⟩ := bestR_ok hs h1
      rw [row_step hs h1, cnt_step hs h1]
      split
      · rw [List.sum_append, ih k1 (by omega)]; simp
      · have lK := row_len (bestK s)
        have lR := row_len (bestR s)
        show (addGo _ _ _).sum = _
        rw [addGo_sum _ _ _ (by omega) (Nat.le_refl _), List.take_length, ih k1 (by omega), ih r1 (by omega)]
  exact key s.sum.toNat hs (by have := sum_nn hs; omega)
section
variable {ta tb : TE} {Γ : Ga} {K : PySem.W.Frag}
theorem dpAll_ints {H : Hp} : ∀ ns : List Int, DpAll K H (ns.map V.int) (ns.map PyData.int)
  | [] => .nil
  | n :: ns => .cons (.int n) (dpAll_ints ns)
theorem eqv_ints : ∀ xs ys : List Int, PyData.eqvAll (xs.map PyData.int) (ys.map PyData.int) = decide (xs = ys)
  | [], [] => rfl
  | [], _ :: _ => rfl
  | _ :: _, [] => rfl
  | x :: xs, y :: ys => by
    show (PyData.eqv (.int x) (.int y) && PyData.eqvAll (xs.map PyData.int) (ys.map PyData.int)) = _
    rw [eqv_ints xs ys]
    show ((x == y) && _) = _
    rw [Bool.eq_iff_iff]
    simp
theorem shaped_ints (xs : List Int) : SeqAt.shaped (.list (xs.map PyData.int)) = true := by
  have h1 : ∀ xs : List Int, PyData.canLayAll0 (xs.map PyData.int) = true := fun xs => by
    induction xs with
    | nil => rfl
    | cons x xs ih =>
      show (PyData.canLay0 (.int x) && _) = true
      rw [ih]; rfl
  have h2 : ∀ xs : List Int, PyData.depthAll (xs.map PyData.int) = 0 := fun xs => by
    induction xs with
    | nil => rfl
    | cons x xs ih =>
      show max (PyData.depth (.int x)) (PyData.depthAll (xs.map PyData.int)) = 0
      rw [ih]; rfl
  show (PyData.canLayAll0 _ && decide (PyData.depthAll _ + 1 ≤ 64)) = true
  rw [h1, h2]; rfl
theorem ev_eqLI {xs ys : List Int} (ha : EvB ta Γ (dI xs)) (hb : EvB tb Γ (dI ys)) : EvD (tOp (rEqA K) ta tb) Γ (.bl (decide (xs = ys))) :=
  ev_op ha hb fun G W σ H k v w rv rw Q q => by
    obtain ⟨a, vs, rfl, ha, r3⟩ := rv.lst k.g
    obtain ⟨b, ws, rfl, hb, r4⟩ := rw.lst k.g
    cases RpL.ints r3
    cases RpL.ints r4
    refine .inr ⟨_, _, .lst (SqL.of ha) (dpAll_ints xs), .lst (SqL.of hb) (dpAll_ints ys), shaped_ints xs, shaped_ints ys, ?_⟩
    show Q (.bl (PyData.eqvAll _ _)) H
    rw [eqv_ints]
    exact q _ G H (.refl k.g) (.bl _)
end
theorem fn_vac {P : Program} {w : World} {K : PySem.W.Frag} {mg : Str → Option Value} {base : Heap} {k : Nat} {f : Addr} {fd : FuncData} {ps : List Str} {α : Type} {g : α → D} {Go : Tb α → Prop} {R : List D → D → Prop} (h : ∀ ds d, ¬ R ds d) : FnOk P w K mg base CX0 k f fd ps (MemSp g Go R) :=
  ⟨fun vs H Q E ⟨_, ds, d, _, _, _, _, _, _, _, _, hR, _⟩ => absurd hR (h ds d), fun A outer s H args us vs Q E _ _ _ _ ⟨_, ds, d, _, _, _, _, _, _, _, _, hR, _⟩ => absurd hR (h ds d)⟩
section
variable {P : Program} {w : World} {K : PySem.W.Frag} {mg : Str → Option Value} {base : Heap} {a : Adr}
theorem best_K (s : List Int) : best s true = some (bestK s) := rfl
theorem best_R1 {s : List Int} (h : s.length = 1) : best s false = none := by
  unfold best
  rw [if_neg (by simp), if_pos (by omega)]
theorem best_R2 {s : List Int} (hn : s ≠ []) (h : s.length ≠ 1) : best s false = some (bestR s) := by
  have := List.length_pos_iff.mpr hn
  unfold best
  rw [if_neg (by simp), if_neg (by omega)]
def RTally (n : Nat) (ds : List D) (d : D) : Prop := ∃ s : List Int, ds = [dI s] ∧ Szs s ∧ s.sum ≤ 60 ∧ s.sum < (n : Int) ∧ d = dI (row s)
def RCnt (n : Nat) (ds : List D) (d : D) : Prop := ∃ s : List Int, ds = [dI s] ∧ Szs s ∧ s.sum ≤ 60 ∧ s.sum < (n : Int) ∧ d = .int (cnt s)
theorem one1 {x : Sl} {p : Addr} {e : D} {r : Ga} (hx : ∀ q e, x ≠ .mem q e) (hr : ∀ y ∈ r, ∀ q e, y ≠ .mem q e) : OneM (x :: .mem p e :: r) 1 := fun j q e h => by
  match j, h with
  | 0, h => exact absurd (Option.some.inj h) (hx q e)
  | 1, _ => rfl
  | j + 2, h =>
    have h : r[j]? = some (.mem q e) := h
    exact absurd rfl (hr _ (List.mem_of_getElem? h) q e)
local macro_rules | `(tactic| walk_at "onem") => `(tactic| (apply one1 <;> (simp)))
theorem tally_step (T : Txt K mg a) (n : Nat) (G : FnOk P w K mg base CX0 (n + 2) a.a_tally a.d_tally ["_law_sizes", "_law_known"] (MemSp dI (Good row) (RTally n))) :
    FnOk P w K mg base CX0 (n + 1 + 2) a.a_tally a.d_tally ["_law_sizes", "_law_known"] (MemSp dI (Good row) (RTally (n + 1))) := by
  refine fn_mem T.F_tally sc_tally (fun ds d ⟨_, e, _⟩ => by rw [e]; rfl) (by decide) fun cdv A outer s H E hr => ⟨_, (pss_cons (ps_set (i := 2) sc_tally.nd rfl (by first | exact Or.inl rfl | exact Or.inr rfl) (pe_callTy (tupleK (K := K)) (by rfl) T.z_tuple bt_tuple (pa_cons (pv 0) pa_nil))) (pss_cons (ps_if (pt_cmp (pc_din (hu_of hr) (pv 2) (pv 1)) (by rfl)) (pss_one (ps_ret (pe_dget (hu_of hr) (pv 1) (pv 2) (fun _ _ => rfl)))) pss_nil) (pss_cons (ps_if (pt_cmpR (eqK (K := K) hr.units) (pv 0) (pe_lst pa_nil) (nomark _)) (pss_one (ps_ret (pe_lst (pa_cons pe_int pa_nil)))) pss_nil) (pss_cons (ps_set (i := 3) sc_tally.nd rfl (by first | exact Or.inl rfl | exact Or.inr rfl) (pe_op op_addA (pe_call G (hr.mono (by first | decide | omega)) rfl T.g_tally T.F_tally.kp T.b_tally .nil pass0 (pa_cons (pe_call (ok_best T) (hr.mono (by first | decide | omega)) rfl T.g_best T.F_best.kp T.b_best .nil pass0 (pa_cons (pv 0) (pa_cons pe_str pa_nil))) (pa_cons (pv 1) pa_nil))) (pe_lst (pa_cons pe_int pa_nil)))) (pss_cons (ps_set (i := 4) sc_tally.nd rfl (by first | exact Or.inl rfl | exact Or.inr rfl) (pe_call (ok_best T) (hr.mono (by first | decide | omega)) rfl T.g_best T.F_best.kp T.b_best .nil pass0 (pa_cons (pv 0) (pa_cons pe_str pa_nil)))) (pss_cons (ps_if (pt_cmpR op_isnotA (pv 4) pe_non (nomark _)) (pss_cons (ps_set (i := 5) sc_tally.nd rfl (by first | exact Or.inl rfl | exact Or.inr rfl) (pe_call G (hr.mono (by first | decide | omega)) rfl T.g_tally T.F_tally.kp T.b_tally .nil pass0 (pa_cons (pv 4) (pa_cons (pv 1) pa_nil)))) (pss_one (ps_for PassesOwn.never rfl (pi_range1 rfl T.z_range (pa_cons (pe_callB (lenK (K := K)) (by rfl) T.z_len bt_len (pa_cons (pv 5) pa_nil)) pa_nil)) (pg_name (i := 6) sc_tally.nd rfl (by first | exact Or.inl rfl | exact Or.inr rfl)) (pss_one (ps_asg (pe_op op_addA (pe_ix (ixK (K := K)) (pv 3) (pe_op op_addA (pv 6) pe_int) (fun _ _ => rfl)) (pe_ix (ixK (K := K)) (pv 5) (pv 6) (fun _ _ => rfl))) (pg_sub (pv 3) (pe_op op_addA (pv 6) pe_int) set_list)))))) pss_nil) (pss_cons (ps_dput (hu_of hr) (pv 1) (pv 2) (pv 3) rfl) (pss_one (ps_ret (pv 3)))))))))), ?_⟩
  rintro ds d p t ⟨s, rfl, hs, h60, hn, rfl⟩ hg
  have hpl := pos_len hs.pos
  refine sd_seq (sd_asg (d := tupI s) (ev_tuple (ev_var rfl).rd) ?_)
  refine sd_seq (sd_if (et_test (ev_din (f := dI) (t := t) (k := s) (ev_var rfl) (tb_mem rfl))) (fun hb => ?_) fun hb => sd_next ?_)
  · exact sd_retM (i := 1) (p := p) (e := tabD dI t) rfl (ev_dget (f := dI) (tb_mem rfl) (ev_var rfl) (hg.at hb)) ⟨t, hg, rfl⟩
  refine sd_seq (sd_if (et_test (ev_eqLI (xs := s) (ys := []) (ev_var rfl).rd (EvN.of (en_lst ea_nil (by decide)) (show D.lst _ = dI [] from rfl)).dt.rd)) (fun hb => ?_) fun hb => sd_next ?_)
  · simp at hb
    subst hb
    exact sd_retM (i := 1) (p := p) (e := tabD dI t) rfl (EvN.of (en_lst (ea_cons ev_int ea_nil) (by show 1 ≤ sizeLine; decide)) (show D.lst _ = dI [1] from rfl)).dt ⟨t, hg, rfl⟩
  simp at hb
  have h1 : 1 ≤ s.sum := by have := List.length_pos_iff.mpr hb; omega
  obtain ⟨k1, k2, k3⟩ := bestK_ok hs h1
  obtain ⟨r1, r2, r3⟩ := bestR_ok hs h1
  have lK := row_len (bestK s)
  have lR := row_len (bestR s)
  have hst := row_step hs h1
  refine sd_seq (sd_asgMcat (xs := row (bestK s)) (ys := [0]) (em_call (i := 1) (p := p) (f := dI) (t := t) (e := dI (bestK s)) (by walk_at "onem") rfl (ev_call (ea_cons (ev_var rfl) (ea_cons (ev_str.of (by rw [ordS_K])) ea_nil)) ⟨s, true, rfl, fun _ => hb, by omega, rfl⟩) ⟨bestK s, rfl, k1, by omega, by omega, rfl⟩ hg)
    (fun Γ' _ => (EvN.of (en_lst (ea_cons ev_int ea_nil) (by show 1 ≤ sizeLine; decide)) (show D.lst _ = dI [0] from rfl)).dt.rd) (by simp only [List.length_cons, List.length_nil]; omega) ?_)
  rintro Γ' ⟨t1, hg1, rfl⟩
  refine sd_seq (sd_asg (d := optD (best s false)) (ev_call (ea_cons (ev_var rfl) (ea_cons (ev_str.of (by rw [ordS_R])) ea_nil)) ⟨s, false, rfl, nofun, by omega, rfl⟩) ?_)
  refine sd_seq (sd_if (et_test (ev_notN (ev_var rfl).rd)) (fun hb2 => ?_) fun hb2 => sd_next ?_)
  · by_cases hl : s.length = 1
    · rw [best_R1 hl] at hb2; cases hb2
    · rw [if_neg hl] at hst
      rw [best_R2 hb hl]
      refine sd_seq (sd_asgM (d := dI (row (bestR s))) (em_call (i := 1) (p := p) (f := dI) (t := t1) (e := dI (bestR s)) (by walk_at "onem") rfl (ev_var rfl) ⟨bestR s, rfl, r1, by omega, by omega, rfl⟩ hg1) ?_)
      rintro Γ' ⟨t2, hg2, rfl⟩
      refine sd_forR (n := ((row (bestR s)).length : Int)) ((ev_lenL (ev_var rfl).rd).of (by rw [List.length_map])) (by omega) (fun i Γ' => ∃ z : Sl, (∀ q e, z ≠ .mem q e) ∧ Γ' = [.dat (dI s), .mem p (tabD dI t2), .dat (tupI s), .own (dI (addGo (row (bestK s)) (row (bestR s)) i)), .dat (dI (bestR s)), .dat (dI (row (bestR s))), z]) ⟨.un, nofun, rfl⟩ ?_ ?_
      · rintro i hi Γ' ⟨z, hz, rfl⟩
        have hi : i < (row (bestR s)).length := by omega
        have hgl := addGo_len (row (bestK s)) (row (bestR s)) i
        refine sd_setL (j := i + 1) rfl (ev_add (ev_ixI (i := (i : Int) + 1) (eb_own rfl) (ev_add (ev_var rfl) ev_int) (by omega)) (ev_ixI (i := (i : Int)) (ev_var rfl).rd (ev_var rfl) (by omega))) (ev_add (ev_var rfl) ev_int) (by rw [List.length_map, show ((i : Int) + 1) = ((i + 1 : Nat) : Int) from by omega]; exact ixN_nat (by omega)) ⟨.dat (.int (i : Int)), nofun, ?_⟩
        rw [addGo_succ, show ((i : Int) + 1).toNat = i + 1 from by omega, show ((i : Int)).toNat = i from by omega]
        simp [dI, List.map_set]
      · rintro Γ' ⟨z, hz, rfl⟩
        refine sd_freeze 3 rfl ?_
        refine sd_seq (sd_dputM (f := dI) (x := row s) (k := s) (t := t2) (one1 nofun (by simp; exact hz)) rfl ((ev_var rfl).of ?_) (ev_var rfl) (Nat.lt_of_le_of_lt hg2.len (by decide)) ?_)
        · rw [hst]; rfl
        · exact sd_retM (i := 1) (p := p) (e := tabD dI (put t2 s (row s))) rfl ((ev_var rfl).of (by rw [hst]; rfl)) ⟨_, hg2.put hs h60, rfl⟩
  · by_cases hl : s.length = 1
    · rw [if_pos hl] at hst
      refine sd_freeze 3 rfl ?_
      refine sd_seq (sd_dputM (f := dI) (x := row s) (k := s) (t := t1) (by walk_at "onem") rfl ((ev_var rfl).of (by rw [hst])) (ev_var rfl) (Nat.lt_of_le_of_lt hg1.len (by decide)) ?_)
      exact sd_retM (i := 1) (p := p) (e := tabD dI (put t1 s (row s))) rfl ((ev_var rfl).of (by rw [hst])) ⟨_, hg1.put hs h60, rfl⟩
    · rw [best_R2 hb hl] at hb2; cases hb2
end
end Kt
namespace Kt
open PySem PySem.Spec L2 Dl
local macro_rules | `(tactic| walk_at "side") => `(tactic| first
  | exact cpow18
  | (simp only [List.length_cons, List.length_nil]; decide)
  | ((fail_if_success (with_reducible apply isEvD)); (fail_if_success (with_reducible apply isEvB)); (fail_if_success (with_reducible apply isEvN)); (fail_if_success (with_reducible apply isEvA)); (fail_if_success (with_reducible apply isEvAB)); (fail_if_success (with_reducible apply isEvT)); (fail_if_success (with_reducible apply isEvO)); (fail_if_success (intro _; (with_reducible apply isEvD))); (fail_if_success (intro _; (with_reducible apply isEvT)))))
local macro_rules | `(tactic| walk_at "evB") => `(tactic| first
  | ((with_reducible apply eb_own) <;> exact rfl)
  | ((with_reducible apply EvD.rd) <;> first | walk_at "any" | walk_at "side"))
local macro_rules | `(tactic| walk_at "evA") => `(tactic| first
  | with_reducible exact ea_nil
  | ((with_reducible apply ea_cons) <;> first | walk_at "any" | walk_at "side"))
local macro_rules | `(tactic| walk_at "evAB") => `(tactic| first
  | with_reducible exact eab_nil
  | ((with_reducible apply eab_cons) <;> first | walk_at "any" | walk_at "side"))
local macro_rules | `(tactic| walk_at "eo") => `(tactic| first
  | with_reducible exact eo_none
  | ((with_reducible apply eo_some) <;> first | walk_at "any" | walk_at "side"))
local macro_rules | `(tactic| walk_at "evN") => `(tactic| first
  | ((with_reducible apply en_lst) <;> first | walk_at "any" | walk_at "side")
  | ((with_reducible apply en_list) <;> first | walk_at "any" | walk_at "side")
  | ((with_reducible apply en_listT) <;> first | walk_at "any" | walk_at "side")
  | ((with_reducible apply en_sorted) <;> first | walk_at "any" | walk_at "side")
  | ((with_reducible apply en_sortedR) <;> first | walk_at "any" | walk_at "side")
  | ((with_reducible apply en_rev) <;> first | walk_at "any" | walk_at "side")
  | ((with_reducible apply en_sl) <;> first | walk_at "any" | walk_at "side")
  | ((with_reducible apply en_cat) <;> first | walk_at "any" | walk_at "side")
  | ((with_reducible apply en_rep1) <;> first | walk_at "any" | walk_at "side")
  | ((with_reducible apply en_call) <;> first | walk_at "any" | walk_at "side"))
local macro_rules | `(tactic| walk_at "ev") => `(tactic| first
  | ((with_reducible apply ev_var) <;> exact rfl)
  | with_reducible exact ev_int
  | with_reducible exact ev_str
  | with_reducible exact ev_bl
  | with_reducible exact ev_non
  | ((with_reducible apply ev_intI) <;> first | walk_at "any" | walk_at "side")
  | ((with_reducible apply ev_add) <;> first | walk_at "any" | walk_at "side")
  | ((with_reducible apply ev_sub) <;> first | walk_at "any" | walk_at "side")
  | ((with_reducible apply ev_mul) <;> first | walk_at "any" | walk_at "side")
  | ((with_reducible apply ev_mod) <;> first | walk_at "any" | walk_at "side")
  | ((with_reducible apply ev_fdiv) <;> first | walk_at "any" | walk_at "side")
  | ((with_reducible apply ev_pow) <;> first | walk_at "any" | walk_at "side")
  | ((with_reducible apply ev_lt) <;> first | walk_at "any" | walk_at "side")
  | ((with_reducible apply ev_le) <;> first | walk_at "any" | walk_at "side")
  | ((with_reducible apply ev_gt) <;> first | walk_at "any" | walk_at "side")
  | ((with_reducible apply ev_ge) <;> first | walk_at "any" | walk_at "side")
  | ((with_reducible apply ev_eqI) <;> first | walk_at "any" | walk_at "side")
  | ((with_reducible apply ev_neI) <;> first | walk_at "any" | walk_at "side")
  | ((with_reducible apply ev_eqS) <;> first | walk_at "any" | walk_at "side")
  | ((with_reducible apply ev_neS) <;> first | walk_at "any" | walk_at "side")
  | ((with_reducible apply ev_chainI) <;> first | walk_at "any" | walk_at "side")
  | ((with_reducible apply ev_isN) <;> first | walk_at "any" | walk_at "side")
  | ((with_reducible apply ev_notN) <;> first | walk_at "any" | walk_at "side")
  | ((with_reducible apply ev_neg) <;> first | walk_at "any" | walk_at "side")
  | ((with_reducible apply ev_abs) <;> first | walk_at "any" | walk_at "side")
  | ((with_reducible apply ev_max2) <;> first | walk_at "any" | walk_at "side")
  | ((with_reducible apply ev_min2) <;> first | walk_at "any" | walk_at "side")
  | ((with_reducible apply ev_sum) <;> first | walk_at "any" | walk_at "side")
  | ((with_reducible apply ev_maxL) <;> first | walk_at "any" | walk_at "side")
  | ((with_reducible apply ev_minL) <;> first | walk_at "any" | walk_at "side")
  | ((with_reducible apply ev_lenL) <;> first | walk_at "any" | walk_at "side")
  | ((with_reducible apply ev_lenT) <;> first | walk_at "any" | walk_at "side")
  | ((with_reducible apply ev_lenS) <;> first | walk_at "any" | walk_at "side")
  | ((with_reducible apply ev_inI) <;> first | walk_at "any" | walk_at "side")
  | ((with_reducible apply ev_ninI) <;> first | walk_at "any" | walk_at "side")
  | ((with_reducible apply ev_inB) <;> first | walk_at "any" | walk_at "side")
  | ((with_reducible apply ev_ninB) <;> first | walk_at "any" | walk_at "side")
  | ((with_reducible apply ev_ixI) <;> first | walk_at "any" | walk_at "side")
  | ((with_reducible apply ev_tup) <;> first | walk_at "any" | walk_at "side")
  | ((with_reducible apply ev_tuple) <;> first | walk_at "any" | walk_at "side")
  | ((with_reducible apply ev_andV) <;> first | walk_at "any" | walk_at "side")
  | ((with_reducible apply ev_orV) <;> first | walk_at "any" | walk_at "side")
  | ((with_reducible apply ev_notV) <;> first | walk_at "any" | walk_at "side")
  | ((with_reducible apply ev_cell) <;> first | exact rfl | walk_at "any" | decide)
  | ((with_reducible apply ev_call) <;> first | walk_at "any" | walk_at "side")
  | ((with_reducible apply EvN.dt) <;> first | walk_at "any" | walk_at "side"))
local macro_rules | `(tactic| walk_at "et") => `(tactic| first
  | ((with_reducible apply et_not) <;> first | walk_at "any" | walk_at "side")
  | ((with_reducible apply et_and) <;> first | walk_at "any" | walk_at "side")
  | ((with_reducible apply et_or) <;> first | walk_at "any" | walk_at "side")
  | ((with_reducible apply et_test) <;> first | walk_at "any" | walk_at "side")
  | ((with_reducible apply et_B) <;> first | walk_at "any" | walk_at "side"))
local macro_rules | `(tactic| walk_at "any") => `(tactic| first
  | ((with_reducible apply isEvD); walk_at "ev")
  | ((with_reducible apply isEvB); walk_at "evB")
  | ((with_reducible apply isEvT); walk_at "et")
  | ((with_reducible apply isEvA); walk_at "evA")
  | ((with_reducible apply isEvN); walk_at "evN")
  | ((with_reducible apply isEvAB); walk_at "evAB")
  | ((with_reducible apply isEvO); walk_at "eo")
  | (intro _; walk_at "any"))
local macro_rules | `(tactic| walk_at "s if") => `(tactic| (apply sd_if <;> first | walk_at "any" | exact rfl | skip))
local macro_rules | `(tactic| walk_at "q if") => `(tactic| (apply sd_seq; apply sd_if <;> first | walk_at "any" | exact rfl | skip))
local macro_rules | `(tactic| walk_at "s asg") => `(tactic| (apply sd_asg <;> first | walk_at "any" | exact rfl | skip))
local macro_rules | `(tactic| walk_at "q asg") => `(tactic| (apply sd_seq; apply sd_asg <;> first | walk_at "any" | exact rfl | skip))
local macro_rules | `(tactic| walk_at "s new") => `(tactic| (apply sd_asgN <;> first | walk_at "any" | exact rfl | skip))
local macro_rules | `(tactic| walk_at "q new") => `(tactic| (apply sd_seq; apply sd_asgN <;> first | walk_at "any" | exact rfl | skip))
local macro_rules | `(tactic| walk_at "s app") => `(tactic| (apply sd_app <;> first | walk_at "any" | exact rfl | skip))
local macro_rules | `(tactic| walk_at "q app") => `(tactic| (apply sd_seq; apply sd_app <;> first | walk_at "any" | exact rfl | skip))
local macro_rules | `(tactic| walk_at "s aug") => `(tactic| (apply sd_aug <;> first | walk_at "any" | exact rfl | skip))
local macro_rules | `(tactic| walk_at "q aug") => `(tactic| (apply sd_seq; apply sd_aug <;> first | walk_at "any" | exact rfl | skip))
local macro_rules | `(tactic| walk_at "s ret") => `(tactic| (apply sd_ret <;> first | walk_at "any" | exact rfl | skip))
local macro_rules | `(tactic| walk_at "q ret") => `(tactic| (apply sd_seq; apply sd_ret <;> first | walk_at "any" | exact rfl | skip))
local macro_rules | `(tactic| walk_at "s retN") => `(tactic| (apply sd_retN <;> first | walk_at "any" | exact rfl | skip))
local macro_rules | `(tactic| walk_at "q retN") => `(tactic| (apply sd_seq; apply sd_retN <;> first | walk_at "any" | exact rfl | skip))
local macro_rules | `(tactic| walk_at "s ifAsg") => `(tactic| (apply sd_ifAsg <;> first | walk_at "any" | exact rfl | skip))
local macro_rules | `(tactic| walk_at "q ifAsg") => `(tactic| (apply sd_seq; apply sd_ifAsg <;> first | walk_at "any" | exact rfl | skip))
local macro_rules | `(tactic| walk_at "s ifAsgI") => `(tactic| (apply sd_ifAsgI <;> first | walk_at "any" | exact rfl | skip))
local macro_rules | `(tactic| walk_at "q ifAsgI") => `(tactic| (apply sd_seq; apply sd_ifAsgI <;> first | walk_at "any" | exact rfl | skip))
local macro_rules | `(tactic| walk_at "s drop") => `(tactic| (apply sd_drop <;> first | walk_at "any" | exact rfl | skip))
local macro_rules | `(tactic| walk_at "q drop") => `(tactic| (apply sd_seq; apply sd_drop <;> first | walk_at "any" | exact rfl | skip))

local macro_rules | `(tactic| walk_at "onem") => `(tactic| (apply one1 <;> (simp)))
section
variable {P : Program} {w : World} {K : PySem.W.Frag} {mg : Str → Option Value} {base : Heap} {a : Adr}
theorem count_step (T : Txt K mg a) (n : Nat) (G : FnOk P w K mg base CX0 (n + 2) a.a_count a.d_count ["_law_sizes", "_law_known"] (MemSp D.int (Good cnt) (RCnt n))) :
    FnOk P w K mg base CX0 (n + 1 + 2) a.a_count a.d_count ["_law_sizes", "_law_known"] (MemSp D.int (Good cnt) (RCnt (n + 1))) := by
  refine fn_mem T.F_count sc_count (fun ds d ⟨_, e, _⟩ => by rw [e]; rfl) (by decide) fun cdv A outer s H E hr => ⟨_, (pss_cons (ps_set (i := 2) sc_count.nd rfl (by first | exact Or.inl rfl | exact Or.inr rfl) (pe_callTy (tupleK (K := K)) (by rfl) T.z_tuple bt_tuple (pa_cons (pv 0) pa_nil))) (pss_cons (ps_if (pt_cmp (pc_din (hu_of hr) (pv 2) (pv 1)) (by rfl)) (pss_one (ps_ret (pe_dget (hu_of hr) (pv 1) (pv 2) (fun _ _ => rfl)))) pss_nil) (pss_cons (ps_if (pt_cmpR (eqK (K := K) hr.units) (pv 0) (pe_lst pa_nil) (nomark _)) (pss_one (ps_ret pe_int)) pss_nil) (pss_cons (ps_set (i := 3) sc_count.nd rfl (by first | exact Or.inl rfl | exact Or.inr rfl) (pe_call G (hr.mono (by first | decide | omega)) rfl T.g_count T.F_count.kp T.b_count .nil pass0 (pa_cons (pe_call (ok_best T) (hr.mono (by first | decide | omega)) rfl T.g_best T.F_best.kp T.b_best .nil pass0 (pa_cons (pv 0) (pa_cons pe_str pa_nil))) (pa_cons (pv 1) pa_nil)))) (pss_cons (ps_set (i := 4) sc_count.nd rfl (by first | exact Or.inl rfl | exact Or.inr rfl) (pe_call (ok_best T) (hr.mono (by first | decide | omega)) rfl T.g_best T.F_best.kp T.b_best .nil pass0 (pa_cons (pv 0) (pa_cons pe_str pa_nil)))) (pss_cons (ps_if (pt_cmpR op_isnotA (pv 4) pe_non (nomark _)) (pss_one (ps_set (i := 3) sc_count.nd rfl (by first | exact Or.inl rfl | exact Or.inr rfl) (pe_op op_addA (pv 3) (pe_call G (hr.mono (by first | decide | omega)) rfl T.g_count T.F_count.kp T.b_count .nil pass0 (pa_cons (pv 4) (pa_cons (pv 1) pa_nil)))))) pss_nil) (pss_cons (ps_dput (hu_of hr) (pv 1) (pv 2) (pv 3) rfl) (pss_one (ps_ret (pv 3)))))))))), ?_⟩
  rintro ds d p t ⟨s, rfl, hs, h60, hn, rfl⟩ hg
  have hpl := pos_len hs.pos
  refine sd_seq (sd_asg (d := tupI s) (ev_tuple (ev_var rfl).rd) ?_)
  refine sd_seq (sd_if (et_test (ev_din (f := D.int) (t := t) (k := s) (ev_var rfl) (tb_mem rfl))) (fun hb => ?_) fun hb => sd_next ?_)
  · exact sd_retM (i := 1) (p := p) (e := tabD D.int t) rfl (ev_dget (f := D.int) (tb_mem rfl) (ev_var rfl) (hg.at hb)) ⟨t, hg, rfl⟩
  refine sd_seq (sd_if (et_test (ev_eqLI (xs := s) (ys := []) (ev_var rfl).rd (EvN.of (en_lst ea_nil (by decide)) (show D.lst _ = dI [] from rfl)).dt.rd)) (fun hb => ?_) fun hb => sd_next ?_)
  · simp at hb
    subst hb
    exact sd_retM (i := 1) (p := p) (e := tabD D.int t) rfl (ev_int (i := 1)) ⟨t, hg, rfl⟩
  simp at hb
  have h1 : 1 ≤ s.sum := by have := List.length_pos_iff.mpr hb; omega
  obtain ⟨k1, k2, k3⟩ := bestK_ok hs h1
  obtain ⟨r1, r2, r3⟩ := bestR_ok hs h1
  have hst := cnt_step hs h1
  refine sd_seq (sd_asgM (d := .int (cnt (bestK s))) (em_call (i := 1) (p := p) (f := D.int) (t := t) (e := dI (bestK s)) (by walk_at "onem") rfl (ev_call (ea_cons (ev_var rfl) (ea_cons (ev_str.of (by rw [ordS_K])) ea_nil)) ⟨s, true, rfl, fun _ => hb, by omega, rfl⟩) ⟨bestK s, rfl, k1, by omega, by omega, rfl⟩ hg) ?_)
  rintro Γ' ⟨t1, hg1, rfl⟩
  refine sd_seq (sd_asg (d := optD (best s false)) (ev_call (ea_cons (ev_var rfl) (ea_cons (ev_str.of (by rw [ordS_R])) ea_nil)) ⟨s, false, rfl, nofun, by omega, rfl⟩) ?_)
  refine sd_seq (sd_if (et_test (ev_notN (ev_var rfl).rd)) (fun hb2 => ?_) fun hb2 => sd_next ?_)
  · by_cases hl : s.length = 1
    · rw [best_R1 hl] at hb2; cases hb2
    · rw [if_neg hl] at hst
      rw [best_R2 hb hl]
      refine sd_asgMadd (x := cnt (bestK s)) (y := cnt (bestR s)) (ev_var rfl) (em_call (i := 1) (p := p) (f := D.int) (t := t1) (e := dI (bestR s)) (by walk_at "onem") rfl (ev_var rfl) ⟨bestR s, rfl, r1, by omega, by omega, rfl⟩ hg1) ?_
      rintro Γ' ⟨t2, hg2, rfl⟩
      rw [← hst]
      refine sd_seq (sd_dputM (f := D.int) (x := cnt s) (k := s) (t := t2) (by walk_at "onem") rfl (ev_var rfl) (ev_var rfl) (Nat.lt_of_le_of_lt hg2.len (by decide)) ?_)
      exact sd_retM (i := 1) (p := p) (e := tabD D.int (put t2 s (cnt s))) rfl (ev_var rfl) ⟨_, hg2.put hs h60, rfl⟩
  · by_cases hl : s.length = 1
    · rw [if_pos hl] at hst
      rw [← hst]
      refine sd_seq (sd_dputM (f := D.int) (x := cnt s) (k := s) (t := t1) (by walk_at "onem") rfl (ev_var rfl) (ev_var rfl) (Nat.lt_of_le_of_lt hg1.len (by decide)) ?_)
      exact sd_retM (i := 1) (p := p) (e := tabD D.int (put t1 s (cnt s))) rfl (ev_var rfl) ⟨_, hg1.put hs h60, rfl⟩
    · rw [best_R2 hb hl] at hb2; cases hb2
theorem ok_tally (T : Txt K mg a) : ∀ n : Nat, FnOk P w K mg base CX0 (n + 2) a.a_tally a.d_tally ["_law_sizes", "_law_known"] (MemSp dI (Good row) (RTally n))
  | 0 => fn_vac fun ds d ⟨s, _, hs, _, h, _⟩ => by have := sum_nn hs; omega
  | n + 1 => tally_step T n (ok_tally T n)
theorem ok_count (T : Txt K mg a) : ∀ n : Nat, FnOk P w K mg base CX0 (n + 2) a.a_count a.d_count ["_law_sizes", "_law_known"] (MemSp D.int (Good cnt) (RCnt n))
  | 0 => fn_vac fun ds d ⟨s, _, hs, _, h, _⟩ => by have := sum_nn hs; omega
  | n + 1 => count_step T n (ok_count T n)
theorem like_int (i : Int) : likeR 3 [D.int i, .int i] (.bl true) := Pl.like .int
theorem like_ints {ns : List Int} (h : ns.length ≤ 1000000) : likeR 3 [dI ns, dI ns] (.bl true) := Pl.like (Pl.ints ns h)
def ROther (ds : List D) (d : D) : Prop := ∃ s : List Int, ds = [dI s] ∧ Szs s ∧ s.sum ≤ 60 ∧ d = .bl true
theorem ok_other (T : Txt K mg a) : FnOk P w K mg base CX0 64 a.a_other a.d_other ["_law_sizes"] (PureSp ROther) := by
  refine fn_pure T.F_other sc_other (fun ds d ⟨_, e, _⟩ => by rw [e]; rfl) (by decide) fun cdv A outer s H E hr => ⟨_, (pss_cons (ps_set (i := 1) sc_other.nd rfl (by first | exact Or.inl rfl | exact Or.inr rfl) (pe_call (ok_tally T 61) (hr.mono (by first | decide | omega)) rfl T.g_tally T.F_tally.kp T.b_tally .nil pass0 (pa_cons (pv 0) (pa_cons pe_dnewT pa_nil)))) (pss_one (ps_ret (pe_and (pe_call (ok_like T 3) (hr.mono (by first | decide | omega)) rfl T.g_like T.F_like.kp T.b_like .nil pass0 (pa_cons (pe_call (ok_count_orders T) (hr.mono (by first | decide | omega)) rfl T.g_count_orders T.F_count_orders.kp T.b_count_orders .nil pass0 (pa_cons (pe_callTy (listK (K := K)) (by rfl) T.z_list bt_list (pa_cons (pv 0) pa_nil)) pa_nil)) (pa_cons (pe_callB (sumK (K := K) rfl) (by rfl) T.z_sum bt_sum (pa_cons (pv 1) pa_nil)) pa_nil))) (pe_one (pe_call (ok_like T 3) (hr.mono (by first | decide | omega)) rfl T.g_like T.F_like.kp T.b_like .nil pass0 (pa_cons (pe_call (ok_raid_counts T) (hr.mono (by first | decide | omega)) rfl T.g_raid_counts T.F_raid_counts.kp T.b_raid_counts .nil pass0 (pa_cons (pe_callTy (listK (K := K)) (by rfl) T.z_list bt_list (pa_cons (pv 0) pa_nil)) pa_nil)) (pa_cons (pv 1) pa_nil)))))))), ?_⟩
  rintro ds d ⟨s, rfl, hs, h60, rfl⟩
  have hl := row_len s
  refine sd_seq (sd_asg (d := dI (row s)) (ev_callM (ev_var rfl) ⟨s, rfl, hs, h60, by omega, rfl⟩ Good.nil) ?_)
  refine sd_ret (ev_andV (a := true) (b := true) (ev_call (ea_cons (d := .int (cnt s)) (ev_call (ea_cons (en_list (ev_var rfl).rd).dt ea_nil) ⟨s, rfl, hs, h60, rfl⟩) (ea_cons (d := .int (cnt s)) ((ev_sum (ev_var rfl).rd).of (by rw [row_sum hs])) ea_nil)) (like_int _))
    fun _ => ev_call (ea_cons (d := dI (row s)) (ev_callN (ea_cons (en_list (ev_var rfl).rd).dt ea_nil) ⟨s, rfl, hs, h60, rfl⟩) (ea_cons (ev_var rfl) ea_nil)) (like_ints (by omega))) (.inl rfl)
end
end Kt
namespace Kt
open PySem PySem.Spec L2 Dl
/-! ### all orders played -/
theorem getD_set (r : List Int) (i j : Nat) (x : Int) (h : i < r.length) : (r.set i x).getD j 0 = if i = j then x else r.getD j 0 := by
  rw [List.getD_eq_getElem?_getD, List.getD_eq_getElem?_getD, List.getElem?_set]
  by_cases e : i = j
  · rw [if_pos e, if_pos e, if_pos h]; rfl
  · rw [if_neg e, if_neg e]
theorem getD_app0 (xs : List Int) (j : Nat) : (xs ++ [0]).getD j 0 = xs.getD j 0 := by
  rw [List.getD_eq_getElem?_getD, List.getD_eq_getElem?_getD]
  rcases Nat.lt_or_ge j xs.length with h | h
  · rw [List.getElem?_append_left h]
  · rw [List.getElem?_append_right h, List.getElem?_eq_none h]
    cases e : j - xs.length with
    | zero => rfl
    | succ m => rfl
theorem addGo_get (xs ys : List Int) : ∀ j, j ≤ xs.length → ∀ r, (addGo xs ys j).getD r 0 = xs.getD r 0 + if r = 0 ∨ j < r then 0 else ys.getD (r - 1) 0
  | 0, _, r => by
    show (xs ++ [0]).getD r 0 = _
    rw [getD_app0, if_pos (by omega)]; omega
  | j + 1, h, r => by
    have hl := addGo_len xs ys j
    rw [addGo_succ, getD_set _ _ _ _ (by omega), addGo_get xs ys j (by omega) (j + 1), addGo_get xs ys j (by omega) r]
    by_cases e : j + 1 = r
    · subst e
      rw [if_pos rfl, if_pos (by omega), if_neg (by omega), Nat.add_sub_cancel]; omega
    · rw [if_neg e]
      by_cases h2 : r = 0 ∨ j < r
      · rw [if_pos h2, if_pos (by omega)]
      · rw [if_neg h2, if_neg (by omega)]
theorem addR_get {xs ys : List Int} (h : xs.length = ys.length) (r : Nat) : (addR xs ys).getD r 0 = xs.getD r 0 + if r = 0 then 0 else ys.getD (r - 1) 0 := by
  show (addGo xs ys ys.length).getD r 0 = _
  rw [addGo_get xs ys _ (by omega) r]
  by_cases h0 : r = 0
  · rw [if_pos (.inl h0), if_pos h0]
  · rw [if_neg h0]
    by_cases h1 : ys.length < r
    · rw [if_pos (.inr h1), List.getD_eq_getElem?_getD (l := ys), List.getElem?_eq_none (by omega)]; rfl
    · rw [if_neg (by omega)]
def cN (s : List Int) (ws : List (List Bool)) (r : Nat) : Int := ((ws.filter fun o => lives s o && decide (nR o = r)).length : Nat)
theorem cN_cons (s : List Int) (o : List Bool) (ws : List (List Bool)) (r : Nat) : cN s (o :: ws) r = (if lives s o = true ∧ nR o = r then 1 else 0) + cN s ws r := by
  unfold cN
  rw [List.filter_cons]
  by_cases h : lives s o = true ∧ nR o = r
  · rw [if_pos h, if_pos (by rw [h.1, decide_eq_true h.2]; rfl), List.length_cons]; omega
  · rw [if_neg h, if_neg (by
      intro q
      rw [Bool.and_eq_true, decide_eq_true_eq] at q
      exact h q)]; omega
theorem fold_get (s : List Int) (r : Nat) : ∀ (ws : List (List Bool)) (l : List Int), (∀ o ∈ ws, nR o < l.length) → (ws.foldl (fun r o => if lives s o = true then r.set (nR o) (r.getD (nR o) 0 + 1) else r) l).getD r 0 = l.getD r 0 + cN s ws r
  | [], l, _ => by simp [cN]
  | o :: ws, l, h => by
    rw [List.foldl_cons, cN_cons]
    have ho := h o List.mem_cons_self
    by_cases hl : lives s o = true
    · rw [if_pos hl, fold_get s r ws _ (fun p hp => by rw [List.length_set]; exact h p (List.mem_cons_of_mem _ hp)), getD_set _ _ _ _ ho]
      by_cases e : nR o = r
      · rw [if_pos e, if_pos ⟨hl, e⟩, e]; omega
      · rw [if_neg e, if_neg (fun q => e q.2)]; omega
    · rw [if_neg hl, fold_get s r ws _ (fun p hp => h p (List.mem_cons_of_mem _ hp)), if_neg (fun q => hl q.1)]; omega
theorem cN_app (s : List Int) (ws us : List (List Bool)) (r : Nat) : cN s (ws ++ us) r = cN s ws r + cN s us r := by
  unfold cN
  rw [List.filter_append, List.length_append]; omega
theorem cN_K (s : List Int) (ws : List (List Bool)) (r : Nat) : cN s (ws.map (true :: ·)) r = cN (bestK s) ws r := by
  unfold cN
  rw [List.filter_map, List.length_map]; rfl
theorem cN_R1 {s : List Int} (h : s.length ≤ 1) (ws : List (List Bool)) (r : Nat) : cN s (ws.map (false :: ·)) r = 0 := by
  unfold cN
  rw [List.filter_map, List.length_map]
  have e : ((fun o => lives s o && decide (nR o = r)) ∘ fun x => false :: x) = fun _ => false := by
    funext o
    show (lives s (false :: o) && _) = false
    have : lives s (false :: o) = false := by
      unfold lives best
      rw [if_neg (by simp), if_pos h]
    rw [this]; rfl
  rw [e]
  simp
theorem cN_R2 {s : List Int} (h : ¬ s.length ≤ 1) (ws : List (List Bool)) (r : Nat) : cN s (ws.map (false :: ·)) r = if r = 0 then 0 else cN (bestR s) ws (r - 1) := by
  unfold cN
  rw [List.filter_map, List.length_map]
  have e : ∀ o, ((fun o => lives s o && decide (nR o = r)) ∘ fun x => false :: x) o = (lives (bestR s) o && decide (nR o + 1 = r)) := by
    intro o
    show (lives s (false :: o) && decide (nR (false :: o) = r)) = _
    have h1 : lives s (false :: o) = lives (bestR s) o := by
      conv => lhs; unfold lives best
      rw [if_neg (by simp), if_neg h]
    have h2 : nR (false :: o) = nR o + 1 := by
      unfold nR
      simp
    rw [h1, h2]
  rw [List.filter_congr fun o _ => e o]
  by_cases h0 : r = 0
  · rw [if_pos h0]
    have : (fun o : List Bool => lives (bestR s) o && decide (nR o + 1 = r)) = fun _ => false := by
      funext o
      rw [decide_eq_false (by omega), Bool.and_false]
    rw [this]
    simp
  · rw [if_neg h0]
    have : (fun o : List Bool => lives (bestR s) o && decide (nR o + 1 = r)) = fun o => lives (bestR s) o && decide (nR o = r - 1) := by
      funext o
      congr 1
      rw [decide_eq_decide]
      omega
    rw [this]
theorem rowN_succ (n : Nat) (s : List Int) : rowN (n + 1) s = if s.length = 1 then rowN n (bestK s) ++ [0] else addR (rowN n (bestK s)) (rowN n (bestR s)) := rfl
theorem cntN_succ (n : Nat) (s : List Int) : cntN (n + 1) s = if s.length = 1 then cntN n (bestK s) else cntN n (bestK s) + cntN n (bestR s) := rfl
theorem row_cN : ∀ (n : Nat) {s : List Int}, Szs s → s.sum = (n : Nat) → ∀ r, (rowN n s).getD r 0 = cN s (words n) r
  | 0, s, hs, h, r => by
    show ([1] : List Int).getD r 0 = cN s [[]] r
    rw [cN_cons]
    cases r with
    | zero => rfl
    | succ r => rfl
  | n + 1, s, hs, h, r => by
    have h1 : 1 ≤ s.sum := by omega
    have hne := List.length_pos_iff.mpr (sum_nil hs h1)
    obtain ⟨k1, k2, _⟩ := bestK_ok hs h1
    obtain ⟨r1, r2, _⟩ := bestR_ok hs h1
    show _ = cN s ((words n).map (true :: ·) ++ (words n).map (false :: ·)) r
    rw [cN_app, cN_K, ← row_cN n k1 (by omega) r]
    rw [rowN_succ]
    by_cases hl : s.length = 1
    · rw [if_pos hl, getD_app0, cN_R1 (by omega)]; omega
    · rw [if_neg hl, addR_get (by rw [rowN_len, rowN_len]), cN_R2 (by omega)]
      by_cases h0 : r = 0
      · rw [if_pos h0, if_pos h0]
      · rw [if_neg h0, if_neg h0, row_cN n r1 (by omega) (r - 1)]
theorem ext_getD {xs ys : List Int} (hl : xs.length = ys.length) (h : ∀ r, r < xs.length → xs.getD r 0 = ys.getD r 0) : xs = ys := by
  apply List.ext_getElem hl
  intro i h1 h2
  have := h i h1
  rw [List.getD_eq_getElem?_getD, List.getD_eq_getElem?_getD, List.getElem?_eq_getElem h1, List.getElem?_eq_getElem h2] at this
  exact this
theorem played_row {s : List Int} (hs : Szs s) : played s = row s := by
  have hn := sum_nn hs
  have hlen : (played s).length = s.sum.toNat + 1 := by
    unfold played playedGo
    have : ∀ (ws : List (List Bool)) (r : List Int), (ws.foldl (fun r o => if lives s o = true then r.set (nR o) (r.getD (nR o) 0 + 1) else r) r).length = r.length := by
      intro ws
      induction ws with
      | nil => intro r; rfl
      | cons o ws ih =>
        intro r
        rw [List.foldl_cons, ih]
        split <;> simp
    rw [this]
    simp
  refine ext_getD (by rw [hlen, row_len]) fun r hr => ?_
  show (playedGo s s.sum.toNat (words s.sum.toNat)).getD r 0 = (rowN s.sum.toNat s).getD r 0
  unfold playedGo
  rw [fold_get s r (words s.sum.toNat) _ (fun o ho => by
    rw [List.length_replicate]
    have h1 := words_in _ o ho
    have h2 : nR o ≤ o.length := List.length_filter_le _ _
    omega), row_cN s.sum.toNat hs (by omega) r]
  have : (List.replicate (s.sum.toNat + 1) (0 : Int)).getD r 0 = 0 := by
    rw [List.getD_eq_getElem?_getD, List.getElem?_replicate]
    split <;> rfl
  rw [this]; omega
/-! ### two entries -/
def bT (n k : Nat) : Int := (triGo n).getD k 0
theorem bT0 (n : Nat) : bT n 0 = 1 := by
  cases n <;> rfl
theorem bT_out {n k : Nat} (h : n < k) : bT n k = 0 := by
  unfold bT
  rw [List.getD_eq_getElem?_getD, List.getElem?_eq_none (by rw [triGo_len]; omega)]; rfl
theorem bT_last (n : Nat) : bT n n = 1 := by
  cases n with
  | zero => rfl
  | succ n =>
    unfold bT
    show ([1] ++ (List.range n).map (fun j => (triGo n).getD j 0 + (triGo n).getD (j + 1) 0) ++ [1]).getD (n + 1) 0 = 1
    rw [List.getD_eq_getElem?_getD, List.getElem?_append_right (by simp)]
    simp
theorem bT_step (n k : Nat) : bT (n + 1) (k + 1) = bT n k + bT n (k + 1) := by
  rcases Nat.lt_or_ge k n with h | h
  · show ([1] ++ (List.range n).map (fun j => (triGo n).getD j 0 + (triGo n).getD (j + 1) 0) ++ [1]).getD (k + 1) 0 = _
    rw [List.getD_eq_getElem?_getD, List.getElem?_append_left (by simp; omega), List.getElem?_append_right (by simp)]
    simp [List.getElem?_range h, h]
    rfl
  · by_cases e : k = n
    · subst e
      rw [bT_last, bT_last, bT_out (by omega : k < k + 1)]; rfl
    · rw [bT_out (by omega), bT_out (by omega : n < k), bT_out (by omega)]; rfl
theorem bT_sym : ∀ (m a b : Nat), a + b = m → bT m a = bT m b
  | 0, a, b, h => by rw [show a = 0 from by omega, show b = 0 from by omega]
  | m + 1, 0, b, h => by rw [bT0, show b = m + 1 from by omega, bT_last]
  | m + 1, a + 1, 0, h => by rw [bT0, show a + 1 = m + 1 from by omega, bT_last]
  | m + 1, a + 1, b + 1, h => by
    rw [bT_step, bT_step, bT_sym m a (b + 1) (by omega), bT_sym m (a + 1) b (by omega)]; omega
def two (a b : Nat) : List Int := if b = 0 then (if a = 0 then [] else [(a : Int)]) else [(a : Int), (b : Int)]
theorem two_sum (a b : Nat) (h : b ≤ a) : (two a b).sum = ((a + b : Nat) : Int) := by
  unfold two
  split
  · split
    · simp; omega
    · simp; omega
  · simp
theorem dsc2 {x y : Int} (h : y ≤ x) : dsc [x, y] = [x, y] := (dsc_uniq (.refl _) (List.pairwise_cons.mpr ⟨fun z hz => by rw [List.mem_singleton.mp hz]; exact h, List.pairwise_singleton _ _⟩)).symm
theorem dsc2' {x y : Int} (h : x ≤ y) : dsc [x, y] = [y, x] := (dsc_uniq (.swap ..) (List.pairwise_cons.mpr ⟨fun z hz => by rw [List.mem_singleton.mp hz]; exact h, List.pairwise_singleton _ _⟩)).symm
theorem dsc1 {x : Int} : dsc [x] = [x] := (dsc_uniq (.refl _) (List.pairwise_singleton _ _)).symm
theorem dsc0 : dsc [] = [] := (dsc_uniq (.refl _) .nil).symm
theorem fpos {x : Int} {l : List Int} (h : 0 < x) : (x :: l).filter (fun x => decide (0 < x)) = x :: l.filter fun x => decide (0 < x) := by
  rw [List.filter_cons, if_pos (by simpa using h)]
theorem fneg {x : Int} {l : List Int} (h : ¬ 0 < x) : (x :: l).filter (fun x => decide (0 < x)) = l.filter fun x => decide (0 < x) := by
  rw [List.filter_cons, if_neg (by simpa using h)]
theorem two_K1 {a b : Nat} (hb : 1 ≤ b) (h : b < a) : bestK (two a b) = two (a - 1) b := by
  unfold two
  rw [if_neg (by omega), if_neg (by omega)]
  show dsc ((((a : Int) - 1) :: [(b : Int)]).filter _) = _
  rw [fpos (by omega), fpos (by omega)]
  show dsc [_, _] = _
  rw [dsc2 (by omega), show ((a - 1 : Nat) : Int) = (a : Int) - 1 from by omega]
theorem two_K2 {b : Nat} (hb : 1 ≤ b) : bestK (two b b) = two b (b - 1) := by
  unfold two
  rw [if_neg (by omega)]
  show dsc ((((b : Int) - 1) :: [(b : Int)]).filter _) = _
  by_cases h1 : b = 1
  · subst h1
    rw [fneg (by omega), fpos (by omega)]
    exact dsc1
  · rw [fpos (by omega), fpos (by omega), if_neg (by omega)]
    show dsc [_, _] = _
    rw [dsc2' (by omega), show ((b - 1 : Nat) : Int) = (b : Int) - 1 from by omega]
theorem two_R {a b : Nat} (hb : 1 ≤ b) (h : b ≤ a) : bestR (two a b) = two a (b - 1) := by
  unfold two
  rw [if_neg (by omega)]
  show dsc (((a : Int) :: [(b : Int) - 1]).filter _) = _
  by_cases h1 : b = 1
  · subst h1
    rw [fpos (by omega), fneg (by omega), if_pos rfl, if_neg (by omega)]
    exact dsc1
  · rw [fpos (by omega), fpos (by omega), if_neg (by omega)]
    show dsc [_, _] = _
    rw [dsc2 (by omega), show ((b - 1 : Nat) : Int) = (b : Int) - 1 from by omega]
theorem two_K0 {a : Nat} (h : 1 ≤ a) : bestK (two a 0) = two (a - 1) 0 := by
  unfold two
  rw [if_pos rfl, if_neg (by omega), if_pos rfl]
  show dsc ((((a : Int) - 1) :: []).filter _) = _
  by_cases h1 : a = 1
  · subst h1
    rw [fneg (by omega), if_pos rfl]
    exact dsc0
  · rw [fpos (by omega), if_neg (by omega)]
    show dsc [_] = _
    rw [dsc1, show ((a - 1 : Nat) : Int) = (a : Int) - 1 from by omega]
theorem two_len {a b : Nat} (hb : 1 ≤ b) : (two a b).length = 2 := by
  unfold two
  rw [if_neg (by omega)]; rfl
theorem two_len1 {a : Nat} (hb : 1 ≤ a) : (two a 0).length = 1 := by
  unfold two
  rw [if_pos rfl, if_neg (by omega)]; rfl
def pf (n b k : Nat) : Int := if k ≤ b then bT n k - (if k = 0 then 0 else bT n (k - 1)) else 0
theorem two_row : ∀ (n a b : Nat), a + b = n → b ≤ a → ∀ k, (rowN n (two a b)).getD k 0 = pf n b k
  | 0, a, b, h, hb, k => by
    rw [show b = 0 from by omega]
    show ([1] : List Int).getD k 0 = pf 0 0 k
    unfold pf
    cases k with
    | zero => rfl
    | succ k => rw [if_neg (by omega)]; rfl
  | n + 1, a, b, h, hb, k => by
    by_cases b0 : b = 0
    · subst b0
      rw [rowN_succ]
      rw [if_pos (two_len1 (by omega)), getD_app0, two_K0 (by omega), two_row n (a - 1) 0 (by omega) (by omega) k]
      unfold pf
      by_cases hk : k ≤ 0
      · rw [if_pos hk, if_pos hk, if_pos (by omega), if_pos (by omega), show k = 0 from by omega, bT0, bT0]
      · rw [if_neg hk, if_neg hk]
    · have hb1 : 1 ≤ b := by omega
      rw [rowN_succ]
      rw [if_neg (by rw [two_len hb1]; decide), addR_get (by rw [rowN_len, rowN_len]), two_R hb1 hb, two_row n a (b - 1) (by omega) (by omega) (k - 1)]
      have hK : (rowN n (bestK (two a b))).getD k 0 = if a = b then pf n (b - 1) k else pf n b k := by
        by_cases e : a = b
        · subst e
          rw [if_pos rfl, two_K2 hb1, two_row n a (a - 1) (by omega) (by omega) k]
        · rw [if_neg e, two_K1 hb1 (by omega), two_row n (a - 1) b (by omega) (by omega) k]
      rw [hK]
      unfold pf
      cases k with
      | zero =>
        simp only [Nat.zero_le, if_true, bT0]
        split <;> simp
      | succ k =>
        rw [if_neg (by omega : ¬ k + 1 = 0), Nat.add_sub_cancel]
        have s1 := bT_step n k
        by_cases hk : k + 1 ≤ b
        · rw [if_pos (by omega : k ≤ b - 1), if_pos hk]
          have s2 : bT (n + 1) k = bT n k + if k = 0 then 0 else bT n (k - 1) := by
            cases k with
            | zero => rw [bT0, bT0]; rfl
            | succ k => rw [bT_step, if_neg (by omega), Nat.add_sub_cancel]; omega
          by_cases e : a = b
          · rw [if_pos e]
            by_cases hk2 : k + 1 ≤ b - 1
            · rw [if_pos hk2]
              simp only [Nat.add_sub_cancel, Nat.succ_ne_zero, if_false, if_neg (by omega : ¬ k + 1 = 0)]
              omega
            · rw [if_neg hk2]
              have s3 := bT_sym n (k + 1) k (by omega)
              simp only [Nat.add_sub_cancel, Nat.succ_ne_zero, if_false, if_neg (by omega : ¬ k + 1 = 0)]
              omega
          · rw [if_neg e, if_pos hk]
            simp only [Nat.add_sub_cancel, Nat.succ_ne_zero, if_false, if_neg (by omega : ¬ k + 1 = 0)]
            omega
        · rw [if_neg (by omega : ¬ k ≤ b - 1), if_neg hk, if_neg (by omega : ¬ k + 1 ≤ b - 1)]
          split <;> rfl
theorem two_cnt : ∀ (n a b : Nat), a + b = n → b ≤ a → cntN n (two a b) = bT n b
  | 0, a, b, h, hb => by
    rw [show b = 0 from by omega]; rfl
  | n + 1, a, b, h, hb => by
    by_cases b0 : b = 0
    · subst b0
      rw [cntN_succ]
      rw [if_pos (two_len1 (by omega)), two_K0 (by omega), two_cnt n (a - 1) 0 (by omega) (by omega), bT0, bT0]
    · have hb1 : 1 ≤ b := by omega
      rw [cntN_succ]
      rw [if_neg (by rw [two_len hb1]; decide), two_R hb1 hb, two_cnt n a (b - 1) (by omega) (by omega)]
      have s1 := bT_step n (b - 1)
      rw [show b - 1 + 1 = b from by omega] at s1
      by_cases e : a = b
      · subst e
        rw [two_K2 hb1, two_cnt n a (a - 1) (by omega) (by omega)]
        have s3 := bT_sym n a (a - 1) (by omega)
        omega
      · rw [two_K1 hb1 (by omega), two_cnt n (a - 1) b (by omega) (by omega)]
        omega
theorem pairGo_get (r : List Int) (low : Int) : ∀ n, (pairGo r low n).length = n + 1 ∧ ∀ k, k ≤ n → (pairGo r low n).getD k 0 = if k = 0 then 1 else if (k : Int) ≤ low then r.getD k 0 - r.getD (k - 1) 0 else 0
  | 0 => ⟨rfl, fun k h => by rw [show k = 0 from by omega]; rfl⟩
  | n + 1 => by
    obtain ⟨h1, h2⟩ := pairGo_get r low n
    have e : pairGo r low (n + 1) = pairGo r low n ++ [if (n : Int) + 1 ≤ low then r.getD (n + 1) 0 - r.getD n 0 else 0] := by
      unfold pairGo
      rw [List.range_succ, List.foldl_append]
      show (if _ then _ else _) = _
      split <;> rfl
    rw [e]
    refine ⟨by rw [List.length_append, h1]; rfl, fun k hk => ?_⟩
    rw [List.getD_eq_getElem?_getD]
    rcases Nat.lt_or_ge k (n + 1) with hk2 | hk2
    · rw [List.getElem?_append_left (by omega), ← List.getD_eq_getElem?_getD]
      exact h2 k (by omega)
    · have : k = n + 1 := by omega
      subst this
      rw [List.getElem?_append_right (by omega), h1, Nat.sub_self, if_neg (show ¬ n + 1 = 0 by omega), Nat.add_sub_cancel]
      rfl
theorem pair_row {a b : Nat} (h : b ≤ a) : pair (triGo (a + b)) (b : Int) = row (two a b) := by
  have hs : (two a b).sum.toNat = a + b := by rw [two_sum a b h]; omega
  unfold pair row
  rw [hs, triGo_len, Nat.add_sub_cancel]
  obtain ⟨h1, h2⟩ := pairGo_get (triGo (a + b)) (b : Int) (a + b)
  refine ext_getD (by rw [h1, rowN_len]) fun k hk => ?_
  rw [h2 k (by omega), two_row (a + b) a b rfl h k]
  unfold pf
  cases k with
  | zero => rw [if_pos rfl, if_pos (Nat.zero_le _), if_pos rfl, bT0]; rfl
  | succ k =>
    rw [if_neg (show ¬ k + 1 = 0 by omega), if_neg (show ¬ k + 1 = 0 by omega)]
    by_cases hk2 : k + 1 ≤ b
    · rw [if_pos (show ((k + 1 : Nat) : Int) ≤ (b : Int) by omega), if_pos hk2]; rfl
    · rw [if_neg (show ¬ ((k + 1 : Nat) : Int) ≤ (b : Int) by omega), if_neg hk2]
theorem pair_cnt {a b : Nat} (h : b ≤ a) : (triGo (a + b)).getD b 0 = cnt (two a b) := by
  have hs : (two a b).sum.toNat = a + b := by rw [two_sum a b h]; omega
  unfold cnt
  rw [hs, two_cnt (a + b) a b rfl h]; rfl
end Kt
namespace Kt
open PySem PySem.Spec L2 Dl
local macro_rules | `(tactic| walk_at "side") => `(tactic| first
  | exact cpow18
  | (simp only [List.length_cons, List.length_nil]; decide)
  | ((fail_if_success (with_reducible apply isEvD)); (fail_if_success (with_reducible apply isEvB)); (fail_if_success (with_reducible apply isEvN)); (fail_if_success (with_reducible apply isEvA)); (fail_if_success (with_reducible apply isEvAB)); (fail_if_success (with_reducible apply isEvT)); (fail_if_success (with_reducible apply isEvO)); (fail_if_success (intro _; (with_reducible apply isEvD))); (fail_if_success (intro _; (with_reducible apply isEvT)))))
local macro_rules | `(tactic| walk_at "evB") => `(tactic| first
  | ((with_reducible apply eb_own) <;> exact rfl)
  | ((with_reducible apply EvD.rd) <;> first | walk_at "any" | walk_at "side"))
local macro_rules | `(tactic| walk_at "evA") => `(tactic| first
  | with_reducible exact ea_nil
  | ((with_reducible apply ea_cons) <;> first | walk_at "any" | walk_at "side"))
local macro_rules | `(tactic| walk_at "evAB") => `(tactic| first
  | with_reducible exact eab_nil
  | ((with_reducible apply eab_cons) <;> first | walk_at "any" | walk_at "side"))
local macro_rules | `(tactic| walk_at "eo") => `(tactic| first
  | with_reducible exact eo_none
  | ((with_reducible apply eo_some) <;> first | walk_at "any" | walk_at "side"))
local macro_rules | `(tactic| walk_at "evN") => `(tactic| first
  | ((with_reducible apply en_lst) <;> first | walk_at "any" | walk_at "side")
  | ((with_reducible apply en_list) <;> first | walk_at "any" | walk_at "side")
  | ((with_reducible apply en_listT) <;> first | walk_at "any" | walk_at "side")
  | ((with_reducible apply en_sorted) <;> first | walk_at "any" | walk_at "side")
  | ((with_reducible apply en_sortedR) <;> first | walk_at "any" | walk_at "side")
  | ((with_reducible apply en_rev) <;> first | walk_at "any" | walk_at "side")
  | ((with_reducible apply en_sl) <;> first | walk_at "any" | walk_at "side")
  | ((with_reducible apply en_cat) <;> first | walk_at "any" | walk_at "side")
  | ((with_reducible apply en_rep1) <;> first | walk_at "any" | walk_at "side")
  | ((with_reducible apply en_call) <;> first | walk_at "any" | walk_at "side"))
local macro_rules | `(tactic| walk_at "ev") => `(tactic| first
  | ((with_reducible apply ev_var) <;> exact rfl)
  | with_reducible exact ev_int
  | with_reducible exact ev_str
  | with_reducible exact ev_bl
  | with_reducible exact ev_non
  | ((with_reducible apply ev_intI) <;> first | walk_at "any" | walk_at "side")
  | ((with_reducible apply ev_add) <;> first | walk_at "any" | walk_at "side")
  | ((with_reducible apply ev_sub) <;> first | walk_at "any" | walk_at "side")
  | ((with_reducible apply ev_mul) <;> first | walk_at "any" | walk_at "side")
  | ((with_reducible apply ev_mod) <;> first | walk_at "any" | walk_at "side")
  | ((with_reducible apply ev_fdiv) <;> first | walk_at "any" | walk_at "side")
  | ((with_reducible apply ev_pow) <;> first | walk_at "any" | walk_at "side")
  | ((with_reducible apply ev_lt) <;> first | walk_at "any" | walk_at "side")
  | ((with_reducible apply ev_le) <;> first | walk_at "any" | walk_at "side")
  | ((with_reducible apply ev_gt) <;> first | walk_at "any" | walk_at "side")
  | ((with_reducible apply ev_ge) <;> first | walk_at "any" | walk_at "side")
  | ((with_reducible apply ev_eqI) <;> first | walk_at "any" | walk_at "side")
  | ((with_reducible apply ev_neI) <;> first | walk_at "any" | walk_at "side")
  | ((with_reducible apply ev_eqS) <;> first | walk_at "any" | walk_at "side")
  | ((with_reducible apply ev_neS) <;> first | walk_at "any" | walk_at "side")
  | ((with_reducible apply ev_chainI) <;> first | walk_at "any" | walk_at "side")
  | ((with_reducible apply ev_isN) <;> first | walk_at "any" | walk_at "side")
  | ((with_reducible apply ev_notN) <;> first | walk_at "any" | walk_at "side")
  | ((with_reducible apply ev_neg) <;> first | walk_at "any" | walk_at "side")
  | ((with_reducible apply ev_abs) <;> first | walk_at "any" | walk_at "side")
  | ((with_reducible apply ev_max2) <;> first | walk_at "any" | walk_at "side")
  | ((with_reducible apply ev_min2) <;> first | walk_at "any" | walk_at "side")
  | ((with_reducible apply ev_sum) <;> first | walk_at "any" | walk_at "side")
  | ((with_reducible apply ev_maxL) <;> first | walk_at "any" | walk_at "side")
  | ((with_reducible apply ev_minL) <;> first | walk_at "any" | walk_at "side")
  | ((with_reducible apply ev_lenL) <;> first | walk_at "any" | walk_at "side")
  | ((with_reducible apply ev_lenT) <;> first | walk_at "any" | walk_at "side")
  | ((with_reducible apply ev_lenS) <;> first | walk_at "any" | walk_at "side")
  | ((with_reducible apply ev_inI) <;> first | walk_at "any" | walk_at "side")
  | ((with_reducible apply ev_ninI) <;> first | walk_at "any" | walk_at "side")
  | ((with_reducible apply ev_inB) <;> first | walk_at "any" | walk_at "side")
  | ((with_reducible apply ev_ninB) <;> first | walk_at "any" | walk_at "side")
  | ((with_reducible apply ev_ixI) <;> first | walk_at "any" | walk_at "side")
  | ((with_reducible apply ev_tup) <;> first | walk_at "any" | walk_at "side")
  | ((with_reducible apply ev_tuple) <;> first | walk_at "any" | walk_at "side")
  | ((with_reducible apply ev_andV) <;> first | walk_at "any" | walk_at "side")
  | ((with_reducible apply ev_orV) <;> first | walk_at "any" | walk_at "side")
  | ((with_reducible apply ev_notV) <;> first | walk_at "any" | walk_at "side")
  | ((with_reducible apply ev_cell) <;> first | exact rfl | walk_at "any" | decide)
  | ((with_reducible apply ev_call) <;> first | walk_at "any" | walk_at "side")
  | ((with_reducible apply EvN.dt) <;> first | walk_at "any" | walk_at "side"))
local macro_rules | `(tactic| walk_at "et") => `(tactic| first
  | ((with_reducible apply et_not) <;> first | walk_at "any" | walk_at "side")
  | ((with_reducible apply et_and) <;> first | walk_at "any" | walk_at "side")
  | ((with_reducible apply et_or) <;> first | walk_at "any" | walk_at "side")
  | ((with_reducible apply et_test) <;> first | walk_at "any" | walk_at "side")
  | ((with_reducible apply et_B) <;> first | walk_at "any" | walk_at "side"))
local macro_rules | `(tactic| walk_at "any") => `(tactic| first
  | ((with_reducible apply isEvD); walk_at "ev")
  | ((with_reducible apply isEvB); walk_at "evB")
  | ((with_reducible apply isEvT); walk_at "et")
  | ((with_reducible apply isEvA); walk_at "evA")
  | ((with_reducible apply isEvN); walk_at "evN")
  | ((with_reducible apply isEvAB); walk_at "evAB")
  | ((with_reducible apply isEvO); walk_at "eo")
  | (intro _; walk_at "any"))
local macro_rules | `(tactic| walk_at "s if") => `(tactic| (apply sd_if <;> first | walk_at "any" | exact rfl | skip))
local macro_rules | `(tactic| walk_at "q if") => `(tactic| (apply sd_seq; apply sd_if <;> first | walk_at "any" | exact rfl | skip))
local macro_rules | `(tactic| walk_at "s asg") => `(tactic| (apply sd_asg <;> first | walk_at "any" | exact rfl | skip))
local macro_rules | `(tactic| walk_at "q asg") => `(tactic| (apply sd_seq; apply sd_asg <;> first | walk_at "any" | exact rfl | skip))
local macro_rules | `(tactic| walk_at "s new") => `(tactic| (apply sd_asgN <;> first | walk_at "any" | exact rfl | skip))
local macro_rules | `(tactic| walk_at "q new") => `(tactic| (apply sd_seq; apply sd_asgN <;> first | walk_at "any" | exact rfl | skip))
local macro_rules | `(tactic| walk_at "s app") => `(tactic| (apply sd_app <;> first | walk_at "any" | exact rfl | skip))
local macro_rules | `(tactic| walk_at "q app") => `(tactic| (apply sd_seq; apply sd_app <;> first | walk_at "any" | exact rfl | skip))
local macro_rules | `(tactic| walk_at "s aug") => `(tactic| (apply sd_aug <;> first | walk_at "any" | exact rfl | skip))
local macro_rules | `(tactic| walk_at "q aug") => `(tactic| (apply sd_seq; apply sd_aug <;> first | walk_at "any" | exact rfl | skip))
local macro_rules | `(tactic| walk_at "s ret") => `(tactic| (apply sd_ret <;> first | walk_at "any" | exact rfl | skip))
local macro_rules | `(tactic| walk_at "q ret") => `(tactic| (apply sd_seq; apply sd_ret <;> first | walk_at "any" | exact rfl | skip))
local macro_rules | `(tactic| walk_at "s retN") => `(tactic| (apply sd_retN <;> first | walk_at "any" | exact rfl | skip))
local macro_rules | `(tactic| walk_at "q retN") => `(tactic| (apply sd_seq; apply sd_retN <;> first | walk_at "any" | exact rfl | skip))
local macro_rules | `(tactic| walk_at "s ifAsg") => `(tactic| (apply sd_ifAsg <;> first | walk_at "any" | exact rfl | skip))
local macro_rules | `(tactic| walk_at "q ifAsg") => `(tactic| (apply sd_seq; apply sd_ifAsg <;> first | walk_at "any" | exact rfl | skip))
local macro_rules | `(tactic| walk_at "s ifAsgI") => `(tactic| (apply sd_ifAsgI <;> first | walk_at "any" | exact rfl | skip))
local macro_rules | `(tactic| walk_at "q ifAsgI") => `(tactic| (apply sd_seq; apply sd_ifAsgI <;> first | walk_at "any" | exact rfl | skip))
local macro_rules | `(tactic| walk_at "s drop") => `(tactic| (apply sd_drop <;> first | walk_at "any" | exact rfl | skip))
local macro_rules | `(tactic| walk_at "q drop") => `(tactic| (apply sd_seq; apply sd_drop <;> first | walk_at "any" | exact rfl | skip))

section
variable {P : Program} {w : World} {K : PySem.W.Frag} {mg : Str → Option Value} {base : Heap} {a : Adr}
theorem two_szs {a b : Nat} (hb : 1 ≤ b) (h : b ≤ a) : Szs (two a b) := by
  unfold two
  rw [if_neg (by omega)]
  refine ⟨fun x hx => ?_, List.pairwise_cons.mpr ⟨fun z hz => by rw [List.mem_singleton.mp hz]; omega, List.pairwise_singleton _ _⟩⟩
  rcases List.mem_cons.mp hx with rfl | hx
  · omega
  · rw [List.mem_singleton.mp hx]; omega
/-- the two drawn entries -/
theorem pair_of {x y : Int} (hx : 0 ≤ x ∧ x < 30) (hy : 0 ≤ y ∧ y < 30) : ∃ a b : Nat, 1 ≤ b ∧ b ≤ a ∧ a ≤ 30 ∧ dsc [1 + x, 1 + y] = two a b := by
  rcases Int.le_total y x with h | h
  · refine ⟨(1 + x).toNat, (1 + y).toNat, by omega, by omega, by omega, ?_⟩
    rw [dsc2 (by omega)]
    unfold two
    rw [if_neg (by omega), show (((1 + x).toNat : Nat) : Int) = 1 + x from by omega, show (((1 + y).toNat : Nat) : Int) = 1 + y from by omega]
  · refine ⟨(1 + y).toNat, (1 + x).toNat, by omega, by omega, by omega, ?_⟩
    rw [dsc2' (by omega)]
    unfold two
    rw [if_neg (by omega), show (((1 + x).toNat : Nat) : Int) = 1 + x from by omega, show (((1 + y).toNat : Nat) : Int) = 1 + y from by omega]
theorem flat_ints (ns : List Int) : (ns.map D.int).all D.flat = true := by
  rw [List.all_map, List.all_eq_true]
  intro x _
  rfl
theorem ok_law (T : Txt K mg a) : FnOk P w K mg base CX0 66 a.a_law a.d_law ["_law_script"] (LawSp K) := by
  refine fn_law T.F_law sc_law fun cdv A outer s H E hr => ⟨_, (pss_cons (ps_set (i := 1) sc_law.nd rfl (by first | exact Or.inl rfl | exact Or.inr rfl) (pe_call (ok_draws T) (hr.mono (by first | decide | omega)) rfl T.g_draws T.F_draws.kp T.b_draws .nil pass0 (pa_cons (pe_call (ok_cell T) (hr.mono (by first | decide | omega)) rfl T.g_cell T.F_cell.kp T.b_cell .nil pass0 (pa_cons (pv 0) (pa_cons pe_int pa_nil))) (pa_cons (pe_lst (pa_cons pe_int (pa_cons pe_int (pa_cons pe_int (pa_cons pe_int (pa_cons pe_int (pa_cons pe_int pa_nil))))))) pa_nil)))) (pss_cons (ps_set (i := 2) sc_law.nd rfl (by first | exact Or.inl rfl | exact Or.inr rfl) (pe_ix (ixK (K := K)) (pv 1) pe_int (fun _ _ => rfl))) (pss_cons (ps_set (i := 3) sc_law.nd rfl (by first | exact Or.inl rfl | exact Or.inr rfl) (pe_ix (ixK (K := K)) (pv 1) pe_int (fun _ _ => rfl))) (pss_cons (ps_if (pt_cmpR op_gt (pv 2) pe_int (nomark _)) (pss_one (ps_set (i := 3) sc_law.nd rfl (by first | exact Or.inl rfl | exact Or.inr rfl) (pe_op op_addA pe_int (pe_ix (ixK (K := K)) (pv 1) pe_int (fun _ _ => rfl))))) pss_nil) (pss_cons (ps_if (pt_cmpR (eqK (K := K) hr.units) (pv 2) pe_int (nomark _)) (pss_one (ps_set (i := 3) sc_law.nd rfl (by first | exact Or.inl rfl | exact Or.inr rfl) (pe_ix (ixK (K := K)) (pv 1) pe_int (fun _ _ => rfl)))) pss_nil) (pss_cons (ps_set (i := 4) sc_law.nd rfl (by first | exact Or.inl rfl | exact Or.inr rfl) (pe_call (ok_list T) (hr.mono (by first | decide | omega)) rfl T.g_list T.F_list.kp T.b_list .nil pass0 (pa_cons (pe_call (ok_cell T) (hr.mono (by first | decide | omega)) rfl T.g_cell T.F_cell.kp T.b_cell .nil pass0 (pa_cons (pv 0) (pa_cons pe_int pa_nil))) (pa_cons (pv 3) pa_nil)))) (pss_cons (ps_if (pt_cmpR op_lt (pv 2) pe_int (nomark _)) (pss_one (ps_set (i := 4) sc_law.nd rfl (by first | exact Or.inl rfl | exact Or.inr rfl) (pe_callBK (sortedRevK (K := K) (b := true)) (by rfl) T.z_sorted bt_sorted (pa_cons (pe_lst (pa_cons (pe_op op_addA pe_int (pe_ix (ixK (K := K)) (pv 1) pe_int (fun _ _ => rfl))) (pa_cons (pe_op op_addA pe_int (pe_ix (ixK (K := K)) (pv 1) pe_int (fun _ _ => rfl))) pa_nil))) pa_nil) (pk_cons pe_bl pk_nil)))) pss_nil) (pss_cons (ps_set (i := 5) sc_law.nd rfl (by first | exact Or.inl rfl | exact Or.inr rfl) (pe_call (ok_list T) (hr.mono (by first | decide | omega)) rfl T.g_list T.F_list.kp T.b_list .nil pass0 (pa_cons (pe_call (ok_cell T) (hr.mono (by first | decide | omega)) rfl T.g_cell T.F_cell.kp T.b_cell .nil pass0 (pa_cons (pv 0) (pa_cons pe_int pa_nil))) (pa_cons (pe_callB (call_min2 rfl) (by rfl) T.z_min bt_min (pa_cons (pe_callB (sumK (K := K) rfl) (by rfl) T.z_sum bt_sum (pa_cons (pv 4) pa_nil)) (pa_cons pe_int pa_nil))) pa_nil)))) (pss_cons (ps_set (i := 6) sc_law.nd rfl (by first | exact Or.inl rfl | exact Or.inr rfl) (pe_callTy (listK (K := K)) (by rfl) T.z_list bt_list (pa_cons (pv 4) pa_nil))) (pss_cons (ps_if (pt_cmpR (eqK (K := K) hr.units) (pv 2) pe_int (nomark _)) (pss_cons (ps_if (PW.pt (pw_or (pt_not (pt_val (pe_call (ok_like T 3) (hr.mono (by first | decide | omega)) rfl T.g_like T.F_like.kp T.b_like .nil pass0 (pa_cons (pe_call (ok_count_orders T) (hr.mono (by first | decide | omega)) rfl T.g_count_orders T.F_count_orders.kp T.b_count_orders .nil pass0 (pa_cons (pv 6) pa_nil)) (pa_cons (pe_call (ok_count T 61) (hr.mono (by first | decide | omega)) rfl T.g_count T.F_count.kp T.b_count .nil pass0 (pa_cons (pv 4) (pa_cons pe_dnewT pa_nil))) pa_nil))))) (pw_or1 (pt_not (pt_val (pe_call (ok_like T 3) (hr.mono (by first | decide | omega)) rfl T.g_like T.F_like.kp T.b_like .nil pass0 (pa_cons (pv 6) (pa_cons (pv 4) pa_nil)))))))) (pss_one (ps_ret pe_bl)) pss_nil) (pss_one (ps_ret (pe_call (ok_other T) (hr.mono (by first | decide | omega)) rfl T.g_other T.F_other.kp T.b_other .nil pass0 (pa_cons (pv 5) pa_nil))))) pss_nil) (pss_cons (ps_if (pt_cmpR op_lt (pv 2) pe_int (nomark _)) (pss_cons (ps_set (i := 7) sc_law.nd rfl (by first | exact Or.inl rfl | exact Or.inr rfl) (pe_call (ok_triangle T) (hr.mono (by first | decide | omega)) rfl T.g_triangle T.F_triangle.kp T.b_triangle .nil pass0 (pa_cons (pe_callB (sumK (K := K) rfl) (by rfl) T.z_sum bt_sum (pa_cons (pv 4) pa_nil)) pa_nil))) (pss_cons (ps_set (i := 8) sc_law.nd rfl (by first | exact Or.inl rfl | exact Or.inr rfl) (pe_call (ok_pair T) (hr.mono (by first | decide | omega)) rfl T.g_pair T.F_pair.kp T.b_pair .nil pass0 (pa_cons (pv 7) (pa_cons (pe_ix (ixK (K := K)) (pv 4) pe_int (fun _ _ => rfl)) pa_nil)))) (pss_one (ps_set (i := 9) sc_law.nd rfl (by first | exact Or.inl rfl | exact Or.inr rfl) (pe_ix (ixK (K := K)) (pv 7) (pe_ix (ixK (K := K)) (pv 4) pe_int (fun _ _ => rfl)) (fun _ _ => rfl)))))) (pss_one (ps_if (pt_cmpR op_lt (pv 2) pe_int (nomark _)) (pss_cons (ps_set (i := 8) sc_law.nd rfl (by first | exact Or.inl rfl | exact Or.inr rfl) (pe_call (ok_played T) (hr.mono (by first | decide | omega)) rfl T.g_played T.F_played.kp T.b_played .nil pass0 (pa_cons (pv 4) pa_nil))) (pss_one (ps_set (i := 9) sc_law.nd rfl (by first | exact Or.inl rfl | exact Or.inr rfl) (pe_callB (sumK (K := K) rfl) (by rfl) T.z_sum bt_sum (pa_cons (pv 8) pa_nil))))) (pss_cons (ps_set (i := 8) sc_law.nd rfl (by first | exact Or.inl rfl | exact Or.inr rfl) (pe_call (ok_tally T 61) (hr.mono (by first | decide | omega)) rfl T.g_tally T.F_tally.kp T.b_tally .nil pass0 (pa_cons (pv 4) (pa_cons pe_dnewT pa_nil)))) (pss_one (ps_set (i := 9) sc_law.nd rfl (by first | exact Or.inl rfl | exact Or.inr rfl) (pe_callB (sumK (K := K) rfl) (by rfl) T.z_sum bt_sum (pa_cons (pv 8) pa_nil)))))))) (pss_cons (ps_if (PW.pt (pw_or (pt_not (pt_val (pe_call (ok_like T 3) (hr.mono (by first | decide | omega)) rfl T.g_like T.F_like.kp T.b_like .nil pass0 (pa_cons (pe_call (ok_count_orders T) (hr.mono (by first | decide | omega)) rfl T.g_count_orders T.F_count_orders.kp T.b_count_orders .nil pass0 (pa_cons (pv 6) pa_nil)) (pa_cons (pv 9) pa_nil))))) (pw_or1 (pt_not (pt_val (pe_call (ok_like T 3) (hr.mono (by first | decide | omega)) rfl T.g_like T.F_like.kp T.b_like .nil pass0 (pa_cons (pv 6) (pa_cons (pv 4) pa_nil)))))))) (pss_one (ps_ret pe_bl)) pss_nil) (pss_cons (ps_set (i := 10) sc_law.nd rfl (by first | exact Or.inl rfl | exact Or.inr rfl) (pe_call (ok_raid_counts T) (hr.mono (by first | decide | omega)) rfl T.g_raid_counts T.F_raid_counts.kp T.b_raid_counts .nil pass0 (pa_cons (pv 6) pa_nil))) (pss_cons (ps_if (PW.pt (pw_or (pt_not (pt_val (pe_call (ok_like T 3) (hr.mono (by first | decide | omega)) rfl T.g_like T.F_like.kp T.b_like .nil pass0 (pa_cons (pv 10) (pa_cons (pv 8) pa_nil))))) (pw_or (pt_not (pt_val (pe_call (ok_like T 3) (hr.mono (by first | decide | omega)) rfl T.g_like T.F_like.kp T.b_like .nil pass0 (pa_cons (pv 6) (pa_cons (pv 4) pa_nil))))) (pw_or1 (pt_not (pt_val (pe_call (ok_other T) (hr.mono (by first | decide | omega)) rfl T.g_other T.F_other.kp T.b_other .nil pass0 (pa_cons (pv 5) pa_nil)))))))) (pss_one (ps_ret pe_bl)) pss_nil) (pss_cons (ps_expr (bmK (K := K) PySem.F.plainAttrs_list PySem.F.slot_list_append PySem.F.type_list_append mt_append (pv 6) (pa_cons pe_int pa_nil))) (pss_cons (ps_asg (pe_op op_addA (pe_ix (ixK (K := K)) (pv 10) pe_int (fun _ _ => rfl)) pe_int) (pg_sub (pv 10) pe_int set_list)) (pss_cons (ps_expr (bmK (K := K) PySem.F.plainAttrs_list PySem.F.slot_list_append PySem.F.type_list_append mt_append (pv 10) (pa_cons pe_int pa_nil))) (pss_cons (ps_if (pt_not (pt_val (pe_call (ok_like T 3) (hr.mono (by first | decide | omega)) rfl T.g_like T.F_like.kp T.b_like .nil pass0 (pa_cons (pe_call (ok_count_orders T) (hr.mono (by first | decide | omega)) rfl T.g_count_orders T.F_count_orders.kp T.b_count_orders .nil pass0 (pa_cons (pe_callTy (listK (K := K)) (by rfl) T.z_list bt_list (pa_cons (pv 4) pa_nil)) pa_nil)) (pa_cons (pv 9) pa_nil))))) (pss_one (ps_ret pe_bl)) pss_nil) (pss_one (ps_ret (pe_or (pe_cmpR op_lt (pv 2) pe_int (nomark _)) (pe_one (pe_call (ok_like T 3) (hr.mono (by first | decide | omega)) rfl T.g_like T.F_like.kp T.b_like .nil pass0 (pa_cons (pe_call (ok_raid_counts T) (hr.mono (by first | decide | omega)) rfl T.g_raid_counts T.F_raid_counts.kp T.b_raid_counts .nil pass0 (pa_cons (pe_callTy (listK (K := K)) (by rfl) T.z_list bt_list (pa_cons (pv 4) pa_nil)) pa_nil)) (pa_cons (pv 8) pa_nil))))))))))))))))))))))))), ?_⟩
  intro ns hns
  let h := draws (cell ns 0) [12, 8, 30, 30, 13, 61]
  have hm : ∀ m ∈ ([12, 8, 30, 30, 13, 61] : List Int), 0 < m := by decide
  have hm2 : ∀ m ∈ ([12, 8, 30, 30, 13, 61] : List Int), 0 < m ∧ m < 1000000 := by decide
  have hl : h.length = 6 := draws_len _ _
  have b0 : 0 ≤ h.getD 0 0 ∧ h.getD 0 0 < 12 := draws_in hm (by decide)
  have b1 : 0 ≤ h.getD 1 0 ∧ h.getD 1 0 < 8 := draws_in hm (by decide)
  have b2 : 0 ≤ h.getD 2 0 ∧ h.getD 2 0 < 30 := draws_in hm (by decide)
  have b3 : 0 ≤ h.getD 3 0 ∧ h.getD 3 0 < 30 := draws_in hm (by decide)
  have b4 : 0 ≤ h.getD 4 0 ∧ h.getD 4 0 < 13 := draws_in hm (by decide)
  have b5 : 0 ≤ h.getD 5 0 ∧ h.getD 5 0 < 61 := draws_in hm (by decide)
  refine sd_seq (sd_asg (d := dI h) (ev_callN (ea_cons (ev_cell rfl ev_int (by decide)) (ea_cons (EvN.dt (en_lst (ea_cons ev_int (ea_cons ev_int (ea_cons ev_int (ea_cons ev_int (ea_cons ev_int (ea_cons ev_int ea_nil)))))) (by show 6 ≤ sizeLine; decide))) ea_nil)) ⟨cell ns 0, [12, 8, 30, 30, 13, 61], rfl, hm2, by decide, rfl⟩) ?_)
  generalize h = h at *
  refine sd_seq (sd_asg (d := .int (h.getD 0 0)) (ev_ixI (i := 0) (ev_var rfl).rd ev_int (by omega)) ?_)
  refine sd_seq (sd_asg (d := .int (h.getD 1 0)) (ev_ixI (i := 1) (ev_var rfl).rd ev_int (by omega)) ?_)
  refine sd_seq (sd_ifAsgI (p := 8 + h.getD 4 0) (et_test (ev_gt (ev_var rfl) ev_int)) rfl (fun _ => ev_add ev_int (ev_ixI (i := 4) (ev_var rfl).rd ev_int (by omega))) ?_)
  refine sd_seq (sd_ifAsgI (p := h.getD 5 0) (et_test (ev_eqI (ev_var rfl) ev_int)) rfl (fun _ => ev_ixI (i := 5) (ev_var rfl).rd ev_int (by omega)) ?_)
  have ht : ∃ tot : Int, (if decide (h.getD 0 0 = 3) = true then h.getD 5 0 else if decide (7 < h.getD 0 0) = true then 8 + h.getD 4 0 else h.getD 1 0) = tot ∧ 0 ≤ tot ∧ tot ≤ 60 ∧ (h.getD 0 0 ≠ 3 → h.getD 0 0 < 8 → tot ≤ 7) := by
    refine ⟨_, rfl, ?_⟩
    simp only [decide_eq_true_eq]
    split
    · omega
    · split <;> omega
  obtain ⟨tot, et, t0, t1, t2⟩ := ht
  rw [et]
  refine sd_seq (sd_asg (d := dI (lst (cell ns 1) tot)) (ev_callN (ea_cons (ev_cell rfl ev_int (by decide)) (ea_cons (ev_var rfl) ea_nil)) ⟨cell ns 1, tot, rfl, t0, by omega, rfl⟩) ?_)
  refine sd_seq (sd_ifAsgF dI (p := dsc [1 + h.getD 2 0, 1 + h.getD 3 0]) (et_test (ev_lt (ev_var rfl) ev_int)) rfl (fun _ => EvN.dt (en_sortedR (ns := [1 + h.getD 2 0, 1 + h.getD 3 0]) (EvN.dt (en_lst (ea_cons (ev_add ev_int (ev_ixI (i := 2) (ev_var rfl).rd ev_int (by omega))) (ea_cons (ev_add ev_int (ev_ixI (i := 3) (ev_var rfl).rd ev_int (by omega))) ea_nil)) (by show 2 ≤ sizeLine; decide))).rd)) ?_)
  have hz : ∃ sz : List Int, (if decide (h.getD 0 0 < 3) = true then dsc [1 + h.getD 2 0, 1 + h.getD 3 0] else lst (cell ns 1) tot) = sz ∧ Szs sz ∧ sz.sum ≤ 60 ∧ (h.getD 0 0 < 3 → ∃ a b : Nat, 1 ≤ b ∧ b ≤ a ∧ a ≤ 30 ∧ sz = two a b) ∧ (¬ h.getD 0 0 < 3 → h.getD 0 0 ≠ 3 → h.getD 0 0 < 8 → sz.sum ≤ 7) := by
    refine ⟨_, rfl, ?_⟩
    by_cases hk : h.getD 0 0 < 3
    · rw [if_pos (decide_eq_true hk)]
      obtain ⟨x, y, h1, h2, h3, h4⟩ := pair_of b2 b3
      rw [h4]
      have hs := two_sum x y h2
      exact ⟨two_szs h1 h2, by omega, fun _ => ⟨x, y, h1, h2, h3, rfl⟩, fun q => absurd hk q⟩
    · rw [if_neg (by simpa using hk)]
      have hs := lst_sum (cell ns 1) tot t0
      exact ⟨lst_szs _ _ t0, by omega, fun q => absurd q hk, fun _ q1 q2 => by have := t2 q1 q2; omega⟩
  obtain ⟨sz, ez, hsz, h60, hpair, h7⟩ := hz
  rw [ez]
  have hnn := sum_nn hsz
  have hlen := pos_len hsz.pos
  have hrl := row_len sz
  refine sd_seq (sd_asg (d := dI (lst (cell ns 2) (min sz.sum 20))) (ev_callN (ea_cons (ev_cell rfl ev_int (by decide)) (ea_cons (ev_min2 (ev_sum (ev_var rfl).rd) ev_int) ea_nil)) ⟨cell ns 2, min sz.sum 20, rfl, by omega, by omega, rfl⟩) ?_)
  have hot : Szs (lst (cell ns 2) (min sz.sum 20)) ∧ (lst (cell ns 2) (min sz.sum 20)).sum ≤ 60 := ⟨lst_szs _ _ (by omega), by rw [lst_sum _ _ (by omega)]; omega⟩
  generalize lst (cell ns 2) (min sz.sum 20) = ot at *
  generalize lst (cell ns 1) tot = l1 at *
  refine sd_seq (sd_asgN (en_list (ev_var rfl).rd) ?_)
  have cnt_own : ∀ {Γ : Ga}, Γ[6]? = some (.own (dI sz)) → EvD (tCall (PureSp RCount) [] E (tCons (tVar 6) tNil)) Γ (.int (cnt sz)) := fun hΓ => ev_callB (ds := [dI sz]) (eab_cons (eb_own hΓ) eab_nil) ⟨sz, rfl, hsz, h60, rfl⟩ rfl
  have given_like : ∀ {Γ : Ga}, Γ[6]? = some (.own (dI sz)) → Γ[4]? = some (.dat (dI sz)) → EvD (tCall (PureSp (likeR 3)) [] E (tCons (tVar 6) (tCons (tVar 4) tNil))) Γ (.bl true) := fun h6 h4 => ev_callB (ds := [dI sz, dI sz]) (eab_cons (eb_own h6) (eab_cons (ev_var h4).rd eab_nil)) (like_ints (by omega)) rfl
  refine sd_seq (sd_if (et_test (ev_eqI (ev_var rfl) ev_int)) (fun hk => ?_) fun hk => sd_next ?_)
  · refine sd_seq (sd_if (b := false) ((et_or (a := false) (b := false) ((et_not (et_B (ev_call (ea_cons (cnt_own rfl) (ea_cons (d := .int (cnt sz)) (ev_callM (ev_var rfl) ⟨sz, rfl, hsz, h60, by omega, rfl⟩ Good.nil) ea_nil)) (like_int _)))).of rfl) fun _ => (et_not (et_B (given_like rfl rfl))).of rfl).of rfl) nofun fun _ => sd_next ?_)
    exact sd_ret (ev_call (ea_cons (ev_var rfl) ea_nil) ⟨ot, rfl, hot.1, hot.2, rfl⟩) rfl
  have hk : h.getD 0 0 ≠ 3 := by simpa using hk
  refine sd_cut (fun Γ' => ∃ z7, Γ' = [.scr K ns, .dat (dI h), .dat (.int (h.getD 0 0)), .dat (.int tot), .dat (dI sz), .dat (dI ot), .own (dI sz), z7, .dat (dI (row sz)), .dat (.int (cnt sz)), .un]) ?_ ?_
  · refine sd_if (et_test (ev_lt (ev_var rfl) ev_int)) (fun hb => ?_) fun hb => ?_
    · have hb : h.getD 0 0 < 3 := by simpa using hb
      obtain ⟨x, y, p1, p2, p3, rfl⟩ := hpair hb
      have hs := two_sum x y p2
      have htl := two_len (a := x) p1
      have e1 : (two x y).getD 1 0 = (y : Int) := by
        unfold two
        rw [if_neg (by omega)]; rfl
      have hp := pair_row p2
      have hc := pair_cnt p2
      have hgl := triGo_len (x + y)
      refine sd_seq (sd_asg (d := dI (triGo (x + y))) (ev_callN (ea_cons (ev_sum (ev_var rfl).rd) ea_nil) ⟨x + y, by rw [hs], by omega, rfl⟩) ?_)
      refine sd_seq (sd_asg (d := dI (row (two x y))) (ev_callN (ea_cons (ev_var rfl) (ea_cons (ev_ixI (i := 1) (ev_var rfl).rd ev_int (by omega)) ea_nil)) ⟨triGo (x + y), (y : Int), by rw [← e1]; rfl, (fun q => by rw [q] at hgl; cases hgl), by omega, by rw [hp]⟩) ?_)
      refine sd_asg ((ev_ixI (i := (y : Int)) (ev_var rfl).rd ((ev_ixI (i := 1) (ev_var rfl).rd ev_int (by omega)).of (by rw [← e1]; rfl)) (by omega)).of ?_) ⟨_, rfl⟩
      rw [show ((y : Int)).toNat = y from by omega, hc]
    · have hb : ¬ h.getD 0 0 < 3 := by simpa using hb
      refine sd_if (et_test (ev_lt (ev_var rfl) ev_int)) (fun hc => ?_) fun hc => ?_
      · have hc : h.getD 0 0 < 8 := by simpa using hc
        have := h7 hb hk hc
        refine sd_seq (sd_asg (d := dI (row sz)) ((ev_callN (ea_cons (ev_var rfl) ea_nil) ⟨sz, rfl, hsz, by omega, rfl⟩).of (by rw [played_row hsz])) ?_)
        exact sd_asg ((ev_sum (ev_var rfl).rd).of (by rw [row_sum hsz])) ⟨_, rfl⟩
      · refine sd_seq (sd_asg (d := dI (row sz)) (ev_callM (ev_var rfl) ⟨sz, rfl, hsz, h60, by omega, rfl⟩ Good.nil) ?_)
        exact sd_asg ((ev_sum (ev_var rfl).rd).of (by rw [row_sum hsz])) ⟨_, rfl⟩
  rintro Γ' ⟨z7, rfl⟩
  refine sd_seq (sd_if (b := false) ((et_or (a := false) (b := false) ((et_not (et_B (ev_call (ea_cons (cnt_own rfl) (ea_cons (ev_var rfl) ea_nil)) (like_int _)))).of rfl) fun _ => (et_not (et_B (given_like rfl rfl))).of rfl).of rfl) nofun fun _ => sd_next ?_)
  refine sd_seq (sd_asgN (d := dI (row sz)) (en_callB (ds := [dI sz]) (eab_cons (eb_own rfl) eab_nil) ⟨sz, rfl, hsz, h60, rfl⟩ (flat_ints _)) ?_)
  refine sd_seq (sd_if (b := false) ((et_or (a := false) (b := false) ((et_not (et_B (ev_callB (ds := [dI (row sz), dI (row sz)]) (eab_cons (eb_own rfl) (eab_cons (ev_var rfl).rd eab_nil)) (like_ints (by omega)) rfl))).of rfl)
    fun _ => (et_or (a := false) (b := false) ((et_not (et_B (given_like rfl rfl))).of rfl) fun _ => (et_not (et_B (ev_call (ea_cons (ev_var rfl) ea_nil) ⟨ot, rfl, hot.1, hot.2, rfl⟩))).of rfl).of rfl).of rfl) nofun fun _ => sd_next ?_)
  refine sd_seq (sd_app rfl ev_int (sz2 (by rw [List.length_map]; omega)) ?_)
  refine sd_seq (sd_setL (z := 0) (j := 0) rfl (ev_add (ev_ixI (xs := row sz) (i := 0) (eb_own rfl) ev_int (by omega)) ev_int) ev_int (by rw [List.length_map]; exact ixN_nat (n := (row sz).length) (j := 0) (by omega)) ?_)
  refine sd_seq (sd_app rfl ev_int (sz2 (by rw [List.length_set, List.length_map]; omega)) ?_)
  refine sd_seq (sd_if (b := false) ((et_not (et_B (ev_call (ea_cons (d := .int (cnt sz)) (ev_call (ea_cons (en_list (ev_var rfl).rd).dt ea_nil) ⟨sz, rfl, hsz, h60, rfl⟩) (ea_cons (ev_var rfl) ea_nil)) (like_int _)))).of rfl) nofun fun _ => sd_next ?_)
  refine sd_ret ((ev_orV (b := true) (ev_lt (ev_var rfl) ev_int) fun _ => ev_call (ea_cons (d := dI (row sz)) (ev_callN (ea_cons (en_list (ev_var rfl).rd).dt ea_nil) ⟨sz, rfl, hsz, h60, rfl⟩) (ea_cons (ev_var rfl) ea_nil)) (like_ints (by omega))).of (by simp)) rfl
end
end Kt
namespace Kt
open PySem PySem.Spec L2 Dl
section
variable {l : PySem.W.OpenLaw} {w : World} {K : PySem.W.Frag} {h : Heap} {mg : Str → Option Value}
/-- one def at the top -/
theorem top_mk {x : Str} {st : Stmt} {f : Addr} {od an : Option Addr} {sl : Array (Option Value)} {oc kV dc pm cd ct : Value} (X : K.In h) (G : h.Ns mainGlobals mg) (a : PySem.W.nsIn K mainGlobals x = some (some (.ref f)))
    (l : K.lookup f = some ⟨oc, od, .func (PySem.W.fnOf x x (defArgs st) (defBody st) (defScope st) .none kV dc pm an cd ct), sl⟩) (c : PySem.W.codeIn K cd x = true) (k : PySem.W.keepIn K (.ref f) = true) :
    Fun K x x st f (PySem.W.fnOf x x (defArgs st) (defBody st) (defScope st) .none kV dc pm an cd ct) ∧ mg x = some (.ref f) := ⟨fun_mk l c k, PySem.W.mg_of X G a⟩
theorem all_mk {fa f1 f2 f3 f4 f5 f6 f7 f8 f9 f10 f11 f12 f13 f14 f15 f16 f17 f18 f19 f20 f21 f22 f23 f24 f25 f26 f27 : Addr} {od1 an1 od2 an2 od3 an3 od4 an4 od5 an5 od6 an6 od7 an7 od8 an8 od9 an9 od10 an10 od11 an11 od12 an12 od13 an13 od14 an14 od15 an15 od16 an16 od17 an17 od18 an18 od19 an19 od20 an20 od21 an21 od22 an22 od23 an23 od24 an24 od25 an25 od26 an26 od27 an27 : Option Addr} {sl1 sl2 sl3 sl4 sl5 sl6 sl7 sl8 sl9 sl10 sl11 sl12 sl13 sl14 sl15 sl16 sl17 sl18 sl19 sl20 sl21 sl22 sl23 sl24 sl25 sl26 sl27 : Array (Option Value)} {oc1 kV1 dc1 pm1 cd1 ct1 oc2 kV2 dc2 pm2 cd2 ct2 oc3 kV3 dc3 pm3 cd3 ct3 oc4 kV4 dc4 pm4 cd4 ct4 oc5 kV5 dc5 pm5 cd5 ct5 oc6 kV6 dc6 pm6 cd6 ct6 oc7 kV7 dc7 pm7 cd7 ct7 oc8 kV8 dc8 pm8 cd8 ct8 oc9 kV9 dc9 pm9 cd9 ct9 oc10 kV10 dc10 pm10 cd10 ct10 oc11 kV11 dc11 pm11 cd11 ct11 oc12 kV12 dc12 pm12 cd12 ct12 oc13 kV13 dc13 pm13 cd13 ct13 oc14 kV14 dc14 pm14 cd14 ct14 oc15 kV15 dc15 pm15 cd15 ct15 oc16 kV16 dc16 pm16 cd16 ct16 oc17 kV17 dc17 pm17 cd17 ct17 oc18 kV18 dc18 pm18 cd18 ct18 oc19 kV19 dc19 pm19 cd19 ct19 oc20 kV20 dc20 pm20 cd20 ct20 oc21 kV21 dc21 pm21 cd21 ct21 oc22 kV22 dc22 pm22 cd22 ct22 oc23 kV23 dc23 pm23 cd23 ct23 oc24 kV24 dc24 pm24 cd24 ct24 oc25 kV25 dc25 pm25 cd25 ct25 oc26 kV26 dc26 pm26 cd26 ct26 oc27 kV27 dc27 pm27 cd27 ct27 : Value} (X : K.In h) (G : h.Ns mainGlobals mg) (hfa : mg "law" = some (.ref fa))
    (a1 : PySem.W.nsIn K mainGlobals "normal" = some (some (.ref f1))) (l1 : K.lookup f1 = some ⟨oc1, od1, .func (PySem.W.fnOf "normal" "normal" (defArgs s_normal) (defBody s_normal) (defScope s_normal) .none kV1 dc1 pm1 an1 cd1 ct1), sl1⟩) (c1 : PySem.W.codeIn K cd1 "normal" = true) (k1 : PySem.W.keepIn K (.ref f1) = true)
    (a2 : PySem.W.nsIn K mainGlobals "take" = some (some (.ref f2))) (l2 : K.lookup f2 = some ⟨oc2, od2, .func (PySem.W.fnOf "take" "take" (defArgs s_take) (defBody s_take) (defScope s_take) .none kV2 dc2 pm2 an2 cd2 ct2), sl2⟩) (c2 : PySem.W.codeIn K cd2 "take" = true) (k2 : PySem.W.keepIn K (.ref f2) = true)
    (a3 : PySem.W.nsIn K mainGlobals "take_largest" = some (some (.ref f3))) (l3 : K.lookup f3 = some ⟨oc3, od3, .func (PySem.W.fnOf "take_largest" "take_largest" (defArgs s_take_largest) (defBody s_take_largest) (defScope s_take_largest) .none kV3 dc3 pm3 an3 cd3 ct3), sl3⟩) (c3 : PySem.W.codeIn K cd3 "take_largest" = true) (k3 : PySem.W.keepIn K (.ref f3) = true)
    (a4 : PySem.W.nsIn K mainGlobals "take_smallest" = some (some (.ref f4))) (l4 : K.lookup f4 = some ⟨oc4, od4, .func (PySem.W.fnOf "take_smallest" "take_smallest" (defArgs s_take_smallest) (defBody s_take_smallest) (defScope s_take_smallest) .none kV4 dc4 pm4 an4 cd4 ct4), sl4⟩) (c4 : PySem.W.codeIn K cd4 "take_smallest" = true) (k4 : PySem.W.keepIn K (.ref f4) = true)
    (a5 : PySem.W.nsIn K mainGlobals "best_plucks" = some (some (.ref f5))) (l5 : K.lookup f5 = some ⟨oc5, od5, .func (PySem.W.fnOf "best_plucks" "best_plucks" (defArgs s_best_plucks) (defBody s_best_plucks) (defScope s_best_plucks) .none kV5 dc5 pm5 an5 cd5 ct5), sl5⟩) (c5 : PySem.W.codeIn K cd5 "best_plucks" = true) (k5 : PySem.W.keepIn K (.ref f5) = true)
    (a6 : PySem.W.nsIn K mainGlobals "play_layers" = some (some (.ref f6))) (l6 : K.lookup f6 = some ⟨oc6, od6, .func (PySem.W.fnOf "play_layers" "play_layers" (defArgs s_play_layers) (defBody s_play_layers) (defScope s_play_layers) .none kV6 dc6 pm6 an6 cd6 ct6), sl6⟩) (c6 : PySem.W.codeIn K cd6 "play_layers" = true) (k6 : PySem.W.keepIn K (.ref f6) = true)
    (a7 : PySem.W.nsIn K mainGlobals "order_counts" = some (some (.ref f7))) (l7 : K.lookup f7 = some ⟨oc7, od7, .func (PySem.W.fnOf "order_counts" "order_counts" (defArgs s_order_counts) (defBody s_order_counts) (defScope s_order_counts) .none kV7 dc7 pm7 an7 cd7 ct7), sl7⟩) (c7 : PySem.W.codeIn K cd7 "order_counts" = true) (k7 : PySem.W.keepIn K (.ref f7) = true)
    (a8 : PySem.W.nsIn K mainGlobals "count_orders" = some (some (.ref f8))) (l8 : K.lookup f8 = some ⟨oc8, od8, .func (PySem.W.fnOf "count_orders" "count_orders" (defArgs s_count_orders) (defBody s_count_orders) (defScope s_count_orders) .none kV8 dc8 pm8 an8 cd8 ct8), sl8⟩) (c8 : PySem.W.codeIn K cd8 "count_orders" = true) (k8 : PySem.W.keepIn K (.ref f8) = true)
    (a9 : PySem.W.nsIn K mainGlobals "raid_counts" = some (some (.ref f9))) (l9 : K.lookup f9 = some ⟨oc9, od9, .func (PySem.W.fnOf "raid_counts" "raid_counts" (defArgs s_raid_counts) (defBody s_raid_counts) (defScope s_raid_counts) .none kV9 dc9 pm9 an9 cd9 ct9), sl9⟩) (c9 : PySem.W.codeIn K cd9 "raid_counts" = true) (k9 : PySem.W.keepIn K (.ref f9) = true)
    (a10 : PySem.W.nsIn K mainGlobals "_law_cell" = some (some (.ref f10))) (l10 : K.lookup f10 = some ⟨oc10, od10, .func (PySem.W.fnOf "_law_cell" "_law_cell" (defArgs s_cell) (defBody s_cell) (defScope s_cell) .none kV10 dc10 pm10 an10 cd10 ct10), sl10⟩) (c10 : PySem.W.codeIn K cd10 "_law_cell" = true) (k10 : PySem.W.keepIn K (.ref f10) = true)
    (a11 : PySem.W.nsIn K mainGlobals "_law_mixed" = some (some (.ref f11))) (l11 : K.lookup f11 = some ⟨oc11, od11, .func (PySem.W.fnOf "_law_mixed" "_law_mixed" (defArgs s_mixed) (defBody s_mixed) (defScope s_mixed) .none kV11 dc11 pm11 an11 cd11 ct11), sl11⟩) (c11 : PySem.W.codeIn K cd11 "_law_mixed" = true) (k11 : PySem.W.keepIn K (.ref f11) = true)
    (a12 : PySem.W.nsIn K mainGlobals "_law_draws" = some (some (.ref f12))) (l12 : K.lookup f12 = some ⟨oc12, od12, .func (PySem.W.fnOf "_law_draws" "_law_draws" (defArgs s_draws) (defBody s_draws) (defScope s_draws) .none kV12 dc12 pm12 an12 cd12 ct12), sl12⟩) (c12 : PySem.W.codeIn K cd12 "_law_draws" = true) (k12 : PySem.W.keepIn K (.ref f12) = true)
    (a13 : PySem.W.nsIn K mainGlobals "_law_like" = some (some (.ref f13))) (l13 : K.lookup f13 = some ⟨oc13, od13, .func (PySem.W.fnOf "_law_like" "_law_like" (defArgs s_like) (defBody s_like) (defScope s_like) .none kV13 dc13 pm13 an13 cd13 ct13), sl13⟩) (c13 : PySem.W.codeIn K cd13 "_law_like" = true) (k13 : PySem.W.keepIn K (.ref f13) = true)
    (a14 : PySem.W.nsIn K mainGlobals "_law_list" = some (some (.ref f14))) (l14 : K.lookup f14 = some ⟨oc14, od14, .func (PySem.W.fnOf "_law_list" "_law_list" (defArgs s_list) (defBody s_list) (defScope s_list) .none kV14 dc14 pm14 an14 cd14 ct14), sl14⟩) (c14 : PySem.W.codeIn K cd14 "_law_list" = true) (k14 : PySem.W.keepIn K (.ref f14) = true)
    (a15 : PySem.W.nsIn K mainGlobals "_law_lower" = some (some (.ref f15))) (l15 : K.lookup f15 = some ⟨oc15, od15, .func (PySem.W.fnOf "_law_lower" "_law_lower" (defArgs s_lower) (defBody s_lower) (defScope s_lower) .none kV15 dc15 pm15 an15 cd15 ct15), sl15⟩) (c15 : PySem.W.codeIn K cd15 "_law_lower" = true) (k15 : PySem.W.keepIn K (.ref f15) = true)
    (a16 : PySem.W.nsIn K mainGlobals "_law_best" = some (some (.ref f16))) (l16 : K.lookup f16 = some ⟨oc16, od16, .func (PySem.W.fnOf "_law_best" "_law_best" (defArgs s_best) (defBody s_best) (defScope s_best) .none kV16 dc16 pm16 an16 cd16 ct16), sl16⟩) (c16 : PySem.W.codeIn K cd16 "_law_best" = true) (k16 : PySem.W.keepIn K (.ref f16) = true)
    (a17 : PySem.W.nsIn K mainGlobals "_law_sums" = some (some (.ref f17))) (l17 : K.lookup f17 = some ⟨oc17, od17, .func (PySem.W.fnOf "_law_sums" "_law_sums" (defArgs s_sums) (defBody s_sums) (defScope s_sums) .none kV17 dc17 pm17 an17 cd17 ct17), sl17⟩) (c17 : PySem.W.codeIn K cd17 "_law_sums" = true) (k17 : PySem.W.keepIn K (.ref f17) = true)
    (a18 : PySem.W.nsIn K mainGlobals "_law_fits" = some (some (.ref f18))) (l18 : K.lookup f18 = some ⟨oc18, od18, .func (PySem.W.fnOf "_law_fits" "_law_fits" (defArgs s_fits) (defBody s_fits) (defScope s_fits) .none kV18 dc18 pm18 an18 cd18 ct18), sl18⟩) (c18 : PySem.W.codeIn K cd18 "_law_fits" = true) (k18 : PySem.W.keepIn K (.ref f18) = true)
    (a19 : PySem.W.nsIn K mainGlobals "_law_lives" = some (some (.ref f19))) (l19 : K.lookup f19 = some ⟨oc19, od19, .func (PySem.W.fnOf "_law_lives" "_law_lives" (defArgs s_lives) (defBody s_lives) (defScope s_lives) .none kV19 dc19 pm19 an19 cd19 ct19), sl19⟩) (c19 : PySem.W.codeIn K cd19 "_law_lives" = true) (k19 : PySem.W.keepIn K (.ref f19) = true)
    (a20 : PySem.W.nsIn K mainGlobals "_law_words" = some (some (.ref f20))) (l20 : K.lookup f20 = some ⟨oc20, od20, .func (PySem.W.fnOf "_law_words" "_law_words" (defArgs s_words) (defBody s_words) (defScope s_words) .none kV20 dc20 pm20 an20 cd20 ct20), sl20⟩) (c20 : PySem.W.codeIn K cd20 "_law_words" = true) (k20 : PySem.W.keepIn K (.ref f20) = true)
    (a21 : PySem.W.nsIn K mainGlobals "_law_played" = some (some (.ref f21))) (l21 : K.lookup f21 = some ⟨oc21, od21, .func (PySem.W.fnOf "_law_played" "_law_played" (defArgs s_played) (defBody s_played) (defScope s_played) .none kV21 dc21 pm21 an21 cd21 ct21), sl21⟩) (c21 : PySem.W.codeIn K cd21 "_law_played" = true) (k21 : PySem.W.keepIn K (.ref f21) = true)
    (a22 : PySem.W.nsIn K mainGlobals "_law_triangle" = some (some (.ref f22))) (l22 : K.lookup f22 = some ⟨oc22, od22, .func (PySem.W.fnOf "_law_triangle" "_law_triangle" (defArgs s_triangle) (defBody s_triangle) (defScope s_triangle) .none kV22 dc22 pm22 an22 cd22 ct22), sl22⟩) (c22 : PySem.W.codeIn K cd22 "_law_triangle" = true) (k22 : PySem.W.keepIn K (.ref f22) = true)
    (a23 : PySem.W.nsIn K mainGlobals "_law_pair" = some (some (.ref f23))) (l23 : K.lookup f23 = some ⟨oc23, od23, .func (PySem.W.fnOf "_law_pair" "_law_pair" (defArgs s_pair) (defBody s_pair) (defScope s_pair) .none kV23 dc23 pm23 an23 cd23 ct23), sl23⟩) (c23 : PySem.W.codeIn K cd23 "_law_pair" = true) (k23 : PySem.W.keepIn K (.ref f23) = true)
    (a24 : PySem.W.nsIn K mainGlobals "_law_tally" = some (some (.ref f24))) (l24 : K.lookup f24 = some ⟨oc24, od24, .func (PySem.W.fnOf "_law_tally" "_law_tally" (defArgs s_tally) (defBody s_tally) (defScope s_tally) .none kV24 dc24 pm24 an24 cd24 ct24), sl24⟩) (c24 : PySem.W.codeIn K cd24 "_law_tally" = true) (k24 : PySem.W.keepIn K (.ref f24) = true)
    (a25 : PySem.W.nsIn K mainGlobals "_law_count" = some (some (.ref f25))) (l25 : K.lookup f25 = some ⟨oc25, od25, .func (PySem.W.fnOf "_law_count" "_law_count" (defArgs s_count) (defBody s_count) (defScope s_count) .none kV25 dc25 pm25 an25 cd25 ct25), sl25⟩) (c25 : PySem.W.codeIn K cd25 "_law_count" = true) (k25 : PySem.W.keepIn K (.ref f25) = true)
    (a26 : PySem.W.nsIn K mainGlobals "_law_other" = some (some (.ref f26))) (l26 : K.lookup f26 = some ⟨oc26, od26, .func (PySem.W.fnOf "_law_other" "_law_other" (defArgs s_other) (defBody s_other) (defScope s_other) .none kV26 dc26 pm26 an26 cd26 ct26), sl26⟩) (c26 : PySem.W.codeIn K cd26 "_law_other" = true) (k26 : PySem.W.keepIn K (.ref f26) = true)
    (a27 : PySem.W.nsIn K mainGlobals "law" = some (some (.ref f27))) (l27 : K.lookup f27 = some ⟨oc27, od27, .func (PySem.W.fnOf "law" "law" (defArgs s_law) (defBody s_law) (defScope s_law) .none kV27 dc27 pm27 an27 cd27 ct27), sl27⟩) (c27 : PySem.W.codeIn K cd27 "law" = true) (k27 : PySem.W.keepIn K (.ref f27) = true)
    (z_abs : PySem.W.nsIn K mainGlobals "abs" = some none)
    (z_len : PySem.W.nsIn K mainGlobals "len" = some none)
    (z_sum : PySem.W.nsIn K mainGlobals "sum" = some none)
    (z_max : PySem.W.nsIn K mainGlobals "max" = some none)
    (z_min : PySem.W.nsIn K mainGlobals "min" = some none)
    (z_sorted : PySem.W.nsIn K mainGlobals "sorted" = some none)
    (z_int : PySem.W.nsIn K mainGlobals "int" = some none)
    (z_str : PySem.W.nsIn K mainGlobals "str" = some none)
    (z_bool : PySem.W.nsIn K mainGlobals "bool" = some none)
    (z_list : PySem.W.nsIn K mainGlobals "list" = some none)
    (z_tuple : PySem.W.nsIn K mainGlobals "tuple" = some none)
    (z_range : PySem.W.nsIn K mainGlobals "range" = some none)
    (z_enumerate : PySem.W.nsIn K mainGlobals "enumerate" = some none)
    (z_reversed : PySem.W.nsIn K mainGlobals "reversed" = some none)
    (z_isinstance : PySem.W.nsIn K mainGlobals "isinstance" = some none)
    : ∃ fd : FuncData, (∀ (s : Shared) (v : Value), BindsTo s fd ⟨[v], []⟩ [("_law_script", v)]) ∧ ∀ base : Heap, K.In base → base.Ns mainGlobals mg → FnOk l.prog w K mg base CX0 66 fa fd ["_law_script"] (LawSp K) := by
  have e := hfa.symm.trans (PySem.W.mg_of X G a27)
  cases e
  have F1 := top_mk (st := s_normal) X G a1 l1 c1 k1
  have F2 := top_mk (st := s_take) X G a2 l2 c2 k2
  have F3 := top_mk (st := s_take_largest) X G a3 l3 c3 k3
  have F4 := top_mk (st := s_take_smallest) X G a4 l4 c4 k4
  have F5 := top_mk (st := s_best_plucks) X G a5 l5 c5 k5
  have F6 := top_mk (st := s_play_layers) X G a6 l6 c6 k6
  have F7 := top_mk (st := s_order_counts) X G a7 l7 c7 k7
  have F8 := top_mk (st := s_count_orders) X G a8 l8 c8 k8
  have F9 := top_mk (st := s_raid_counts) X G a9 l9 c9 k9
  have F10 := top_mk (st := s_cell) X G a10 l10 c10 k10
  have F11 := top_mk (st := s_mixed) X G a11 l11 c11 k11
  have F12 := top_mk (st := s_draws) X G a12 l12 c12 k12
  have F13 := top_mk (st := s_like) X G a13 l13 c13 k13
  have F14 := top_mk (st := s_list) X G a14 l14 c14 k14
  have F15 := top_mk (st := s_lower) X G a15 l15 c15 k15
  have F16 := top_mk (st := s_best) X G a16 l16 c16 k16
  have F17 := top_mk (st := s_sums) X G a17 l17 c17 k17
  have F18 := top_mk (st := s_fits) X G a18 l18 c18 k18
  have F19 := top_mk (st := s_lives) X G a19 l19 c19 k19
  have F20 := top_mk (st := s_words) X G a20 l20 c20 k20
  have F21 := top_mk (st := s_played) X G a21 l21 c21 k21
  have F22 := top_mk (st := s_triangle) X G a22 l22 c22 k22
  have F23 := top_mk (st := s_pair) X G a23 l23 c23 k23
  have F24 := top_mk (st := s_tally) X G a24 l24 c24 k24
  have F25 := top_mk (st := s_count) X G a25 l25 c25 k25
  have F26 := top_mk (st := s_other) X G a26 l26 c26 k26
  have F27 := top_mk (st := s_law) X G a27 l27 c27 k27
  have T : Txt K mg ⟨_, _, _, _, _, _, _, _, _, _, _, _, _, _, _, _, _, _, _, _, _, _, _, _, _, _, _, _, _, _, _, _, _, _, _, _, _, _, _, _, _, _, _, _, _, _, _, _, _, _, _, _, _, _⟩ := ⟨
    F1.1, F1.1.binds (ps := ["values"]) (fun _ _ _ _ _ _ us hl => match us, hl with | [_], _ => rfl), F1.2,
    F2.1, F2.1.binds (ps := ["sizes", "place"]) (fun _ _ _ _ _ _ us hl => match us, hl with | [_, _], _ => rfl), F2.2,
    F3.1, F3.1.binds (ps := ["sizes"]) (fun _ _ _ _ _ _ us hl => match us, hl with | [_], _ => rfl), F3.2,
    F4.1, F4.1.binds (ps := ["sizes"]) (fun _ _ _ _ _ _ us hl => match us, hl with | [_], _ => rfl), F4.2,
    F5.1, F5.1.binds (ps := ["word"]) (fun _ _ _ _ _ _ us hl => match us, hl with | [_], _ => rfl), F5.2,
    F6.1, F6.1.binds (ps := ["starts"]) (fun _ _ _ _ _ _ us hl => match us, hl with | [_], _ => rfl), F6.2,
    F7.1, F7.1.binds (ps := ["starts"]) (fun _ _ _ _ _ _ us hl => match us, hl with | [_], _ => rfl), F7.2,
    F8.1, F8.1.binds (ps := ["sizes"]) (fun _ _ _ _ _ _ us hl => match us, hl with | [_], _ => rfl), F8.2,
    F9.1, F9.1.binds (ps := ["sizes"]) (fun _ _ _ _ _ _ us hl => match us, hl with | [_], _ => rfl), F9.2,
    F10.1, F10.1.binds (ps := ["_law_script", "_law_k"]) (fun _ _ _ _ _ _ us hl => match us, hl with | [_, _], _ => rfl), F10.2,
    F11.1, F11.1.binds (ps := ["_law_cell_here", "_law_k", "_law_size"]) (fun _ _ _ _ _ _ us hl => match us, hl with | [_, _, _], _ => rfl), F11.2,
    F12.1, F12.1.binds (ps := ["_law_cell_here", "_law_menu"]) (fun _ _ _ _ _ _ us hl => match us, hl with | [_, _], _ => rfl), F12.2,
    F13.1, F13.1.binds (ps := ["_law_actual", "_law_due"]) (fun _ _ _ _ _ _ us hl => match us, hl with | [_, _], _ => rfl), F13.2,
    F14.1, F14.1.binds (ps := ["_law_cell_here", "_law_total"]) (fun _ _ _ _ _ _ us hl => match us, hl with | [_, _], _ => rfl), F14.2,
    F15.1, F15.1.binds (ps := ["_law_sizes", "_law_place"]) (fun _ _ _ _ _ _ us hl => match us, hl with | [_, _], _ => rfl), F15.2,
    F16.1, F16.1.binds (ps := ["_law_sizes", "_law_letter"]) (fun _ _ _ _ _ _ us hl => match us, hl with | [_, _], _ => rfl), F16.2,
    F17.1, F17.1.binds (ps := ["_law_sizes"]) (fun _ _ _ _ _ _ us hl => match us, hl with | [_], _ => rfl), F17.2,
    F18.1, F18.1.binds (ps := ["_law_sizes", "_law_row"]) (fun _ _ _ _ _ _ us hl => match us, hl with | [_, _], _ => rfl), F18.2,
    F19.1, F19.1.binds (ps := ["_law_sizes", "_law_order", "_law_aim"]) (fun _ _ _ _ _ _ us hl => match us, hl with | [_, _, _], _ => rfl), F19.2,
    F20.1, F20.1.binds (ps := ["_law_turns"]) (fun _ _ _ _ _ _ us hl => match us, hl with | [_], _ => rfl), F20.2,
    F21.1, F21.1.binds (ps := ["_law_sizes"]) (fun _ _ _ _ _ _ us hl => match us, hl with | [_], _ => rfl), F21.2,
    F22.1, F22.1.binds (ps := ["_law_size"]) (fun _ _ _ _ _ _ us hl => match us, hl with | [_], _ => rfl), F22.2,
    F23.1, F23.1.binds (ps := ["_law_row", "_law_low"]) (fun _ _ _ _ _ _ us hl => match us, hl with | [_, _], _ => rfl), F23.2,
    F24.1, F24.1.binds (ps := ["_law_sizes", "_law_known"]) (fun _ _ _ _ _ _ us hl => match us, hl with | [_, _], _ => rfl), F24.2,
    F25.1, F25.1.binds (ps := ["_law_sizes", "_law_known"]) (fun _ _ _ _ _ _ us hl => match us, hl with | [_, _], _ => rfl), F25.2,
    F26.1, F26.1.binds (ps := ["_law_sizes"]) (fun _ _ _ _ _ _ us hl => match us, hl with | [_], _ => rfl), F26.2,
    F27.1, F27.1.binds (ps := ["_law_script"]) (fun _ _ _ _ _ _ us hl => match us, hl with | [_], _ => rfl), F27.2,
    PySem.W.mg_none_of X G z_abs, PySem.W.mg_none_of X G z_len, PySem.W.mg_none_of X G z_sum, PySem.W.mg_none_of X G z_max, PySem.W.mg_none_of X G z_min, PySem.W.mg_none_of X G z_sorted, PySem.W.mg_none_of X G z_int, PySem.W.mg_none_of X G z_str, PySem.W.mg_none_of X G z_bool, PySem.W.mg_none_of X G z_list, PySem.W.mg_none_of X G z_tuple, PySem.W.mg_none_of X G z_range, PySem.W.mg_none_of X G z_enumerate, PySem.W.mg_none_of X G z_reversed, PySem.W.mg_none_of X G z_isinstance⟩
  exact ⟨_, fun s v => .of_eq rfl, fun base _ _ => ok_law T⟩
end
end Kt

open PySem PySem.W PyProof.Rows in
set_option maxRecDepth 100000 in
set_option maxHeartbeats 0 in
theorem PySem.Challenge.cw_barebough_k43_whole_counts_holds : PySem.Challenge.rw_barebough_k43_whole_counts.Holds := by
  w_on; o_law; k_head; (case hw => w_witness2)
  k_fill
  refine L2.walk_ofK (l := PySem.Challenge.rw_barebough_k43_whole_counts) (n := 63) (k := 66) (x := "_law_script") (CX := L2.CX0) (sp := Dl.LawSp) rfl (by decide) rfl ⟨rfl, by decide, by decide⟩ (fun w h Y => PySem.W.kIn_of Y) ?F (fun _ _ a ns hl _ hS => ⟨a, ns, rfl, hS, hl, fun _ => rfl⟩) fun _ _ _ _ z => z
  case F =>
    intro w mg fa h KX G hmg
    refine' Kt.all_mk KX G hmg ?a1 ?l1 ?c1 ?k1 ?a2 ?l2 ?c2 ?k2 ?a3 ?l3 ?c3 ?k3 ?a4 ?l4 ?c4 ?k4 ?a5 ?l5 ?c5 ?k5 ?a6 ?l6 ?c6 ?k6 ?a7 ?l7 ?c7 ?k7 ?a8 ?l8 ?c8 ?k8 ?a9 ?l9 ?c9 ?k9 ?a10 ?l10 ?c10 ?k10 ?a11 ?l11 ?c11 ?k11 ?a12 ?l12 ?c12 ?k12 ?a13 ?l13 ?c13 ?k13 ?a14 ?l14 ?c14 ?k14 ?a15 ?l15 ?c15 ?k15 ?a16 ?l16 ?c16 ?k16 ?a17 ?l17 ?c17 ?k17 ?a18 ?l18 ?c18 ?k18 ?a19 ?l19 ?c19 ?k19 ?a20 ?l20 ?c20 ?k20 ?a21 ?l21 ?c21 ?k21 ?a22 ?l22 ?c22 ?k22 ?a23 ?l23 ?c23 ?k23 ?a24 ?l24 ?c24 ?k24 ?a25 ?l25 ?c25 ?k25 ?a26 ?l26 ?c26 ?k26 ?a27 ?l27 ?c27 ?k27 ?z_abs ?z_len ?z_sum ?z_max ?z_min ?z_sorted ?z_int ?z_str ?z_bool ?z_list ?z_tuple ?z_range ?z_enumerate ?z_reversed ?z_isinstance
    (case a1 => k_is)
    (case l1 => k_is)
    (case c1 => k_is)
    (case k1 => k_is)
    (case a2 => k_is)
    (case l2 => k_is)
    (case c2 => k_is)
    (case k2 => k_is)
    (case a3 => k_is)
    (case l3 => k_is)
    (case c3 => k_is)
    (case k3 => k_is)
    (case a4 => k_is)
    (case l4 => k_is)
    (case c4 => k_is)
    (case k4 => k_is)
    (case a5 => k_is)
    (case l5 => k_is)
    (case c5 => k_is)
    (case k5 => k_is)
    (case a6 => k_is)
    (case l6 => k_is)
    (case c6 => k_is)
    (case k6 => k_is)
    (case a7 => k_is)
    (case l7 => k_is)
    (case c7 => k_is)
    (case k7 => k_is)
    (case a8 => k_is)
    (case l8 => k_is)
    (case c8 => k_is)
    (case k8 => k_is)
    (case a9 => k_is)
    (case l9 => k_is)
    (case c9 => k_is)
    (case k9 => k_is)
    (case a10 => k_is)
    (case l10 => k_is)
    (case c10 => k_is)
    (case k10 => k_is)
    (case a11 => k_is)
    (case l11 => k_is)
    (case c11 => k_is)
    (case k11 => k_is)
    (case a12 => k_is)
    (case l12 => k_is)
    (case c12 => k_is)
    (case k12 => k_is)
    (case a13 => k_is)
    (case l13 => k_is)
    (case c13 => k_is)
    (case k13 => k_is)
    (case a14 => k_is)
    (case l14 => k_is)
    (case c14 => k_is)
    (case k14 => k_is)
    (case a15 => k_is)
    (case l15 => k_is)
    (case c15 => k_is)
    (case k15 => k_is)
    (case a16 => k_is)
    (case l16 => k_is)
    (case c16 => k_is)
    (case k16 => k_is)
    (case a17 => k_is)
    (case l17 => k_is)
    (case c17 => k_is)
    (case k17 => k_is)
    (case a18 => k_is)
    (case l18 => k_is)
    (case c18 => k_is)
    (case k18 => k_is)
    (case a19 => k_is)
    (case l19 => k_is)
    (case c19 => k_is)
    (case k19 => k_is)
    (case a20 => k_is)
    (case l20 => k_is)
    (case c20 => k_is)
    (case k20 => k_is)
    (case a21 => k_is)
    (case l21 => k_is)
    (case c21 => k_is)
    (case k21 => k_is)
    (case a22 => k_is)
    (case l22 => k_is)
    (case c22 => k_is)
    (case k22 => k_is)
    (case a23 => k_is)
    (case l23 => k_is)
    (case c23 => k_is)
    (case k23 => k_is)
    (case a24 => k_is)
    (case l24 => k_is)
    (case c24 => k_is)
    (case k24 => k_is)
    (case a25 => k_is)
    (case l25 => k_is)
    (case c25 => k_is)
    (case k25 => k_is)
    (case a26 => k_is)
    (case l26 => k_is)
    (case c26 => k_is)
    (case k26 => k_is)
    (case a27 => k_is)
    (case l27 => k_is)
    (case c27 => k_is)
    (case k27 => k_is)
    (case z_abs => k_is)
    (case z_len => k_is)
    (case z_sum => k_is)
    (case z_max => k_is)
    (case z_min => k_is)
    (case z_sorted => k_is)
    (case z_int => k_is)
    (case z_str => k_is)
    (case z_bool => k_is)
    (case z_list => k_is)
    (case z_tuple => k_is)
    (case z_range => k_is)
    (case z_enumerate => k_is)
    (case z_reversed => k_is)
    (case z_isinstance => k_is)
