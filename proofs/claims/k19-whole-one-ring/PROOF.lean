import PyProof.Rows.All
import Wide.All
import OpenK.AllK
import Wide.FinOn
import HandS.ForMost
import HandS.Deep
import HandS.Conv
import HandS.IsInst
import HandS.Strs
import HandS.TupAny
import HandS.TupMul
import HandS.TupLe
import HandS.Zip
import HandS.Style
import HandS.SetFor
import HandS.SetBool
import HandS.SortInts
import HandS.Walk
import HandS.Codes
import KE.GoesMore
import KE.GoesEnum
import KE.KDictZip
import HandS.Head0
import HandS.Head1
import HandS.Head2
import HandS.HeadEnd
import HandS.HeadHook1
import PySem.Challenge.RW_likespans_k19_whole_one_ring_unbroken_ru
set_option Elab.async false
set_option linter.all false
set_option maxRecDepth 100000
set_option maxHeartbeats 4000000
section
/-! Z0: an abstract layer over the hand layer: slots that hold data, cells that hold what changes. -/
namespace Z
open PySem PySem.Spec PyProof.Rows L2
/-! ### data in the heap -/
mutual
inductive Dq (G : Hp) : V → PyData → Prop
  | non : Dq G .non .none
  | bl (b : Bool) : Dq G (.bl b) (.bool b)
  | int (i : Int) : Dq G (.int i) (.int i)
  | str (x : Str) : Dq G (.str x) (.str x)
  | lst {a : Addr} {xs : List V} {ds : List PyData} : G a = some (.lst xs) → DqA G xs ds → Dq G (.ref a) (.list ds)
  | tup {a : Addr} {xs : List V} {ds : List PyData} : G a = some (.tup xs) → DqA G xs ds → Dq G (.ref a) (.tuple ds)
inductive DqA (G : Hp) : List V → List PyData → Prop
  | nil : DqA G [] []
  | cons {v : V} {vs : List V} {d : PyData} {ds : List PyData} : Dq G v d → DqA G vs ds → DqA G (v :: vs) (d :: ds)
end
mutual
theorem Dq.mono {G G' : Hp} (e : Same G G') : ∀ {v : V} {d : PyData}, Dq G v d → Dq G' v d
  | _, _, .non => .non
  | _, _, .bl b => .bl b
  | _, _, .int i => .int i
  | _, _, .str x => .str x
  | _, _, .lst h hs => .lst (e _ _ h) (DqA.mono e hs)
  | _, _, .tup h hs => .tup (e _ _ h) (DqA.mono e hs)
theorem DqA.mono {G G' : Hp} (e : Same G G') : ∀ {v : List V} {d : List PyData}, DqA G v d → DqA G' v d
  | _, _, .nil => .nil
  | _, _, .cons h hs => .cons (Dq.mono e h) (DqA.mono e hs)
end
mutual
theorem Dq.dp (K : PySem.W.Frag) {G H : Hp} (e : Same G H) : ∀ {v : V} {d : PyData}, Dq G v d → Dp K H v d
  | _, _, .non => .non
  | _, _, .bl b => .bl b
  | _, _, .int i => .int i
  | _, _, .str x => .str x
  | _, _, .lst h hs => .lst (SqL.of (e _ _ h)) (DqA.dp K e hs)
  | _, _, .tup h hs => .tup (SqT.of (e _ _ h)) (DqA.dp K e hs)
theorem DqA.dp (K : PySem.W.Frag) {G H : Hp} (e : Same G H) : ∀ {v : List V} {d : List PyData}, DqA G v d → DpAll K H v d
  | _, _, .nil => .nil
  | _, _, .cons h hs => .cons (Dq.dp K e h) (DqA.dp K e hs)
end
theorem DqA.length {G : Hp} : ∀ {vs : List V} {ds : List PyData}, DqA G vs ds → vs.length = ds.length
  | _, _, .nil => rfl
  | _, _, .cons _ t => by simp [DqA.length t]
theorem DqA.get {G : Hp} : ∀ {vs : List V} {ds : List PyData} {i : Nat} {d : PyData}, DqA G vs ds → ds[i]? = some d → ∃ v, vs[i]? = some v ∧ Dq G v d
  | _, _, _, _, .nil, e => by simp at e
  | _, _, 0, _, .cons h _, e => by simp at e; subst e; exact ⟨_, rfl, h⟩
  | _, _, i + 1, d, .cons _ t, e => by
    obtain ⟨v, h1, h2⟩ := DqA.get (i := i) (d := d) t (by simpa using e)
    exact ⟨v, by simpa using h1, h2⟩
theorem DqA.get2 {G : Hp} {vs : List V} {ds : List PyData} {i : Nat} {v : V} (h : DqA G vs ds) (e : vs[i]? = some v) : ∃ d, ds[i]? = some d ∧ Dq G v d := by
  have hl := h.length
  obtain ⟨h1, _⟩ := List.getElem?_eq_some_iff.mp e
  obtain ⟨w, e1, e2⟩ := h.get (i := i) (d := ds[i]'(by omega)) (by simp)
  rw [e] at e1
  cases e1
  exact ⟨_, by simp, e2⟩
theorem DqA.append {G : Hp} : ∀ {vs ws : List V} {ds es : List PyData}, DqA G vs ds → DqA G ws es → DqA G (vs ++ ws) (ds ++ es)
  | _, _, _, _, .nil, h => h
  | _, _, _, _, .cons h t, k => .cons h (DqA.append t k)
theorem DqA.set {G : Hp} {v : V} {d : PyData} (h : Dq G v d) : ∀ {vs : List V} {ds : List PyData} (i : Nat), DqA G vs ds → DqA G (vs.set i v) (ds.set i d)
  | _, _, _, .nil => .nil
  | _, _, 0, .cons _ t => .cons h t
  | _, _, i + 1, .cons k t => .cons k (DqA.set h i t)
theorem DqA.take {G : Hp} : ∀ {vs : List V} {ds : List PyData} (n : Nat), DqA G vs ds → DqA G (vs.take n) (ds.take n)
  | _, _, 0, _ => .nil
  | _, _, _ + 1, .nil => .nil
  | _, _, n + 1, .cons h t => .cons h (DqA.take n t)
theorem DqA.drop {G : Hp} : ∀ {vs : List V} {ds : List PyData} (n : Nat), DqA G vs ds → DqA G (vs.drop n) (ds.drop n)
  | _, _, 0, h => h
  | _, _, _ + 1, .nil => .nil
  | _, _, n + 1, .cons _ t => DqA.drop n t
theorem DqA.snoc {G : Hp} {vs : List V} {ds : List PyData} {v : V} {d : PyData} (h : DqA G vs ds) (k : Dq G v d) : DqA G (vs ++ [v]) (ds ++ [d]) := h.append (.cons k .nil)
theorem DqA.reverse {G : Hp} : ∀ {vs : List V} {ds : List PyData}, DqA G vs ds → DqA G vs.reverse ds.reverse
  | _, _, .nil => .nil
  | _, _, .cons h t => by
    rw [List.reverse_cons, List.reverse_cons]
    exact (DqA.reverse t).snoc h
theorem DqA.ints {G : Hp} : ∀ {vs : List V} {ns : List Int}, DqA G vs (ns.map PyData.int) → vs = ns.map V.int
  | _, [], .nil => rfl
  | _, n :: ns, .cons h t => by
    cases h
    rw [DqA.ints t, List.map_cons]
theorem DqA.of_ints (G : Hp) : ∀ ns : List Int, DqA G (ns.map V.int) (ns.map PyData.int)
  | [] => .nil
  | n :: ns => .cons (.int n) (DqA.of_ints G ns)
theorem DqA.bls {G : Hp} : ∀ {vs : List V} {ns : List Bool}, DqA G vs (ns.map PyData.bool) → vs = ns.map V.bl
  | _, [], .nil => rfl
  | _, n :: ns, .cons h t => by
    cases h
    rw [DqA.bls t, List.map_cons]
theorem DqA.replicate {G : Hp} {v : V} {d : PyData} (h : Dq G v d) : ∀ n, DqA G (List.replicate n v) (List.replicate n d)
  | 0 => .nil
  | n + 1 => .cons h (DqA.replicate h n)
/-! ### the heap without what changes -/
noncomputable def fz (M : Addr → Prop) (H : Hp) : Hp := fun a => @ite _ (M a) (Classical.propDecidable _) none (H a)
theorem fz_in {M : Addr → Prop} {H : Hp} {a : Addr} (h : M a) : fz M H a = none := by unfold fz; rw [if_pos h]
theorem fz_out {M : Addr → Prop} {H : Hp} {a : Addr} (h : ¬ M a) : fz M H a = H a := by unfold fz; rw [if_neg h]
theorem fz_le {M : Addr → Prop} {H : Hp} : Same (fz M H) H := fun a o h => by
  by_cases m : M a
  · rw [fz_in m] at h; cases h
  · rw [fz_out m] at h; exact h
theorem fz_not {M : Addr → Prop} {H : Hp} {a : Addr} {o : HO} (h : fz M H a = some o) : ¬ M a := fun m => by rw [fz_in m] at h; cases h
theorem fz_mono {M : Addr → Prop} {H H' : Hp} (e : Same H H') : Same (fz M H) (fz M H') := fun a o h => by
  have n := fz_not h
  rw [fz_out n] at h ⊢
  exact e a o h
theorem fz_anti {M M' : Addr → Prop} {H : Hp} (e : ∀ a, M' a → M a) : Same (fz M H) (fz M' H) := fun a o h => by
  rw [fz_out (fun m => fz_not h (e a m))]
  exact fz_le a o h
theorem fz_upd {M : Addr → Prop} {H : Hp} {a : Addr} {o : HO} (h : M a) : fz M (upd H a o) = fz M H := by
  funext b
  by_cases m : M b
  · rw [fz_in m, fz_in m]
  · have ne : b ≠ a := fun e => m (by rw [e]; exact h)
    rw [fz_out m, fz_out m, upd_ne ne]
theorem same_upd {H : Hp} {p : Addr} {o : HO} (h : H p = none) : Same H (upd H p o) := fun b x e => by
  rw [upd_ne (ne_of_none e h)]
  exact e
/-! ### slots and cells -/
inductive Sl where
  | un
  | d (x : PyData)
  | c (k : Nat)
  | ob (C : Addr) (fs : List (Str × PyData))
  | dd (f : Int → Option PyData)
  | w (v : V)
  | fl (K : PySem.W.Frag) (sc : List Int)
inductive Cell where
  | ls (ds : List PyData)
  | di (f : Int → Option PyData) (n : Nat)
  | ob (C : Addr) (fs : List (Str × PyData))
  | sr
/-- not a cell -/
def Sl.fr : Sl → Prop
  | .c _ => False
  | _ => True
def OptR (G : Hp) : Option V → Option PyData → Prop
  | some v, some d => Dq G v d
  | none, none => True
  | _, _ => False
theorem OptR.mono {G G' : Hp} (e : Same G G') : ∀ {x : Option V} {y : Option PyData}, OptR G x y → OptR G' x y
  | some _, some _, h => Dq.mono e h
  | none, none, h => h
  | some _, none, h => h
  | none, some _, h => h
def DiR (G : Hp) (f : Int → Option PyData) (n : Nat) (ks : List (Key × V)) : Prop := ks.length ≤ n ∧ ∀ k : Int, OptR G (valV ks (Sum.inl k)) (f k)
theorem DiR.mono {G G' : Hp} (e : Same G G') {f : Int → Option PyData} {n : Nat} {ks : List (Key × V)} (h : DiR G f n ks) : DiR G' f n ks := ⟨h.1, fun k => (h.2 k).mono e⟩
def SlR (as : List Addr) (G : Hp) : Sl → V → Prop
  | .un, _ => True
  | .d x, v => Dq G v x
  | .c k, v => ∃ a, as[k]? = some a ∧ v = .ref a
  | .ob C fs, v => ∃ a dx gs, v = .ref a ∧ G a = some (.ins C dx gs) ∧ ∀ f, OptR G (gs.lookup f) (fs.lookup f)
  | .dd f, v => ∃ a ks n, v = .ref a ∧ G a = some (.dK ks) ∧ DiR G f n ks
  | .w u, v => v = u
  | .fl K sc, v => ∃ a, v = .ref a ∧ SqL K G a (sc.map V.int)
theorem SlR.mono {as : List Addr} {G G' : Hp} (e : Same G G') : ∀ {s : Sl} {v : V}, SlR as G s v → SlR as G' s v
  | .un, _, h => h
  | .d _, _, h => Dq.mono e h
  | .c _, _, h => h
  | .ob _ _, _, ⟨a, dx, gs, h1, h2, h3⟩ => ⟨a, dx, gs, h1, e _ _ h2, fun f => (h3 f).mono e⟩
  | .dd _, _, ⟨a, ks, n, h1, h2, h3⟩ => ⟨a, ks, n, h1, e _ _ h2, h3.mono e⟩
  | .w _, _, h => h
  | .fl _ _, _, ⟨a, h1, h2⟩ => ⟨a, h1, e.seq h2⟩
theorem SlR.fr {as as' : List Addr} {G : Hp} : ∀ {s : Sl} {v : V}, s.fr → SlR as G s v → SlR as' G s v
  | .un, _, _, h => h
  | .d _, _, _, h => h
  | .c _, _, f, _ => f.elim
  | .ob _ _, _, _, h => h
  | .dd _, _, _, h => h
  | .w _, _, _, h => h
  | .fl _ _, _, _, h => h
def CeR (G H : Hp) : Cell → Addr → Prop
  | .ls ds, a => ∃ xs, H a = some (.lst xs) ∧ DqA G xs ds
  | .di f n, a => ∃ ks, H a = some (.dK ks) ∧ DiR G f n ks
  | .ob C fs, a => ∃ dx gs, H a = some (.ins C dx gs) ∧ gs.length ≤ fs.length ∧ ∀ f, OptR G (gs.lookup f) (fs.lookup f)
  | .sr, a => ∃ i j k l : Int, H a = some (.lst [.int i, .int j, .int k, .int l])
theorem CeR.mono {G G' H H' : Hp} (e : Same G G') {a : Addr} (h : H' a = H a) : ∀ {c : Cell}, CeR G H c a → CeR G' H' c a
  | .ls _, ⟨xs, h1, h2⟩ => ⟨xs, h.trans h1, h2.mono e⟩
  | .di _ _, ⟨ks, h1, h2⟩ => ⟨ks, h.trans h1, h2.mono e⟩
  | .ob _ _, ⟨dx, gs, h1, h2, h3⟩ => ⟨dx, gs, h.trans h1, h2, fun f => (h3 f).mono e⟩
  | .sr, ⟨i, j, k, l, h1⟩ => ⟨i, j, k, l, h.trans h1⟩
theorem CeR.some {G H : Hp} {a : Addr} : ∀ {c : Cell}, CeR G H c a → ∃ o, H a = some o
  | .ls _, ⟨_, h, _⟩ => ⟨_, h⟩
  | .di _ _, ⟨_, h, _⟩ => ⟨_, h⟩
  | .ob _ _, ⟨_, _, h, _⟩ => ⟨_, h⟩
  | .sr, ⟨_, _, _, _, h⟩ => ⟨_, h⟩
abbrev Cs := List (Option Cell)
def lv (cs : Cs) (as : List Addr) (a : Addr) : Prop := ∃ (k : Nat) (c : Cell), cs[k]? = some (some c) ∧ as[k]? = some a
/-- what a body starts from: the heap at the entry, what its callers change, what it was handed to change, what is frozen -/
structure Bs where
  H0 : Hp
  M0 : Addr → Prop
  R : List Addr
  F : Hp
  r1 : R.length ≤ 1
def Bs.M (b : Bs) (as : List Addr) (cs : Cs) (a : Addr) : Prop := b.M0 a ∨ lv cs as a
noncomputable def Bs.G (b : Bs) (as : List Addr) (cs : Cs) (H : Hp) : Hp := fz (b.M as cs) H
structure OkH (b : Bs) (as : List Addr) (H : Hp) (cs : Cs) : Prop where
  ext : ∀ a o, b.H0 a = some o → a ∉ b.R → H a = some o
  m0 : ∀ a, b.M0 a → ∃ o, H a = some o
  rl : ∀ (i : Nat) a, b.R[i]? = some a → as[i]? = some a ∧ ∃ c, cs[i]? = some (some c)
  nd : ∀ (k k' : Nat) c c' a, cs[k]? = some (some c) → cs[k']? = some (some c') → as[k]? = some a → as[k']? = some a → k = k'
  nw : ∀ (k : Nat) c a, cs[k]? = some (some c) → as[k]? = some a → b.H0 a = none ∨ a ∈ b.R
  nm : ∀ (k : Nat) c a, cs[k]? = some (some c) → as[k]? = some a → ¬ b.M0 a
  ce : ∀ (k : Nat) c, cs[k]? = some (some c) → ∃ a, as[k]? = some a ∧ CeR (b.G as cs H) H c a
  fl : Same b.F (b.G as cs H)
  al : as.length = cs.length
structure Ok (b : Bs) (as : List Addr) (H : Hp) (σ : L2.St) (ρ : List Sl) (cs : Cs) : Prop where
  h : OkH b as H cs
  len : σ.length = ρ.length
  sl : ∀ (i : Nat) s, ρ[i]? = some s → s = .un ∨ ∃ v, σ[i]? = some (some v) ∧ SlR as (b.G as cs H) s v
section
variable {b : Bs} {as : List Addr} {H H' : Hp} {σ : L2.St} {ρ : List Sl} {cs : Cs}
theorem OkH.mono (k : OkH b as H cs) (e : Same H H') : OkH b as H' cs where
  ext := fun a o h n => e a o (k.ext a o h n)
  m0 := fun a h => let ⟨o, x⟩ := k.m0 a h; ⟨o, e a o x⟩
  rl := k.rl
  nd := k.nd
  nw := k.nw
  nm := k.nm
  ce := fun i c h => by
    obtain ⟨a, h1, h2⟩ := k.ce i c h
    obtain ⟨o, ho⟩ := h2.some
    exact ⟨a, h1, h2.mono (fz_mono e) ((e a o ho).trans ho.symm)⟩
  fl := k.fl.trans (fz_mono e)
  al := k.al
theorem Ok.mono (k : Ok b as H σ ρ cs) (e : Same H H') : Ok b as H' σ ρ cs where
  h := k.h.mono e
  len := k.len
  sl := fun i s h => (k.sl i s h).imp id fun ⟨v, h1, h2⟩ => ⟨v, h1, h2.mono (fz_mono e)⟩
theorem OkH.fresh (k : OkH b as H cs) {p : Addr} (h : H p = none) : ¬ b.M as cs p := by
  rintro (m | ⟨i, c, h1, h2⟩)
  · obtain ⟨o, x⟩ := k.m0 p m
    rw [h] at x; cases x
  · obtain ⟨a, h3, h4⟩ := k.ce i c h1
    rw [h2] at h3; cases h3
    obtain ⟨o, x⟩ := h4.some
    rw [h] at x; cases x
theorem OkH.fresh0 (k : OkH b as H cs) {p : Addr} (h : H p = none) : b.H0 p = none := by
  cases q : b.H0 p with
  | none => rfl
  | some o =>
    by_cases hr : p ∈ b.R
    · obtain ⟨i, hi⟩ := List.getElem?_of_mem hr
      obtain ⟨h1, c, h2⟩ := k.rl i p hi
      exact absurd (.inr ⟨i, c, h2, h1⟩) (k.fresh h)
    · have := k.ext p o q hr
      rw [h] at this; cases this
theorem OkH.live (k : OkH b as H cs) {p : Addr} (h : b.M as cs p) : ∃ o, H p = some o := by
  cases q : H p with
  | some o => exact ⟨o, rfl⟩
  | none => exact absurd h (k.fresh q)
/-- a new object that is never changed -/
theorem OkH.laid (k : OkH b as H cs) {p : Addr} {o : HO} (h : H p = none) : (b.G as cs (upd H p o)) p = some o := by
  unfold Bs.G
  rw [fz_out (k.fresh h), upd_same]
/-- a cell is written -/
theorem OkH.write (k : OkH b as H cs) {i : Nat} {c c' : Cell} {a : Addr} {o : HO} (hc : cs[i]? = some (some c)) (ha : as[i]? = some a) (new : CeR (b.G as cs H) (upd H a o) c' a) : OkH b as (upd H a o) (cs.set i (some c')) := by
  have hi : i < cs.length := (List.getElem?_eq_some_iff.mp hc).1
  have lve : ∀ x, lv (cs.set i (some c')) as x ↔ lv cs as x := fun x => by
    constructor
    · rintro ⟨j, d, h1, h2⟩
      by_cases e : i = j
      · subst e; exact ⟨i, c, hc, h2⟩
      · rw [List.getElem?_set_ne e] at h1; exact ⟨j, d, h1, h2⟩
    · rintro ⟨j, d, h1, h2⟩
      by_cases e : i = j
      · subst e; exact ⟨i, c', by rw [List.getElem?_set_self hi], h2⟩
      · exact ⟨j, d, by rw [List.getElem?_set_ne e]; exact h1, h2⟩
  have me : b.M as (cs.set i (some c')) = b.M as cs := by
    funext x
    exact propext ⟨fun m => m.imp id (lve x).mp, fun m => m.imp id (lve x).mpr⟩
  have mi : b.M as cs a := .inr ⟨i, c, hc, ha⟩
  have ge : b.G as (cs.set i (some c')) (upd H a o) = b.G as cs H := by
    unfold Bs.G
    rw [me, fz_upd mi]
  have back : ∀ (j : Nat) d, (cs.set i (some c'))[j]? = some (some d) → ∃ d', cs[j]? = some (some d') := fun j d h => by
    by_cases e : i = j
    · subst e; exact ⟨c, hc⟩
    · rw [List.getElem?_set_ne e] at h; exact ⟨d, h⟩
  refine ⟨fun x u h n => ?_, fun x h => ?_, fun j x h => ?_, fun j j' d d' x h1 h2 h3 h4 => ?_, fun j d x h1 h2 => ?_, fun j d x h1 h2 => ?_, fun j d h => ?_, ?_, by rw [List.length_set]; exact k.al⟩
  · have hx := k.ext x u h n
    have ne : x ≠ a := fun e => by
      subst e
      rcases k.nw i c x hc ha with z | z
      · rw [h] at z; cases z
      · exact n z
    rw [upd_ne ne]; exact hx
  · obtain ⟨u, hu⟩ := k.m0 x h
    have ne : x ≠ a := fun e => k.nm i c a hc ha (e ▸ h)
    exact ⟨u, by rw [upd_ne ne]; exact hu⟩
  · obtain ⟨h1, d, h2⟩ := k.rl j x h
    refine ⟨h1, ?_⟩
    by_cases e : i = j
    · subst e; exact ⟨c', by rw [List.getElem?_set_self hi]⟩
    · exact ⟨d, by rw [List.getElem?_set_ne e]; exact h2⟩
  · obtain ⟨e1, h1'⟩ := back j d h1
    obtain ⟨e2, h2'⟩ := back j' d' h2
    exact k.nd j j' _ _ x h1' h2' h3 h4
  · obtain ⟨e1, h1'⟩ := back j d h1
    exact k.nw j _ x h1' h2
  · obtain ⟨e1, h1'⟩ := back j d h1
    exact k.nm j _ x h1' h2
  · rw [ge]
    by_cases e : i = j
    · subst e
      rw [List.getElem?_set_self hi] at h
      cases h
      exact ⟨a, ha, new⟩
    · rw [List.getElem?_set_ne e] at h
      obtain ⟨x, h1, h2⟩ := k.ce j d h
      have ne : x ≠ a := fun z => by
        subst z
        exact e (k.nd i j c d x hc h ha h1)
      exact ⟨x, h1, h2.mono (Same.refl _) (upd_ne ne)⟩
  · rw [ge]; exact k.fl
theorem Ok.write (k : Ok b as H σ ρ cs) {i : Nat} {c c' : Cell} {a : Addr} {o : HO} (hc : cs[i]? = some (some c)) (ha : as[i]? = some a) (new : CeR (b.G as cs H) (upd H a o) c' a) : Ok b as (upd H a o) σ ρ (cs.set i (some c')) := by
  have k' := k.h.write hc ha new
  have hi : i < cs.length := (List.getElem?_eq_some_iff.mp hc).1
  have ge : Same (b.G as cs H) (b.G as (cs.set i (some c')) (upd H a o)) := fun x u h => by
    have hm := fz_not h
    have ne : x ≠ a := fun z => hm (z ▸ .inr ⟨i, c, hc, ha⟩)
    unfold Bs.G
    rw [fz_out, upd_ne ne]
    · exact fz_le x u h
    · rintro (m | ⟨j, d, h1, h2⟩)
      · exact hm (.inl m)
      · by_cases e : i = j
        · subst e; exact hm (.inr ⟨i, c, hc, h2⟩)
        · rw [List.getElem?_set_ne e] at h1; exact hm (.inr ⟨j, d, h1, h2⟩)
  exact ⟨k', k.len, fun j s h => (k.sl j s h).imp id fun ⟨v, h1, h2⟩ => ⟨v, h1, h2.mono ge⟩⟩
/-- a new cell at a place that is free -/
theorem OkH.alloc (k : OkH b as H cs) (e : Same H H') {i : Nat} {c : Cell} {p : Addr} (hc : cs[i]? = some none) (hp : H p = none) (hp' : ∃ o, H' p = some o) (new : CeR (fz (fun a => b.M as cs a ∨ a = p) H') H' c p) :
    OkH b (as.set i p) H' (cs.set i (some c)) ∧ b.G (as.set i p) (cs.set i (some c)) H' = fz (fun a => b.M as cs a ∨ a = p) H' ∧ Same (b.G as cs H) (b.G (as.set i p) (cs.set i (some c)) H') := by
  have hi : i < cs.length := (List.getElem?_eq_some_iff.mp hc).1
  have hia : i < as.length := by rw [k.al]; exact hi
  have hpm := k.fresh hp
  have lve : ∀ x, lv (cs.set i (some c)) (as.set i p) x ↔ (lv cs as x ∨ x = p) := fun x => by
    constructor
    · rintro ⟨j, d, h1, h2⟩
      by_cases e : i = j
      · subst e
        rw [List.getElem?_set_self hia] at h2
        exact .inr (Option.some.inj h2).symm
      · rw [List.getElem?_set_ne e] at h1 h2; exact .inl ⟨j, d, h1, h2⟩
    · rintro (⟨j, d, h1, h2⟩ | rfl)
      · have e : i ≠ j := fun e => by subst e; rw [hc] at h1; cases h1
        exact ⟨j, d, by rw [List.getElem?_set_ne e]; exact h1, by rw [List.getElem?_set_ne e]; exact h2⟩
      · exact ⟨i, c, by rw [List.getElem?_set_self hi], by rw [List.getElem?_set_self hia]⟩
  have me : b.M (as.set i p) (cs.set i (some c)) = fun a => b.M as cs a ∨ a = p := by
    funext x
    refine propext ⟨fun m => ?_, fun m => ?_⟩
    · rcases m with m | m
      · exact .inl (.inl m)
      · rcases (lve x).mp m with m | m
        · exact .inl (.inr m)
        · exact .inr m
    · rcases m with (m | m) | m
      · exact .inl m
      · exact .inr ((lve x).mpr (.inl m))
      · exact .inr ((lve x).mpr (.inr m))
  have ge : b.G (as.set i p) (cs.set i (some c)) H' = fz (fun a => b.M as cs a ∨ a = p) H' := by
    unfold Bs.G
    rw [me]
  have gs : Same (b.G as cs H) (fz (fun a => b.M as cs a ∨ a = p) H') := fun x u h => by
    have hm := fz_not h
    have hx := fz_le x u h
    rw [fz_out]
    · exact e x u hx
    · rintro (m | rfl)
      · exact hm m
      · rw [hp] at hx; cases hx
  have back : ∀ (j : Nat) d, i ≠ j → (cs.set i (some c))[j]? = some (some d) → cs[j]? = some (some d) := fun j d e h => by
    rw [List.getElem?_set_ne e] at h; exact h
  have backa : ∀ (j : Nat) x, i ≠ j → (as.set i p)[j]? = some x → as[j]? = some x := fun j d e h => by
    rw [List.getElem?_set_ne e] at h; exact h
  have selfa : ∀ x, (as.set i p)[i]? = some x → x = p := fun x h => by
    rw [List.getElem?_set_self hia] at h; exact (Option.some.inj h).symm
  have nep : ∀ (j : Nat) d x, cs[j]? = some (some d) → as[j]? = some x → x ≠ p := fun j d x h1 h2 z => hpm (z ▸ .inr ⟨j, d, h1, h2⟩)
  have k' := k.mono e
  refine ⟨⟨k'.ext, k'.m0, fun j x h => ?_, fun j j' d d' x h1 h2 h3 h4 => ?_, fun j d x h1 h2 => ?_, fun j d x h1 h2 => ?_, fun j d h => ?_, ?_, by rw [List.length_set, List.length_set]; exact k.al⟩, ge, by rw [ge]; exact gs⟩
  · obtain ⟨h1, d, h2⟩ := k.rl j x h
    have e : i ≠ j := fun e => by subst e; rw [hc] at h2; cases h2
    exact ⟨by rw [List.getElem?_set_ne e]; exact h1, d, by rw [List.getElem?_set_ne e]; exact h2⟩
  · by_cases e : i = j
    · subst e
      by_cases e' : i = j'
      · exact e'
      · have := selfa x h3
        exact absurd this (nep j' d' x (back j' d' e' h2) (backa j' x e' h4))
    · by_cases e' : i = j'
      · subst e'
        have := selfa x h4
        exact absurd this (nep j d x (back j d e h1) (backa j x e h3))
      · exact k.nd j j' d d' x (back j d e h1) (back j' d' e' h2) (backa j x e h3) (backa j' x e' h4)
  · by_cases e : i = j
    · subst e
      rw [selfa x h2]; exact .inl (k.fresh0 hp)
    · exact k.nw j d x (back j d e h1) (backa j x e h2)
  · by_cases e : i = j
    · subst e
      rw [selfa x h2]; exact fun m => hpm (.inl m)
    · exact k.nm j d x (back j d e h1) (backa j x e h2)
  · rw [ge]
    by_cases q : i = j
    · subst q
      rw [List.getElem?_set_self hi] at h
      cases h
      exact ⟨p, by rw [List.getElem?_set_self hia], new⟩
    · have h' := back j d q h
      obtain ⟨x, h1, h2⟩ := k.ce j d h'
      obtain ⟨o, ho⟩ := h2.some
      exact ⟨x, by rw [List.getElem?_set_ne q]; exact h1, h2.mono gs ((e x o ho).trans ho.symm)⟩
  · rw [ge]; exact k.fl.trans gs
/-- a cell's content is frozen from now on -/
theorem OkH.freeze (k : OkH b as H cs) {i : Nat} (hr : b.R.length ≤ i) : OkH b as H (cs.set i none) ∧ Same (b.G as cs H) (b.G as (cs.set i none) H) := by
  have sub : ∀ (j : Nat) c, (cs.set i none)[j]? = some (some c) → cs[j]? = some (some c) ∧ i ≠ j := fun j c h => by
    by_cases e : i = j
    · subst e
      by_cases hi : i < cs.length
      · rw [List.getElem?_set_self hi] at h; cases h
      · rw [List.getElem?_eq_none (by rw [List.length_set]; omega)] at h; cases h
    · rw [List.getElem?_set_ne e] at h; exact ⟨h, e⟩
  have gs : Same (b.G as cs H) (b.G as (cs.set i none) H) := fz_anti fun x m => m.imp id fun ⟨j, c, h1, h2⟩ => ⟨j, c, (sub j c h1).1, h2⟩
  refine ⟨⟨k.ext, k.m0, fun j x h => ?_, fun j j' d d' x h1 h2 h3 h4 => k.nd j j' d d' x (sub j d h1).1 (sub j' d' h2).1 h3 h4, fun j d x h1 h2 => k.nw j d x (sub j d h1).1 h2, fun j d x h1 h2 => k.nm j d x (sub j d h1).1 h2, fun j d h => ?_, k.fl.trans gs, by rw [List.length_set]; exact k.al⟩, gs⟩
  · obtain ⟨h1, d, h2⟩ := k.rl j x h
    have hj : j < b.R.length := (List.getElem?_eq_some_iff.mp h).1
    exact ⟨h1, d, by rw [List.getElem?_set_ne (by omega)]; exact h2⟩
  · obtain ⟨x, h1, h2⟩ := k.ce j d (sub j d h).1
    exact ⟨x, h1, h2.mono gs rfl⟩
end
def noC (i : Nat) : List Sl → Bool
  | [] => true
  | .c k :: r => !(Nat.beq k i) && noC i r
  | _ :: r => noC i r
theorem noC_get {i : Nat} : ∀ {ρ : List Sl} {j : Nat} {k : Nat}, noC i ρ = true → ρ[j]? = some (.c k) → k ≠ i
  | [], _, _, _, e => by simp at e
  | s :: r, 0, k, h, e => by
    simp at e
    subst e
    intro z
    subst z
    have : Nat.beq k k = true := by simp
    simp [noC, this] at h
  | s :: r, j + 1, k, h, e => by
    have h' : noC i r = true := by
      cases s with
      | c q => simp only [noC, Bool.and_eq_true] at h; exact h.2
      | _ => exact h
    exact noC_get h' (by simpa using e)
section
variable {b : Bs} {as : List Addr} {H H' : Hp} {σ : L2.St} {ρ : List Sl} {cs : Cs}
theorem SlR.setA {G : Hp} {i : Nat} {p : Addr} : ∀ {s : Sl} {v : V}, (∀ k, s = .c k → k ≠ i) → SlR as G s v → SlR (as.set i p) G s v
  | .un, _, _, h => h
  | .d _, _, _, h => h
  | .c k, _, f, ⟨a, h1, h2⟩ => ⟨a, by rw [List.getElem?_set_ne (Ne.symm (f k rfl))]; exact h1, h2⟩
  | .ob _ _, _, _, h => h
  | .dd _, _, _, h => h
  | .w _, _, _, h => h
  | .fl _ _, _, _, h => h
theorem Ok.alloc (k : Ok b as H σ ρ cs) (e : Same H H') {i : Nat} {c : Cell} {p : Addr} (hc : cs[i]? = some none) (hp : H p = none) (hp' : ∃ o, H' p = some o) (new : CeR (fz (fun a => b.M as cs a ∨ a = p) H') H' c p) (hn : noC i ρ = true) :
    Ok b (as.set i p) H' σ ρ (cs.set i (some c)) ∧ Same (b.G as cs H) (b.G (as.set i p) (cs.set i (some c)) H') := by
  obtain ⟨h1, _, h2⟩ := k.h.alloc e hc hp hp' new
  refine ⟨⟨h1, k.len, fun j s h => ?_⟩, h2⟩
  rcases k.sl j s h with h' | ⟨v, h3, h4⟩
  · exact .inl h'
  · exact .inr ⟨v, h3, (h4.mono h2).setA fun q z => by subst z; exact noC_get hn h⟩
theorem Ok.freeze (k : Ok b as H σ ρ cs) {i : Nat} (hr : b.R.length ≤ i) : Ok b as H σ ρ (cs.set i none) ∧ Same (b.G as cs H) (b.G as (cs.set i none) H) := by
  obtain ⟨h1, h2⟩ := k.h.freeze hr
  exact ⟨⟨h1, k.len, fun j s h => (k.sl j s h).imp id fun ⟨v, a, c⟩ => ⟨v, a, c.mono h2⟩⟩, h2⟩
/-- a slot is stored -/
theorem Ok.store (k : Ok b as H σ ρ cs) {i : Nat} {s : Sl} {v : V} (h : SlR as (b.G as cs H) s v) : Ok b as H (σ.set i (some v)) (ρ.set i s) cs := by
  refine ⟨k.h, by rw [List.length_set, List.length_set]; exact k.len, fun j t h' => ?_⟩
  by_cases e : i = j
  · subst e
    have hi : i < ρ.length := by
      have := (List.getElem?_eq_some_iff.mp h').1
      rwa [List.length_set] at this
    rw [List.getElem?_set_self hi] at h'
    cases h'
    exact .inr ⟨v, by rw [List.getElem?_set_self (by rw [k.len]; exact hi)], h⟩
  · rw [List.getElem?_set_ne e] at h' ⊢
    exact k.sl j t h'
/-- slots are forgotten -/
theorem Ok.weak (k : Ok b as H σ ρ cs) {ρ' : List Sl} (hl : ρ'.length = ρ.length) (w : ∀ (i : Nat) s, ρ'[i]? = some s → s = .un ∨ ρ[i]? = some s) : Ok b as H σ ρ' cs :=
  ⟨k.h, k.len.trans hl.symm, fun i s h => (w i s h).elim .inl fun h => k.sl i s h⟩
end
end Z
end
section
/-! Z1: what expressions evaluate to, over slots and cells. -/
namespace Z
open PySem PySem.Spec PyProof.Rows L2
/-! ### shapes of data -/
def Shp (n : Nat) (d : PyData) : Prop := d.canLay0 = true ∧ d.depth ≤ n
theorem canAll : ∀ {ds : List PyData}, (∀ d ∈ ds, d.canLay0 = true) → PyData.canLayAll0 ds = true
  | [], _ => by simp [PyData.canLayAll0]
  | d :: ds, h => by
    simp only [PyData.canLayAll0, Bool.and_eq_true]
    exact ⟨h d List.mem_cons_self, canAll fun x hx => h x (List.mem_cons_of_mem _ hx)⟩
theorem depAll {n : Nat} : ∀ {ds : List PyData}, (∀ d ∈ ds, d.depth ≤ n) → PyData.depthAll ds ≤ n
  | [], _ => by simp [PyData.depthAll]
  | d :: ds, h => by
    simp only [PyData.depthAll]
    have h1 := h d List.mem_cons_self
    have h2 := depAll (ds := ds) fun x hx => h x (List.mem_cons_of_mem _ hx)
    omega
theorem shp_int (i : Int) : Shp 0 (.int i) := ⟨by simp [PyData.canLay0], by simp [PyData.depth]⟩
theorem shp_bool (i : Bool) : Shp 0 (.bool i) := ⟨by simp [PyData.canLay0], by simp [PyData.depth]⟩
theorem shp_none : Shp 0 .none := ⟨by simp [PyData.canLay0], by simp [PyData.depth]⟩
theorem Shp.le {m n : Nat} {d : PyData} (h : Shp m d) (e : m ≤ n) : Shp n d := ⟨h.1, Nat.le_trans h.2 e⟩
theorem shp_tup {n : Nat} {ds : List PyData} (h : ∀ d ∈ ds, Shp n d) : Shp (n + 1) (.tuple ds) :=
  ⟨by simp only [PyData.canLay0]; exact canAll fun d hd => (h d hd).1, by simp only [PyData.depth]; have := depAll fun d hd => (h d hd).2; omega⟩
theorem shp_lst {n : Nat} {ds : List PyData} (h : ∀ d ∈ ds, Shp n d) : Shp (n + 1) (.list ds) :=
  ⟨by simp only [PyData.canLay0]; exact canAll fun d hd => (h d hd).1, by simp only [PyData.depth]; have := depAll fun d hd => (h d hd).2; omega⟩
theorem Shp.ok {n : Nat} {d : PyData} (h : Shp n d) (e : n ≤ 60) : SeqAt.shaped d = true := by
  show (d.canLay0 && decide (d.depth ≤ 64)) = true
  rw [Bool.and_eq_true]
  exact ⟨h.1, decide_eq_true (Nat.le_trans h.2 (by omega))⟩
/-! ### judgements -/
def EvA (te : TE) (ρ : List Sl) (cs : Cs) (s : Sl) : Prop := ∀ (b : Bs) (as : List Addr) (H : Hp) (σ : L2.St), Ok b as H σ ρ cs → ∀ Q : VK, (∀ v H', Same H H' → SlR as (b.G as cs H') s v → Q v H') → te σ H Q
/-- a new list of data -/
def EvN (te : TE) (ρ : List Sl) (cs : Cs) (ds : List PyData) : Prop := ∀ (b : Bs) (as : List Addr) (H : Hp) (σ : L2.St), Ok b as H σ ρ cs → ∀ Q : VK,
  (∀ p xs H', Same H H' → H p = none → H' p = some (.lst xs) → DqA (fz (fun a => b.M as cs a ∨ a = p) H') xs ds → Q (.ref p) H') → te σ H Q
/-- a new dict -/
def EvM (te : TE) (ρ : List Sl) (cs : Cs) (f : Int → Option PyData) (n : Nat) : Prop := ∀ (b : Bs) (as : List Addr) (H : Hp) (σ : L2.St), Ok b as H σ ρ cs → ∀ Q : VK,
  (∀ p ks H', Same H H' → H p = none → H' p = some (.dK ks) → DiR (fz (fun a => b.M as cs a ∨ a = p) H') f n ks → Q (.ref p) H') → te σ H Q
def EvT (tt : TT) (ρ : List Sl) (cs : Cs) (r : Bool) : Prop := ∀ (b : Bs) (as : List Addr) (H : Hp) (σ : L2.St), Ok b as H σ ρ cs → ∀ Q : Bool → Hp → Prop, (∀ H', Same H H' → Q r H') → tt σ H Q
def EvAs (ta : TA) (ρ : List Sl) (cs : Cs) (ss : List Sl) : Prop := ∀ (b : Bs) (as : List Addr) (H : Hp) (σ : L2.St), Ok b as H σ ρ cs → ∀ Q : List V → Hp → Prop, (∀ vs H', Same H H' → Paired (SlR as (b.G as cs H')) ss vs → Q vs H') → ta σ H Q
def EvDs (ta : TA) (ρ : List Sl) (cs : Cs) (ds : List PyData) : Prop := ∀ (b : Bs) (as : List Addr) (H : Hp) (σ : L2.St), Ok b as H σ ρ cs → ∀ Q : List V → Hp → Prop, (∀ vs H', Same H H' → DqA (b.G as cs H') vs ds → Q vs H') → ta σ H Q
/-- a two-place operation on values -/
def RvA (r : R2) (cs : Cs) (x y z : Sl) : Prop := ∀ (b : Bs) (as : List Addr) (H : Hp), OkH b as H cs → ∀ v w, SlR as (b.G as cs H) x v → SlR as (b.G as cs H) y w → ∀ Q : VK, (∀ u H', Same H H' → SlR as (b.G as cs H') z u → Q u H') → r v w H Q
def RuA (r : V → Hp → VK → Prop) (cs : Cs) (x z : Sl) : Prop := ∀ (b : Bs) (as : List Addr) (H : Hp), OkH b as H cs → ∀ v, SlR as (b.G as cs H) x v → ∀ Q : VK, (∀ u H', Same H H' → SlR as (b.G as cs H') z u → Q u H') → r v H Q
/-- a list or tuple of data, at hand or in a cell -/
inductive Lq (cs : Cs) : Sl → List PyData → Prop
  | l {ds : List PyData} : Lq cs (.d (.list ds)) ds
  | t {ds : List PyData} : Lq cs (.d (.tuple ds)) ds
  | c {k : Nat} {ds : List PyData} : cs[k]? = some (some (.ls ds)) → Lq cs (.c k) ds
inductive Ll (cs : Cs) : Sl → List PyData → Prop
  | l {ds : List PyData} : Ll cs (.d (.list ds)) ds
  | c {k : Nat} {ds : List PyData} : cs[k]? = some (some (.ls ds)) → Ll cs (.c k) ds
inductive Dv (cs : Cs) : Sl → PyData → Prop
  | d {x : PyData} : Dv cs (.d x) x
  | c {k : Nat} {ds : List PyData} : cs[k]? = some (some (.ls ds)) → Dv cs (.c k) (.list ds)
section
variable {b : Bs} {as : List Addr} {H H' : Hp} {σ : L2.St} {ρ : List Sl} {cs : Cs} {s : Sl} {v : V} {ds : List PyData}
theorem OkH.gle (k : OkH b as H cs) : Same (b.G as cs H) H := fz_le
theorem OkH.cell (k : OkH b as H cs) {i : Nat} {c : Cell} {v : V} (hc : cs[i]? = some (some c)) (r : SlR as (b.G as cs H) (.c i) v) : ∃ a, as[i]? = some a ∧ v = .ref a ∧ CeR (b.G as cs H) H c a := by
  obtain ⟨a, h1, h2⟩ := r
  obtain ⟨a', h3, h4⟩ := k.ce i c hc
  rw [h1] at h3; cases h3
  exact ⟨a, h1, h2, h4⟩
theorem Ll.get (k : OkH b as H cs) (l : Ll cs s ds) (r : SlR as (b.G as cs H) s v) : ∃ a xs, v = .ref a ∧ H a = some (.lst xs) ∧ DqA (b.G as cs H) xs ds := by
  cases l with
  | l =>
    cases r with
    | lst h1 h2 => exact ⟨_, _, rfl, k.gle _ _ h1, h2⟩
  | c hc =>
    obtain ⟨a, h1, h2, xs, h3, h4⟩ := k.cell hc r
    exact ⟨a, xs, h2, h3, h4⟩
theorem Lq.get (K : PySem.W.Frag) (k : OkH b as H cs) (l : Lq cs s ds) (r : SlR as (b.G as cs H) s v) : ∃ a xs, v = .ref a ∧ (SqL K H a xs ∨ SqT K H a xs) ∧ DqA (b.G as cs H) xs ds := by
  cases l with
  | l =>
    cases r with
    | lst h1 h2 => exact ⟨_, _, rfl, .inl (SqL.of (k.gle _ _ h1)), h2⟩
  | t =>
    cases r with
    | tup h1 h2 => exact ⟨_, _, rfl, .inr (SqT.of (k.gle _ _ h1)), h2⟩
  | c hc =>
    obtain ⟨a, h1, h2, xs, h3, h4⟩ := k.cell hc r
    exact ⟨a, xs, h2, .inl (SqL.of h3), h4⟩
theorem Dv.get (K : PySem.W.Frag) (k : OkH b as H cs) {x : PyData} (l : Dv cs s x) (r : SlR as (b.G as cs H) s v) : Dp K H v x := by
  cases l with
  | d => exact Dq.dp K k.gle r
  | c hc =>
    obtain ⟨a, h1, h2, xs, h3, h4⟩ := k.cell hc r
    subst h2
    exact .lst (SqL.of h3) (h4.dp K k.gle)
end
/-! ### leaves -/
def Sl.nu : Sl → Bool
  | .un => false
  | _ => true
section
variable {ρ : List Sl} {cs : Cs} {ta tb te tc : TE} {x y z s : Sl} {r r' : R2}
theorem ev_var {i : Nat} (h : ρ[i]? = some s) (hn : s.nu = true) : EvA (tVar i) ρ cs s := fun b as H σ k Q q => by
  rcases k.sl i s h with e | ⟨v, h1, h2⟩
  · subst e; cases hn
  · exact ⟨v, h1, q v H (Same.refl _) h2⟩
theorem ev_int {i : Int} : EvA (tC (.int i)) ρ cs (.d (.int i)) := fun b as H σ k Q q => q _ H (Same.refl _) (.int i)
theorem ev_bl {i : Bool} : EvA (tC (.bl i)) ρ cs (.d (.bool i)) := fun b as H σ k Q q => q _ H (Same.refl _) (.bl i)
theorem ev_non : EvA (tC .non) ρ cs (.d .none) := fun b as H σ k Q q => q _ H (Same.refl _) .non
theorem ev_str {i : Str} : EvA (tC (.str i)) ρ cs (.d (.str i)) := fun b as H σ k Q q => q _ H (Same.refl _) (.str i)
theorem ev_w {v : V} : EvA (tC v) ρ cs (.w v) := fun b as H σ k Q q => q _ H (Same.refl _) rfl
theorem ev_op (ha : EvA ta ρ cs x) (hb : EvA tb ρ cs y) (hr : RvA r cs x y z) : EvA (tOp r ta tb) ρ cs z := fun b as H σ k Q q =>
  ha b as H σ k _ fun v H1 e1 r1 => hb b as H1 σ (k.mono e1) _ fun w H2 e2 r2 => hr b as H2 ((k.mono e1).mono e2).h v w (r1.mono (fz_mono e2)) r2 Q fun u H3 e3 r3 => q u H3 ((e1.trans e2).trans e3) r3
theorem ev_un {r : V → Hp → VK → Prop} (ha : EvA ta ρ cs x) (hr : RuA r cs x z) : EvA (tUn r ta) ρ cs z := fun b as H σ k Q q =>
  ha b as H σ k _ fun v H1 e1 r1 => hr b as H1 (k.mono e1).h v r1 Q fun u H3 e3 r3 => q u H3 (e1.trans e3) r3
theorem rv_or1 (h : RvA r cs x y z) : RvA (fun v w H Q => r v w H Q ∨ r' v w H Q) cs x y z := fun b as H k v w r1 r2 Q q => .inl (h b as H k v w r1 r2 Q q)
theorem rv_or2 (h : RvA r' cs x y z) : RvA (fun v w H Q => r v w H Q ∨ r' v w H Q) cs x y z := fun b as H k v w r1 r2 Q q => .inr (h b as H k v w r1 r2 Q q)
theorem rv_i0 {g : Int → Int → Int} {i j : Int} : RvA (rI0 fun i j => .int (g i j)) cs (.d (.int i)) (.d (.int j)) (.d (.int (g i j))) := fun b as H k v w r1 r2 Q q => by
  cases r1; cases r2
  exact ⟨i, j, rfl, rfl, q _ H (Same.refl _) (.int _)⟩
theorem rv_b0 {g : Int → Int → Bool} {i j : Int} : RvA (rI0 fun i j => .bl (g i j)) cs (.d (.int i)) (.d (.int j)) (.d (.bool (g i j))) := fun b as H k v w r1 r2 Q q => by
  cases r1; cases r2
  exact ⟨i, j, rfl, rfl, q _ H (Same.refl _) (.bl _)⟩
theorem rv_i {C : Int → Int → Prop} {g : Int → Int → Int} {i j : Int} (h : C i j) : RvA (rI C fun i j => .int (g i j)) cs (.d (.int i)) (.d (.int j)) (.d (.int (g i j))) := fun b as H k v w r1 r2 Q q => by
  cases r1; cases r2
  exact ⟨i, j, rfl, rfl, h, q _ H (Same.refl _) (.int _)⟩
theorem ru_neg {i : Int} : RuA (rU fun i => .int (-i)) cs (.d (.int i)) (.d (.int (-i))) := fun b as H k v r1 Q q => by
  cases r1
  exact ⟨i, rfl, q _ H (Same.refl _) (.int _)⟩
/-- tuples, lists joined -/
theorem rv_catT {K : PySem.W.Frag} {ds es : List PyData} (hl : ds.length + es.length ≤ 1000) : RvA (rCatA K) cs (.d (.tuple ds)) (.d (.tuple es)) (.d (.tuple (ds ++ es))) := fun b as H k v w r1 r2 Q q => by
  cases r1 with
  | @tup a xs _ h1 h2 =>
    cases r2 with
    | @tup a' ys _ h3 h4 =>
      refine ⟨a, a', xs, ys, rfl, rfl, SqT.of (k.gle _ _ h1), SqT.of (k.gle _ _ h3), ?_, fun e => ?_, fun _ e => ?_, fun _ _ p hp => ?_⟩
      · rw [h2.length, h4.length]; exact Nat.le_trans hl (by decide)
      · subst e
        have : ds = [] := List.eq_nil_of_length_eq_zero (by rw [← h2.length]; rfl)
        subst this
        exact q _ H (Same.refl _) (.tup h3 h4)
      · subst e
        have : es = [] := List.eq_nil_of_length_eq_zero (by rw [← h4.length]; rfl)
        subst this
        rw [List.append_nil] at q
        exact q _ H (Same.refl _) (.tup h1 h2)
      · have s := same_upd (o := .tup (xs ++ ys)) hp
        exact q _ _ s (.tup (k.laid hp) ((h2.append h4).mono (fz_mono s)))
theorem rv_catL {ds es : List PyData} {x y : Sl} (hx : Ll cs x ds) (hy : Ll cs y es) (hl : ds.length + es.length ≤ 1000) : RvA rCat cs x y (.d (.list (ds ++ es))) := fun b as H k v w r1 r2 Q q => by
  obtain ⟨a, xs, rfl, h1, h2⟩ := hx.get k r1
  obtain ⟨a', ys, rfl, h3, h4⟩ := hy.get k r2
  refine ⟨a, a', xs, ys, rfl, rfl, h1, h3, ?_, fun p hp => ?_⟩
  · rw [h2.length, h4.length]; exact Nat.le_trans hl (by decide)
  · have s := same_upd (o := .lst (xs ++ ys)) hp
    exact q _ _ s (.lst (k.laid hp) ((h2.append h4).mono (fz_mono s)))
/-- == and != -/
theorem rv_eq {K : PySem.W.Frag} {d e : PyData} (hx : Dv cs x d) (hy : Dv cs y e) (s1 : SeqAt.shaped d = true) (s2 : SeqAt.shaped e = true) : RvA (rEqD K) cs x y (.d (.bool (PyData.eqv d e))) := fun b as H k v w r1 r2 Q q =>
  ⟨d, e, hx.get K k r1, hy.get K k r2, s1, s2, q _ H (Same.refl _) (.bl _)⟩
theorem rv_ne {K : PySem.W.Frag} {d e : PyData} (hx : Dv cs x d) (hy : Dv cs y e) (s1 : SeqAt.shaped d = true) (s2 : SeqAt.shaped e = true) : RvA (rNeD K) cs x y (.d (.bool (!PyData.eqv d e))) := fun b as H k v w r1 r2 Q q =>
  ⟨d, e, hx.get K k r1, hy.get K k r2, s1, s2, q _ H (Same.refl _) (.bl _)⟩
theorem rv_eqI {K : PySem.W.Frag} {i j : Int} : RvA (rEqD K) cs (.d (.int i)) (.d (.int j)) (.d (.bool (i == j))) := rv_eq (d := .int i) (e := .int j) .d .d ((shp_int i).ok (by omega)) ((shp_int j).ok (by omega))
theorem rv_neI {K : PySem.W.Frag} {i j : Int} : RvA (rNeD K) cs (.d (.int i)) (.d (.int j)) (.d (.bool (!(i == j)))) := rv_ne (d := .int i) (e := .int j) .d .d ((shp_int i).ok (by omega)) ((shp_int j).ok (by omega))
end
/-- x in a list or tuple of data -/
def rInX (K : PySem.W.Frag) (neg : Bool) : R2 := fun x y H Q => ∃ d ds, Dp K H x d ∧ (Dp K H y (.list ds) ∨ Dp K H y (.tuple ds)) ∧ SeqAt.shaped d = true ∧ SeqAt.shaped (.list ds) = true ∧ Q (.bl (if neg then !(ds.any fun z => PyData.eqv z d) else ds.any fun z => PyData.eqv z d)) H
section
variable {X : Cx}
theorem opx_in (hu : X.A.units + 65 < cLine) : OpR X (compareOp .In) (rInX X.K false) := fun pp st sg hp x y v u Q iv rx ry ⟨d, ds, hd, ys, sd, sy, fin⟩ => by
  obtain ⟨_, a1⟩ := Dp.reads iv d x v hd rx
  rcases ys with l | l
  · obtain ⟨_, a2⟩ := Dp.reads iv (.list ds) y u l ry
    exact SeqAt.in_list_reads a2 a1 (SeqAt.canLay_of_shaped sy) (SeqAt.canLay_of_shaped sd) (room_in_shaped sd hu) ⟨.bl _, hp, iv, rfl, fin⟩
  · obtain ⟨_, a2⟩ := Dp.reads iv (.tuple ds) y u l ry
    exact SeqAt.in_tuple_reads a2 a1 (SeqAt.canLay_of_shaped sy) (SeqAt.canLay_of_shaped sd) (room_in_shaped sd hu) ⟨.bl _, hp, iv, rfl, fin⟩
end
end Z
end
section
/-! Z2: indexes, slices, displays, built-ins, tests, attributes, dicts, calls. -/
namespace Z
open PySem PySem.Spec PyProof.Rows L2
theorem atI_inv {α : Type} {xs : List α} {i : Int} {v : α} (h : atI xs i = some v) : ∃ j, ixN xs.length i = some j ∧ xs[j]? = some v := by
  unfold atI at h
  cases e : ixN xs.length i with
  | none => rw [e] at h; cases h
  | some j => rw [e] at h; exact ⟨j, rfl, h⟩
theorem atI_mk {α : Type} {xs : List α} {i : Int} {j : Nat} {v : α} (e : ixN xs.length i = some j) (h : xs[j]? = some v) : atI xs i = some v := by
  unfold atI
  rw [e]
  exact h
theorem DqA.at {G : Hp} {vs : List V} {ds : List PyData} {i : Int} {d : PyData} (h : DqA G vs ds) (e : atI ds i = some d) : ∃ v, atI vs i = some v ∧ Dq G v d := by
  obtain ⟨j, h1, h2⟩ := atI_inv e
  obtain ⟨v, h3, h4⟩ := h.get h2
  exact ⟨v, atI_mk (by rw [h.length]; exact h1) h3, h4⟩
theorem ixN_nat {n j : Nat} (h : j < n) : ixN n (j : Int) = some j := by
  unfold ixN
  rw [if_pos (by omega), if_pos (by omega), Int.toNat_natCast]
theorem atI_map {α β : Type} {f : α → β} {xs : List α} {j : Nat} {x : α} (h : xs[j]? = some x) : atI (xs.map f) (j : Int) = some (f x) := atI_nat (by rw [List.getElem?_map, h]; rfl)
section
variable {ρ : List Sl} {cs : Cs} {ta tb te tc : TE} {x y z s : Sl} {r r' : R2} {K : PySem.W.Frag}
theorem rv_ix {ds : List PyData} {i : Int} {d : PyData} (l : Lq cs s ds) (h : atI ds i = some d) : RvA (rIx K) cs s (.d (.int i)) (.d d) := fun b as H k v w r1 r2 Q q => by
  obtain ⟨a, xs, rfl, h1, h2⟩ := l.get K k r1
  cases r2
  obtain ⟨u, h3, h4⟩ := h2.at h
  rcases h1 with h1 | h1
  · exact .inl ⟨a, xs, i, u, rfl, rfl, h1, h3, q u H (Same.refl _) h4⟩
  · exact .inr (.inl ⟨a, xs, i, u, rfl, rfl, h1, h3, q u H (Same.refl _) h4⟩)
theorem rv_ixn {ds : List PyData} {j : Nat} {d : PyData} (l : Lq cs s ds) (h : ds[j]? = some d) : RvA (rIx K) cs s (.d (.int (j : Int))) (.d d) := rv_ix l (atI_nat h)
theorem rv_in {d : PyData} {ds : List PyData} {n : Nat} (hx : Dv cs x d) (hy : Lq cs y ds) (s1 : Shp n d) (s2 : ∀ e ∈ ds, Shp n e) (hn : n ≤ 50) : RvA (rInX K false) cs x y (.d (.bool (ds.any fun z => PyData.eqv z d))) := fun b as H k v w r1 r2 Q q => by
  obtain ⟨a, xs, rfl, h1, h2⟩ := hy.get K k r2
  refine ⟨d, ds, hx.get K k r1, ?_, s1.ok (by omega), (shp_lst s2).ok (by omega), q _ H (Same.refl _) (.bl _)⟩
  rcases h1 with h1 | h1
  · exact .inl (.lst h1 (h2.dp K k.gle))
  · exact .inr (.tup h1 (h2.dp K k.gle))
theorem rv_nin {d : PyData} {ds : List PyData} {n : Nat} (hx : Dv cs x d) (hy : Lq cs y ds) (s1 : Shp n d) (s2 : ∀ e ∈ ds, Shp n e) (hn : n ≤ 50) : RvA (rInX K true) cs x y (.d (.bool (!ds.any fun z => PyData.eqv z d))) := fun b as H k v w r1 r2 Q q => by
  obtain ⟨a, xs, rfl, h1, h2⟩ := hy.get K k r2
  refine ⟨d, ds, hx.get K k r1, ?_, s1.ok (by omega), (shp_lst s2).ok (by omega), q _ H (Same.refl _) (.bl _)⟩
  rcases h1 with h1 | h1
  · exact .inl (.lst h1 (h2.dp K k.gle))
  · exact .inr (.tup h1 (h2.dp K k.gle))
/-! ### lists of ints: places -/
theorem eqv_ints (ns : List Int) (i : Int) : ((ns.map PyData.int).any fun z => PyData.eqv z (.int i)) = decide (i ∈ ns) := by
  induction ns with
  | nil => rfl
  | cons n ns ih =>
    rw [List.map_cons, List.any_cons, ih]
    have e : PyData.eqv (.int n) (.int i) = decide (n = i) := by
      rw [← Bool.beq_eq_decide_eq]; simp only [PyData.eqv]
    rw [e]
    by_cases h : n = i
    · subst h; simp
    · simp [h, Ne.symm h]
theorem shp_ints (ns : List Int) : ∀ e ∈ ns.map PyData.int, Shp 0 e := fun e he => by
  obtain ⟨n, _, rfl⟩ := List.mem_map.mp he
  exact shp_int n
theorem DqA.rep {G : Hp} {xs : List V} {ds : List PyData} (h : DqA G xs ds) : ∀ n, DqA G (List.replicate n xs).flatten (List.replicate n ds).flatten
  | 0 => .nil
  | n + 1 => by
    rw [List.replicate_succ, List.replicate_succ, List.flatten_cons, List.flatten_cons]
    exact h.append (DqA.rep h n)
theorem DqA.intsF {G : Hp} (f : Nat → Int) : ∀ l : List Nat, DqA G (l.map fun n => V.int (f n)) (l.map fun n => PyData.int (f n))
  | [] => .nil
  | n :: l => .cons (.int _) (DqA.intsF f l)
/-! ### displays -/
theorem ed_nil : EvDs tNil ρ cs [] := fun b as H σ k Q q => q [] H (Same.refl _) .nil
theorem ed_cons {t : TA} {d : PyData} {ds : List PyData} (h : EvA ta ρ cs (.d d)) (ht : EvDs t ρ cs ds) : EvDs (tCons ta t) ρ cs (d :: ds) := fun b as H σ k Q q =>
  h b as H σ k _ fun v H1 e1 r1 => ht b as H1 σ (k.mono e1) _ fun vs H2 e2 r2 => q (v :: vs) H2 (e1.trans e2) (.cons (Dq.mono (fz_mono e2) r1) r2)
theorem ea_nil : EvAs tNil ρ cs [] := fun b as H σ k Q q => q [] H (Same.refl _) .nil
theorem ea_cons {t : TA} {ss : List Sl} (h : EvA ta ρ cs s) (ht : EvAs t ρ cs ss) : EvAs (tCons ta t) ρ cs (s :: ss) := fun b as H σ k Q q =>
  h b as H σ k _ fun v H1 e1 r1 => ht b as H1 σ (k.mono e1) _ fun vs H2 e2 r2 => q (v :: vs) H2 (e1.trans e2) (.cons (r1.mono (fz_mono e2)) r2)
theorem ev_tup {t : TA} {ds : List PyData} (h : EvDs t ρ cs ds) (hl : ds.length ≤ 1000) : EvA (tTup t) ρ cs (.d (.tuple ds)) := fun b as H σ k Q q =>
  h b as H σ k _ fun vs H1 e1 r1 => ⟨by rw [r1.length]; exact Nat.le_trans hl (by decide), fun p hp => by
    have s := same_upd (o := .tup vs) hp
    exact q _ _ (e1.trans s) (.tup ((k.mono e1).h.laid hp) (r1.mono (fz_mono s)))⟩
theorem en_lst {t : TA} {ds : List PyData} (h : EvDs t ρ cs ds) (hl : ds.length ≤ 1000) : EvN (tLst t) ρ cs ds := fun b as H σ k Q q =>
  h b as H σ k _ fun vs H1 e1 r1 => ⟨by rw [r1.length]; exact Nat.le_trans hl (by decide), fun p hp => by
    have s := same_upd (o := .lst vs) hp
    have hp0 : H p = none := e1.free hp
    refine q p vs _ (e1.trans s) hp0 upd_same (r1.mono fun x u hx => ?_)
    have hm := fz_not hx
    have hx' := fz_le x u hx
    rw [fz_out]
    · exact s x u hx'
    · rintro (m | rfl)
      · exact hm m
      · rw [hp] at hx'; cases hx'⟩
theorem ea_en {ds : List PyData} (h : EvN te ρ cs ds) : EvA te ρ cs (.d (.list ds)) := fun b as H σ k Q q =>
  h b as H σ k Q fun p xs H1 e1 hp hx r1 => q _ H1 e1 (.lst (by unfold Bs.G; rw [fz_out (k.h.fresh hp)]; exact hx) (r1.mono (fz_anti fun a m => .inl m)))
/-- [x] * n -/
theorem en_rep {t : TE} {ds : List PyData} {i : Int} (ha : EvN ta ρ cs ds) (hb : EvA tb ρ cs (.d (.int i))) (h0 : i ≤ 1000) (hneg : 0 ≤ i) (hl : ds.length ≤ 1) : EvN (tOp rRep ta tb) ρ cs (List.replicate i.toNat ds).flatten := fun b as H σ k Q q =>
  ha b as H σ k _ fun p xs H1 e1 hp hx r1 => hb b as H1 σ (k.mono e1) _ fun w H2 e2 r2 => by
    cases r2
    · refine ⟨p, i, xs, rfl, rfl, e2 _ _ hx, by omega, by omega, ?_, fun p' hp' => ?_⟩
      · have hl' : xs.length ≤ 1 := by rw [r1.length]; exact hl
        have h1 : xs.length * i.toNat ≤ 1 * 1000 := Nat.mul_le_mul hl' (by omega)
        exact Nat.le_trans h1 (by decide)
      · have s := same_upd (o := .lst (List.replicate i.toNat xs).flatten) hp'
        have e12 := e1.trans e2
        refine q p' _ _ (e12.trans s) (e12.free hp') upd_same ?_
        have hne : p ≠ p' := ne_of_none (e2 _ _ hx) hp'
        have r3 : DqA (fz (fun a => b.M as cs a ∨ a = p') (upd H2 p' (.lst (List.replicate i.toNat xs).flatten))) xs ds := r1.mono fun x u hx => by
          have hm := fz_not hx
          have hx' := fz_le x u hx
          rw [fz_out]
          · exact s x u (e2 x u hx')
          · rintro (m | rfl)
            · exact hm (.inl m)
            · have := e2 _ _ hx'
              rw [hp'] at this; cases this
        exact r3.rep _
/-! ### slices -/
def cutD {α : Type} (xs : List α) (lo hi : Option Int) : List α := (xs.drop (HT.sIx xs.length 0 lo)).take (HT.sIx xs.length xs.length hi - HT.sIx xs.length 0 lo)
theorem DqA.cut {G : Hp} {vs : List V} {ds : List PyData} (h : DqA G vs ds) (lo hi : Option Int) : DqA G (cutV vs lo hi) (cutD ds lo hi) := by
  unfold cutV cutD
  rw [h.length]
  exact (h.drop _).take _
theorem cutD_to {α : Type} (xs : List α) (k : Nat) : cutD xs none (some (k : Int)) = xs.take k := by
  unfold cutD
  rw [HT.sIx_none, HT.sIx_nat, List.drop_zero, Nat.sub_zero]
  by_cases h : k ≤ xs.length
  · rw [Nat.min_eq_left h]
  · rw [Nat.min_eq_right (by omega), List.take_of_length_le (Nat.le_refl _), List.take_of_length_le (by omega)]
theorem cutD_from {α : Type} (xs : List α) (k : Nat) : cutD xs (some (k : Int)) none = xs.drop k := by
  unfold cutD
  rw [HT.sIx_none, HT.sIx_nat]
  by_cases h : k ≤ xs.length
  · rw [Nat.min_eq_left h]
    exact List.take_of_length_le (by rw [List.length_drop]; exact Nat.le_refl _)
  · rw [Nat.min_eq_right (by omega), List.drop_eq_nil_of_le (Nat.le_refl _), List.drop_eq_nil_of_le (by omega), List.take_nil]
abbrev rSlX (K : PySem.W.Frag) : V → Option Int → Option Int → Hp → VK → Prop := fun x lo hi H Q => rSlL K x lo hi H Q ∨ rSlA K x lo hi H Q
def EvO (to : TO) (ρ : List Sl) (cs : Cs) (o : Option Int) : Prop := ∀ (b : Bs) (as : List Addr) (H : Hp) (σ : L2.St), Ok b as H σ ρ cs → ∀ Q : Option Int → Hp → Prop, (∀ H', Same H H' → Q o H') → to σ H Q
theorem eo_none : EvO tNoPart ρ cs none := fun b as H σ k Q q => q H (Same.refl _)
theorem eo_some {i : Int} (h : EvA te ρ cs (.d (.int i))) : EvO (tPart te) ρ cs (some i) := fun b as H σ k Q q =>
  h b as H σ k _ fun v H1 e1 r1 => by cases r1; exact ⟨i, rfl, q H1 e1⟩
theorem ev_slT {tl th : TO} {ds : List PyData} {lo hi : Option Int} (h : EvA te ρ cs (.d (.tuple ds))) (hl : EvO tl ρ cs lo) (hh : EvO th ρ cs hi) : EvA (tSl (rSlX K) te tl th) ρ cs (.d (.tuple (cutD ds lo hi))) := fun b as H σ k Q q =>
  h b as H σ k _ fun v H1 e1 r1 => hl b as H1 σ (k.mono e1) _ fun H2 e2 => hh b as H2 σ ((k.mono e1).mono e2) _ fun H3 e3 => by
    have r3 := Dq.mono (fz_mono e3) (Dq.mono (fz_mono e2) r1)
    have k3 := ((k.mono e1).mono e2).mono e3
    have e := (e1.trans e2).trans e3
    cases r3 with
    | @tup a xs _ h1 h2 =>
      refine .inr ⟨a, xs, rfl, SqT.of (k3.h.gle _ _ h1), fun hw => ?_, fun _ p hp => ?_⟩
      · have : cutD ds lo hi = ds := by
          unfold cutD
          rw [← h2.length, hw.1, hw.2, List.drop_zero, Nat.sub_zero, List.take_of_length_le (by rw [h2.length]; exact Nat.le_refl _)]
        rw [this] at q
        exact q _ H3 e (.tup h1 h2)
      · have s := same_upd (o := .tup (cutV xs lo hi)) hp
        exact q _ _ (e.trans s) (.tup (k3.h.laid hp) ((h2.cut lo hi).mono (fz_mono s)))
theorem ev_to {tl th : TO} {ds : List PyData} {n : Nat} (h : EvA te ρ cs (.d (.tuple ds))) (hl : EvO tl ρ cs none) (hh : EvO th ρ cs (some (n : Int))) : EvA (tSl (rSlX K) te tl th) ρ cs (.d (.tuple (ds.take n))) := by
  have := ev_slT (K := K) h hl hh
  rw [cutD_to] at this
  exact this
theorem ev_from {tl th : TO} {ds : List PyData} {n : Nat} (h : EvA te ρ cs (.d (.tuple ds))) (hl : EvO tl ρ cs (some (n : Int))) (hh : EvO th ρ cs none) : EvA (tSl (rSlX K) te tl th) ρ cs (.d (.tuple (ds.drop n))) := by
  have := ev_slT (K := K) h hl hh
  rw [cutD_from] at this
  exact this
/-! ### built-ins -/
theorem ev_len {ds : List PyData} (h : EvA te ρ cs s) (l : Lq cs s ds) : EvA (tCB (fun xs H Q => ∃ p ys, xs = [.ref p] ∧ (SqL K H p ys ∨ SqT K H p ys) ∧ Q (.int ys.length) H) (tCons te tNil)) ρ cs (.d (.int (ds.length : Int))) := fun b as H σ k Q q =>
  h b as H σ k _ fun v H1 e1 r1 => by
    obtain ⟨a, xs, rfl, h1, h2⟩ := l.get K (k.mono e1).h r1
    refine ⟨a, xs, rfl, h1, ?_⟩
    rw [h2.length]
    exact q _ H1 e1 (.int _)
theorem ev_sum {ns : List Int} (h : EvA te ρ cs (.d (.list (ns.map PyData.int)))) : EvA (tCB (rSum K) (tCons te tNil)) ρ cs (.d (.int ns.sum)) := fun b as H σ k Q q =>
  h b as H σ k _ fun v H1 e1 r1 => by
    obtain ⟨a, xs, rfl, h1, h2⟩ := Ll.l.get (k.mono e1).h r1
    have := h2.ints
    subst this
    exact ⟨a, ns, rfl, SqL.of h1, q _ H1 e1 (.int _)⟩
theorem ev_all {ns : List Bool} (h : EvA te ρ cs (.d (.list (ns.map PyData.bool)))) : EvA (tCB (rAll K) (tCons te tNil)) ρ cs (.d (.bool (ns.all id))) := fun b as H σ k Q q =>
  h b as H σ k _ fun v H1 e1 r1 => by
    obtain ⟨a, xs, rfl, h1, h2⟩ := Ll.l.get (k.mono e1).h r1
    have := h2.bls
    subst this
    exact ⟨a, ns, rfl, SqL.of h1, q _ H1 e1 (.bl _)⟩
theorem ev_any {ns : List Bool} (h : EvA te ρ cs (.d (.list (ns.map PyData.bool)))) : EvA (tCB (rAny K) (tCons te tNil)) ρ cs (.d (.bool (ns.any id))) := fun b as H σ k Q q =>
  h b as H σ k _ fun v H1 e1 r1 => by
    obtain ⟨a, xs, rfl, h1, h2⟩ := Ll.l.get (k.mono e1).h r1
    have := h2.bls
    subst this
    exact ⟨a, ns, rfl, SqL.of h1, q _ H1 e1 (.bl _)⟩
theorem ev_sorted {ns ms : List Int} (h : EvA te ρ cs (.d (.list (ns.map PyData.int)))) (hm : ∀ ns' : List Int, ns'.Perm ns → ns'.Pairwise (· ≤ ·) → ns' = ms) : EvA (tCB (rSortedI K) (tCons te tNil)) ρ cs (.d (.list (ms.map PyData.int))) := fun b as H σ k Q q =>
  h b as H σ k _ fun v H1 e1 r1 => by
    obtain ⟨a, xs, rfl, h1, h2⟩ := Ll.l.get (k.mono e1).h r1
    have := h2.ints
    subst this
    refine ⟨a, ns, rfl, SqL.of h1, fun ns' p pe pw hp => ?_⟩
    have := hm ns' pe pw
    subst this
    have s := same_upd (o := .lst (ns'.map V.int)) hp
    exact q _ _ (e1.trans s) (.lst ((k.mono e1).h.laid hp) (DqA.of_ints _ _))
theorem ev_tuple {ds : List PyData} (h : EvA te ρ cs s) (l : Ll cs s ds) : EvA (tThen te (kTup K)) ρ cs (.d (.tuple ds)) := fun b as H σ k Q q =>
  h b as H σ k _ fun v H1 e1 r1 => by
    obtain ⟨a, xs, rfl, h1, h2⟩ := l.get (k.mono e1).h r1
    refine .inl ⟨a, xs, rfl, SqL.of h1, fun p hp => ?_⟩
    have s := same_upd (o := .tup xs) hp
    exact q _ _ (e1.trans s) (.tup ((k.mono e1).h.laid hp) (h2.mono (fz_mono s)))
theorem ev_tupT {ds : List PyData} (h : EvA te ρ cs (.d (.tuple ds))) : EvA (tThen te (kTup K)) ρ cs (.d (.tuple ds)) := fun b as H σ k Q q =>
  h b as H σ k _ fun v H1 e1 r1 => by
    cases r1 with
    | @tup a xs _ h1 h2 => exact .inr ⟨a, xs, rfl, SqT.of ((k.mono e1).h.gle _ _ h1), q _ H1 e1 (.tup h1 h2)⟩
theorem en_range1 {i : Int} (h : EvA te ρ cs (.d (.int i))) (h1 : i ≤ 1000) (h0 : -1000 ≤ i) : EvN (tLstRg (tRg1 te)) ρ cs ((List.range i.toNat).map fun n => PyData.int (n : Nat)) := fun b as H σ k Q q =>
  h b as H σ k _ fun v H1 e1 r1 => by
    cases r1
    refine ⟨i, rfl, ⟨by omega, by omega, by omega, by omega, by omega⟩, fun p hp => ?_⟩
    have s := same_upd (o := .lst (rgV 0 i)) hp
    refine q p _ _ (e1.trans s) (e1.free hp) upd_same ?_
    have e0 : rgV 0 i = (List.range i.toNat).map fun n => V.int ((n : Nat) : Int) := by
      unfold rgV
      rw [Int.sub_zero]
      exact List.map_congr_left fun n _ => by rw [Int.zero_add]
    rw [e0]
    exact DqA.intsF (fun n => (n : Int)) _
theorem en_range2 {i j : Int} (h : EvA ta ρ cs (.d (.int i))) (h' : EvA tb ρ cs (.d (.int j))) (h1 : j - i ≤ 10000000) (h0 : -(2 ^ 61) ≤ i) (h2 : i < 2 ^ 61) (h3 : -(2 ^ 61) ≤ j) : EvN (tLstRg (tRg2 ta tb)) ρ cs ((List.range (j - i).toNat).map fun n => PyData.int (i + (n : Nat))) := fun b as H σ k Q q =>
  h b as H σ k _ fun v H1 e1 r1 => h' b as H1 σ (k.mono e1) _ fun w H2 e2 r2 => by
    cases r1; cases r2
    refine ⟨i, j, rfl, rfl, ⟨by omega, by omega, by omega, by omega, by omega⟩, fun p hp => ?_⟩
    have s := same_upd (o := .lst (rgV i j)) hp
    have e := e1.trans e2
    refine q p _ _ (e.trans s) (e.free hp) upd_same ?_
    exact DqA.intsF (fun n => i + (n : Int)) _
theorem ev_min2 {i j : Int} (h : EvA ta ρ cs (.d (.int i))) (h' : EvA tb ρ cs (.d (.int j))) : EvA (tCB (fun xs H Q => ∃ i j, xs = [.int i, .int j] ∧ Q (.int (if j < i then j else i)) H) (tCons ta (tCons tb tNil))) ρ cs (.d (.int (min i j))) := fun b as H σ k Q q =>
  h b as H σ k _ fun v H1 e1 r1 => h' b as H1 σ (k.mono e1) _ fun w H2 e2 r2 => by
    cases r1; cases r2
    have e : (if j < i then j else i) = min i j := by split <;> omega
    exact ⟨i, j, rfl, by rw [e]; exact q _ H2 (e1.trans e2) (.int _)⟩
theorem ev_max2 {i j : Int} (h : EvA ta ρ cs (.d (.int i))) (h' : EvA tb ρ cs (.d (.int j))) : EvA (tCB (fun xs H Q => ∃ i j, xs = [.int i, .int j] ∧ Q (.int (if j > i then j else i)) H) (tCons ta (tCons tb tNil))) ρ cs (.d (.int (max i j))) := fun b as H σ k Q q =>
  h b as H σ k _ fun v H1 e1 r1 => h' b as H1 σ (k.mono e1) _ fun w H2 e2 r2 => by
    cases r1; cases r2
    have e : (if j > i then j else i) = max i j := by split <;> omega
    exact ⟨i, j, rfl, by rw [e]; exact q _ H2 (e1.trans e2) (.int _)⟩
theorem ev_abs {i : Int} (h : EvA te ρ cs (.d (.int i))) : EvA (tCB (fun xs H Q => ∃ i, xs = [.int i] ∧ Q (.int (if i < 0 then -i else i)) H) (tCons te tNil)) ρ cs (.d (.int (i.natAbs : Int))) := fun b as H σ k Q q =>
  h b as H σ k _ fun v H1 e1 r1 => by
    cases r1
    have e : (if i < 0 then -i else i) = (i.natAbs : Int) := by split <;> omega
    exact ⟨i, rfl, by rw [e]; exact q _ H1 e1 (.int _)⟩
theorem ev_int1 {i : Int} (h : EvA te ρ cs (.d (.int i))) : EvA (tCB (fun xs H Q => (∃ i, xs = [.int i] ∧ Q (.int i) H) ∨ ∃ k, xs = [.bl k] ∧ Q (.int (if k then 1 else 0)) H) (tCons te tNil)) ρ cs (.d (.int i)) := fun b as H σ k Q q =>
  h b as H σ k _ fun v H1 e1 r1 => by
    cases r1
    exact .inl ⟨i, rfl, q _ H1 e1 (.int _)⟩
theorem ev_intB {i : Bool} (h : EvA te ρ cs (.d (.bool i))) : EvA (tCB (fun xs H Q => (∃ i, xs = [.int i] ∧ Q (.int i) H) ∨ ∃ k, xs = [.bl k] ∧ Q (.int (if k then 1 else 0)) H) (tCons te tNil)) ρ cs (.d (.int (if i then 1 else 0))) := fun b as H σ k Q q =>
  h b as H σ k _ fun v H1 e1 r1 => by
    cases r1
    exact .inr ⟨i, rfl, q _ H1 e1 (.int _)⟩
/-! ### isinstance -/
def tyD : PyData → Option String
  | .none => some "NoneType"
  | .bool _ => some "bool"
  | .int _ => some "int"
  | .str _ => some "str"
  | .list _ => some "list"
  | .tuple _ => some "tuple"
  | .dict _ => none
theorem tyX_of {b : Bs} {as : List Addr} {H : Hp} {cs : Cs} (k : OkH b as H cs) {v : V} {x : PyData} {T : String} (h : Dq (b.G as cs H) v x) (e : tyD x = some T) : TyX K H v (.type T) := by
  cases h with
  | non => cases e; exact .base .non
  | bl b => cases e; exact .base (.bl b)
  | int i => cases e; exact .base (.int i)
  | str x => cases e; exact .base (.str x)
  | lst h1 h2 => cases e; exact .base (.lst (k.gle _ _ h1))
  | tup h1 h2 => cases e; exact .base (.tup (k.gle _ _ h1))
theorem ev_isi {x : PyData} {T : String} {c : V} {u : Value} {r : Bool} (h : EvA ta ρ cs (.d x)) (hc : EvA tb ρ cs (.w c)) (cu : ClsV c u) (e : tyD x = some T) (hk : PySem.W.kitOne K (.type T) u = some r) : EvA (tCB (rIsi K) (tCons ta (tCons tb tNil))) ρ cs (.d (.bool r)) := fun b as H σ k Q q =>
  h b as H σ k _ fun v H1 e1 r1 => hc b as H1 σ (k.mono e1) _ fun w H2 e2 r2 => by
    have e2' : w = c := r2
    subst e2'
    exact ⟨v, w, .type T, u, r, rfl, cu, (tyX_of ((k.mono e1).mono e2).h (Dq.mono (fz_mono e2) r1) e), hk, q _ H2 (e1.trans e2) (.bl _)⟩
end
end Z
end
section
/-! Z3: tests, attributes, dicts, calls; statements; loops; comprehensions; a def's promise. -/
namespace Z
open PySem PySem.Spec PyProof.Rows L2
section
variable {ρ ρ' ρ1 ρ2 : List Sl} {cs : Cs} {ta tb te tc : TE} {t u : TT} {x y z s : Sl} {r r' : R2} {K : PySem.W.Frag}
theorem et_B {b : Bool} (h : EvA te ρ cs (.d (.bool b))) : EvT (tB te) ρ cs b := fun B as H σ k Q q => h B as H σ k _ fun v H1 e1 r1 => by cases r1; exact ⟨b, rfl, q H1 e1⟩
theorem et_test {b : Bool} (h : EvA te ρ cs (.d (.bool b))) : EvT (tTest te) ρ cs b := fun B as H σ k Q q => h B as H σ k _ fun v H1 e1 r1 => by cases r1; exact ⟨b, rfl, q H1 e1⟩
theorem et_not {b : Bool} (h : EvT t ρ cs b) : EvT (tNot t) ρ cs (!b) := fun B as H σ k Q q => h B as H σ k _ fun H1 e1 => q H1 e1
theorem et_and {a b : Bool} (h : EvT t ρ cs a) (h2 : a = true → EvT u ρ cs b) : EvT (tAnd t u) ρ cs (a && b) := fun B as H σ k Q q => h B as H σ k _ fun H1 e1 => by
  cases a with
  | true =>
    show u σ H1 Q
    exact h2 rfl B as H1 σ (k.mono e1) Q fun H2 e2 => q H2 (e1.trans e2)
  | false =>
    show Q false H1
    exact q H1 e1
theorem et_or {a b : Bool} (h : EvT t ρ cs a) (h2 : a = false → EvT u ρ cs b) : EvT (tOr t u) ρ cs (a || b) := fun B as H σ k Q q => h B as H σ k _ fun H1 e1 => by
  cases a with
  | false =>
    show u σ H1 Q
    exact h2 rfl B as H1 σ (k.mono e1) Q fun H2 e2 => q H2 (e1.trans e2)
  | true =>
    show Q true H1
    exact q H1 e1
theorem et_yes : EvT tYes ρ cs true := fun B as H σ k Q q => q H (Same.refl _)
theorem et_is {a b : Bool} (h : EvT t ρ cs a) (e : a = b) : EvT t ρ cs b := e ▸ h
theorem ev_is (h : EvA te ρ cs s) (e : s = z) : EvA te ρ cs z := e ▸ h
theorem en_is {ds es : List PyData} (h : EvN te ρ cs ds) (e : ds = es) : EvN te ρ cs es := e ▸ h
theorem ev_if {b : Bool} (h : EvT t ρ cs b) (h1 : b = true → EvA ta ρ cs s) (h2 : b = false → EvA tb ρ cs s) : EvA (tIf t ta tb) ρ cs s := fun B as H σ k Q q => h B as H σ k _ fun H1 e1 => by
  cases b with
  | true =>
    show ta σ H1 Q
    exact h1 rfl B as H1 σ (k.mono e1) Q fun v H2 e2 => q v H2 (e1.trans e2)
  | false =>
    show tb σ H1 Q
    exact h2 rfl B as H1 σ (k.mono e1) Q fun v H2 e2 => q v H2 (e1.trans e2)
theorem ev_andV {a b : Bool} (h : EvA ta ρ cs (.d (.bool a))) (h2 : a = true → EvA tb ρ cs (.d (.bool b))) : EvA (tAndV ta tb) ρ cs (.d (.bool (a && b))) := fun B as H σ k Q q => h B as H σ k _ fun v H1 e1 r1 => by
  cases r1
  refine ⟨a, rfl, ?_⟩
  cases a with
  | true =>
    show tb σ H1 Q
    exact h2 rfl B as H1 σ (k.mono e1) Q fun v H2 e2 => q v H2 (e1.trans e2)
  | false =>
    show Q (.bl false) H1
    exact q _ H1 e1 (.bl _)
theorem ev_orV {a b : Bool} (h : EvA ta ρ cs (.d (.bool a))) (h2 : a = false → EvA tb ρ cs (.d (.bool b))) : EvA (tOrV ta tb) ρ cs (.d (.bool (a || b))) := fun B as H σ k Q q => h B as H σ k _ fun v H1 e1 r1 => by
  cases r1
  refine ⟨a, rfl, ?_⟩
  cases a with
  | false =>
    show tb σ H1 Q
    exact h2 rfl B as H1 σ (k.mono e1) Q fun v H2 e2 => q v H2 (e1.trans e2)
  | true =>
    show Q (.bl true) H1
    exact q _ H1 e1 (.bl _)
theorem ev_notV {a : Bool} (h : EvA ta ρ cs (.d (.bool a))) : EvA (tNotV ta) ρ cs (.d (.bool (!a))) := fun B as H σ k Q q => h B as H σ k _ fun v H1 e1 r1 => by
  cases r1
  exact ⟨a, rfl, q _ H1 e1 (.bl _)⟩
/-- is None, is not None -/
theorem rv_isN {d : PyData} : RvA (fun x y H Q => y = .non ∧ Q (.bl (decide (x = .non))) H) cs (.d d) (.d .none) (.d (.bool (match d with | .none => true | _ => false))) := fun b as H k v w r1 r2 Q q => by
  cases r2
  refine ⟨rfl, ?_⟩
  cases r1 <;> exact q _ H (Same.refl _) (.bl _)
theorem rv_notN {d : PyData} : RvA (fun x y H Q => y = .non ∧ Q (.bl (!decide (x = .non))) H) cs (.d d) (.d .none) (.d (.bool (match d with | .none => false | _ => true))) := fun b as H k v w r1 r2 Q q => by
  cases r2
  refine ⟨rfl, ?_⟩
  cases r1 <;> exact q _ H (Same.refl _) (.bl _)
theorem rv_notB {a c : Bool} : RvA rNotB cs (.d (.bool a)) (.d (.bool c)) (.d (.bool (!decide (a = c)))) := fun b as H k v w r1 r2 Q q => by
  cases r1; cases r2
  exact ⟨a, c, rfl, rfl, q _ H (Same.refl _) (.bl _)⟩
theorem ev_chain {a b : Bool} {p q w : PyData} (ha : EvA ta ρ cs (.d p)) (hb : EvA tb ρ cs (.d q)) (hc : EvA tc ρ cs (.d w)) (h1 : RvA r cs (.d p) (.d q) (.d (.bool a))) (h2 : RvA r' cs (.d q) (.d w) (.d (.bool b))) :
    EvA (tChain r r' ta tb tc) ρ cs (.d (.bool (a && b))) := fun B as H σ k Q qq =>
  ha B as H σ k _ fun v1 H1 e1 r1 => hb B as H1 σ (k.mono e1) _ fun v2 H2 e2 r2 => h1 B as H2 ((k.mono e1).mono e2).h v1 v2 (Dq.mono (fz_mono e2) r1) r2 _ fun v3 H3 e3 r3 => by
    cases r3
    refine ⟨a, rfl, ?_⟩
    have e := (e1.trans e2).trans e3
    cases a with
    | true =>
      rw [if_pos rfl]
      exact hc B as H3 σ (k.mono e) _ fun v4 H4 e4 r4 => h2 B as H4 ((k.mono e).mono e4).h v2 v4 (Dq.mono (fz_mono e4) (Dq.mono (fz_mono e3) r2)) r4 Q fun u H5 e5 r5 => qq u H5 ((e.trans e4).trans e5) r5
    | false =>
      rw [if_neg Bool.false_ne_true]
      exact qq _ H3 e (.bl _)
theorem OptR.some_r {G : Hp} {o : Option V} {d : PyData} (h : OptR G o (some d)) : ∃ v, o = some v ∧ Dq G v d := by
  cases o with
  | none => exact h.elim
  | some v => exact ⟨v, rfl, h⟩
theorem OptR.isSome {G : Hp} {o : Option V} {d : Option PyData} (h : OptR G o d) : o.isSome = d.isSome := by
  cases o <;> cases d <;> first | rfl | exact h.elim
theorem OptR.none_r {G : Hp} {o : Option V} (h : OptR G o none) : o = none := by
  cases o with
  | none => rfl
  | some v => exact h.elim
/-! ### attributes -/
theorem ev_fld {C : Addr} {fs : List (Str × PyData)} {f : Str} {d : PyData} (h : EvA ta ρ cs (.ob C fs)) (hf : fs.lookup f = some d) (c : Cls K C) (n : NoAttr K C f) : EvA (tFld K ta f) ρ cs (.d d) := fun B as H σ k Q q =>
  h B as H σ k _ fun v H1 e1 r1 => by
    obtain ⟨a, dx, gs, h1, h2, h3⟩ := r1
    have h6 := h3 f
    rw [hf] at h6
    obtain ⟨u, h4, h5⟩ := h6.some_r
    exact ⟨a, C, dx, gs, u, h1, (k.mono e1).h.gle _ _ h2, c, n, h4, q u H1 e1 h5⟩
/-! ### dicts with int keys -/
inductive Dd (cs : Cs) : Sl → (Int → Option PyData) → Prop
  | d {f : Int → Option PyData} : Dd cs (.dd f) f
  | c {k : Nat} {f : Int → Option PyData} {n : Nat} : cs[k]? = some (some (.di f n)) → Dd cs (.c k) f
theorem Dd.get {b : Bs} {as : List Addr} {H : Hp} {v : V} {f : Int → Option PyData} (k : OkH b as H cs) (l : Dd cs s f) (r : SlR as (b.G as cs H) s v) : ∃ a ks n, v = .ref a ∧ H a = some (.dK ks) ∧ DiR (b.G as cs H) f n ks := by
  cases l with
  | d =>
    obtain ⟨a, ks, n, h1, h2, h3⟩ := r
    exact ⟨a, ks, n, h1, k.gle _ _ h2, h3⟩
  | c hc =>
    obtain ⟨a, h1, h2, xs, h3, h4⟩ := k.cell hc r
    exact ⟨a, xs, _, h2, h3, h4⟩
theorem ev_dget {f : Int → Option PyData} {i : Int} {d : PyData} (h : EvA ta ρ cs s) (l : Dd cs s f) (hi : EvA tb ρ cs (.d (.int i))) (e : f i = some d) : EvA (tDGet ta tb) ρ cs (.d d) := fun B as H σ k Q q =>
  h B as H σ k _ fun v H1 e1 r1 => hi B as H1 σ (k.mono e1) _ fun w H2 e2 r2 => by
    have k2 := (k.mono e1).mono e2
    obtain ⟨a, ks, n, rfl, h1, h2⟩ := l.get k2.h (r1.mono (fz_mono e2))
    cases r2
    have h3 := h2.2 i
    rw [e] at h3
    obtain ⟨u, h4, h5⟩ := h3.some_r
    refine ⟨a, u, rfl, ?_, q u H2 (e1.trans e2) h5⟩
    rw [← h4]
    exact DGet.k (k := Sum.inl i) h1
theorem ev_dgetO {f : Int → Option PyData} {i : Int} {d : PyData} (h : EvA ta ρ cs s) (l : Dd cs s f) (hi : EvA tb ρ cs (.d (.int i))) (hx : EvA tc ρ cs (.d d)) : EvA (tDGet2 ta tb tc) ρ cs (.d ((f i).getD d)) := fun B as H σ k Q q =>
  h B as H σ k _ fun v H1 e1 r1 => by
    obtain ⟨a, ks, n, rfl, h1, h2⟩ := l.get (k.mono e1).h r1
    refine ⟨a, rfl, .inl ⟨ks, .inl h1⟩, hi B as H1 σ (k.mono e1) _ fun w H2 e2 r2 => hx B as H2 σ ((k.mono e1).mono e2) _ fun w' H3 e3 r3 => ?_⟩
    cases r2
    have e' := e2.trans e3
    have h3 := (h2.2 i).mono (fz_mono (M := B.M as cs) e')
    refine ⟨_, DGet.k (k := Sum.inl i) (e' _ _ h1), q _ H3 (e1.trans e') ?_⟩
    cases hv : valV ks (Sum.inl i : Key) with
    | none =>
      rw [hv] at h3
      cases hf : f i with
      | none => exact r3
      | some d' => rw [hf] at h3; exact h3.elim
    | some u =>
      rw [hv] at h3
      cases hf : f i with
      | none => rw [hf] at h3; exact h3.elim
      | some d' => rw [hf] at h3; exact h3
theorem ev_din {f : Int → Option PyData} {i : Int} (h : EvA ta ρ cs s) (l : Dd cs s f) (hi : EvA tb ρ cs (.d (.int i))) : EvA (tDIn tb ta) ρ cs (.d (.bool (f i).isSome)) := fun B as H σ k Q q =>
  hi B as H σ k _ fun w H1 e1 r1 => h B as H1 σ (k.mono e1) _ fun v H2 e2 r2 => by
    have k2 := (k.mono e1).mono e2
    obtain ⟨a, ks, n, rfl, h1, h2⟩ := l.get k2.h r2
    cases r1
    refine ⟨a, _, rfl, DGet.k (k := Sum.inl i) h1, ?_⟩
    rw [(h2.2 i).isSome]
    exact q _ H2 (e1.trans e2) (.bl _)
theorem ev_dnin {f : Int → Option PyData} {i : Int} (h : EvA ta ρ cs s) (l : Dd cs s f) (hi : EvA tb ρ cs (.d (.int i))) : EvA (tDNotIn tb ta) ρ cs (.d (.bool (!(f i).isSome))) := fun B as H σ k Q q =>
  hi B as H σ k _ fun w H1 e1 r1 => h B as H1 σ (k.mono e1) _ fun v H2 e2 r2 => by
    have k2 := (k.mono e1).mono e2
    obtain ⟨a, ks, n, rfl, h1, h2⟩ := l.get k2.h r2
    cases r1
    refine ⟨a, _, rfl, DGet.k (k := Sum.inl i) h1, ?_⟩
    rw [(h2.2 i).isSome]
    exact q _ H2 (e1.trans e2) (.bl _)
/-- {k: v} -/
theorem em_one {i : Int} {d : PyData} (hi : EvA ta ρ cs (.d (.int i))) (h : EvA tb ρ cs (.d d)) : EvM (tDisp [(ta, tb)]) ρ cs (fun j => if j = i then some d else none) 1 := fun B as H σ k Q q p hp => by
  have s0 := same_upd (o := .dK []) hp
  let B' : Bs := ⟨B.H0, fun a => B.M0 a ∨ a = p, B.R, B.F, B.r1⟩
  have hpm := k.h.fresh hp
  have me : B'.M as cs = fun a => B.M as cs a ∨ a = p := by
    funext a
    refine propext ⟨fun m => ?_, fun m => ?_⟩
    · rcases m with (m | m) | m
      · exact .inl (.inl m)
      · exact .inr m
      · exact .inl (.inr m)
    · rcases m with (m | m) | m
      · exact .inl (.inl m)
      · exact .inr m
      · exact .inl (.inr m)
  have gs : Same (B.G as cs H) (B'.G as cs (upd H p (.dK []))) := fun x u h => by
    have hm := fz_not h
    have hx := fz_le x u h
    unfold Bs.G
    rw [me, fz_out]
    · exact s0 x u hx
    · rintro (m | rfl)
      · exact hm m
      · rw [hp] at hx; cases hx
  have k' : Ok B' as (upd H p (.dK [])) σ ρ cs := by
    have k0 := k.mono s0
    refine ⟨⟨k0.h.ext, fun a m => ?_, k.h.rl, k.h.nd, k.h.nw, fun i c a h1 h2 m => ?_, fun i c h1 => ?_, k.h.fl.trans gs, k.h.al⟩, k.len, fun i s h => (k.sl i s h).imp id fun ⟨v, a, c⟩ => ⟨v, a, c.mono gs⟩⟩
    · rcases m with m | rfl
      · exact k0.h.m0 a m
      · exact ⟨_, upd_same⟩
    · rcases m with m | rfl
      · exact k.h.nm i c a h1 h2 m
      · exact hpm (.inr ⟨i, c, h1, h2⟩)
    · obtain ⟨a, h2, h3⟩ := k.h.ce i c h1
      obtain ⟨o, ho⟩ := h3.some
      exact ⟨a, h2, h3.mono gs ((s0 a o ho).trans ho.symm)⟩
  refine hi B' as _ σ k' _ fun w H1 e1 r1 => h B' as H1 σ (k'.mono e1) _ fun v H2 e2 r2 => ?_
  cases r1
  have hp2 : H2 p = some (.dK []) := e2 _ _ (e1 _ _ upd_same)
  refine ⟨hp2, [(Sum.inl i, v)], rfl, by simp, ?_⟩
  have hM : B'.M as cs p := .inl (.inr rfl)
  refine q p _ _ (fun x u hx => ?_) hp upd_same ⟨by simp [mergeK, putK], fun j => ?_⟩
  · have ne : x ≠ p := ne_of_none hx hp
    rw [upd_ne ne]
    exact e2 _ _ (e1 _ _ (s0 x u hx))
  · rw [← me, fz_upd hM]
    have e : mergeK [] [((Sum.inl i : Key), v)] = [(Sum.inl i, v)] := by simp [mergeK, putK]
    rw [e]
    by_cases hj : j = i
    · subst hj
      dsimp only
      rw [if_pos rfl, valV_pos rfl]
      exact r2
    · dsimp only
      rw [if_neg hj, valV_neg (fun z => hj (Sum.inl.inj z).symm), valV_nil]
      exact True.intro
/-! ### a promise of a def that changes nothing -/
def spP (pre : List Sl → Sl → Prop) : Sp := fun vs H Q _ => ∃ (M : Addr → Prop) (ss : List Sl) (r : Sl), (∀ a, M a → ∃ o, H a = some o) ∧ Paired (SlR [] (fz M H)) ss vs ∧ pre ss r ∧ ∀ v H', Same H H' → SlR [] (fz M H') r v → Q v H'
theorem paired_fr {as as' : List Addr} {G : Hp} : ∀ {ss : List Sl} {vs : List V}, (∀ s ∈ ss, s.fr) → Paired (SlR as G) ss vs → Paired (SlR as' G) ss vs
  | _, _, _, .nil => .nil
  | _, _, f, .cons h t => .cons (h.fr (f _ List.mem_cons_self)) (paired_fr (fun s hs => f s (List.mem_cons_of_mem _ hs)) t)
def frs : List Sl → Bool
  | [] => true
  | .c _ :: _ => false
  | _ :: r => frs r
theorem frs_ok : ∀ {ss : List Sl}, frs ss = true → ∀ s ∈ ss, s.fr
  | s :: r, h, x, hx => by
    rcases List.mem_cons.mp hx with rfl | hx
    · cases x with
      | c k => cases h
      | _ => exact True.intro
    · refine frs_ok (ss := r) ?_ x hx
      cases s with
      | c k => cases h
      | _ => exact h
theorem ev_call {pre : List Sl → Sl → Prop} {E : XK} {t : TA} {ss : List Sl} {z : Sl} (h : EvAs t ρ cs ss) (hp : pre ss z) (hf : frs ss = true) (hz : frs [z] = true) : EvA (tCall (spP pre) [] E t) ρ cs z := fun B as H σ k Q q =>
  h B as H σ k _ fun vs H1 e1 r1 => by
    have k1 := k.mono e1
    rw [List.append_nil]
    refine ⟨B.M as cs, ss, z, fun a m => k1.h.live m, paired_fr (frs_ok hf) r1, hp, fun v H' e' r' => q v H' (e1.trans e') (r'.fr (frs_ok hz _ List.mem_cons_self))⟩
/-- a method of an object -/
theorem ev_meth {pre : List Sl → Sl → Prop} {E : XK} {t : TA} {ss : List Sl} {z : Sl} {C : Addr} {m : Str} {fs : List (Str × PyData)} (ho : EvA ta ρ cs (.ob C fs)) (hm : fs.lookup m = none) (h : EvAs t ρ cs ss) (hp : pre (.ob C fs :: ss) z) (hf : frs ss = true) (hz : frs [z] = true) : EvA (tMeth C m (spP pre) [] E ta t) ρ cs z := fun B as H σ k Q q =>
  ho B as H σ k _ fun v H1 e1 r1 => by
    obtain ⟨a, dx, gs, rfl, h2, h3⟩ := id r1
    have h4 := h3 m
    rw [hm] at h4
    refine ⟨a, dx, gs, rfl, (k.mono e1).h.gle _ _ h2, h4.none_r, h B as H1 σ (k.mono e1) _ fun vs H2 e2 r2 => ?_⟩
    have k2 := (k.mono e1).mono e2
    rw [List.append_nil]
    exact ⟨B.M as cs, .ob C fs :: ss, z, fun a m => k2.h.live m, .cons (SlR.fr (s := .ob C fs) True.intro (r1.mono (fz_mono e2))) (paired_fr (frs_ok hf) r2), hp, fun v H' e' r' => q v H' ((e1.trans e2).trans e') (r'.fr (frs_ok hz _ List.mem_cons_self))⟩
end
/-! ### statements -/
def Sx (ts : TS) (ρ : List Sl) (cs : Cs) (N : List Sl → Cs → Prop) (T : Sl → Cs → Prop) : Prop :=
  ∀ (b : Bs) (as : List Addr) (H : Hp) (σ : L2.St), Ok b as H σ ρ cs → ∀ D : Ends,
    (∀ as' H' σ' ρ' cs', N ρ' cs' → Ok b as' H' σ' ρ' cs' → D.nx σ' H') →
    (∀ as' H' cs' s v, T s cs' → OkH b as' H' cs' → SlR as' (b.G as' cs' H') s v → D.rt v H') → ts D σ H
section
variable {ρ ρ' ρ1 ρ2 : List Sl} {cs cs' : Cs} {ta tb te tc : TE} {t u : TT} {s z : Sl} {ts us : TS} {N N' : List Sl → Cs → Prop} {T T' : Sl → Cs → Prop} {K : PySem.W.Frag}
theorem sx_seq (h : Sx ts ρ cs (fun ρ' cs' => Sx us ρ' cs' N T) T) : Sx (tSeq ts us) ρ cs N T := fun b as H σ k D hn ht =>
  h b as H σ k { D with nx := us D } (fun as' H' σ' ρ' cs' hs k' => hs b as' H' σ' k' D hn ht) ht
theorem sx_next (h : N ρ cs) : Sx tNext ρ cs N T := fun b as H σ k D hn ht => hn as H σ ρ cs h k
theorem sx_mono (h : Sx ts ρ cs N' T') (hn : ∀ ρ cs, N' ρ cs → N ρ cs) (ht : ∀ s cs, T' s cs → T s cs) : Sx ts ρ cs N T := fun b as H σ k D kn kt =>
  h b as H σ k D (fun as' H' σ' ρ' cs' q => kn as' H' σ' ρ' cs' (hn _ _ q)) fun as' H' cs' s v q => kt as' H' cs' s v (ht _ _ q)
theorem sx_asg {i : Nat} (h : EvA te ρ cs s) (k : N (ρ.set i s) cs) : Sx (tAsg te (gName i)) ρ cs N T := fun b as H σ ok D hn ht =>
  h b as H σ ok _ fun v H1 e1 r1 => hn as H1 _ _ cs k ((ok.mono e1).store r1)
/-- x = a new list, in the j-th cell -/
theorem sx_asgN {i : Nat} (j : Nat) {ds : List PyData} (h : EvN te ρ cs ds) (hj : cs[j]? = some none) (hc : noC j (ρ.set i .un) = true) (k : N (ρ.set i (.c j)) (cs.set j (some (.ls ds)))) : Sx (tAsg te (gName i)) ρ cs N T := fun b as H σ ok D hn ht =>
  h b as H σ ok _ fun p xs H1 e1 hp hx r1 => by
    have okw : Ok b as H σ (ρ.set i .un) cs := ok.weak (by rw [List.length_set]) fun m w hm => by
      by_cases e : i = m
      · subst e
        have hi : i < ρ.length := by
          have := (List.getElem?_eq_some_iff.mp hm).1
          rwa [List.length_set] at this
        rw [List.getElem?_set_self hi] at hm
        exact .inl (Option.some.inj hm).symm
      · rw [List.getElem?_set_ne e] at hm; exact .inr hm
    obtain ⟨ok2, _⟩ := okw.alloc e1 (c := .ls ds) hj hp ⟨_, hx⟩ ⟨xs, hx, r1⟩ hc
    have hja : j < as.length := by rw [ok.h.al]; exact (List.getElem?_eq_some_iff.mp hj).1
    have ok3 := ok2.store (i := i) (s := .c j) (v := .ref p) ⟨p, by rw [List.getElem?_set_self hja], rfl⟩
    rw [List.set_set] at ok3
    exact hn _ H1 _ _ _ k ok3
theorem sx_asgM {i : Nat} (j : Nat) {f : Int → Option PyData} {n : Nat} (h : EvM te ρ cs f n) (hj : cs[j]? = some none) (hc : noC j (ρ.set i .un) = true) (k : N (ρ.set i (.c j)) (cs.set j (some (.di f n)))) : Sx (tAsg te (gName i)) ρ cs N T := fun b as H σ ok D hn ht =>
  h b as H σ ok _ fun p xs H1 e1 hp hx r1 => by
    have okw : Ok b as H σ (ρ.set i .un) cs := ok.weak (by rw [List.length_set]) fun m w hm => by
      by_cases e : i = m
      · subst e
        have hi : i < ρ.length := by
          have := (List.getElem?_eq_some_iff.mp hm).1
          rwa [List.length_set] at this
        rw [List.getElem?_set_self hi] at hm
        exact .inl (Option.some.inj hm).symm
      · rw [List.getElem?_set_ne e] at hm; exact .inr hm
    obtain ⟨ok2, _⟩ := okw.alloc e1 (c := .di f n) hj hp ⟨_, hx⟩ ⟨xs, hx, r1⟩ hc
    have hja : j < as.length := by rw [ok.h.al]; exact (List.getElem?_eq_some_iff.mp hj).1
    have ok3 := ok2.store (i := i) (s := .c j) (v := .ref p) ⟨p, by rw [List.getElem?_set_self hja], rfl⟩
    rw [List.set_set] at ok3
    exact hn _ H1 _ _ _ k ok3
theorem sx_drop (h : EvA te ρ cs s) (k : N ρ cs) : Sx (tDrop te) ρ cs N T := fun b as H σ ok D hn ht => h b as H σ ok _ fun v H1 e1 r1 => hn as H1 _ _ cs k (ok.mono e1)
theorem sx_ret (h : EvA te ρ cs s) (k : T s cs) : Sx (tRet te) ρ cs N T := fun b as H σ ok D hn ht => h b as H σ ok _ fun v H1 e1 r1 => ht as H1 cs s v k (ok.mono e1).h r1
theorem sx_if {b : Bool} (h : EvT t ρ cs b) (h1 : b = true → Sx ts ρ cs N T) (h2 : b = false → Sx us ρ cs N T) : Sx (tIfS t ts us) ρ cs N T := fun B as H σ ok D hn ht => h B as H σ ok _ fun H1 e1 => by
  cases b with
  | true =>
    show ts D σ H1
    exact h1 rfl B as H1 σ (ok.mono e1) D hn ht
  | false =>
    show us D σ H1
    exact h2 rfl B as H1 σ (ok.mono e1) D hn ht
/-- x.append(e), x in the j-th cell -/
theorem sx_app {j : Nat} {ds : List PyData} {d : PyData} (ho : EvA ta ρ cs (.c j)) (hj : cs[j]? = some (some (.ls ds))) (h : EvA te ρ cs (.d d)) (hl : ds.length < 100000) (k : N ρ (cs.set j (some (.ls (ds ++ [d]))))) : Sx (tDrop (tBM K "list" rAppend ta (tCons te tNil))) ρ cs N T := fun b as H σ ok D hn ht =>
  ho b as H σ ok _ fun v H1 e1 r1 => by
    obtain ⟨a, h1, rfl, xs, h3, h4⟩ := (ok.mono e1).h.cell hj r1
    refine ⟨.inl ⟨rfl, xs, SqL.of h3⟩, h b as H1 σ (ok.mono e1) _ fun w H2 e2 r2 => ?_⟩
    have ok2 := (ok.mono e1).mono e2
    refine ⟨a, xs, w, rfl, rfl, e2 _ _ h3, ?_, ?_⟩
    · rw [h4.length]; exact Nat.lt_of_lt_of_le hl (by decide)
    · exact hn as _ σ ρ _ k (ok2.write (c' := .ls (ds ++ [d])) hj h1 ⟨_, upd_same, (h4.mono (fz_mono e2)).snoc r2⟩)
/-- x[i] = e -/
theorem sx_set {j n : Nat} {ds : List PyData} {d : PyData} (h : EvA te ρ cs (.d d)) (ho : EvA ta ρ cs (.c j)) (hj : cs[j]? = some (some (.ls ds))) (hi : EvA tb ρ cs (.d (.int (n : Int)))) (hl : n < ds.length) (k : N ρ (cs.set j (some (.ls (ds.set n d))))) :
    Sx (tAsg te (gSub ta tb rSetL)) ρ cs N T := fun b as H σ ok D hn ht =>
  h b as H σ ok _ fun v H1 e1 r1 => ho b as H1 σ (ok.mono e1) _ fun w H2 e2 r2 => hi b as H2 σ ((ok.mono e1).mono e2) _ fun w' H3 e3 r3 => by
    cases r3
    have ok3 := ((ok.mono e1).mono e2).mono e3
    obtain ⟨a, h1, rfl, xs, h3, h4⟩ := ok3.h.cell hj (r2.mono (fz_mono e3))
    refine ⟨a, xs, n, n, rfl, rfl, h3, ixN_nat (by rw [h4.length]; exact hl), ?_⟩
    exact hn as _ σ ρ _ k (ok3.write (c' := .ls (ds.set n d)) hj h1 ⟨_, upd_same, h4.set (Dq.mono (fz_mono e3) (Dq.mono (fz_mono e2) r1)) n⟩)
/-- d[i] = e -/
theorem sx_dput {j n : Nat} {f : Int → Option PyData} {i : Int} {d : PyData} (h : EvA te ρ cs (.d d)) (ho : EvA ta ρ cs (.c j)) (hj : cs[j]? = some (some (.di f n))) (hi : EvA tb ρ cs (.d (.int i))) (hl : n < 100000) (k : N ρ (cs.set j (some (.di (fun m => if m = i then some d else f m) (n + 1))))) :
    Sx (sDPut ta tb te) ρ cs N T := fun b as H σ ok D hn ht =>
  h b as H σ ok _ fun v H1 e1 r1 => ho b as H1 σ (ok.mono e1) _ fun w H2 e2 r2 => hi b as H2 σ ((ok.mono e1).mono e2) _ fun w' H3 e3 r3 => by
    cases r3
    have ok3 := ((ok.mono e1).mono e2).mono e3
    obtain ⟨a, h1, rfl, ks, h3, h4⟩ := ok3.h.cell hj (r2.mono (fz_mono e3))
    refine ⟨a, _, rfl, DPut.k (k := Sum.inl i) h3 (Nat.lt_of_le_of_lt h4.1 (Nat.lt_of_lt_of_le hl (by decide))), ?_⟩
    refine hn as _ σ ρ _ k (ok3.write (c' := .di (fun m => if m = i then some d else f m) (n + 1)) hj h1 ⟨_, upd_same, Nat.le_trans (length_putK _ _ _) (Nat.succ_le_succ h4.1), fun m => ?_⟩)
    rw [valV_put]
    dsimp only
    by_cases e : m = i
    · subst e
      rw [if_pos rfl, if_pos rfl]
      exact Dq.mono (fz_mono e3) (Dq.mono (fz_mono e2) r1)
    · rw [if_neg e, if_neg fun q => e (Sum.inl.inj q)]
      exact h4.2 m
/-- x = y.pop() -/
theorem sx_pop {i j : Nat} {ds : List PyData} {d : PyData} (ho : EvA ta ρ cs (.c j)) (hj : cs[j]? = some (some (.ls (ds ++ [d])))) (k : N (ρ.set i (.d d)) (cs.set j (some (.ls ds)))) : Sx (tAsg (tBM0 K "list" rPop ta) (gName i)) ρ cs N T := fun b as H σ ok D hn ht =>
  ho b as H σ ok _ fun v H1 e1 r1 => by
    have ok1 := ok.mono e1
    obtain ⟨a, h1, rfl, xs, h3, h4⟩ := ok1.h.cell hj r1
    have hl : xs.length = ds.length + 1 := by rw [h4.length, List.length_append]; rfl
    obtain ⟨y, h5, h6⟩ := h4.get (i := ds.length) (d := d) (by simp)
    have e : xs.length - 1 = ds.length := by omega
    refine ⟨.inl ⟨rfl, xs, SqL.of h3⟩, a, xs, y, rfl, rfl, h3, by rw [e]; exact h5, ?_⟩
    have dl : DqA (b.G as cs H1) xs.dropLast ds := by
      have := h4.take ds.length
      rw [List.take_left' rfl] at this
      rw [List.dropLast_eq_take, e]
      exact this
    have ok2 := ok1.write (c' := .ls ds) hj h1 ⟨_, upd_same (o := .lst xs.dropLast), dl⟩
    have gs : Same (b.G as cs H1) (b.G as (cs.set j (some (.ls ds))) (upd H1 a (.lst xs.dropLast))) := fun x u hx => by
      have hm := fz_not hx
      have hx' := fz_le x u hx
      have ne : x ≠ a := fun z => hm (z ▸ .inr ⟨j, _, hj, h1⟩)
      unfold Bs.G
      rw [fz_out, upd_ne ne]
      · exact hx'
      · rintro (m | ⟨j', c', q1, q2⟩)
        · exact hm (.inl m)
        · by_cases ej : j = j'
          · subst ej; exact hm (.inr ⟨j, _, hj, q2⟩)
          · rw [List.getElem?_set_ne ej] at q1; exact hm (.inr ⟨j', c', q1, q2⟩)
    exact hn as _ _ _ _ k (ok2.store (Dq.mono gs h6))
/-- a cell frozen: its slots hold data from now on -/
def frzS (j : Nat) (x : PyData) : List Sl → List Sl
  | [] => []
  | .c k :: r => (if Nat.beq k j then .d x else .c k) :: frzS j x r
  | s :: r => s :: frzS j x r
theorem frzS_get {j : Nat} {x : PyData} : ∀ {ρ : List Sl} {i : Nat} {s : Sl}, (frzS j x ρ)[i]? = some s → ρ[i]? = some s ∨ (ρ[i]? = some (.c j) ∧ s = .d x)
  | [], _, _, h => by simp [frzS] at h
  | w :: r, 0, s, h => by
    cases w with
    | c k =>
      simp only [frzS, List.getElem?_cons_zero, Option.some.injEq] at h
      split at h
      · rename_i hb
        have : k = j := by simpa using hb
        subst this
        exact .inr ⟨rfl, h.symm⟩
      · exact .inl (by simp [h])
    | _ => exact .inl (by simpa [frzS] using h)
  | w :: r, i + 1, s, h => by
    have e : (frzS j x (w :: r))[i + 1]? = (frzS j x r)[i]? := by cases w <;> rfl
    rw [e] at h
    exact frzS_get (i := i) h
theorem frzS_len {j : Nat} {x : PyData} : ∀ ρ : List Sl, (frzS j x ρ).length = ρ.length
  | [] => rfl
  | w :: r => by cases w <;> simp [frzS, frzS_len r]
theorem Ok.frzS {b : Bs} {as : List Addr} {H : Hp} {σ : L2.St} (ok : Ok b as H σ ρ cs) {j : Nat} {ds : List PyData} (hj : cs[j]? = some (some (.ls ds))) (hr : b.R.length ≤ j) : Ok b as H σ (Z.frzS j (.list ds) ρ) (cs.set j none) := by
  obtain ⟨ok2, gs⟩ := ok.freeze hr
  refine ⟨ok2.h, by rw [frzS_len]; exact ok.len, fun i s h0 => ?_⟩
  rcases frzS_get h0 with h | ⟨h, e0⟩
  · exact ok2.sl i s h
  · rcases ok.sl i _ h with e | ⟨v, h1, h2⟩
    · cases e
    · obtain ⟨a, q1, e2, xs, q3, q4⟩ := ok.h.cell hj h2
      subst e2
      refine .inr ⟨.ref a, h1, ?_⟩
      rw [e0]
      refine .lst ?_ (q4.mono gs)
      unfold Bs.G
      rw [fz_out]
      · exact q3
      · rintro (m | ⟨j', c', z1, z2⟩)
        · exact ok.h.nm j _ a hj q1 m
        · by_cases ej : j = j'
          · subst ej
            have hjl : j < cs.length := (List.getElem?_eq_some_iff.mp hj).1
            rw [List.getElem?_set_self hjl] at z1; cases z1
          · rw [List.getElem?_set_ne ej] at z1
            exact ej (ok.h.nd j j' _ _ a hj z1 q1 z2)
end
end Z
end
section
/-! Z4: targets, loops, comprehensions, a def's promise. -/
namespace Z
open PySem PySem.Spec PyProof.Rows L2
section
variable {ρ ρ' ρ1 ρ2 : List Sl} {cs cs' : Cs} {ta tb te tc : TE} {t u : TT} {s z : Sl} {ts us : TS} {N N' : List Sl → Cs → Prop} {T T' : Sl → Cs → Prop} {K : PySem.W.Frag}
theorem sx_frz (j : Nat) {ds : List PyData} (hj : cs[j]? = some (some (.ls ds))) (h1 : 1 ≤ j) (h : Sx ts (frzS j (.list ds) ρ) (cs.set j none) N T) : Sx ts ρ cs N T := fun b as H σ ok D hn ht =>
  h b as H σ (ok.frzS hj (Nat.le_trans b.r1 h1)) D hn ht
theorem sx_weak (ρ' : List Sl) (hl : ρ'.length = ρ.length) (w : ∀ (i : Nat) s, ρ'[i]? = some s → s = .un ∨ ρ[i]? = some s) (h : Sx ts ρ' cs N T) : Sx ts ρ cs N T := fun b as H σ ok D hn ht =>
  h b as H σ (ok.weak hl w) D hn ht
/-! ### targets -/
def Gx (g : TG) (s : Sl) (ρ : List Sl) (cs : Cs) (J : List Nat) (ρ' : List Sl) : Prop := ∀ (b : Bs) (as : List Addr) (H : Hp) (σ : L2.St) (v : V), Ok b as H σ ρ cs → SlR as (b.G as cs H) s v → ∀ Q : L2.St → Hp → Prop,
  (∀ σ', Ok b as H σ' ρ' cs → σ'.length = σ.length → (∀ i, i ∉ J → σ'[i]? = σ[i]?) → Q σ' H) → g v σ H Q
def GxL (g : TGs) (ds : List PyData) (ρ : List Sl) (cs : Cs) (J : List Nat) (ρ' : List Sl) : Prop := ∀ (b : Bs) (as : List Addr) (H : Hp) (σ : L2.St) (vs : List V), Ok b as H σ ρ cs → DqA (b.G as cs H) vs ds → ∀ Q : L2.St → Hp → Prop,
  (∀ σ', Ok b as H σ' ρ' cs → σ'.length = σ.length → (∀ i, i ∉ J → σ'[i]? = σ[i]?) → Q σ' H) → g vs σ H Q
theorem gx_name {j : Nat} : Gx (gName j) s ρ cs [j] (ρ.set j s) := fun b as H σ v ok r Q q =>
  q _ (ok.store r) (List.length_set ..) fun i hi => List.getElem?_set_ne (fun e => hi (by simp [e]))
theorem gxl_nil : GxL gNil [] ρ cs [] ρ := fun b as H σ vs ok r Q q => by
  cases r
  exact ⟨rfl, q σ ok rfl fun _ _ => rfl⟩
theorem gxl_cons {g : TG} {gs : TGs} {d : PyData} {ds : List PyData} {J1 J2 : List Nat} (h1 : Gx g (.d d) ρ cs J1 ρ1) (h2 : GxL gs ds ρ1 cs J2 ρ2) : GxL (gCons g gs) (d :: ds) ρ cs (J1 ++ J2) ρ2 := fun b as H σ vs ok r Q q => by
  cases r with
  | @cons v vs _ _ r1 r2 =>
    exact ⟨v, vs, rfl, h1 b as H σ v ok r1 _ fun σ1 ok1 l1 a1 => h2 b as H σ1 vs ok1 r2 _ fun σ2 ok2 l2 a2 => q σ2 ok2 (l2.trans l1) fun i hi => (a2 i fun m => hi (List.mem_append_right _ m)).trans (a1 i fun m => hi (List.mem_append_left _ m))⟩
theorem gx_tup {n : Nat} {g : TGs} {ds : List PyData} {J : List Nat} (h : GxL g ds ρ cs J ρ') (hn : ds.length = n) : Gx (gTup K n g) (.d (.tuple ds)) ρ cs J ρ' := fun b as H σ v ok r Q q => by
  cases r with
  | @tup a xs _ h1 h2 => exact ⟨a, xs, rfl, SqT.of (ok.h.gle _ _ h1), h2.length.trans hn, h b as H σ xs ok h2 Q q⟩
theorem sx_asgG {g : TG} {J : List Nat} (h : EvA te ρ cs s) (hg : Gx g s ρ cs J ρ') (k : N ρ' cs) : Sx (tAsg te g) ρ cs N T := fun b as H σ ok D hn ht =>
  h b as H σ ok _ fun v H1 e1 r1 => hg b as H1 σ v (ok.mono e1) r1 _ fun σ' ok' _ _ => hn as H1 σ' ρ' cs k ok'
theorem sx_par {i j : Nat} {x y : Sl} (h : EvAs (tCons ta (tCons tb tNil)) ρ cs [x, y]) (k : N ((ρ.set i x).set j y) cs) : Sx (tPar i j (tCons ta (tCons tb tNil))) ρ cs N T := fun b as H σ ok D hn ht =>
  h b as H σ ok _ fun vs H1 e1 r1 => by
    cases r1 with
    | @cons _ v _ vs r1 r2 =>
      cases r2 with
      | @cons _ w _ vs r2 r3 =>
        cases r3
        exact ⟨v, w, rfl, hn as H1 _ _ cs k (((ok.mono e1).store r1).store r2)⟩
/-! ### what is walked -/
def ItOk (J : It) (xs : List PyData) (G0 : Hp) : Prop := ∀ H2 : Hp, Same G0 H2 → (∀ i, i < xs.length → J.go i H2) ∧ J.stop xs.length H2 ∧
  ∀ i x H3, i < xs.length → J.yld i H2 x H3 → Same H2 H3 ∧ ∀ M : Addr → Prop, (∀ a, M a → ∃ o, H2 a = some o) → Same G0 (fz M H2) → ∀ d, xs[i]? = some d → Dq (fz M H3) x d
def EvI (wi : TI) (ρ : List Sl) (cs : Cs) (xs : List PyData) : Prop := ∀ (b : Bs) (as : List Addr) (H : Hp) (σ : L2.St), Ok b as H σ ρ cs → ∀ R : It → Hp → Prop, (∀ J H', Same H H' → ItOk J xs (b.G as cs H') → R J H') → wi σ H R
theorem fz_new {M : Addr → Prop} {H : Hp} (hM : ∀ a, M a → ∃ o, H a = some o) {p : Addr} {o : HO} (hp : H p = none) : fz M (upd H p o) p = some o := by
  rw [fz_out, upd_same]
  intro m
  obtain ⟨u, hu⟩ := hM p m
  rw [hp] at hu; cases hu
theorem ei_list {ds : List PyData} (h : EvA te ρ cs (.d (.list ds))) : EvI (iList K te) ρ cs ds := fun b as H σ ok R q =>
  h b as H σ ok _ fun v H1 e1 r1 => by
    cases r1 with
    | @lst a xs _ h1 h2 =>
      refine ⟨a, rfl, ⟨xs, SqL.of ((ok.mono e1).h.gle _ _ h1)⟩, q _ H1 e1 fun H2 e2 => ?_⟩
      have w := walk_list (K := K) (a := a) (xs := xs)
      have hs : SqL K H2 a xs := SqL.of (e2 _ _ h1)
      refine ⟨fun i hi => w.goes i H2 (by rw [h2.length]; exact hi) hs, by rw [← h2.length]; exact w.stops H2 hs, fun i x H3 hi y => ?_⟩
      obtain ⟨rfl, y2⟩ := w.yields i H2 x H3 (by rw [h2.length]; exact hi) hs y
      refine ⟨Same.refl _, fun M _ eM d hd => ?_⟩
      obtain ⟨u, h3, h4⟩ := h2.get hd
      rw [y2] at h3; cases h3
      exact h4.mono eM
theorem ei_tup {ds : List PyData} (h : EvA te ρ cs (.d (.tuple ds))) : EvI (iTup K te) ρ cs ds := fun b as H σ ok R q =>
  h b as H σ ok _ fun v H1 e1 r1 => by
    cases r1 with
    | @tup a xs _ h1 h2 =>
      refine ⟨a, rfl, ⟨xs, SqT.of ((ok.mono e1).h.gle _ _ h1)⟩, q _ H1 e1 fun H2 e2 => ?_⟩
      have w := walk_tup (K := K) (a := a) (xs := xs)
      have hs : SqT K H2 a xs := SqT.of (e2 _ _ h1)
      refine ⟨fun i hi => w.goes i H2 (by rw [h2.length]; exact hi) hs, by rw [← h2.length]; exact w.stops H2 hs, fun i x H3 hi y => ?_⟩
      obtain ⟨rfl, y2⟩ := w.yields i H2 x H3 (by rw [h2.length]; exact hi) hs y
      refine ⟨Same.refl _, fun M _ eM d hd => ?_⟩
      obtain ⟨u, h3, h4⟩ := h2.get hd
      rw [y2] at h3; cases h3
      exact h4.mono eM
theorem ei_range1 {i : Int} (h : EvA te ρ cs (.d (.int i))) (h1 : -(2 ^ 61) ≤ i) (h2 : i < 2 ^ 61) : EvI (iRng1 (tCons te tNil)) ρ cs ((List.range i.toNat).map fun n => PyData.int (n : Nat)) := fun b as H σ ok R q =>
  h b as H σ ok _ fun v H1 e1 r1 => by
    cases r1
    refine ⟨i, rfl, by omega, by omega, q _ H1 e1 fun H2 e2 => ?_⟩
    have hl : ((List.range i.toNat).map fun n => PyData.int (n : Nat)).length = i.toNat := by simp
    rw [hl]
    refine ⟨fun j hj => hj, Nat.le_refl _, fun j x H3 hj y => ?_⟩
    obtain ⟨rfl, rfl⟩ := y
    refine ⟨Same.refl _, fun M _ _ d hd => ?_⟩
    simp only [List.getElem?_map] at hd
    rw [List.getElem?_range hj] at hd
    cases hd
    rw [Int.zero_add]
    exact .int _
theorem ei_range2 {i j : Int} (h : EvA ta ρ cs (.d (.int i))) (h' : EvA tb ρ cs (.d (.int j))) (h1 : -(2 ^ 61) ≤ i) (h2 : i < 2 ^ 61) (h3 : -(2 ^ 61) ≤ j) (h4 : j < 2 ^ 61) : EvI (iRng2 (tCons ta (tCons tb tNil))) ρ cs ((List.range (j - i).toNat).map fun n => PyData.int (i + (n : Nat))) := fun b as H σ ok R q =>
  h b as H σ ok _ fun v H1 e1 r1 => h' b as H1 σ (ok.mono e1) _ fun w H2 e2 r2 => by
    cases r1; cases r2
    refine ⟨i, j, rfl, by omega, q _ H2 (e1.trans e2) fun H2 e2 => ?_⟩
    have hl : ((List.range (j - i).toNat).map fun n => PyData.int (i + (n : Nat))).length = (j - i).toNat := by simp
    rw [hl]
    refine ⟨fun j hj => hj, Nat.le_refl _, fun m x H3 hj y => ?_⟩
    obtain ⟨rfl, rfl⟩ := y
    refine ⟨Same.refl _, fun M _ _ d hd => ?_⟩
    simp only [List.getElem?_map] at hd
    rw [List.getElem?_range hj] at hd
    cases hd
    exact .int _
/-! ### for -/
theorem sx_for {wi : TI} {g : TG} {xs : List PyData} (Inv : Nat → List Sl → Cs → Prop) (h : EvI wi ρ cs xs) (h0 : Inv 0 ρ cs)
    (hs : ∀ i d ρ cs, xs[i]? = some d → Inv i ρ cs → ∃ J ρ', Gx g (.d d) ρ cs J ρ' ∧ Sx ts ρ' cs (Inv (i + 1)) T) (hd : ∀ ρ cs, Inv xs.length ρ cs → N ρ cs) : Sx (tFor wi g ts) ρ cs N T := fun b as H σ ok D hn ht =>
  h b as H σ ok _ fun J H1 e1 it => by
    let b' : Bs := ⟨b.H0, b.M0, b.R, b.G as cs H1, b.r1⟩
    have up : ∀ {as' : List Addr} {H' : Hp} {cs' : Cs}, OkH b' as' H' cs' → OkH b as' H' cs' := fun k => ⟨k.ext, k.m0, k.rl, k.nd, k.nw, k.nm, k.ce, (ok.mono e1).h.fl.trans k.fl, k.al⟩
    have ok1 := ok.mono e1
    have ok' : Ok b' as H1 σ ρ cs := ⟨⟨ok1.h.ext, ok1.h.m0, ok1.h.rl, ok1.h.nd, ok1.h.nw, ok1.h.nm, ok1.h.ce, Same.refl _, ok1.h.al⟩, ok1.len, ok1.sl⟩
    refine ⟨fun i m σ H => m = xs.length - i ∧ i ≤ xs.length ∧ ∃ as ρ cs, Inv i ρ cs ∧ Ok b' as H σ ρ cs, ⟨xs.length, by simp, Nat.zero_le _, as, ρ, cs, h0, ok'⟩, ?_⟩
    rintro i m σ2 H2 ⟨rfl, hi, as2, ρ2, cs2, inv, ok2⟩
    have eG : Same (b.G as cs H1) H2 := ok2.h.fl.trans ok2.h.gle
    obtain ⟨go, stop, yld⟩ := it H2 eG
    by_cases hlt : i < xs.length
    · refine .inr ⟨go i hlt, fun σ H => i + 1 ≤ xs.length ∧ ∃ as ρ cs, Inv (i + 1) ρ cs ∧ Ok b' as H σ ρ cs, fun σ' H' p' => ⟨xs.length - (i + 1), by omega, rfl, p'⟩, fun x H3 y => ?_⟩
      obtain ⟨e3, yd⟩ := yld i x H3 hlt y
      have ok3 := ok2.mono e3
      obtain ⟨J', ρ', gx, sx⟩ := hs i _ ρ2 cs2 (List.getElem?_eq_getElem hlt) inv
      have dq : Dq (b'.G as2 cs2 H3) x xs[i] := yd (b'.M as2 cs2) (fun a m => ok2.h.live m) ok2.h.fl _ (List.getElem?_eq_getElem hlt)
      refine gx b' as2 H3 σ2 x ok3 dq _ fun σ4 ok4 _ _ => ?_
      exact sx b' as2 H3 σ4 ok4 _ (fun as5 H5 σ5 ρ5 cs5 i5 k5 => ⟨hlt, as5, ρ5, cs5, i5, k5⟩) fun as5 H5 cs5 s v h1 h2 h3 => ht as5 H5 cs5 s v h1 (up h2) h3
    · have e : i = xs.length := by omega
      subst e
      exact .inl ⟨stop, hn as2 H2 σ2 ρ2 cs2 (hd _ _ inv) ⟨up ok2.h, ok2.len, ok2.sl⟩⟩
/-! ### while -/
theorem sx_while (W : Nat → List Sl → Cs → Prop) (m0 : Nat) (h0 : W m0 ρ cs)
    (hs : ∀ m ρ cs, W m ρ cs → ∃ b, EvT t ρ cs b ∧ (b = true → Sx ts ρ cs (fun ρ' cs' => ∃ m', m' < m ∧ W m' ρ' cs') T) ∧ (b = false → N ρ cs)) : Sx (tWhile t ts) ρ cs N T := fun b as H σ ok D hn ht => by
  refine ⟨fun m σ H => ∃ as ρ cs, W m ρ cs ∧ Ok b as H σ ρ cs, ⟨m0, as, ρ, cs, h0, ok⟩, ?_⟩
  rintro m σ2 H2 ⟨as2, ρ2, cs2, w, ok2⟩
  obtain ⟨c, h1, h2, h3⟩ := hs m ρ2 cs2 w
  refine h1 b as2 H2 σ2 ok2 _ fun H3 e3 => ?_
  cases c with
  | true =>
    refine ⟨fun σ H => ∃ m', m' < m ∧ ∃ as ρ cs, W m' ρ cs ∧ Ok b as H σ ρ cs, fun σ' H' q => q, ?_⟩
    exact h2 rfl b as2 H3 σ2 (ok2.mono e3) _ (fun as5 H5 σ5 ρ5 cs5 ⟨m', hm, w'⟩ k5 => ⟨m', hm, as5, ρ5, cs5, w', k5⟩) ht
  | false => exact hn as2 H3 σ2 ρ2 cs2 (h3 rfl) (ok2.mono e3)
/-! ### comprehensions -/
def wp (ρ : List Sl) : List Nat → List Sl
  | [] => ρ
  | v :: vs => (wp ρ vs).set v .un
theorem wp_len (ρ : List Sl) : ∀ vs, (wp ρ vs).length = ρ.length
  | [] => rfl
  | v :: vs => by unfold wp; rw [List.length_set, wp_len ρ vs]
theorem wp_get {ρ : List Sl} {i : Nat} {s : Sl} : ∀ {vs : List Nat}, (wp ρ vs)[i]? = some s → s = .un ∨ (ρ[i]? = some s ∧ i ∉ vs)
  | [], h => .inr ⟨h, by simp⟩
  | v :: vs, h => by
    unfold wp at h
    by_cases e : v = i
    · subst e
      have hv : v < (wp ρ vs).length := by
        have := (List.getElem?_eq_some_iff.mp h).1
        rwa [List.length_set] at this
      rw [List.getElem?_set_self hv] at h
      exact .inl (Option.some.inj h).symm
    · rw [List.getElem?_set_ne e] at h
      rcases wp_get h with h | ⟨h1, h2⟩
      · exact .inl h
      · refine .inr ⟨h1, fun m => ?_⟩
        rcases List.mem_cons.mp m with z | z
        · exact e z.symm
        · exact h2 z
theorem wipe_get {σ : L2.St} {i : Nat} : ∀ {vs : List Nat}, i ∈ vs → i < σ.length → (wipe σ vs)[i]? = some none
  | v :: vs, h, hl => by
    unfold wipe
    by_cases e : v = i
    · subst e
      rw [List.getElem?_set_self (by rw [wipe_length]; exact hl)]
    · rw [List.getElem?_set_ne e]
      rcases List.mem_cons.mp h with z | z
      · exact absurd z.symm e
      · exact wipe_get z hl
theorem Ok.wipe {b : Bs} {as : List Addr} {H : Hp} {σ : L2.St} (ok : Ok b as H σ ρ cs) (vs : List Nat) : Ok b as H (L2.wipe σ vs) (wp ρ vs) cs :=
  ⟨ok.h, by rw [wipe_length, wp_len]; exact ok.len, fun i s h => by
    rcases wp_get h with h | ⟨h1, h2⟩
    · exact .inl h
    · rcases ok.sl i s h1 with h | ⟨v, h3, h4⟩
      · exact .inl h
      · exact .inr ⟨v, by rw [wipe_out h2]; exact h3, h4⟩⟩
theorem wipe_same {σ σ' : L2.St} {vs J : List Nat} (hl : σ'.length = (wipe σ vs).length) (ha : ∀ i, i ∉ J → σ'[i]? = (wipe σ vs)[i]?) (hj : ∀ i ∈ J, i ∈ vs) : wipe σ' vs = wipe σ vs := by
  apply List.ext_getElem?
  intro i
  by_cases hv : i ∈ vs
  · by_cases hi : i < σ.length
    · rw [wipe_get hv (by rw [hl, wipe_length]; exact hi), wipe_get hv hi]
    · rw [List.getElem?_eq_none (by rw [wipe_length, hl, wipe_length]; omega), List.getElem?_eq_none (by rw [wipe_length]; omega)]
  · rw [wipe_out hv, ha i (fun m => hv (hj i m))]
theorem en_lc {τ : Type} {wi : TI} {g : TG} {tt : TT} {vs : List Nat} (ys : List τ) (enc : τ → PyData) (p : τ → Bool) (f : τ → PyData) {xs : List PyData} (h : EvI wi ρ cs xs) (hx : xs = ys.map enc) (hl : ys.length ≤ 10000000)
    (hs : ∀ (i : Nat) y, ys[i]? = some y → ∃ J ρ', Gx g (.d (enc y)) (wp ρ vs) cs J ρ' ∧ (∀ i ∈ J, i ∈ vs) ∧ EvT tt ρ' cs (p y) ∧ (p y = true → EvA te ρ' cs (.d (f y)))) : EvN (tLc wi g tt te vs) ρ cs ((ys.filter p).map f) := fun b as H σ ok Q q =>
  h b as H σ ok _ fun J H1 e1 it D hD => by
    subst hx
    have ok1 := ok.mono e1
    have s0 := same_upd (o := .lst []) hD
    have hDm := ok1.h.fresh hD
    let b' : Bs := ⟨b.H0, fun a => b.M0 a ∨ a = D, b.R, b.G as cs H1, b.r1⟩
    have me : b'.M as cs = fun a => b.M as cs a ∨ a = D := by
      funext a
      refine propext ⟨fun m => ?_, fun m => ?_⟩
      · rcases m with (m | m) | m
        · exact .inl (.inl m)
        · exact .inr m
        · exact .inl (.inr m)
      · rcases m with (m | m) | m
        · exact .inl (.inl m)
        · exact .inr m
        · exact .inl (.inr m)
    have mD : b'.M as cs D := .inl (.inr rfl)
    have gs : Same (b.G as cs H1) (b'.G as cs (upd H1 D (.lst []))) := fun x u h => by
      have hm := fz_not h
      have hx := fz_le x u h
      unfold Bs.G
      rw [me, fz_out]
      · exact s0 x u hx
      · rintro (m | rfl)
        · exact hm m
        · rw [hD] at hx; cases hx
    have ok2 : Ok b' as (upd H1 D (.lst [])) σ ρ cs := by
      have k0 := ok1.mono s0
      refine ⟨⟨k0.h.ext, fun a m => ?_, ok1.h.rl, ok1.h.nd, ok1.h.nw, fun i c a h1 h2 m => ?_, fun i c h1 => ?_, gs, ok1.h.al⟩, ok1.len, fun i s h => (ok1.sl i s h).imp id fun ⟨v, a, c⟩ => ⟨v, a, c.mono gs⟩⟩
      · rcases m with m | rfl
        · exact k0.h.m0 a m
        · exact ⟨_, upd_same⟩
      · rcases m with m | rfl
        · exact ok1.h.nm i c a h1 h2 m
        · exact hDm (.inr ⟨i, c, h1, h2⟩)
      · obtain ⟨a, h2, h3⟩ := ok1.h.ce i c h1
        obtain ⟨o, ho⟩ := h3.some
        exact ⟨a, h2, h3.mono gs ((s0 a o ho).trans ho.symm)⟩
    -- D itself may be written
    have wr : ∀ {H' : Hp} {σ' : L2.St} {ρ' : List Sl} {o : HO}, Ok b' as H' σ' ρ' cs → Ok b' as (upd H' D o) σ' ρ' cs := fun {H' σ' ρ' o} k => by
      have ge : b'.G as cs (upd H' D o) = b'.G as cs H' := fz_upd mD
      have hDo : ∃ u, H' D = some u := k.h.m0 D (.inr rfl)
      refine ⟨⟨fun a u h n => ?_, fun a m => ?_, k.h.rl, k.h.nd, k.h.nw, k.h.nm, fun i c h1 => ?_, by rw [ge]; exact k.h.fl, k.h.al⟩, k.len, fun i s h => by rw [ge]; exact k.sl i s h⟩
      · have ne : a ≠ D := fun z => by
          subst z
          have := ok1.h.fresh0 hD
          rw [show b.H0 a = some u from h] at this; cases this
        rw [upd_ne ne]; exact k.h.ext a u h n
      · by_cases e : a = D
        · exact ⟨o, by rw [e, upd_same]⟩
        · rw [upd_ne e]; exact k.h.m0 a m
      · obtain ⟨a, h2, h3⟩ := k.h.ce i c h1
        have ne : a ≠ D := fun z => k.h.nm i c a h1 h2 (.inr z)
        exact ⟨a, h2, by rw [ge]; exact h3.mono (Same.refl _) (upd_ne ne)⟩
    refine ⟨fun i m H => m = ys.length - i ∧ i ≤ ys.length ∧ Same H1 (upd H D (.lst [])) ∧ Ok b' as H (L2.wipe σ vs) (wp ρ vs) cs ∧ ∃ acc, H D = some (.lst acc) ∧ acc.length ≤ i ∧ DqA (b'.G as cs H) acc (((ys.take i).filter p).map f),
      ⟨ys.length, by simp, Nat.zero_le _, by rw [upd_upd]; exact s0, ok2.wipe vs, [], upd_same, Nat.zero_le _, .nil⟩, ?_⟩
    rintro i m H2 ⟨rfl, hi, sm, okw, acc, hacc, hal, hrep⟩
    have eG : Same (b.G as cs H1) H2 := okw.h.fl.trans okw.h.gle
    obtain ⟨go, stop, yld⟩ := it H2 eG
    rw [List.length_map] at go stop yld
    by_cases hlt : i < ys.length
    · refine .inr ⟨go i hlt, fun H => i + 1 ≤ ys.length ∧ Same H1 (upd H D (.lst [])) ∧ Ok b' as H (L2.wipe σ vs) (wp ρ vs) cs ∧ ∃ acc, H D = some (.lst acc) ∧ acc.length ≤ i + 1 ∧ DqA (b'.G as cs H) acc (((ys.take (i + 1)).filter p).map f), fun H' p' => ⟨ys.length - (i + 1), by omega, rfl, p'⟩, fun x H3 y => ?_⟩
      obtain ⟨e3, yd⟩ := yld i x H3 hlt y
      have ok3 := okw.mono e3
      have hy : ys[i]? = some ys[i] := List.getElem?_eq_getElem hlt
      obtain ⟨J', ρ', gx, hJ, et, ev⟩ := hs i _ hy
      have dq : Dq (b'.G as cs H3) x (enc ys[i]) := yd (b'.M as cs) (fun a m => okw.h.live m) okw.h.fl _ (by rw [List.getElem?_map, hy]; rfl)
      have smx : ∀ {H' : Hp}, Same H2 H' → Same H1 (upd H' D (.lst [])) := fun {H'} e a o h => by
        have := sm a o h
        by_cases ea : a = D
        · rw [ea, upd_same] at this ⊢; exact this
        · rw [upd_ne ea] at this ⊢; exact e a o this
      have tk : (ys.take (i + 1)).filter p = (ys.take i).filter p ++ (if p ys[i] = true then [ys[i]] else []) := by
        rw [List.take_add_one, hy, List.filter_append]
        congr 1
        simp [List.filter_cons]
      refine gx b' as H3 _ x ok3 dq _ fun σ4 ok4 l4 a4 => ⟨wipe_same l4 a4 hJ, ?_⟩
      refine et b' as H3 σ4 ok4 _ fun H4 e4 => ?_
      have e34 := e3.trans e4
      have ok5 := okw.mono e34
      cases hp : p ys[i] with
      | true =>
        rw [if_pos rfl]
        refine ev hp b' as H4 σ4 (ok4.mono e4) _ fun v H5 e5 r5 => ?_
        have e35 := e34.trans e5
        refine ⟨acc, e35 _ _ hacc, ?_, hlt, ?_, wr (okw.mono e35), acc ++ [v], upd_same, by rw [List.length_append]; exact Nat.succ_le_succ hal, ?_⟩
        · exact Nat.lt_of_le_of_lt (Nat.le_trans hal (Nat.le_of_lt (Nat.lt_of_lt_of_le hlt hl))) (by decide)
        · rw [upd_upd]; exact smx e35
        · rw [show b'.G as cs (upd H5 D (.lst (acc ++ [v]))) = b'.G as cs H5 from fz_upd mD, tk, if_pos hp, List.map_append]
          exact (hrep.mono (fz_mono e35)).snoc r5
      | false =>
        rw [if_neg Bool.false_ne_true]
        refine ⟨hlt, smx e34, ok5, acc, e34 _ _ hacc, Nat.le_succ_of_le hal, ?_⟩
        rw [tk, if_neg (by rw [hp]; exact Bool.false_ne_true), List.append_nil]
        exact hrep.mono (fz_mono e34)
    · have e : i = ys.length := by omega
      subst e
      refine .inl ⟨stop, q D acc H2 ?_ (e1.free hD) hacc ?_⟩
      · refine e1.trans fun a o h => ?_
        have := sm a o h
        have ne : a ≠ D := ne_of_none h hD
        rwa [upd_ne ne] at this
      · rw [← me]
        rw [List.take_length] at hrep
        exact hrep
end
/-! ### a def's promise -/
/-- what a body hands back, seen by the caller -/
inductive Fin (cs : Cs) : Sl → Sl → Prop
  | d {s : Sl} : frs [s] = true → Fin cs s s
  | ls {k : Nat} {ds : List PyData} : cs[k]? = some (some (.ls ds)) → Fin cs (.c k) (.d (.list ds))
  | di {k n : Nat} {f : Int → Option PyData} : cs[k]? = some (some (.di f n)) → Fin cs (.c k) (.dd f)
theorem fin_rep {b : Bs} {as : List Addr} {H : Hp} {cs : Cs} (k : OkH b as H cs) {s r : Sl} {v : V} (f : Fin cs s r) (h : SlR as (b.G as cs H) s v) : SlR [] (fz b.M0 H) r v := by
  have up : Same (b.G as cs H) (fz b.M0 H) := fz_anti fun a m => .inl m
  cases f with
  | d hf => exact (h.mono up).fr (frs_ok hf _ List.mem_cons_self)
  | ls hc =>
    obtain ⟨a, h1, rfl, xs, h3, h4⟩ := k.cell hc h
    exact .lst (by rw [fz_out (k.nm _ _ _ hc h1)]; exact h3) (h4.mono up)
  | di hc =>
    obtain ⟨a, h1, rfl, xs, h3, h4⟩ := k.cell hc h
    exact ⟨a, xs, _, rfl, by rw [fz_out (k.nm _ _ _ hc h1)]; exact h3, h4.mono up⟩
/-- the slots and cells a body starts with -/
def st0 (N : List Str) (ss : List Sl) : List Sl := ss ++ List.replicate (N.length - ss.length) .un
def Body (t : TS) (N : List Str) (m : Nat) (ss : List Sl) (r : Sl) : Prop := Sx t (st0 N ss) (List.replicate m none) (fun _ _ => r = .d .none) (fun s cs => Fin cs s r)
theorem paired_get {α β : Type} {F : α → β → Prop} : ∀ {xs : List α} {ys : List β} {i : Nat} {x : α}, Paired F xs ys → xs[i]? = some x → ∃ y, ys[i]? = some y ∧ F x y
  | _, _, _, _, .nil, e => by simp at e
  | _, _, 0, _, .cons h _, e => by simp at e; subst e; exact ⟨_, rfl, h⟩
  | _, _, i + 1, x, .cons _ t, e => by
    obtain ⟨y, h1, h2⟩ := paired_get (i := i) (x := x) t (by simpa using e)
    exact ⟨y, by simpa using h1, h2⟩
theorem body_run {t : TS} {N : List Str} (m : Nat) {pre : List Sl → Sl → Prop} (h : ∀ ss r, pre ss r → ss.length ≤ N.length ∧ frs ss = true ∧ Body t N m ss r) {vs : List V} {H : Hp} {Q : VK} {E : XK} (sp : spP pre vs H Q E) :
    t { nx := fun _ H' => Q .non H', rt := Q } (L2.start N vs) H := by
  obtain ⟨M, ss, r, hM, hp, hpre, q⟩ := sp
  obtain ⟨hl, hf, hb⟩ := h ss r hpre
  have hlen : ss.length = vs.length := Paired.length hp
  have nolv : ∀ a, ¬ lv (List.replicate m none) (List.replicate m 0) a := fun a ⟨k, c, h1, _⟩ => by
    rw [List.getElem?_replicate] at h1
    split at h1 <;> cases h1
  let b : Bs := ⟨H, M, [], fz M H, Nat.zero_le _⟩
  have me : b.M (List.replicate m 0) (List.replicate m none) = M := by
    funext a
    exact propext ⟨fun m => m.elim id fun l => (nolv a l).elim, fun m => .inl m⟩
  have nc : ∀ (k : Nat) (c : Cell), (List.replicate m (none : Option Cell))[k]? = some (some c) → False := fun k c h1 => by
    rw [List.getElem?_replicate] at h1
    split at h1 <;> cases h1
  have ge : b.G (List.replicate m 0) (List.replicate m none) H = fz M H := by unfold Bs.G; rw [me]
  have ok : Ok b (List.replicate m 0) H (L2.start N vs) (st0 N ss) (List.replicate m none) := by
    refine ⟨⟨fun a o h _ => h, hM, fun i a h => by simp [b] at h, fun k k' c c' a h1 => (nc k c h1).elim, fun k c a h1 => (nc k c h1).elim, fun k c a h1 => (nc k c h1).elim, fun k c h1 => (nc k c h1).elim, by rw [ge]; exact Same.refl _, by simp⟩, ?_, fun i s h => ?_⟩
    · unfold L2.start st0
      simp [hlen]
    · unfold st0 at h
      by_cases hi : i < ss.length
      · rw [List.getElem?_append_left hi] at h
        obtain ⟨v, h1, h2⟩ := paired_get hp h
        refine .inr ⟨v, ?_, ?_⟩
        · unfold L2.start
          rw [List.getElem?_append_left (by rw [List.length_map, ← hlen]; exact hi), List.getElem?_map, h1]
          rfl
        · rw [ge]
          exact h2.fr (frs_ok hf _ (List.mem_of_getElem? h))
      · rw [List.getElem?_append_right (by omega), List.getElem?_replicate] at h
        split at h
        · exact .inl (Option.some.inj h).symm
        · cases h
  refine hb b (List.replicate m 0) H _ ok _ (fun as' H' σ' ρ' cs' hr k => ?_) fun as' H' cs' s v hT k hv => ?_
  · subst hr
    exact q _ H' (fun a o h => k.h.ext a o h (by simp [b])) .non
  · exact q v H' (fun a o h => k.ext a o h (by simp [b])) (fin_rep k hT hv)
theorem sp_len {pre : List Sl → Sl → Prop} {n : Nat} (h : ∀ ss r, pre ss r → ss.length = n) (vs : List V) (H : Hp) (Q : VK) (E : XK) (sp : spP pre vs H Q E) : vs.length = n := by
  obtain ⟨M, ss, r, hM, hp, hpre, q⟩ := sp
  rw [← Paired.length hp]
  exact h ss r hpre
end Z
end
section
/-! ZY: rules of the library that the hand layer lacks. -/
namespace Z
open PySem PySem.Spec PyProof.Rows L2
/-! ### a tuple, not often enough -/
theorem mul_none (at_ : Addr) (its : Array Value) (cap : Nat) (dc : Option Addr) (sls : Array (Option Value)) (z : Int) (tk : Tok) (e1 : (decide (z < -(2 ^ 63)) || decide (z ≥ 2 ^ 63)) = false) (e2 : (its.isEmpty || z == 1) = false) (e3 : (decide (z ≤ 0) || its.isEmpty) = true) :
    Meets (Builtin.«tuple.__mul__» ⟨[.ref at_, .int z tk], []⟩) (fun _ R st => st.heap.get? at_ = some { cls := .type "tuple", dict := dc, data := .seq its cap, slots := sls } ∧ R (.ok (.ret (Value.ref st.heap.objs.size))) { st with heap := st.heap.push { cls := Value.type "tuple", data := Data.seq #[] }, toks := st.toks }) :=
  .of_wp fun prog w A R ⟨hp, gs, dr, tks, os⟩ ⟨here, fin⟩ => by
    have f1 := AutoSeq1.idx_int
    wp_walk using wpAny_loadPart' here
    repeat (first
      | (refine wpAny_ite_false (decide_eq_false (e1 ▸ Bool.false_ne_true)) ?_; wp_walk using wpAny_loadPart' here)
      | (refine wpAny_ite_false (decide_eq_false (e2 ▸ Bool.false_ne_true)) ?_; wp_walk using wpAny_loadPart' here)
      | (refine wpAny_ite_true (decide_eq_true e3) ?_; wp_walk using wpAny_loadPart' here))
    exact ⟨_, rfl, fin⟩
def rRep0 (K : PySem.W.Frag) : R2 := fun x y H Q => ∃ l k xs, x = .ref l ∧ y = .int k ∧ SqT K H l xs ∧ k = 0 ∧ xs ≠ [] ∧ xs.length ≤ 1000 ∧ ∀ p, H p = none → Q (.ref p) (upd H p (.tup []))
theorem op_rep0 {X : Cx} : OpR X (binaryOp .Mult) (rRep0 X.K) := fun pp st sg hp x y v u Q iv rx ry hyp => by
  obtain ⟨at_, z, xs, rfl, rfl, sq, rfl, some1, _, fin⟩ := hyp
  cases rx
  obtain ⟨tk, rfl⟩ := ry
  obtain ⟨its, r, ⟨⟨c, dc, dat, sls⟩, here, ec, cap, ed⟩, _⟩ := iv.tuple sq
  cases (show c = .type "tuple" from ec)
  cases (show dat = .seq its.toArray cap from ed)
  have full : its.toArray.isEmpty = false := by
    cases its with
    | cons _ _ => rfl
    | nil => exact (some1 (List.eq_nil_of_length_eq_zero r.length)).elim
  refine wpAny_binaryOp_repeat_ref (T := "tuple") (U := "int") (by decide) ⟨_, here, rfl⟩ (fun q => typeIs_int q 0 tk) noFill_tuple_mul F.fills_int_mul F.slot_int_rmul repeat_tuple F.slot_int_index.lookup ?_
  refine call_meets F.slot_int_rmul (typeIs_int st 0 tk) F.entry_int_rmul (F.args_int_rmul_2 _ _) (int_rmul_tuple 0 tk at_ its.toArray cap dc sls) ⟨here, rfl, ⟨_, here, rfl⟩, ?_⟩
  refine call_meets F.slot_tuple_mul ⟨_, here, rfl⟩ F.entry_tuple_mul (F.args_tuple_mul_2 _ _) (mul_none at_ its.toArray cap dc sls 0 tk rfl (by rw [full]; rfl) rfl) ⟨here, ?_⟩
  exact ⟨.ref st.heap.objs.size, _, iv.laid (t' := st.toks) (o := .tup []) (fun _ _ e => Heap.get?_push_of_some _ e) (Nat.le_refl _) ⟨Nat.zero_le _, [], .nil, IsTup.new _ _⟩, rfl, fin _ (iv.hok.fresh (Nat.le_refl _))⟩
/-! ### t[::-1] -/
section
variable {prog : Program} {w : World} {A : Around} {E : Value → Shared → Prop} {st : Shared}
theorem places_rev {cut : Addr} {tk : Tok} {n : Nat} {Q : Int × Int × Nat → Shared → Prop} (sl : st.heap.IsSliceOf cut .none .none (.int (-1) tk)) (fin : Q ((n : Int) - 1, -1, n) st) : wpAny (model prog w) A (Builtin.Slice.sliceApplied (.ref cut) (pure (n : Int))) Q E st := by
  obtain ⟨o, here, _, dat⟩ := id sl
  have e1 : Builtin.Slice.sliceAdjust none none (-1) (n : Int) = ((n : Int) - 1, -1) := by simp [Builtin.Slice.sliceAdjust]
  have e2 : Builtin.Slice.slicePlaces ((n : Int) - 1) (-1) (-1) = n := by
    simp only [Builtin.Slice.slicePlaces]
    simp
    split <;> omega
  unfold Builtin.Slice.sliceApplied Builtin.Slice.sliceFields
  refine wpAny_bind (wpAny_bind (wpAny_field here dat (x := .none) rfl (wpAny_bind (wpAny_field here dat (x := .none) rfl (wpAny_bind (wpAny_field here dat (x := .int (-1) tk) rfl (wpAny_pure (wpAny_bind (slicePart_int ?_)))))))))
  show wpAny _ _ (if ((-1 : Int) == 0) = true then _ else _) _ _ st
  rw [if_neg (by decide)]
  refine wpAny_bind (slicePart_none (wpAny_bind (slicePart_none (wpAny_bind (wpAny_pure ?_)))))
  show wpAny _ _ (match Builtin.Slice.sliceAdjust none none (-1) (n : Int) with | (lo, hi) => pure (lo, (-1 : Int), Builtin.Slice.slicePlaces lo hi (-1))) _ _ st
  rw [e1]
  show wpAny _ _ (pure ((n : Int) - 1, (-1 : Int), Builtin.Slice.slicePlaces ((n : Int) - 1) (-1) (-1))) _ _ st
  rw [e2]
  exact wpAny_pure fin
theorem picked_rev (xs : Array Value) : ((List.range xs.size).filterMap fun (m : Nat) => xs[(((xs.size : Int) - 1) + (m : Int) * (-1)).toNat]?) = xs.toList.reverse := by
  refine Eq.trans (b := ((List.range xs.size).map fun k => xs.size - 1 - k).filterMap (xs[·]?)) ?_ (by rw [W.krv_range, List.filterMap_reverse, W.krv_all])
  rw [List.filterMap_map]
  refine congrArg (fun f => List.filterMap f (List.range xs.size)) (funext fun m => ?_)
  rw [show (((xs.size : Int) - 1) + (m : Int) * (-1)).toNat = xs.size - 1 - m by omega]
  rfl
theorem get_rev {t cut : Addr} {its : Array Value} {tk : Tok} {Q : Value → Shared → Prop} (tp : IsTup st.heap t its) (sl : st.heap.IsSliceOf cut .none .none (.int (-1) tk)) (small : its.size ≤ sizeLine)
    (fin : Q (.ref st.heap.objs.size) { st with heap := st.heap.push { cls := .type "tuple", data := .seq its.toList.reverse.toArray } }) : wpAny (model prog w) A (getItem (.ref t) (.ref cut)) Q E st := by
  obtain ⟨o, here, ec, _⟩ := id sl
  have ty : st.TypeIs (.ref cut) "slice" := ⟨o, here, ec⟩
  have fits : sizeOk (.seq its.toList.reverse.toArray) := show its.toList.reverse.toArray.size ≤ sizeLine by simpa using small
  unfold getItem
  try (with_reducible (refine wpAny_holding ?_))
  try (refine wpAny_bind (wpAny_pure ?_))
  refine wpAny_bind (wpAny_sequenceKey tp.typeIs (by decide) ?_)
  refine wpAny_bind <| wpAny_callSpecial?_slot (name := Str.ofString "__getitem__") tp.typeIs slot_tuple_getitem (wpAny_call_entry slot_tuple_getitem tp.typeIs entry_tuple_getitem ?_ (args_tuple_getitem _ _))
  show wpAny _ _ (Builtin.Tuple.tupleItemsOf (.ref t) >>= fun _ => _) _ _ st
  refine wpAny_bind (tupleItemsOf_ tp (wpAny_bind (wpAny_typeOf ty ?_)))
  rw [if_pos (by decide)]
  refine wpAny_bind (places_rev sl ?_)
  show wpAny _ _ (if ((((its.size : Int) - 1) == 0 && (-1 : Int) == 1 && its.size == its.size)) = true then _ else _) _ _ st
  rw [if_neg (by simp), picked_rev]
  first
    | exact wpAny_bind (m := Builtin.Tuple.tupleExact _) (wpAny_newObj_type (wpAny_pure ⟨_, rfl, wpAny_pure fin⟩) fits)
    | exact wpAny_bind (wpAny_bind (m := Builtin.Tuple.tupleExact _) (wpAny_newObj_type (wpAny_pure (wpAny_pure ⟨_, rfl, wpAny_pure fin⟩)) fits))
    | exact wpAny_bind (m := Builtin.Tuple.tupleExact _) (wpAny_newObj_type (wpAny_bind (wpAny_pure (wpAny_pure ⟨_, rfl, wpAny_pure fin⟩))) fits)
    | exact wpAny_bind (wpAny_bind (m := Builtin.Tuple.tupleExact _) (wpAny_newObj_type (wpAny_pure ⟨_, rfl, wpAny_pure fin⟩) fits))
end
section
variable {X : Cx}
def tRevT (K : PySem.W.Frag) (te : TE) : TE := fun σ H Q => te σ H fun x H1 => ∃ a xs, x = .ref a ∧ SqT K H1 a xs ∧ ∀ p, H1 p = none → Q (.ref p) (upd H1 p (.tup xs.reverse))
theorem pe_revT {e : Expr} {te : TE} {k : Nat} {p1 p2 p3 pos : Pos} (he : PE X e te) : PE X (.Subscript e (.Slice none none (some (.UnaryOp .USub (.Constant (.int 1) k p1) p2)) p3) pos) (tRevT X.K te) := by
  refine ⟨fun pp st sg hp Q iv hyp => Subscript_ (thn (he.run pp st sg hp _ iv hyp) fun v t1 ⟨x, hp1, iv1, rx, a, xs, ex, sq, fin⟩ => ?_)⟩
  subst ex
  cases rx
  have back : PO X (some (.UnaryOp .USub (.Constant (.int 1) k p1) p2)) (tPart (tUn (rU fun i => .int (-i)) (tC (.int 1)))) := po_some (pe_un un_neg pe_int)
  refine wpAny_Slice (thn (po_none.run pp t1 sg hp1 (fun o h => o = none ∧ h = hp1) iv1 ⟨rfl, rfl⟩) fun vl t2 ⟨l, hp2, iv2, rl, el, eh⟩ => ?_)
  subst el eh
  refine thn (po_none.run pp t2 sg hp2 (fun o h => o = none ∧ h = hp2) iv2 ⟨rfl, rfl⟩) fun vu t3 ⟨u, hp3, iv3, ru, eu, eh⟩ => ?_
  subst eu eh
  refine thn (back.run pp t3 sg hp3 (fun o h => o = some (-1) ∧ h = hp3) iv3 ⟨1, rfl, -1, rfl, rfl, rfl⟩) fun vs t4 ⟨o, hp4, iv4, rs, eo, eh⟩ => ?_
  subst eo eh
  have iv5 : Inv X pp sg hp4 { t4 with heap := t4.heap.push { cls := .type "slice", data := .fields #[vl, vu, vs] } } := iv4.kept (t' := t4.toks) fun _ _ e => Heap.get?_push_of_some _ e
  obtain ⟨its, r, tp, small⟩ := iv5.tuple sq
  have len := r.length
  cases rl
  cases ru
  cases rs
  show wpAny (model X.prog X.w) X.A (subscriptTail e (.Slice none none (some (.UnaryOp .USub (.Constant (.int 1) k p1) p2)) p3) (.ref a) (.ref t4.heap.objs.size)) (EP X pp sg Q) X.xe { t4 with heap := t4.heap.push { cls := .type "slice", data := .fields #[.none, .none, .int (-1) _] } }
  refine tail_any (ops := [.ref a, .ref t4.heap.objs.size]) tp.typeIs slot_tuple_getitem.lookup (get_rev tp (Heap.IsSliceOf.new _ _ _ _) (by rw [List.size_toArray]; omega) ?_) (by with_unfolding_all rfl)
  exact ⟨.ref _, _, iv5.laid (t' := t4.toks) (o := .tup xs.reverse) (fun _ _ e => Heap.get?_push_of_some _ e) (Nat.le_refl _) ⟨by rw [List.length_reverse]; exact small, _, r.reverse, IsTup.new _ _⟩, rfl, fin _ (iv5.hok.fresh (Nat.le_refl _))⟩
end
end Z
namespace Z
open PySem PySem.Spec PyProof.Rows L2
section
variable {X : Cx}
def tChain3 (ta tb tc td : TE) : TE := fun σ H Q => ta σ H fun x H1 => tb σ H1 fun y H2 => ∃ i j, x = .int i ∧ y = .int j ∧ if i ≤ j then tc σ H2 fun z H3 => ∃ m, z = .int m ∧ if j ≤ m then td σ H3 fun u H4 => ∃ n, u = .int n ∧ Q (.bl (decide (m ≤ n))) H4 else Q (.bl false) H3 else Q (.bl false) H2
theorem pe_chain3 {a b c d : Expr} {pos : Pos} {ta tb tc td : TE} (ha : PE X a ta) (hb : PE X b tb) (hc : PE X c tc) (hd : PE X d td)
    (hm : lastMarks [.LtE, .LtE, .LtE] [b, c, d] = false := by with_unfolding_all rfl) : PE X (.Compare a [.LtE, .LtE, .LtE] [b, c, d] pos) (tChain3 ta tb tc td) := by
  refine ⟨fun pins s σ H Q I h => ?_⟩
  refine Compare_chain (thn (ha.run pins s σ H _ I h) fun v s1 ⟨x, H1, I1, r1, q1⟩ => chain_link (thn (hb.run pins s1 σ H1 _ I1 q1) fun u s2 ⟨y, H2, I2, r2, i, j, ex, ey, q2⟩ =>
    thn (op_le pins s2 σ H2 x y v u (fun z H3 => z = .bl (decide (i ≤ j)) ∧ H3 = H2) I2 r1 r2 ⟨i, j, ex, ey, rfl, rfl⟩) fun d' s3 ⟨z, H3, I3, r3, e, eh⟩ => ?_)) hm
  subst e eh
  cases r3
  refine wpAny_truthy_bool ?_
  by_cases hij : i ≤ j
  · rw [if_pos hij] at q2
    rw [decide_eq_true hij]
    refine ite_tt (chain_link (thn (hc.run pins s3 σ H3 _ I3 q2) fun w' s4 ⟨z', H4, I4, r4, m, em, q4⟩ =>
      thn (op_le pins s4 σ H4 y z' u w' (fun z H3 => z = .bl (decide (j ≤ m)) ∧ H3 = H4) I4 r2 r4 ⟨j, m, ey, em, rfl, rfl⟩) fun d' s5 ⟨z, H5, I5, r5, e, eh⟩ => ?_))
    subst e eh
    cases r5
    refine wpAny_truthy_bool ?_
    by_cases hjm : j ≤ m
    · rw [if_pos hjm] at q4
      rw [decide_eq_true hjm]
      exact ite_tt (chain_last (thn (hd.run pins s5 σ H5 _ I5 q4) fun w2 s6 ⟨z2, H6, I6, r6, n, en, q6⟩ => op_le pins s6 σ H6 z' z2 w' w2 Q I6 r4 r6 ⟨m, n, em, en, q6⟩))
    · rw [if_neg hjm] at q4
      rw [decide_eq_false hjm]
      exact ite_ff ⟨.bl false, H5, I5, rfl, q4⟩
  · rw [if_neg hij] at q2
    rw [decide_eq_false hij]
    exact ite_ff ⟨.bl false, H3, I3, rfl, q2⟩
end
end Z
namespace Z
open PySem PySem.Spec PyProof.Rows L2
/-- a walk that gives pairs, as turns of a loop: core is what the iterator's own cells are, D d what is walked over -/
theorem turn_pair {P : Program} {w : World} {K : PySem.W.Frag} {elts : List Expr} {kk : Nat} {tpos : Pos} {J : It} {I : Addr} {fp wr : List Addr} {core : Nat → Heap → Prop} {ι : Type} {D : ι → Heap → Prop} {fd : ι → List Addr} {n : ι → Nat} {Pt : ι → Nat → Array Value → Prop} {St : ι → Nat → Heap → Prop} {Mid : ι → Nat → Addr → Heap → Prop}
    (walks : ∀ (d : ι) (A : Around), A.handled = none → WalksT P w A I (fd d) wr (n d) (Pt d) (St d) (Mid d)) (mem : I ∈ fp) (sub : ∀ c ∈ wr, c ∈ fp)
    (obj : ∀ i h, core i h → ∀ c ∈ fp, ∃ o, h.get? c = some o ∧ ∀ v, o.data ≠ .cell v) (keep : ∀ i h h', core i h → (∀ c ∈ fp, ∀ o, h.get? c = some o → h'.get? c = some o) → core i h')
    (of : ∀ d i h, core i h → D d h → St d i h) (to : ∀ d i h, St d i h → core i h)
    (here : ∀ (X : Cx), X.K = K → ∀ {pins s σ H i}, Inv X pins σ H s → J.go i H → ∃ d x y, D d s.heap ∧ i < n d ∧ (∀ vals, Pt d i vals → ∃ u v, vals = #[u, v] ∧ RelV x u ∧ RelV y v) ∧ ∀ T, H T = none → J.yld i H (.ref T) (upd H T (.tup [x, y])))
    (over : ∀ (X : Cx), X.K = K → ∀ {pins s σ H i}, Inv X pins σ H s → J.stop i H → ∃ d, D d s.heap ∧ i = n d)
    (self : ∀ (A : Around) (i : Nat) (s : Shared) (Q : Value → Shared → Prop) (E : Value → Shared → Prop), core i s.heap → Q (.ref I) s → wpAny (model P w) A (pyIter (.ref I)) Q E s) : Turn P w K (.Tuple elts kk tpos) J fp I core where
  mem := mem
  obj := obj
  keep := keep
  self := self
  item X eP ew eK calm i pins s σ H E iv free cr go := by
    subst eP ew
    obtain ⟨d, x, y, hd, lt, vals2, yields⟩ := here X eK iv go
    have W := walks d X.A (iv.ok.hd calm)
    refine W.item i s _ E lt (of d i _ cr hd) fun T vals h1 tk pt le tup mid fr1 => ⟨_, rfl, ?_⟩
    obtain ⟨u, v, rfl, ru, rv⟩ := vals2 vals pt
    refine W.go elts kk tpos i T { s with heap := h1, toks := tk } _ E mid fun h2 st2 fr2 => ?_
    have new : ObjOk X.prog X.w (upd H T (.tup [x, y])) h2 T (.tup [x, y]) := ⟨by show 2 ≤ sizeLine; decide, [u, v], .cons ru (.cons rv .nil), tup.at fun o e => fr2 T o (W.apart i T h1 mid) e⟩
    refine ⟨.ref T, _, iv.turnedNew (t' := tk) (ch := fp) (fun c o out e => fr2 c o (fun m => out (sub c m)) (fr1 c o (fun m => out (sub c m)) e)) free le new, rfl, yields T (iv.hok.fresh le), to d _ _ st2, fun c hc => ?_⟩
    obtain ⟨o, e, _⟩ := obj i _ cr c hc
    exact (upd_ne (Nat.ne_of_lt (Nat.lt_of_lt_of_le (Heap.lt_size e) le))).trans (free c hc).1
  done X eP ew eK calm i pins s σ H E iv free cr stop := by
    subst eP ew
    obtain ⟨d, hd, e⟩ := over X eK iv stop
    have st := of d i _ cr hd
    rw [e] at st
    exact (walks d X.A (iv.ok.hd calm)).done s _ E st fun h' tk fr => ⟨rfl, iv.turnedL (t' := tk) (ch := fp) (fun c o out q => fr c o (fun m => out (sub c m)) q) free⟩
/-- what stands at i in both -/
theorem vals_at {xs : List V} {us : List Value} {i : Nat} {x : V} {v : Value} (r : Vals xs us) (hx : xs[i]? = some x) (hv : us.toArray[i]? = some v) : RelV x v := by
  obtain ⟨u, e, ru⟩ := r.get hx
  have e' : us[i]? = some v := by simpa using hv
  rw [e] at e'
  exact Option.some.inj e' ▸ ru
/-! ### enumerate of a tuple -/
section
variable {prog : Program} {w : World} {s : Shared} {A : Around} {E : Value → Shared → Prop}
abbrev enumNew (h : Heap) (l : Addr) : Heap := (h.push { cls := .type "tuple_iterator", data := .fields #[.ref l, .int 0 0] }).push { cls := .type "enumerate", data := .fields #[.none, .bool false, .ref h.objs.size, rawInt 0, .none, .none] }
theorem enum_new (l : Addr) (items : Array Value) : Meets (Builtin.«enumerate.__new__» ⟨[.type "enumerate", .ref l], []⟩) (fun _ R s => s.heap.IsTuple l items ∧ R (.ok (.ret (.ref (s.heap.push { cls := .type "tuple_iterator", data := .fields #[.ref l, .int 0 0] }).objs.size))) { s with heap := enumNew s.heap l }) :=
  .of_wp fun prog w A R ⟨hp, g, d, tk, os⟩ ⟨tl, fin⟩ => by
    have below := sub_enumerate
    have tl' : Heap.IsTuple (Shared.heap ⟨hp, g, d, tk, os⟩) l items := tl
    wp_walk using wpAny_pyIter_tuple tl'
    refine wpAny_stack_any fun st => wpAny_pure ?_
    split
    · rename_i cl _ _ _ _ _
      cases (cl == Value.type "enumerate") <;> (wp_walk using wpAny_pyIter_tuple tl'; exact ⟨_, rfl, fin⟩)
    · wp_walk using wpAny_pyIter_tuple tl'
      exact ⟨_, rfl, fin⟩
theorem enum_tuple {l : Addr} {items : Array Value} {Q : Value → Shared → Prop} (tl : s.heap.IsTuple l items) (fin : ∀ h', IsEnum h' (s.heap.objs.size + 1) s.heap.objs.size 0 .none → h'.IsTupleIter s.heap.objs.size l 0 → (∀ c o, s.heap.get? c = some o → h'.get? c = some o) → Q (.ref (s.heap.objs.size + 1)) { s with heap := h' }) :
    wpAny (model prog w) A (call (.type "enumerate") [.ref l]) Q E s := by
  have sz : (s.heap.push { cls := .type "tuple_iterator", data := .fields #[.ref l, .int 0 0] }).objs.size = s.heap.objs.size + 1 := Heap.size_push ..
  have en : IsEnum (enumNew s.heap l) (s.heap.push { cls := .type "tuple_iterator", data := .fields #[.ref l, .int 0 0] }).objs.size s.heap.objs.size 0 .none := Heap.get?_push_size _ rfl
  rw [sz] at en
  refine callType_new F.called_enumerate (by decide) (F.typeCall_enumerate_1 _) (F.newCall_enumerate_1 _) (fun _ => F.args_object_init_2 _ _) F.entry_enumerate_new (enum_new l items) ⟨tl, ?_⟩
  rw [sz]
  exact ⟨⟨_, en, rfl⟩, fin _ en ⟨_, Heap.get?_push_of_some _ (Heap.get?_push_size _ rfl), rfl, rfl⟩ fun c o x => Heap.get?_push_of_some _ (Heap.get?_push_of_some _ x)⟩
end
def IteT (K : PySem.W.Frag) (a : Addr) : It :=
  ⟨fun i H => ∃ (xs : List V) (x : V), SqT K H a xs ∧ xs[i]? = some x, fun i H v H' => ∃ T x, v = .ref T ∧ H T = none ∧ H' = upd H T (.tup [.int (i : Nat), x]) ∧ ∀ xs, SqT K H a xs → xs[i]? = some x, fun i H => ∃ xs : List V, SqT K H a xs ∧ xs.length = i⟩
theorem turn_enumT {P : Program} {w : World} {K : PySem.W.Frag} {elts : List Expr} {kk : Nat} {tpos : Pos} {a e it : Addr} (n1 : e ≠ it) (n2 : e ≠ a) (n3 : a ≠ it) :
    Turn P w K (.Tuple elts kk tpos) (IteT K a) [e, it] e (fun i h => (∃ old, IsEnum h e it (0 + (i : Int)) old) ∧ h.IsTupleIter it a i) :=
  turn_pair (ι := Array Value) (D := fun d h => h.IsTuple a d) (fun d A calm => WalksT.enumFrom 0 (Draws.tuple (A := A.in1) calm it a n3 d) e n1 (by simp [n1, n2]) (by simp)) (by simp) (fun c m => m)
    (fun i h ⟨⟨old, h1⟩, o, h2, _, h3⟩ c m => by
      have m' : c = e ∨ c = it := by simpa using m
      rcases m' with q | q
      · rw [q]; exact ⟨_, h1, fun v z => Data.noConfusion z⟩
      · exact ⟨o, q ▸ h2, fun v z => by rw [h3] at z; cases z⟩)
    (fun i h h' ⟨⟨old, h1⟩, h2⟩ k => ⟨⟨old, k e (by simp) _ h1⟩, h2.at fun o q => k it (by simp) o q⟩) (fun d i h ⟨h1, h2⟩ hd => ⟨h1, h2, hd⟩) (fun d i h ⟨h1, h2, _⟩ => ⟨h1, h2⟩)
    (fun X eK {pins s σ H i} iv ⟨xs, x, sq, hx⟩ => by
      subst eK
      obtain ⟨its, r, tp, _⟩ := iv.tuple sq
      have lt := (List.getElem?_eq_some_iff.mp hx).1
      refine ⟨its.toArray, .int (i : Nat), x, tp, by rw [List.size_toArray, ← r.length]; exact lt, fun vals pt => ?_, fun T hT => ⟨T, x, rfl, hT, rfl, fun ys hy => by rw [iv.tuple_inj hy sq]; exact hx⟩⟩
      obtain ⟨t, v, hv, rfl⟩ := pt
      exact ⟨_, v, rfl, ⟨t, by rw [Int.zero_add]⟩, vals_at r hx hv⟩)
    (fun X eK {pins s σ H i} iv ⟨xs, sq, hl⟩ => by
      subst eK
      obtain ⟨its, r, tp, _⟩ := iv.tuple sq
      exact ⟨its.toArray, tp, by rw [List.size_toArray, ← r.length, hl]⟩)
    (fun A i s Q E ⟨⟨_, h1⟩, _⟩ q => wpAny_pyIter_enum h1 q)
def iEnumX (K : PySem.W.Frag) (ta : TA) : TI := fun σ H R => ta σ H fun vs H1 => ∃ a xs, vs = [.ref a] ∧ ((SqL K H1 a xs ∧ R (Ite K a) H1) ∨ (SqT K H1 a xs ∧ R (IteT K a) H1))
theorem pi_enumX {X : Cx} {e : Expr} {ta : TA} {p pos tpos : Pos} {elts : List Expr} {kk : Nat} (hg : Gl X "enumerate") (hm : X.mg "enumerate" = none) (ha : PA X [e] ta) (hs : starEach [e] X.env = [(false, eval e X.env)] := by rfl) :
    PI X (.Tuple elts kk tpos) (.Call (.Name "enumerate" p) [e] [] pos) (iEnumX X.K ta) := by
  refine ⟨fun pp st sg hp R iv hyp => Call_ (ld_blt iv hg hm boot_enumerate (PyProof.Rows.callWith_type1 (thn (ha.run pos pp st sg hp _ iv hyp) fun us t1 ⟨vs, hp1, iv1, rel, a, xs, ex, alt⟩ => ?_) hs rfl))⟩
  subst ex
  cases rel with
  | cons r rr =>
    cases rr
    cases r
    have new : ∀ c ∈ [t1.heap.objs.size + 1, t1.heap.objs.size], FpOk X pp hp1 c := fun c hc => by
      have le : t1.heap.objs.size ≤ c := by
        have hc' : c = t1.heap.objs.size + 1 ∨ c = t1.heap.objs.size := by simpa using hc
        rcases hc' with q | q <;> rw [q]
        · exact Nat.le_succ _
        · exact Nat.le_refl _
      exact iv1.fpOk le (iv1.hok.fresh le)
    rcases alt with ⟨sq, go⟩ | ⟨sq, go⟩
    · obtain ⟨its, _, pl, _⟩ := iv1.list sq
      exact call_enumerate_list pl.isList fun h' en li _ k => wpAny_pyIter_enum en ⟨_, _, _, _, hp1, rfl, iv1.kept (t' := t1.toks) k, turn_enum a _ _, ⟨⟨.none, en⟩, li, Nat.succ_ne_self _⟩, new, go⟩
    · obtain ⟨its, _, tp, _⟩ := iv1.tuple sq
      obtain ⟨o, ho, _⟩ := id tp
      have lt := Heap.lt_size ho
      exact enum_tuple (show t1.heap.IsTuple a its.toArray from tp) fun h' en ti k => wpAny_pyIter_enum en ⟨_, _, _, _, hp1, rfl, iv1.kept (t' := t1.toks) k, turn_enumT (a := a) (Nat.succ_ne_self _) (Nat.ne_of_gt (Nat.lt_succ_of_lt lt)) (Nat.ne_of_lt lt), ⟨⟨.none, en⟩, ti⟩, new, go⟩
/-! ### zip of a list with a tuple -/
theorem zip_lt {prog : Program} {w : World} {A : Around} {E : Value → Shared → Prop} {s : Shared} {a b : Addr} {xs ys : Array Value} {Q : Value → Shared → Prop} (hl : s.heap.IsList a xs) (ht : s.heap.IsTuple b ys)
    (fin : ∀ h', IsZip h' (s.heap.objs.size + 4) (s.heap.objs.size + 2) (s.heap.objs.size + 3) .none ∧ IsPair h' (s.heap.objs.size + 2) (.ref s.heap.objs.size) (.ref (s.heap.objs.size + 1)) ∧ (∃ x y, IsPair h' (s.heap.objs.size + 3) x y) ∧ h'.IsListIter s.heap.objs.size a 0 ∧ h'.IsTupleIter (s.heap.objs.size + 1) b 0 →
      h'.objs.size = s.heap.objs.size + 5 → (∀ c o, s.heap.get? c = some o → h'.get? c = some o) → Q (.ref (s.heap.objs.size + 4)) { s with heap := h' }) : wpAny (model prog w) A (call (.type "zip") [.ref a, .ref b]) Q E s :=
  zip_begins2 (begins_list a xs) (begins_tuple b ys) hl ht fun h' z1 z2 z3 z4 z5 z6 z7 => fin h' ⟨z1, z2, ⟨_, _, z3⟩, ⟨_, z4, rfl, rfl⟩, ⟨_, z5, rfl, rfl⟩⟩ z6 z7
theorem sep_of {z TI TO i1 i2 a b : Addr} (D : ZipApart z TI TO i1 i2 a b) : ZipSep2 z TI TO i1 i2 [i1, a] [i2, b] :=
  ⟨D.TIz, D.TOz, D.TITO, D.TIi1, by simp, by simp [Ne.symm D.i1z, Ne.symm D.l1z], by simp [D.TOi1, Ne.symm D.l1TO], D.TIi2, by simp, by simp [Ne.symm D.i2z, Ne.symm D.l2z], by simp [D.TOi2, Ne.symm D.l2TO], by simp [D.i12, Ne.symm D.l2i1], by simp [Ne.symm D.i12, Ne.symm D.l1i2]⟩
theorem in5 {c z TI TO i1 i2 : Addr} (m : c ∈ [z, TI, TO, i1, i2]) : c = z ∨ c = TI ∨ c = TO ∨ c = i1 ∨ c = i2 := by simpa using m
/-- the list at a, the tuple at b, in new pairs -/
def ItzLT (K : PySem.W.Frag) (a b : Addr) : It :=
  ⟨fun i H => ∃ (xs ys : List V) (x y : V), SqL K H a xs ∧ SqT K H b ys ∧ xs[i]? = some x ∧ ys[i]? = some y,
    fun i H v H' => ∃ T x y, v = .ref T ∧ H T = none ∧ H' = upd H T (.tup [x, y]) ∧ (∀ xs, SqL K H a xs → xs[i]? = some x) ∧ ∀ ys, SqT K H b ys → ys[i]? = some y,
    fun i H => ∃ xs ys : List V, SqL K H a xs ∧ SqT K H b ys ∧ (xs.length = i ∧ i ≤ ys.length ∨ ys.length = i ∧ i ≤ xs.length)⟩
theorem turn_zipLT {P : Program} {w : World} {K : PySem.W.Frag} {elts : List Expr} {kk : Nat} {tpos : Pos} {a b z TI TO i1 i2 : Addr} (D : ZipApart z TI TO i1 i2 a b) :
    Turn P w K (.Tuple elts kk tpos) (ItzLT K a b) [z, TI, TO, i1, i2] z (fun i h => IsZip h z TI TO .none ∧ IsPair h TI (.ref i1) (.ref i2) ∧ (∃ x y, IsPair h TO x y) ∧ h.IsListIter i1 a i ∧ h.IsTupleIter i2 b i) :=
  turn_pair (ι := Array Value × Array Value) (D := fun d h => h.IsList a d.1 ∧ h.IsTuple b d.2)
    (fun d A calm => WalksT.zipD2 (sep_of D) (Draws.list (A := A.in1) calm i1 a D.l1i1 d.1) (Draws.tuple (A := A.in1) calm i2 b D.l2i2 d.2)) (by simp)
    (fun c m => by
      have m' : c = z ∨ c = TO ∨ c = i1 ∨ c = i2 := by simpa using m
      rcases m' with q | q | q | q <;> simp [q])
    (fun i h ⟨h1, h2, ⟨x, y, h3⟩, ⟨o4, h4, _, d4⟩, ⟨o5, h5, _, d5⟩⟩ c m => by
      rcases in5 m with q | q | q | q | q
      · rw [q]; exact ⟨_, h1, fun v z => Data.noConfusion z⟩
      · rw [q]; exact ⟨_, h2, fun v z => Data.noConfusion z⟩
      · rw [q]; exact ⟨_, h3, fun v z => Data.noConfusion z⟩
      · exact ⟨o4, q ▸ h4, fun v z => by rw [d4] at z; cases z⟩
      · exact ⟨o5, q ▸ h5, fun v z => by rw [d5] at z; cases z⟩)
    (fun i h h' ⟨h1, h2, ⟨x, y, h3⟩, h4, h5⟩ k => ⟨k z (by simp) _ h1, k TI (by simp) _ h2, ⟨x, y, k TO (by simp) _ h3⟩, h4.at fun o q => k i1 (by simp) o q, h5.at fun o q => k i2 (by simp) o q⟩)
    (fun d i h ⟨h1, h2, h3, h4, h5⟩ ⟨d1, d2⟩ => ⟨h1, h2, h3, ⟨h4, d1⟩, ⟨h5, d2⟩⟩) (fun d i h ⟨h1, h2, h3, ⟨h4, _⟩, ⟨h5, _⟩⟩ => ⟨h1, h2, h3, h4, h5⟩)
    (fun X eK {pins s σ H i} iv ⟨xs, ys, x, y, sx, sy, hx, hy⟩ => by
      subst eK
      obtain ⟨its, r, pl, _⟩ := iv.list sx
      obtain ⟨its2, r2, tp, _⟩ := iv.tuple sy
      have l1 := (List.getElem?_eq_some_iff.mp hx).1
      have l2 := (List.getElem?_eq_some_iff.mp hy).1
      rw [r.length] at l1
      rw [r2.length] at l2
      refine ⟨(its.toArray, its2.toArray), x, y, ⟨pl.isList, tp⟩, by simp only [List.size_toArray]; omega, fun vals ⟨u, v, hu, hv, e⟩ => ⟨u, v, e, vals_at r hx hu, vals_at r2 hy hv⟩, fun T hT => ⟨T, x, y, rfl, hT, rfl, fun l hl => by rw [iv.list_inj hl sx]; exact hx, fun l hl => by rw [iv.tuple_inj hl sy]; exact hy⟩⟩)
    (fun X eK {pins s σ H i} iv ⟨xs, ys, sx, sy, e⟩ => by
      subst eK
      obtain ⟨its, r, pl, _⟩ := iv.list sx
      obtain ⟨its2, r2, tp, _⟩ := iv.tuple sy
      rw [r.length, r2.length] at e
      exact ⟨(its.toArray, its2.toArray), ⟨pl.isList, tp⟩, by simp only [List.size_toArray]; omega⟩)
    (fun A i s Q E st q => wpAny_pyIter_zip st.1 q)
def iZipX (K : PySem.W.Frag) (ta : TA) : TI := fun σ H R => ta σ H fun vs H1 => ∃ a b xs ys, vs = [.ref a, .ref b] ∧ ((SqL K H1 a xs ∧ SqT K H1 b ys ∧ R (ItzLT K a b) H1) ∨ (SqT K H1 a xs ∧ SqT K H1 b ys ∧ R (RZ.ItzT K a b) H1))
theorem pi_zipX {X : Cx} {e e2 : Expr} {ta : TA} {p pos tpos : Pos} {elts : List Expr} {kk : Nat} (hg : Gl X "zip") (hm : X.mg "zip" = none) (ha : PA X [e, e2] ta) (hs : starEach [e, e2] X.env = (false, eval e X.env) :: starEach [e2] X.env := by rfl)
    (hpl : (backTo pos (starEach [e2] X.env)).any (·.1) = false := by rfl) : PI X (.Tuple elts kk tpos) (.Call (.Name "zip" p) [e, e2] [] pos) (iZipX X.K ta) := by
  refine ⟨fun pp st sg hp R iv hyp => Call_ (ld_blt iv hg hm PyProof.Rows.boot_zip (PyProof.Rows.callWith_type1 (thn (ha.run pos pp st sg hp _ iv hyp) fun us t1 ⟨vs, hp1, iv1, rel, a, b, xs, ys, ex, alt⟩ => ?_) hs hpl))⟩
  subst ex
  cases rel with
  | cons r rr =>
    cases rr with
    | cons r' rr =>
      cases rr
      cases r
      cases r'
      have new : ∀ c ∈ [t1.heap.objs.size + 4, t1.heap.objs.size + 2, t1.heap.objs.size + 3, t1.heap.objs.size, t1.heap.objs.size + 1], FpOk X pp hp1 c := fun c hc => by
        have le : t1.heap.objs.size ≤ c := by
          rcases in5 hc with q | q | q | q | q <;> rw [q]
          · exact Nat.le_add_right _ _
          · exact Nat.le_add_right _ _
          · exact Nat.le_add_right _ _
          · exact Nat.le_refl _
          · exact Nat.le_add_right _ _
        exact iv1.fpOk le (iv1.hok.fresh le)
      have live : ∀ {c : Addr} {its : Array Value}, t1.heap.IsTuple c its → c < t1.heap.objs.size := fun ⟨_, ho, _⟩ => Heap.lt_size ho
      rcases alt with ⟨sx, sy, go⟩ | ⟨sx, sy, go⟩
      · obtain ⟨its, _, pl, _⟩ := iv1.list sx
        obtain ⟨its2, _, tp, _⟩ := iv1.tuple sy
        have tp' : t1.heap.IsTuple b its2.toArray := tp
        exact zip_lt pl.isList tp' fun h' st _ k => wpAny_pyIter_zip st.1 ⟨_, _, _, _, hp1, rfl, iv1.kept (t' := t1.toks) k, turn_zipLT (PySem.W.ktu_apart t1.heap.objs.size a b pl.lt (live tp')), st, new, go⟩
      · obtain ⟨its, _, tp, _⟩ := iv1.tuple sx
        obtain ⟨its2, _, tp2, _⟩ := iv1.tuple sy
        have q1 : t1.heap.IsTuple a its.toArray := tp
        have q2 : t1.heap.IsTuple b its2.toArray := tp2
        exact RZ.call_zipT q1 q2 fun h' z1 z2 z3 z4 z5 _ k => wpAny_pyIter_zip z1 ⟨_, _, _, _, hp1, rfl, iv1.kept (t' := t1.toks) k, RZ.turn_zipT (PySem.W.ktu_apart t1.heap.objs.size a b (live q1) (live q2)), ⟨z1, z2, ⟨_, _, z3⟩, z4, z5⟩, new, go⟩
end Z
namespace HZ
open PySem PySem.Spec PyProof.Rows L2
section
variable {prog : Program} {w : World} {s : Shared} {A : Around} {E : Value → Shared → Prop}
/-- a zip whose pair is out still, its list at its end -/
theorem held_end {z TI TO T i1 i2 l1 : Addr} {f : Bool} {oT : Obj} {j : Nat} {xs : Array Value} {Q : Option Value → Shared → Prop} (calm : A.handled = none) (n1 : i1 ≠ z) (n2 : l1 ≠ z)
    (zz : IsZipHeld s.heap z TI TO T f) (tt : s.heap.get? T = some oT) (pp : IsPair s.heap TI (.ref i1) (.ref i2)) (it : s.heap.IsListIter i1 l1 j) (ll : s.heap.IsList l1 xs) (gone : xs[j]? = none)
    (fin : ∀ h', (∀ c o, c ≠ z → c ≠ i1 → s.heap.get? c = some o → h'.get? c = some o) → Q none { s with heap := h' }) : wpAny (model prog w) A (pyNext (.ref z)) Q E s := by
  have ty : s.TypeIs (.ref z) "zip" := ⟨_, zz, rfl⟩
  have inner : wpAny (model prog w) A.in1 (Builtin.«zip.__next__» ⟨[.ref z], []⟩) (fun _ _ => False) (fun e s' => ∃ h', s' = { s with heap := h' } ∧ (∃ a, e = .ref a ∧ ∃ o, h'.get? a = some o ∧ o.cls = .type "StopIteration") ∧ ∀ c o, c ≠ z → c ≠ i1 → s.heap.get? c = some o → h'.get? c = some o) s := by
    show wpAny _ _ (field (.ref z) 2 >>= fun _ => _) _ _ _
    refine wpAny_bind (wpAny_field zz rfl (x := .bool false) rfl ?_)
    show wpAny _ _ (field (.ref z) 3 >>= fun _ => _) _ _ _
    refine wpAny_bind (wpAny_field zz rfl (x := .ref TI) rfl (wpAny_bind (wpAny_seqItems pp rfl ?_)))
    show wpAny _ _ (Builtin.SmallTypes.ownedTupleIsFree (.ref z) >>= fun _ => _) _ _ _
    refine wpAny_bind (wpAny_tupleHeld_zip zz tt fun h₁ z₁ same => ?_)
    simp only [Bool.false_eq_true, if_false]
    refine wpAny_bind ?_
    rw [← Array.forIn_toList]
    simp only [List.forIn_cons, List.forIn_nil]
    refine wpAny_bind (wpAny_bind (wpAny_holding ?_))
    show wpAny _ _ (Builtin.SmallTypes.nextOf (.ref i1) >>= fun _ => _) _ _ _
    exact wpAny_bind (wpAny_nextOf_list_end (s := { s with heap := h₁ }) calm (it.extBut same.extBut n1) (ll.extBut same.extBut n2) gone fun h₂ e kept stop =>
      ⟨h₂, rfl, ⟨e, rfl, stop⟩, fun c o c1 c2 x => kept _ _ c2 (same.extBut _ _ c1 x)⟩)
  unfold pyNext
  refine wpAny_bind (wpAny_attempt (wpAny_callSpecial?_slot (name := Str.ofString "__next__") ty F.slot_zip_next (wpAny_call_entry F.slot_zip_next ty F.entry_zip_next (wpAny_mono inner (fun _ _ h => h.elim) fun e s' h => ?_) (F.args_zip_next_1 _))))
  obtain ⟨h', rfl, ⟨a, rfl, o, ho, hc⟩, keep⟩ := h
  exact wpAny_bind (wpAny_isInstance (T := "StopIteration") (b := true) ⟨o, ho, hc⟩ isSubtype_stop (wpAny_pure (fin _ keep)))
end
/-- zip([k], (v,)) as an argument -/
theorem zipArg (prog : Program) (w : World) {z TI TO i1 i2 l1 l2 : Addr} (D : ZipApart z TI TO i1 i2 l1 l2) (kv xv : Value) :
    PairArg prog w "zip" z [z, TI, TO, i1, i2, l1, l2] [z, TO, i1, i2] 1 (fun i k v => i = 0 ∧ k = kv ∧ v = xv)
      (fun h => IsZip h z TI TO .none ∧ IsPair h TI (.ref i1) (.ref i2) ∧ (∃ a b, IsPair h TO a b) ∧ h.IsListIter i1 l1 0 ∧ h.IsTupleIter i2 l2 0 ∧ h.IsList l1 #[kv] ∧ h.IsTuple l2 #[xv]) where
  type := fun _ o => ⟨_, o.1, rfl⟩
  notDict := by decide
  keep := fun h h' ⟨a1, a2, ⟨x, y, a3⟩, a4, a5, a6, a7⟩ k =>
    ⟨k _ _ a1, k _ _ a2, ⟨x, y, k _ _ a3⟩, a4.at fun o e => k _ o e, a5.at fun o e => k _ o e, a6.at fun o e => k _ o e, a7.at fun o e => k _ o e⟩
  there := fun h ⟨a1, a2, ⟨x, y, a3⟩, ⟨u4, a4, _⟩, ⟨u5, a5, _⟩, ⟨u6, a6, _⟩, ⟨u7, a7, _⟩⟩ b hb => by
    have hb' : b = z ∨ b = TI ∨ b = TO ∨ b = i1 ∨ b = i2 ∨ b = l1 ∨ b = l2 := by simpa using hb
    rcases hb' with q | q | q | q | q | q | q
    · exact ⟨_, q ▸ a1⟩
    · exact ⟨_, q ▸ a2⟩
    · exact ⟨_, q ▸ a3⟩
    · exact ⟨_, q ▸ a4⟩
    · exact ⟨_, q ▸ a5⟩
    · exact ⟨_, q ▸ a6⟩
    · exact ⟨_, q ▸ a7⟩
  sub := fun b hb => by
    have hb' : b = z ∨ b = TO ∨ b = i1 ∨ b = i2 := by simpa using hb
    rcases hb' with q | q | q | q <;> simp [q]
  noKeys := fun A s Q E calm o h => getAttrOr_miss_zip o.1 rfl rfl rfl zip_no_keys (by decide +kernel) calm h
  iter := fun A s d Q E calm ⟨a1, a2, ⟨x, y, a3⟩, a4, a5, a6, a7⟩ hd off h => by
    have off' : d ≠ z ∧ d ≠ TI ∧ d ≠ TO ∧ d ≠ i1 ∧ d ≠ i2 ∧ d ≠ l1 ∧ d ≠ l2 := by simpa using off
    obtain ⟨d1, d2, d3, d4, d5, d6, d7⟩ := off'
    have off2 : ∀ {b}, b ∈ [z, TO, i1, i2] → d ≠ b := fun {b} hb => by
      have hb' : b = z ∨ b = TO ∨ b = i1 ∨ b = i2 := by simpa using hb
      rcases hb' with q | q | q | q <;> rw [q] <;> assumption
    refine wpAny_pyIter_zip a1 (h z [z, TO, i1, i2] (fun i h => (i = 0 ∧ IsZip h z TI TO .none ∧ IsPair h TI (.ref i1) (.ref i2) ∧ (∃ a b, IsPair h TO a b) ∧ h.IsListIter i1 l1 0 ∧ h.IsTupleIter i2 l2 0 ∧ h.IsList l1 #[kv] ∧ h.IsTuple l2 #[xv]) ∨
      (i = 1 ∧ IsPair h TI (.ref i1) (.ref i2) ∧ h.IsListIter i1 l1 1 ∧ h.IsList l1 #[kv] ∧ ∃ T f oT, IsZipHeld h z TI TO T f ∧ h.get? T = some oT ∧ T ≠ d)) s.heap s.toks ?_
      (.inl ⟨rfl, a1, a2, ⟨x, y, a3⟩, a4, a5, a6, a7⟩) (fun _ _ e => e) fun b hb => .inl hb)
    exact {
      off := fun hm => off2 hm rfl
      frame := fun i h₁ h₂ st k => by
        rcases st with ⟨e, a1, a2, ⟨x, y, a3⟩, a4, a5, a6, a7⟩ | ⟨e, a2, a4, a6, T, f, oT, b1, b2, b3⟩
        · exact .inl ⟨e, k _ _ (Ne.symm d1) a1, k _ _ (Ne.symm d2) a2, ⟨x, y, k _ _ (Ne.symm d3) a3⟩, a4.at fun o e => k _ o (Ne.symm d4) e, a5.at fun o e => k _ o (Ne.symm d5) e, a6.at fun o e => k _ o (Ne.symm d6) e, a7.at fun o e => k _ o (Ne.symm d7) e⟩
        · exact .inr ⟨e, k _ _ (Ne.symm d2) a2, a4.at fun o e => k _ o (Ne.symm d4) e, a6.at fun o e => k _ o (Ne.symm d6) e, T, f, oT, k _ _ (Ne.symm d1) b1, k _ _ b3 b2, b3⟩
      item := fun i u Q₁ E₁ hi st hdu hQ => by
        rcases st with ⟨e, a1, a2, ⟨x, y, a3⟩, a4, a5, a6, a7⟩ | ⟨e, _⟩
        · subst e
          refine wpAny_pyNext_zipD2_item (i := 0) (Z.sep_of D) (Draws.list (A := A.in1) calm i1 l1 D.l1i1 #[kv]) (Draws.tuple (A := A.in1) calm i2 l2 D.l2i2 #[xv]) a1 a2 a3 ⟨a4, a6⟩ ⟨a5, a7⟩ (by simp) (by simp) fun x1 x2 h' tk p1 p2 zz TO' s1' s2' hT hsz hk => ?_
          have q1 : x1 = kv := by
            have p1' : (#[kv] : Array Value)[0]? = some x1 := p1
            simpa using p1'.symm
          have q2 : x2 = xv := by
            have p2' : (#[xv] : Array Value)[0]? = some x2 := p2
            simpa using p2'.symm
          refine hQ u.heap.objs.size x1 x2 h' tk ⟨rfl, q1, q2⟩ (.inl ⟨_, hT, rfl, _, rfl⟩) (.inr ⟨rfl, hk _ _ D.TIz D.TITO D.TIi1 D.TIi2 a2, s1'.1, s1'.2, _, false, _, zz, hT, Nat.ne_of_gt hdu⟩) fun c o hc e =>
            hk c o (fun q => hc (by simp [q])) (fun q => hc (by simp [q])) (fun q => hc (by simp [q])) (fun q => hc (by simp [q])) e
        · omega
      done := fun u Q₁ E₁ st hQ => by
        rcases st with ⟨e, _⟩ | ⟨_, a2, a4, a6, T, f, oT, b1, b2, _⟩
        · cases e
        · exact held_end calm D.i1z D.l1z b1 b2 a2 a4 a6 (by simp) fun h' k => hQ h' u.toks fun c o hc e => k c o (fun q => hc (by simp [q])) (fun q => hc (by simp [q])) e }
end HZ
namespace Z
open PySem PySem.Spec PyProof.Rows L2
section
variable {X : Cx}
/-- dict(zip([k], (v,))) -/
def tDZ (K : PySem.W.Frag) (ta : TA) : TE := fun σ H Q => ta σ H fun vs H1 => ∃ (a b : Addr) (k : Int) (x : V), vs = [.ref a, .ref b] ∧ SqL K H1 a [.int k] ∧ SqT K H1 b [x] ∧ ∀ p, H1 p = none → Q (.ref p) (upd H1 p (.dK [(Sum.inl k, x)]))
theorem pe_dictZip {e e2 : Expr} {ta : TA} {p p2 pos pos2 : Pos} (hc : X.calm = true) (hg : Gl X "dict") (hm : X.mg "dict" = none) (hg2 : Gl X "zip") (hm2 : X.mg "zip" = none) (ha : PA X [e, e2] ta)
    (hs : starEach [e, e2] X.env = (false, eval e X.env) :: starEach [e2] X.env := by rfl) (hpl : (backTo pos2 (starEach [e2] X.env)).any (·.1) = false := by rfl)
    (hs2 : starEach [.Call (.Name "zip" p2) [e, e2] [] pos2] X.env = (false, eval (.Call (.Name "zip" p2) [e, e2] [] pos2) X.env) :: starEach [] X.env := by rfl) :
    PE X (.Call (.Name "dict" p) [.Call (.Name "zip" p2) [e, e2] [] pos2] [] pos) (tDZ X.K ta) := by
  refine ⟨fun pp st sg hp Q iv hyp => ?_⟩
  refine Call_ (ld_blt iv hg hm boot_dict (PyProof.Rows.callWith_type1 ?_ hs2 rfl))
  rw [hs2]
  show wpAny _ _ (spliced ((false, eval (.Call (.Name "zip" p2) [e, e2] [] pos2) X.env) :: [])) _ _ st
  refine Calls.spliced_cons (Call_ (ld_blt iv hg2 hm2 PyProof.Rows.boot_zip (PyProof.Rows.callWith_type1 (thn (ha.run pos2 pp st sg hp _ iv hyp) fun us t1 ⟨vs, hp1, iv1, r1, q1⟩ => ?_) hs hpl)))
  obtain ⟨a, b, k, x, ex, hqx, hqy, q⟩ := q1
  subst ex
  cases r1 with
  | cons r rr =>
    cases rr with
    | cons r' rr =>
      cases rr
      cases r
      cases r'
      obtain ⟨its, rv, pl, _⟩ := iv1.list hqx
      obtain ⟨its2, rv2, pt, _⟩ := iv1.tuple hqy
      cases rv with
      | cons rk rn =>
        cases rn
        cases rv2 with
        | cons rx rn2 =>
          cases rn2
          rename_i kv xv
          have pt' : t1.heap.IsTuple b #[xv] := pt
          obtain ⟨o2, ho2, _⟩ := id pt'
          have D := PySem.W.ktu_apart t1.heap.objs.size a b pl.lt (Heap.lt_size ho2)
          have pl' : t1.heap.IsList a #[kv] := pl.isList
          refine zip_lt pl' pt' fun h' ⟨hz, hTI, ⟨xo, yo, hTO⟩, h1, h2⟩ hsz hk => Calls.spliced_nil ?_
          have iv2 : Inv X pp sg hp1 { t1 with heap := h' } := iv1.kept (t' := t1.toks) hk
          refine PySem.call_dict_pairs (s := { t1 with heap := h' }) (knd := mixKind X.prog X.w) (kvs := [(Sum.inl k, xv)]) (HZ.zipArg X.prog X.w D kv xv) (iv.ok.hd hc) ⟨hz, hTI, ⟨_, _, hTO⟩, h1, h2, pl'.at fun o e => hk _ o e, pt'.at fun o e => hk _ o e⟩ ⟨rfl, fun i key v rel => ?_⟩ (by decide) fun h'' tk dd kk => ?_
          · obtain ⟨rfl, rfl, rfl⟩ := rel
            obtain ⟨t, rfl⟩ := rk
            exact ⟨Sum.inl k, rfl, mixKind_int X.prog X.w k t⟩
          · have keepN : ∀ c o, t1.heap.get? c = some o → h''.get? c = some o := fun c o e => kk c o (fun hm => by
              have lt := Heap.lt_size e
              have hm' : c = t1.heap.objs.size + 4 ∨ c = t1.heap.objs.size + 3 ∨ c = t1.heap.objs.size ∨ c = t1.heap.objs.size + 1 := by simpa using hm
              rcases hm' with z | z | z | z <;> rw [z] at lt <;> first | exact absurd lt (Nat.lt_irrefl _) | exact absurd lt (Nat.not_lt.mpr (Nat.le_add_right _ _))) (hk _ _ e)
            have big : sysModules < t1.heap.objs.size := iv1.big
            have new : ObjOk X.prog X.w (upd hp1 (Shared.heap { t1 with heap := h' }).objs.size (.dK [(Sum.inl k, x)])) h'' (Shared.heap { t1 with heap := h' }).objs.size (.dK [(Sum.inl k, x)]) :=
              ⟨by show 1 ≤ sizeLine; decide, beq_eq_false_iff_ne.mpr (show h'.objs.size ≠ sysModules from Nat.ne_of_gt (by rw [hsz]; exact Nat.lt_add_right 5 big)), [(Sum.inl k, xv)], .cons ⟨rfl, rx⟩ .nil, dd⟩
            have le : t1.heap.objs.size ≤ (Shared.heap { t1 with heap := h' }).objs.size := by show _ ≤ h'.objs.size; rw [hsz]; exact Nat.le_add_right _ _
            exact ⟨.ref _, _, iv1.laid (t' := tk) (o := .dK [(Sum.inl k, x)]) keepN le new, rfl, q _ (iv1.hok.fresh le)⟩
end
end Z
end
section
/-! ZR: rules that the hand layer lacks, and joined ones. -/
namespace Z
open PySem PySem.Spec PyProof.Rows L2
section
variable {X : Cx}
theorem hu64 {k : Nat} {A : Around} (hr : Room k A) : A.units + 64 < cLine := by have := hr.un; omega
theorem hu65 {k : Nat} {A : Around} (hr : Room k A) : A.units + 65 < cLine := by have := hr.un; omega
theorem opx_nin (hu : X.A.units + 65 < cLine) : OpR X (compareOp .NotIn) (rInX X.K true) := fun pp st sg hp x y v u Q iv rx ry ⟨d, ds, hd, ys, sd, sy, fin⟩ => by
  obtain ⟨_, a1⟩ := Dp.reads iv d x v hd rx
  rcases ys with l | l
  · obtain ⟨_, a2⟩ := Dp.reads iv (.list ds) y u l ry
    exact SeqAt.notIn_list_reads a2 a1 (SeqAt.canLay_of_shaped sy) (SeqAt.canLay_of_shaped sd) (room_in_shaped sd hu) ⟨.bl _, hp, iv, rfl, fin⟩
  · obtain ⟨_, a2⟩ := Dp.reads iv (.tuple ds) y u l ry
    exact SeqAt.notIn_tuple_reads a2 a1 (SeqAt.canLay_of_shaped sy) (SeqAt.canLay_of_shaped sd) (room_in_shaped sd hu) ⟨.bl _, hp, iv, rfl, fin⟩
def rAddX (K : PySem.W.Frag) : R2 := fun x y H Q => rI0 (fun i j => .int (i + j)) x y H Q ∨ (rCatA K x y H Q ∨ rCat x y H Q)
theorem opx_add : OpR X (binaryOp .Add) (rAddX X.K) := .or op_add (.or op_catA op_cat)
def rMulX (K : PySem.W.Frag) : R2 := fun x y H Q => rI CMul (fun i j => .int (i * j)) x y H Q ∨ (rRep x y H Q ∨ rRep0 K x y H Q)
theorem opx_mul : OpR X (binaryOp .Mult) (rMulX X.K) := .or op_mul (.or op_rep op_rep0)
/-- a set comprehension of ints -/
def tScI (w : World) (wi : TI) (g : TG) (tt : TT) (te : TE) (vs : List Nat) : TE := fun σ H Q => wi σ H fun J H1 => ∀ D, H1 D = none → ∃ W : Nat → Nat → Hp → Prop, (∃ m, W 0 m (upd H1 D (SetO w D (fun _ => false) 0))) ∧ ∀ i m H, W i m H →
  (J.stop i H ∧ Q (.ref D) H) ∨ (J.go i H ∧ ∃ Nx : Hp → Prop, (∀ H2, Nx H2 → ∃ k, k < m ∧ W (i + 1) k H2) ∧ ∀ x H', J.yld i H x H' → g x (wipe σ vs) H' fun σ2 H2 => wipe σ2 vs = wipe σ vs ∧ tt σ2 H2 fun b H3 =>
    if b = true then te σ2 H3 fun y H4 => ∃ (c : Int) (S : Int → Bool) (n : Nat), y = .int c ∧ H4 D = some (SetO w D S n) ∧ n + 1 < scanBound ∧ Nx (upd H4 D (SetO w D (fun j => S j || decide (j = c)) (if S c = true then n else n + 1))) else Nx H3)
theorem pe_scI {elt tg iter : Expr} {ifs : List Expr} {scope : Scope} {own : List (Str × Nat)} {pos : Pos} {wi : TI} {g : TG} {tt : TT} {te : TE} (hc : X.calm = true) (hN : X.N.Nodup) (hi : PI X tg iter wi) (ok : BlkOk X.N X.env.scope scope own)
    (hg : ∀ (u : Shared) (hq : Hp) (c : Addr) (cl : List (Str × Addr)) (fl : List Addr), PG (X.blk u hq scope (compEnvC scope cl c X.env) fl) tg g) (ht : ∀ (u : Shared) (hq : Hp) (c : Addr) (cl : List (Str × Addr)) (fl : List Addr), PTs (X.blk u hq scope (compEnvC scope cl c X.env) fl) ifs tt)
    (he : ∀ (u : Shared) (hq : Hp) (c : Addr) (cl : List (Str × Addr)) (fl : List Addr), PE (X.blk u hq scope (compEnvC scope cl c X.env) fl) elt te) (hs : ∀ x, foldedSetIterable iter X.env x = pure x := by intro _; rfl) :
    PE X (.SetComp elt [⟨tg, iter, ifs, 0⟩] scope pos) (tScI X.w wi g tt te (own.map (·.2))) := by
  refine ⟨fun pp st sg hp KQ iv hyp => ?_⟩
  rw [PpSet.eval_SetComp]
  have cellsOk : ∀ y ∈ scope.names, y.2 = .free → ∃ cc, X.env.cells.lookup y.1 = some cc := fun y hy e => (ok.free y hy e).elim (fun z => iv.ok.has _ (.inl z)) fun z => iv.ok.has _ (.inr z)
  refine wpAny_comprehension_free rfl hs (closure_ok cellsOk) ok.kind (fun y hy e => by rw [ok.uniq y hy, e]) (thn (hi.run pp st sg hp _ iv hyp) fun _ t1 z1 => thn z1 fun _ t2 z2 => ?_)
  obtain ⟨itA, fpL, tnP, JJ, hp2, rfl, iv2, TT, sat2, free2, rest⟩ := z2
  refine PpSet.newSet_ok (newEnv_comp ?_)
  generalize eD : t2.heap.objs.size = D
  obtain ⟨W, ⟨k0, first⟩, each⟩ := rest D (iv2.hok.fresh (Nat.le_of_eq eD))
  -- the set is new
  generalize et3 : ({ t2 with heap := t2.heap.push { cls := .type "set", dict := none, data := .set #[] 0 (.fresh 0 0 (!X.w.params.followText "set-order")) } } : Shared) = t3
  have at3 : t3.heap = t2.heap.push { cls := .type "set", dict := none, data := .set #[] 0 (.fresh 0 0 (!X.w.params.followText "set-order")) } := by subst et3; rfl
  have iv3 : Inv X pp sg (upd hp2 D (SetO X.w D (fun _ => false) 0)) t3 := by
    have new := setR_fresh (h := t2.heap) X.w
    rw [eD] at new
    subst et3
    exact iv2.laid (t' := t2.toks) (fun _ _ e => Heap.get?_push_of_some _ e) (Nat.le_of_eq eD) (setO_new new)
  have small : ∀ c ∈ fpL, c < t2.heap.objs.size := fun c hc => by
    obtain ⟨_, e, _⟩ := TT.obj _ _ sat2 c hc
    exact Heap.lt_size e
  have free3 : ∀ c ∈ fpL, FpOk X pp (upd hp2 D (SetO X.w D (fun _ => false) 0)) c ∧ c < t3.heap.objs.size := fun c hc => by
    have lt := small c hc
    have ne : c ≠ D := by rw [← eD]; exact Nat.ne_of_lt lt
    exact ⟨⟨(upd_ne ne).trans (free2 c hc).1, (free2 c hc).2⟩, by rw [at3, Heap.size_push]; exact Nat.lt_succ_of_lt lt⟩
  have sat3 : tnP 0 t3.heap := TT.keep _ _ _ sat2 fun _ _ _ e => by rw [at3]; exact Heap.get?_push_of_some _ e
  have bare3 : ∀ c ∈ fpL, (upd hp2 D (SetO X.w D (fun _ => false) 0)) c = none := fun c hc => (free3 c hc).1.1
  have iv4 := block_start iv3 ok hN free3
  have gO := hg t3 (upd hp2 D (SetO X.w D (fun _ => false) 0)) t3.heap.objs.size (cellsFrom (t3.heap.objs.size + 1) scope.names (cloFrom X.env.cells scope.names [])) fpL
  have tO := ht t3 (upd hp2 D (SetO X.w D (fun _ => false) 0)) t3.heap.objs.size (cellsFrom (t3.heap.objs.size + 1) scope.names (cloFrom X.env.cells scope.names [])) fpL
  have eO := he t3 (upd hp2 D (SetO X.w D (fun _ => false) 0)) t3.heap.objs.size (cellsFrom (t3.heap.objs.size + 1) scope.names (cloFrom X.env.cells scope.names [])) fpL
  generalize eN : compEnvC scope (cellsFrom (t3.heap.objs.size + 1) scope.names (cloFrom X.env.cells scope.names [])) t3.heap.objs.size X.env = en at iv4 gO tO eO
  have enL : en.locals = t3.heap.objs.size := by rw [← eN]; rfl
  generalize eH : upd hp2 D (SetO X.w D (fun _ => false) 0) = hp3 at iv3 iv4 gO tO eO first bare3 free3
  generalize et4 : ({ t3 with heap := pushCells (t3.heap.push { cls := .type "dict", data := .dict #[] }) scope.names } : Shared) = t4 at iv4
  have sat4 : tnP 0 t4.heap := TT.keep _ _ _ sat3 fun _ _ _ e => by rw [← et4]; exact pushCells_keeps _ _ _ _ (Heap.get?_push_of_some _ e)
  have own4 : ∀ {sg' : L2.St} {hq : Hp} {u : Shared}, Inv (X.blk t3 hp3 scope en fpL) [] sg' hq u → (∀ c ∈ fpL, hq c = none) → ∀ c ∈ fpL, FpOk (X.blk t3 hp3 scope en fpL) [] hq c := fun {_ _ _} iw nn c hc =>
    ⟨nn c hc, (iw.ok.exf c hc).1, iw.ok.exfs c hc, .inl hc, fun x cc e => (iw.ok.exf c hc).2 x cc e, fun p hm => absurd (show p ∈ ([] : List (Addr × Obj)) ++ [] from hm) (by simp)⟩
  have body : codeAny (model X.prog X.w) X.A (.compLoop (.SetComp elt [⟨tg, iter, ifs, 0⟩] scope pos) 0 (.ref itA) (.ref D) en) (compPost (model X.prog X.w) X.A X.xe none (EP X pp sg KQ) (.ref D) t3.heap.objs.size) t4 := by
    refine PpSet.compLoopS_any (fun k u => ∃ i hq, Inv (X.blk t3 hp3 scope en fpL) [] (wipe sg (own.map (·.2))) hq u ∧ tnP i u.heap ∧ (∀ c ∈ fpL, hq c = none) ∧ W i k hq) ?_ k0 ⟨0, hp3, iv4, sat4, bare3, first⟩
    rintro k u5 ⟨i, hq5, iw5, sa5, nn5, in5⟩
    rcases each i k hq5 in5 with ⟨halt, fine⟩ | ⟨more, Nx, onward, one⟩
    · refine thnF (TT.done (X.blk t3 hp3 scope en fpL) rfl rfl rfl hc i [] u5 _ hq5 (fun _ _ => False) iw5 (own4 iw5 nn5) sa5 halt) fun r u6 ⟨er, iw6⟩ => ?_
      subst er
      have iw7 : Inv X pp sg hq5 u6 := iv3.call' (ch := fpL) iw6.os iw6.base iw6.hok iw6.bare fun c hc =>
        have z := (free3 c hc).1.2
        ⟨z.2.2.1, z.1, z.2.2.2.1, z.2.2.2.2⟩
      obtain ⟨mm, ns, _⟩ := iw6.loc
      have ns' : u6.heap.Ns en.locals mm := ns
      have nl : hq5 en.locals = none := iw6.free
      rw [enL] at ns' nl
      obtain ⟨f0, f1, f2, f3, f4, f5⟩ := iv3.fpOk (Nat.le_refl _) nl
      exact ⟨mm, ns', fun _ sb => ⟨.ref D, hq5, iw7.turned (t' := u6.toks) (fun _ _ hb e => (sb.2 _ hb).trans e) f0 f1 f3 f4 f5, rfl, fine⟩⟩
    · refine thnF (TT.item (X.blk t3 hp3 scope en fpL) rfl rfl rfl hc i [] u5 _ hq5 (fun _ _ => False) iw5 (own4 iw5 nn5) sa5 more) fun r u6 ⟨vv, er, z6⟩ => ?_
      subst er
      refine thnF z6 fun _ u7 ⟨x, hq7, iw7, rx, yl, sa7, nn7⟩ => ?_
      refine thnF (gO.run _ u7 _ hq7 x vv _ (iw7.pinned (own4 iw7 nn7) (TT.obj _ _ sa7)) rx (one x hq7 yl)) fun _ u8 ⟨sg8, hq8, iw8, same8, z8⟩ => ?_
      have onward' : ∀ {u : Shared} {hq : Hp}, Inv (X.blk t3 hp3 scope en fpL) ([] ++ pinsAt fpL u7.heap) sg8 hq u → Nx hq → ∃ m, m < k ∧ ∃ i hq, Inv (X.blk t3 hp3 scope en fpL) [] (wipe sg (own.map (·.2))) hq u ∧ tnP i u.heap ∧ (∀ c ∈ fpL, hq c = none) ∧ W i m hq := fun {u hq} iw nx => by
        obtain ⟨m', lt, in'⟩ := onward hq nx
        have held : ∀ c ∈ fpL, ∀ oo, u7.heap.get? c = some oo → u.heap.get? c = some oo ∧ hq c = none := fun c hc oo e => by
          obtain ⟨z1, z2, _⟩ := iw.pin (c, oo) (List.mem_append_right _ (List.mem_append_right _ (mem_pinsAt hc e)))
          exact ⟨z1, z2⟩
        have len8 : (wipe sg (own.map (·.2))).length = sg8.length := by rw [← same8, wipe_length]
        refine ⟨m', lt, i + 1, hq, (iw.unpinned (pins := [])).weak len8 (fun _ _ e => (wipe_some (same8 ▸ e)).1), TT.keep _ _ _ sa7 fun c hc oo e => (held c hc oo e).1, fun c hc => ?_, in'⟩
        obtain ⟨oo, e, _⟩ := TT.obj _ _ sa7 c hc
        exact (held c hc oo e).2
      refine thnF (tO.run _ u8 sg8 hq8 _ iw8 z8) fun bb u9 ⟨hq9, iw9, z9⟩ => ?_
      cases bb
      · rw [if_neg Bool.false_ne_true] at z9
        rw [if_neg Bool.false_ne_true]
        exact onward' iw9 z9
      · rw [if_pos rfl] at z9
        rw [if_pos rfl]
        refine thnF (eO.run _ u9 sg8 hq9 _ iw9 z9) fun _ u10 ⟨yv, hq10, iw10, ry, cc, S0, n0, ey, at10, room, nx⟩ => ?_
        subst ey
        obtain ⟨tk, rfl⟩ := ry
        exact thnF (mt_sadd (X := X.blk t3 hp3 scope en fpL) _ u10 sg8 hq10 (.ref D) [.int cc] (.ref D) _ (fun _ hq => Nx hq) iw10 rfl (.cons ⟨tk, rfl⟩ .nil) ⟨D, cc, S0, n0, rfl, rfl, at10, room, nx⟩) fun _ u11 ⟨_, hq11, iw11, _, nx11⟩ => onward' iw11 nx11
  have fin := PpSet.codeAny_compStart_set (rest := []) body (TT.self X.A 0 _ _ _ sat4 body)
  subst et4 eN
  exact fin
end
section
variable {X : Cx}
def rGetN (K : PySem.W.Frag) : V → V → Hp → VK → Prop := fun o i H Q => ∃ p xs, ∃ (j : Nat) (v : V), o = .ref p ∧ i = .int (j : Int) ∧ SqL K H p xs ∧ xs[j]? = some v ∧ Q v H
theorem pg_ixL (K : PySem.W.Frag) (hK : X.K = K := by rfl) : PGet X (rGetN K) := by
  subst hK
  intro pins s σ H o i ov iv Q I ro ri h
  obtain ⟨p, xs, j, v, rfl, rfl, hq, hj, q⟩ := h
  cases ro
  obtain ⟨t, rfl⟩ := ri
  obtain ⟨its, r, pl, hz⟩ := I.list hq
  obtain ⟨u, hu, ru⟩ := r.get hj
  have hl := r.length
  have hn := line63
  have hjl := (List.getElem?_eq_some_iff.mp hj).1
  exact wpAny_getItem_list pl.isList (by omega) (by omega) (by simpa using hu) ⟨v, H, I, ru, q⟩
end
/-! ### the same rules, the written part named (within a comprehension's block) -/
abbrev rLenX (K : PySem.W.Frag) : List V → Hp → VK → Prop := fun xs H Q => ∃ p ys, xs = [.ref p] ∧ (SqL K H p ys ∨ SqT K H p ys) ∧ Q (.int ys.length) H
section
variable {X : Cx} {e o l l2 : Expr} {es : List Expr} {ta tl to : TE} {t : TA} {pos apo cpo : Pos} {f name : Str} {tg : Expr} (K : PySem.W.Frag)
theorem kpe_fld (he : PE X e ta) (hb : attributeBase e f X.env (eval e X.env) = eval e X.env) (hK : X.K = K := by rfl) : PE X (.Attribute e f pos) (tFld K ta f) := hK ▸ pe_fld he hb
theorem kpg_tup {k n : Nat} {t : TGs} (hc : X.calm = true) (h : PGs X es t) (hn : (assignEach es X.env).length = n := by rfl) (hst : (assignEach es X.env).findIdx? (·.1) = none := by rfl) (hK : X.K = K := by rfl) : PG X (.Tuple es k pos) (gTup K n t) := hK ▸ pg_tup hc h hn hst
theorem kpi_list (hl : PE X l tl) (hK : X.K = K := by rfl) : PI X tg l (iList K tl) := hK ▸ pi_list hl
theorem kpi_tup (hl : PE X l tl) (hK : X.K = K := by rfl) : PI X tg l (iTup K tl) := hK ▸ pi_tup hl
theorem kpi_enum {p tpos : Pos} {elts : List Expr} {kk : Nat} (hg : Gl X "enumerate") (hm : X.mg "enumerate" = none) (ha : PA X [e] t) (hs : starEach [e] X.env = [(false, eval e X.env)] := by rfl) (hK : X.K = K := by rfl) :
    PI X (.Tuple elts kk tpos) (.Call (.Name "enumerate" p) [e] [] pos) (iEnumX K t) := hK ▸ pi_enumX hg hm ha hs
theorem kpi_zip {p tpos : Pos} {elts : List Expr} {kk : Nat} (hg : Gl X "zip") (hm : X.mg "zip" = none) (ha : PA X [l, l2] t)
    (hs : starEach [l, l2] X.env = (false, eval l X.env) :: starEach [l2] X.env := by rfl) (hpl : (backTo pos (starEach [l2] X.env)).any (·.1) = false := by rfl) (hK : X.K = K := by rfl) :
    PI X (.Tuple elts kk tpos) (.Call (.Name "zip" p) [l, l2] [] pos) (iZipX K t) := hK ▸ pi_zipX hg hm ha hs hpl
theorem kpe_tupleOf {p : Pos} (hg : Gl X "tuple") (hm : X.mg "tuple" = none) (ha : PE X e ta) (na : starEach [e] X.env = (false, eval e X.env) :: starEach [] X.env := by rfl) (hK : X.K = K := by rfl) :
    PE X (.Call (.Name "tuple" p) [e] [] pos) (tThen ta (kTup K)) := hK ▸ pe_tupleOf hg hm ha na
theorem kpe_bm {T id : String} {r : V → List V → Hp → VK → Prop} (pa : PlainAttrs T) (slot : Slot T name id) (hty : typeOf (.builtin id) = pure (.type "method_descriptor")) (hm : MtR X id r) (ho : PE X o to) (ha : PA X (e :: es) t)
    (hbase : attributeBase o name X.env (eval o X.env) = eval o X.env := by rfl)
    (hfew : ((backTo cpo (starEach (e :: es) X.env)).all (fun x => !x.1) && (backToKw cpo (keywordEach [] X.env)).all (fun x => x.1.isSome)
      && decide ((e :: es).length + ([] : List Keyword).length + (if ([] : List Keyword).isEmpty then 0 else 1) < 30)) = true := by rfl)
    (hline : (apo.endLine == cpo.line) = true := by rfl) (hs : starEach (e :: es) X.env = (false, eval e X.env) :: starEach es X.env := by rfl) (hplain : (backTo cpo (starEach es X.env)).any (·.1) = false := by rfl) (hK : X.K = K := by rfl) :
    PE X (.Call (.Attribute o name apo) (e :: es) [] cpo) (tBM K T r to t) := hK ▸ pe_bm pa slot hty hm ho ha hbase hfew hline hs hplain
theorem kpe_bm0 {T id : String} {r : V → List V → Hp → VK → Prop} (pa : PlainAttrs T) (slot : Slot T name id) (hty : typeOf (.builtin id) = pure (.type "method_descriptor")) (hm : MtR X id r) (ho : PE X o to)
    (hbase : attributeBase o name X.env (eval o X.env) = eval o X.env := by rfl) (hline : (apo.endLine == cpo.line) = true := by rfl) (hK : X.K = K := by rfl) : PE X (.Call (.Attribute o name apo) [] [] cpo) (tBM0 K T r to) := hK ▸ pe_bm0 pa slot hty hm ho hbase hline
end
/-! ### a def of the text, as the top has left it -/
def DefAt (K : PySem.W.Frag) (mg : Str → Option Value) (x : Str) (st : Stmt) (ps : List Str) : Prop := ∃ (f : Addr) (fd : FuncData), Fun K x x st f fd ∧ mg x = some (.ref f) ∧ Binds K fd ps []
section
variable {P : Program} {w : World} {K : PySem.W.Frag} {mg : Str → Option Value} {base : Heap}
theorem calP {x : Str} {st : Stmt} {N ps : List Str} {k : Nat} {pre : List Sl → Sl → Prop} (m : Nat) (F : DefAt K mg x st ps) (S : FnScope N ps (defScope st)) (hl : ∀ ss r, pre ss r → ss.length = ps.length)
    (h : ∀ (f : Addr) (cdv : Value) (A : Around) (outer : List Env) (s : Shared) (H : Hp) (E : XK), Room k (A.deeper (envOfC x (defScope st) s.heap.objs.size f cdv)) →
      ∃ t, PSs (cxOf CX0 P w K mg base N x (defScope st) f cdv A outer s H E).nox (defBody st) t ∧ ∀ ss r, pre ss r → ss.length ≤ N.length ∧ frs ss = true ∧ Body t N m ss r) : C8.Cal P w K mg base (k + 1) x (spP pre) [] := by
  obtain ⟨f, fd, F, hm, hb⟩ := F
  exact ⟨f, fd, ps, [], F.ok S (sp_len hl) (fun cdv A outer s H vs Q E hr sp => by
    obtain ⟨t, h1, h2⟩ := h f cdv A outer s H E hr
    exact ⟨t, h1, body_run m h2 sp⟩), hm, F.kp, hb, .nil⟩
end
/-! ### __init__ of a class: the new instance is the first cell -/
def spM (C : Addr) (pre : List Sl → List (Str × PyData) → Prop) : Sp := fun vs H Q _ => ∃ (M : Addr → Prop) (a dx : Addr) (ws : List V) (ss : List Sl) (fs : List (Str × PyData)), vs = .ref a :: ws ∧ H a = some (.ins C dx []) ∧ ¬ M a ∧ (∀ x, M x → ∃ o, H x = some o) ∧
  Paired (SlR [] (fz (fun x => M x ∨ x = a) H)) ss ws ∧ pre ss fs ∧ ∀ H' dx' gs, (∀ x o, x ≠ a → H x = some o → H' x = some o) → H' a = some (.ins C dx' gs) → (∀ f, OptR (fz (fun x => M x ∨ x = a) H') (gs.lookup f) (fs.lookup f)) → Q .non H'
section
variable {ρ ρ' : List Sl} {cs cs' : Cs} {ta tb te tc : TE} {s z : Sl} {N : List Sl → Cs → Prop} {T : Sl → Cs → Prop} {K : PySem.W.Frag}
theorem length_putF (f : Str) (v : V) : ∀ gs : List (Str × V), (putF f v gs).length ≤ gs.length + 1
  | [] => Nat.le_refl _
  | (g, x) :: r => by
    unfold putF
    split
    · exact Nat.le_succ _
    · exact Nat.succ_le_succ (length_putF f v r)
/-- self.f = e -/
theorem sx_fld {j : Nat} {C : Addr} {fs : List (Str × PyData)} {f : Str} {d : PyData} (h : EvA te ρ cs (.d d)) (ho : EvA ta ρ cs (.c j)) (hj : cs[j]? = some (some (.ob C fs))) (c : Cls K C) (n : NoAttr K C f) (hl : fs.length < 900) (k : N ρ (cs.set j (some (.ob C ((f, d) :: fs))))) : Sx (sFld K ta te f) ρ cs N T := fun b as H σ ok D hn ht =>
  h b as H σ ok _ fun v H1 e1 r1 => ho b as H1 σ (ok.mono e1) _ fun w H2 e2 r2 => by
    have ok2 := (ok.mono e1).mono e2
    obtain ⟨a, h1, rfl, dx, gs, h3, h4, h5⟩ := ok2.h.cell hj r2
    refine ⟨a, C, dx, gs, rfl, h3, c, n, Nat.lt_of_le_of_lt h4 (Nat.lt_trans hl (by decide)), ?_⟩
    refine hn as _ σ ρ _ k (ok2.write (c' := .ob C ((f, d) :: fs)) hj h1 ⟨dx, _, upd_same, Nat.le_trans (length_putF _ _ _) (Nat.succ_le_succ h4), fun g => ?_⟩)
    rw [lookup_putF, List.lookup_cons]
    by_cases e : g = f
    · rw [if_pos e, beq_iff_eq.mpr e]
      exact Dq.mono (fz_mono e2) r1
    · rw [if_neg e, beq_eq_false_iff_ne.mpr e]
      exact h5 g
/-- C(..) -/
theorem ev_make {C : Addr} {pre : List Sl → List (Str × PyData) → Prop} {E : XK} {t : TA} {ss : List Sl} {fs : List (Str × PyData)} (h : EvAs t ρ cs ss) (hp : pre ss fs) (hf : frs ss = true) : EvA (tMake C (spM C pre) [] E t) ρ cs (.ob C fs) := fun B as H σ k Q q =>
  h B as H σ k _ fun vs H1 e1 r1 x dx hx hdx hne => by
    have k1 := k.mono e1
    have hxm := k1.h.fresh hx
    have hdx' : (upd H1 dx (.own x)) x = none := by rw [upd_ne (Ne.symm hne)]; exact hx
    have s1 := same_upd (o := .own x) hdx
    have s2 := same_upd (o := .ins C dx []) hdx'
    have s12 := s1.trans s2
    rw [List.append_nil]
    have gs : Same (B.G as cs H1) (fz (fun y => B.M as cs y ∨ y = x) (upd (upd H1 dx (.own x)) x (.ins C dx []))) := fun y u hy => by
      have hm := fz_not hy
      have hy' := fz_le y u hy
      rw [fz_out]
      · exact s12 y u hy'
      · rintro (m | rfl)
        · exact hm m
        · rw [hx] at hy'; cases hy'
    refine ⟨B.M as cs, x, dx, vs, ss, fs, rfl, upd_same, hxm, fun y m => ?_, paired_fr (frs_ok hf) (Paired.mapP r1 fun s v r => r.mono gs), hp, fun H' dx' fs' hk ha hr => ⟨rfl, ?_⟩⟩
    · obtain ⟨o, ho⟩ := k1.h.live m
      exact ⟨o, s12 y o ho⟩
    · refine q _ H' (e1.trans fun y u hy => hk y u (ne_of_none hy hx) (s12 y u hy)) ⟨x, dx', fs', rfl, ?_, fun f => (hr f).mono (fz_anti fun y m => .inl m)⟩
      unfold Bs.G
      rw [fz_out hxm]
      exact ha
end
def BodyM (t : TS) (N : List Str) (m : Nat) (C : Addr) (ss : List Sl) (fs : List (Str × PyData)) : Prop := Sx t (st0 N (.c 0 :: ss)) (some (.ob C []) :: List.replicate m none) (fun _ cs => ∃ fs', cs[0]? = some (some (.ob C fs')) ∧ ∀ f, fs'.lookup f = fs.lookup f) (fun _ _ => False)
theorem bodyM_run {t : TS} {N : List Str} (m : Nat) {C : Addr} {pre : List Sl → List (Str × PyData) → Prop} (h : ∀ ss fs, pre ss fs → ss.length < N.length ∧ frs ss = true ∧ BodyM t N m C ss fs) {vs : List V} {H : Hp} {Q : VK} {E : XK} (sp : spM C pre vs H Q E) :
    t { nx := fun _ H' => Q .non H', rt := Q } (L2.start N vs) H := by
  obtain ⟨M, a, dx, ws, ss, fs, rfl, ha, hMa, hM, hp, hpre, q⟩ := sp
  obtain ⟨hl, hf, hb⟩ := h ss fs hpre
  have hlen : ss.length = ws.length := Paired.length hp
  let b : Bs := ⟨H, M, [a], fz (fun x => M x ∨ x = a) H, Nat.le_refl _⟩
  have nc : ∀ (k : Nat) (c : Cell), (some (.ob C []) :: List.replicate m (none : Option Cell))[k]? = some (some c) → k = 0 ∧ c = .ob C [] := fun k c h1 => by
    cases k with
    | zero =>
      simp at h1
      exact ⟨rfl, h1.symm⟩
    | succ k =>
      rw [List.getElem?_cons_succ, List.getElem?_replicate] at h1
      split at h1 <;> cases h1
  have lva : ∀ x, lv (some (.ob C []) :: List.replicate m none) (a :: List.replicate m 0) x ↔ x = a := fun x => by
    constructor
    · rintro ⟨k, c, h1, h2⟩
      obtain ⟨rfl, _⟩ := nc k c h1
      simp at h2
      exact h2.symm
    · rintro rfl
      exact ⟨0, .ob C [], rfl, rfl⟩
  have me : b.M (a :: List.replicate m 0) (some (.ob C []) :: List.replicate m none) = fun x => M x ∨ x = a := by
    funext x
    exact propext ⟨fun h => h.imp id (lva x).mp, fun h => h.imp id (lva x).mpr⟩
  have ge : b.G (a :: List.replicate m 0) (some (.ob C []) :: List.replicate m none) H = fz (fun x => M x ∨ x = a) H := by unfold Bs.G; rw [me]
  have ok : Ok b (a :: List.replicate m 0) H (L2.start N (.ref a :: ws)) (st0 N (.c 0 :: ss)) (some (.ob C []) :: List.replicate m none) := by
    refine ⟨⟨fun x o h _ => h, hM, fun i x h => ?_, fun k k' c c' x h1 h2 _ _ => (nc k c h1).1.trans (nc k' c' h2).1.symm, fun k c x h1 h2 => ?_, fun k c x h1 h2 => ?_, fun k c h1 => ?_, by rw [ge]; exact Same.refl _, by simp⟩, ?_, fun i s h => ?_⟩
    · cases i with
      | zero =>
        simp [b] at h
        subst h
        exact ⟨rfl, .ob C [], rfl⟩
      | succ i => simp [b] at h
    · obtain ⟨rfl, _⟩ := nc k c h1
      simp at h2
      subst h2
      exact .inr (by simp [b])
    · obtain ⟨rfl, _⟩ := nc k c h1
      simp at h2
      subst h2
      exact hMa
    · obtain ⟨rfl, rfl⟩ := nc k c h1
      exact ⟨a, rfl, dx, [], ha, Nat.le_refl _, fun f => True.intro⟩
    · unfold L2.start st0
      simp [hlen]
    · unfold st0 at h
      by_cases hi : i < (Sl.c 0 :: ss).length
      · rw [List.getElem?_append_left hi] at h
        cases i with
        | zero =>
          simp at h
          subst h
          exact .inr ⟨.ref a, rfl, a, rfl, rfl⟩
        | succ i =>
          rw [List.getElem?_cons_succ] at h
          obtain ⟨v, h1, h2⟩ := paired_get hp h
          refine .inr ⟨v, ?_, ?_⟩
          · unfold L2.start
            rw [List.getElem?_append_left (by rw [List.length_map, List.length_cons, ← hlen]; simpa using hi), List.getElem?_map, List.getElem?_cons_succ, h1]
            rfl
          · rw [ge]
            exact h2.fr (frs_ok hf _ (List.mem_of_getElem? h))
      · rw [List.getElem?_append_right (by omega), List.getElem?_replicate] at h
        split at h
        · exact .inl (Option.some.inj h).symm
        · cases h
  refine hb b _ H _ ok _ (fun as' H' σ' ρ' cs' hr k => ?_) fun as' H' cs' s v hT k hv => hT.elim
  obtain ⟨fs', h1, h2⟩ := hr
  obtain ⟨x, h3, h4⟩ := k.h.ce 0 _ h1
  have h5 := (k.h.rl 0 a rfl).1
  rw [h3] at h5
  cases h5
  obtain ⟨dx', gs, h6, _, h7⟩ := h4
  refine q H' dx' gs (fun y o ne hy => k.h.ext y o hy (by simpa [b] using ne)) h6 fun f => ?_
  rw [← h2 f]
  refine (h7 f).mono (fz_anti fun y m => ?_)
  rcases m with m | rfl
  · exact .inl m
  · exact .inr ⟨0, _, h1, h3⟩
theorem spM_len {C : Addr} {pre : List Sl → List (Str × PyData) → Prop} {n : Nat} (h : ∀ ss r, pre ss r → ss.length = n) (vs : List V) (H : Hp) (Q : VK) (E : XK) (sp : spM C pre vs H Q E) : vs.length = n + 1 := by
  obtain ⟨M, a, dx, ws, ss, fs, rfl, ha, hMa, hM, hp, hpre, q⟩ := sp
  rw [List.length_cons, ← Paired.length hp, h ss fs hpre]
section
variable {P : Program} {w : World} {K : PySem.W.Frag} {mg : Str → Option Value} {base : Heap}
theorem calM {c qual : Str} {C : Addr} {st : Stmt} {N ps : List Str} {p0 : Str} {k : Nat} {pre : List Sl → List (Str × PyData) → Prop} (m : Nat) (F : ∃ (f : Addr) (fd : FuncData), Fun K "__init__" qual st f fd ∧ Mk K C f ∧ Binds K fd (p0 :: ps) []) (hm : mg c = some (.ref C)) (S : FnScope N (p0 :: ps) (defScope st)) (hl : ∀ ss r, pre ss r → ss.length = ps.length)
    (h : ∀ (f : Addr) (cdv : Value) (A : Around) (outer : List Env) (s : Shared) (H : Hp) (E : XK), Room k (A.deeper (envOfC qual (defScope st) s.heap.objs.size f cdv)) →
      ∃ t, PSs (cxOf CX0 P w K mg base N qual (defScope st) f cdv A outer s H E).nox (defBody st) t ∧ ∀ ss r, pre ss r → ss.length < N.length ∧ frs ss = true ∧ BodyM t N m C ss r) : C8.Mak P w K mg base (k + 1) c C (spM C pre) [] := by
  obtain ⟨f, fd, F, mk, hb⟩ := F
  exact ⟨f, fd, p0 :: ps, [], mk, F.ok S (spM_len hl) (fun cdv A outer s H vs Q E hr sp => by
    obtain ⟨t, h1, h2⟩ := h f cdv A outer s H E hr
    exact ⟨t, h1, bodyM_run m h2 sp⟩), hm, hb, .nil⟩
theorem calT {m qual : Str} {C : Addr} {st : Stmt} {N ps : List Str} {k : Nat} {pre : List Sl → Sl → Prop} (j : Nat) (cl : Cls K C) (F : ∃ (f : Addr) (fd : FuncData), Fun K m qual st f fd ∧ Meth K C m f ∧ Binds K fd ps []) (S : FnScope N ps (defScope st)) (hl : ∀ ss r, pre ss r → ss.length = ps.length)
    (h : ∀ (f : Addr) (cdv : Value) (A : Around) (outer : List Env) (s : Shared) (H : Hp) (E : XK), Room k (A.deeper (envOfC qual (defScope st) s.heap.objs.size f cdv)) →
      ∃ t, PSs (cxOf CX0 P w K mg base N qual (defScope st) f cdv A outer s H E).nox (defBody st) t ∧ ∀ ss r, pre ss r → ss.length ≤ N.length ∧ frs ss = true ∧ Body t N j ss r) : C8.Met P w K mg base (k + 1) C m (spP pre) [] := by
  obtain ⟨f, fd, F, me, hb⟩ := F
  exact ⟨f, fd, ps, [], cl, me, F.ok S (sp_len hl) (fun cdv A outer s H vs Q E hr sp => by
    obtain ⟨t, h1, h2⟩ := h f cdv A outer s H E hr
    exact ⟨t, h1, body_run j h2 sp⟩), hb, .nil⟩
end
end Z
end
section
/-! ZT: the text's defs, what the walk asks of the top. -/
namespace Z
open PySem PySem.Spec PyProof.Rows L2
def topS (i : Nat) : Stmt := PySem.Challenge.pw_likespans_k19_whole_one_ring_unbroken_ru.main.body.getD i (.Pass ⟨0, 0, 0, 0⟩)
abbrev s_is_integer : Stmt := topS 11
theorem sc_is_integer : FnScope ["thing"] ["thing"] (defScope s_is_integer) := ⟨rfl, rfl, rfl, by decide +kernel, rfl, by decide +kernel, by decide +kernel⟩
abbrev s_common : Stmt := topS 12
theorem sc_common : FnScope ["one", "other"] ["one", "other"] (defScope s_common) := ⟨rfl, rfl, rfl, by decide +kernel, rfl, by decide +kernel, by decide +kernel⟩
abbrev s_is_number : Stmt := topS 14
theorem sc_is_number : FnScope ["thing"] ["thing"] (defScope s_is_number) := ⟨rfl, rfl, rfl, by decide +kernel, rfl, by decide +kernel, by decide +kernel⟩
abbrev s_as_ratio : Stmt := topS 15
theorem sc_as_ratio : FnScope ["number"] ["number"] (defScope s_as_ratio) := ⟨rfl, rfl, rfl, by decide +kernel, rfl, by decide +kernel, by decide +kernel⟩
abbrev s_rest_by : Stmt := topS 17
theorem sc_rest_by : FnScope ["number", "beat"] ["number", "beat"] (defScope s_rest_by) := ⟨rfl, rfl, rfl, by decide +kernel, rfl, by decide +kernel, by decide +kernel⟩
abbrev s_is_below : Stmt := topS 18
theorem sc_is_below : FnScope ["one", "other"] ["one", "other"] (defScope s_is_below) := ⟨rfl, rfl, rfl, by decide +kernel, rfl, by decide +kernel, by decide +kernel⟩
abbrev s_is_span : Stmt := topS 25
theorem sc_is_span : FnScope ["thing", "beat", "events", "one", "other", "low", "high", "item"] ["thing", "beat", "events"] (defScope s_is_span) := ⟨rfl, rfl, rfl, by decide +kernel, rfl, by decide +kernel, by decide +kernel⟩
abbrev s_marks_of : Stmt := topS 27
theorem sc_marks_of : FnScope ["net", "marks", "found", "index", "one", "other", "low", "high", "first", "second", "least", "mark"] ["net"] (defScope s_marks_of) := ⟨rfl, rfl, rfl, by decide +kernel, rfl, by decide +kernel, by decide +kernel⟩
abbrev s_pieces : Stmt := topS 28
theorem sc_pieces : FnScope ["net", "marks", "mark", "event"] ["net"] (defScope s_pieces) := ⟨rfl, rfl, rfl, by decide +kernel, rfl, by decide +kernel, by decide +kernel⟩
abbrev s_ends_of : Stmt := topS 30
theorem sc_ends_of : FnScope ["net", "pair", "one", "other"] ["net", "pair"] (defScope s_ends_of) := ⟨rfl, rfl, rfl, by decide +kernel, rfl, by decide +kernel, by decide +kernel⟩
abbrev s_is_pair : Stmt := topS 31
theorem sc_is_pair : FnScope ["net", "thing"] ["net", "thing"] (defScope s_is_pair) := ⟨rfl, rfl, rfl, by decide +kernel, rfl, by decide +kernel, by decide +kernel⟩
abbrev s_ends_or_none : Stmt := topS 32
theorem sc_ends_or_none : FnScope ["net", "thing", "begin", "here", "pair", "one", "other", "item"] ["net", "thing"] (defScope s_ends_or_none) := ⟨rfl, rfl, rfl, by decide +kernel, rfl, by decide +kernel, by decide +kernel⟩
abbrev s_is_ring : Stmt := topS 33
theorem sc_is_ring : FnScope ["net", "thing", "found"] ["net", "thing"] (defScope s_is_ring) := ⟨rfl, rfl, rfl, by decide +kernel, rfl, by decide +kernel, by decide +kernel⟩
abbrev s_check_ring : Stmt := topS 34
theorem sc_check_ring : FnScope ["net", "thing"] ["net", "thing"] (defScope s_check_ring) := ⟨rfl, rfl, rfl, by decide +kernel, rfl, by decide +kernel, by decide +kernel⟩
abbrev s_tree : Stmt := topS 35
theorem sc_tree : FnScope ["net"] ["net"] (defScope s_tree) := ⟨rfl, rfl, rfl, by decide +kernel, rfl, by decide +kernel, by decide +kernel⟩
abbrev s_tree_steps : Stmt := topS 36
theorem sc_tree_steps : FnScope ["net", "found", "index", "one", "other", "event"] ["net"] (defScope s_tree_steps) := ⟨rfl, rfl, rfl, by decide +kernel, rfl, by decide +kernel, by decide +kernel⟩
abbrev s_ways_from : Stmt := topS 37
theorem sc_ways_from : FnScope ["net", "begin", "steps", "found", "waiting", "here", "pair", "there"] ["net", "begin"] (defScope s_ways_from) := ⟨rfl, rfl, rfl, by decide +kernel, rfl, by decide +kernel, by decide +kernel⟩
abbrev s_loose_spans : Stmt := topS 38
theorem sc_loose_spans : FnScope ["net", "kept", "index"] ["net"] (defScope s_loose_spans) := ⟨rfl, rfl, rfl, by decide +kernel, rfl, by decide +kernel, by decide +kernel⟩
abbrev s_base : Stmt := topS 39
theorem sc_base : FnScope ["net", "found", "index", "one", "other"] ["net"] (defScope s_base) := ⟨rfl, rfl, rfl, by decide +kernel, rfl, by decide +kernel, by decide +kernel⟩
abbrev s_shares_of : Stmt := topS 40
theorem sc_shares_of : FnScope ["net", "ring", "found", "loose", "index", "forth"] ["net", "ring"] (defScope s_shares_of) := ⟨rfl, rfl, rfl, by decide +kernel, rfl, by decide +kernel, by decide +kernel⟩
abbrev s_sum_along : Stmt := topS 41
theorem sc_sum_along : FnScope ["way", "lengths", "index", "forth"] ["way", "lengths"] (defScope s_sum_along) := ⟨rfl, rfl, rfl, by decide +kernel, rfl, by decide +kernel, by decide +kernel⟩
abbrev s_length_of : Stmt := topS 43
theorem sc_length_of : FnScope ["net", "span", "moments", "one", "other", "low", "high", "number"] ["net", "span", "moments"] (defScope s_length_of) := ⟨rfl, rfl, rfl, by decide +kernel, rfl, by decide +kernel, by decide +kernel⟩
abbrev s_all_lengths : Stmt := topS 44
theorem sc_all_lengths : FnScope ["net", "moments", "span"] ["net", "moments"] (defScope s_all_lengths) := ⟨rfl, rfl, rfl, by decide +kernel, rfl, by decide +kernel, by decide +kernel⟩
abbrev s_moments_fault : Stmt := topS 45
theorem sc_moments_fault : FnScope ["net", "thing", "index", "item", "span"] ["net", "thing"] (defScope s_moments_fault) := ⟨rfl, rfl, rfl, by decide +kernel, rfl, by decide +kernel, by decide +kernel⟩
abbrev s_is_timetable : Stmt := topS 46
theorem sc_is_timetable : FnScope ["net", "thing"] ["net", "thing"] (defScope s_is_timetable) := ⟨rfl, rfl, rfl, by decide +kernel, rfl, by decide +kernel, by decide +kernel⟩
abbrev s_check_timetable : Stmt := topS 47
theorem sc_check_timetable : FnScope ["net", "thing"] ["net", "thing"] (defScope s_check_timetable) := ⟨rfl, rfl, rfl, by decide +kernel, rfl, by decide +kernel, by decide +kernel⟩
abbrev s_rounds_of : Stmt := topS 49
theorem sc_rounds_of : FnScope ["net", "row", "ring"] ["net", "row", "ring"] (defScope s_rounds_of) := ⟨rfl, rfl, rfl, by decide +kernel, rfl, by decide +kernel, by decide +kernel⟩
abbrev s_rounds : Stmt := topS 50
theorem sc_rounds : FnScope ["net", "timetable", "ring", "row"] ["net", "timetable", "ring"] (defScope s_rounds) := ⟨rfl, rfl, rfl, by decide +kernel, rfl, by decide +kernel, by decide +kernel⟩
abbrev s_check_row : Stmt := topS 51
theorem sc_check_row : FnScope ["net", "island", "many", "item"] ["net", "island"] (defScope s_check_row) := ⟨rfl, rfl, rfl, by decide +kernel, rfl, by decide +kernel, by decide +kernel⟩
abbrev s_rounds_in : Stmt := topS 52
theorem sc_rounds_in : FnScope ["net", "island", "ring", "number", "share"] ["net", "island", "ring"] (defScope s_rounds_in) := ⟨rfl, rfl, rfl, by decide +kernel, rfl, by decide +kernel, by decide +kernel⟩
abbrev s_arcs_of : Stmt := topS 53
theorem sc_arcs_of : FnScope ["net", "island", "turns", "found", "index", "one", "other", "low", "high", "beats"] ["net", "island"] (defScope s_arcs_of) := ⟨rfl, rfl, rfl, by decide +kernel, rfl, by decide +kernel, by decide +kernel⟩
abbrev s_least_places : Stmt := topS 54
theorem sc_least_places : FnScope ["net", "arcs", "found", "came", "turn", "changed", "arc", "pair", "one", "other", "least"] ["net", "arcs"] (defScope s_least_places) := ⟨rfl, rfl, rfl, by decide +kernel, rfl, by decide +kernel, by decide +kernel⟩
abbrev s_ring_behind : Stmt := topS 55
theorem sc_ring_behind : FnScope ["net", "came", "event", "turn", "found", "here", "pair", "one", "other", "least"] ["net", "came", "event"] (defScope s_ring_behind) := ⟨rfl, rfl, rfl, by decide +kernel, rfl, by decide +kernel, by decide +kernel⟩
abbrev s_longest : Stmt := topS 56
theorem sc_longest : FnScope ["net", "arcs", "events", "begin", "found", "turn", "pair", "one", "other", "least"] ["net", "arcs", "events", "begin"] (defScope s_longest) := ⟨rfl, rfl, rfl, by decide +kernel, rfl, by decide +kernel, by decide +kernel⟩
abbrev s_places_of : Stmt := topS 57
theorem sc_places_of : FnScope ["net", "island", "arcs", "told", "ring", "low", "high", "turned", "piece", "first", "last", "event", "pair", "one", "other", "least"] ["net", "island"] (defScope s_places_of) := ⟨rfl, rfl, rfl, by decide +kernel, rfl, by decide +kernel, by decide +kernel⟩
abbrev s_as_moments : Stmt := topS 58
theorem sc_as_moments : FnScope ["net", "places", "number"] ["net", "places"] (defScope s_as_moments) := ⟨rfl, rfl, rfl, by decide +kernel, rfl, by decide +kernel, by decide +kernel⟩
abbrev s_held : Stmt := topS 59
theorem sc_held : FnScope ["net", "row", "low", "high"] ["net", "row"] (defScope s_held) := ⟨rfl, rfl, rfl, by decide +kernel, rfl, by decide +kernel, by decide +kernel⟩
abbrev s_bounds_along : Stmt := topS 60
theorem sc_bounds_along : FnScope ["net", "way", "lows", "highs", "least", "span", "index", "forth"] ["net", "way"] (defScope s_bounds_along) := ⟨rfl, rfl, rfl, by decide +kernel, rfl, by decide +kernel, by decide +kernel⟩
abbrev s_is_barring : Stmt := topS 61
theorem sc_is_barring : FnScope ["net", "row", "thing", "counts", "index", "forth", "least", "most", "count", "one", "other", "low", "high", "beats"] ["net", "row", "thing"] (defScope s_is_barring) := ⟨rfl, rfl, rfl, by decide +kernel, rfl, by decide +kernel, by decide +kernel⟩
abbrev s_islands : Stmt := topS 62
theorem sc_islands : FnScope ["net", "rings", "found", "at", "ring", "least", "most", "later", "row", "number", "longer", "arcs"] ["net"] (defScope s_islands) := ⟨rfl, rfl, rfl, by decide +kernel, rfl, by decide +kernel, by decide +kernel⟩
abbrev s__law_source : Stmt := topS 64
theorem sc__law_source : FnScope ["_law_script", "_law_k", "_law_first"] ["_law_script", "_law_k"] (defScope s__law_source) := ⟨rfl, rfl, rfl, by decide +kernel, rfl, by decide +kernel, by decide +kernel⟩
abbrev s__law_draw : Stmt := topS 65
theorem sc__law_draw : FnScope ["_law_source_here", "_law_many", "_law_number", "_law_mixed"] ["_law_source_here", "_law_many"] (defScope s__law_draw) := ⟨rfl, rfl, rfl, by decide +kernel, rfl, by decide +kernel, by decide +kernel⟩
abbrev s__law_integer : Stmt := topS 66
theorem sc__law_integer : FnScope ["_law_thing"] ["_law_thing"] (defScope s__law_integer) := ⟨rfl, rfl, rfl, by decide +kernel, rfl, by decide +kernel, by decide +kernel⟩
abbrev s__law_order : Stmt := topS 67
theorem sc__law_order : FnScope ["_law_source_here", "_law_many", "_law_found", "_law_k"] ["_law_source_here", "_law_many"] (defScope s__law_order) := ⟨rfl, rfl, rfl, by decide +kernel, rfl, by decide +kernel, by decide +kernel⟩
abbrev s__law_beat : Stmt := topS 68
theorem sc__law_beat : FnScope ["_law_source_here", "_law_kind"] ["_law_source_here"] (defScope s__law_beat) := ⟨rfl, rfl, rfl, by decide +kernel, rfl, by decide +kernel, by decide +kernel⟩
abbrev s__law_marks : Stmt := topS 69
theorem sc__law_marks : FnScope ["_law_spans", "_law_events", "_law_marks_here", "_law_kept", "_law_index", "_law_one", "_law_other", "_law_mark"] ["_law_spans", "_law_events"] (defScope s__law_marks) := ⟨rfl, rfl, rfl, by decide +kernel, rfl, by decide +kernel, by decide +kernel⟩
abbrev s__law_path : Stmt := topS 70
theorem sc__law_path : FnScope ["_law_spans", "_law_kept", "_law_begin", "_law_end", "_law_ways", "_law_seen", "_law_k", "_law_here", "_law_index", "_law_one", "_law_there"] ["_law_spans", "_law_kept", "_law_begin", "_law_end"] (defScope s__law_path) := ⟨rfl, rfl, rfl, by decide +kernel, rfl, by decide +kernel, by decide +kernel⟩
abbrev s__law_base : Stmt := topS 71
theorem sc__law_base : FnScope ["_law_spans", "_law_kept", "_law_found", "_law_index", "_law_back"] ["_law_spans", "_law_kept"] (defScope s__law_base) := ⟨rfl, rfl, rfl, by decide +kernel, rfl, by decide +kernel, by decide +kernel⟩
abbrev s__law_bounds : Stmt := topS 72
theorem sc__law_bounds : FnScope ["_law_spans", "_law_way", "_law_least", "_law_most", "_law_index", "_law_forth"] ["_law_spans", "_law_way"] (defScope s__law_bounds) := ⟨rfl, rfl, rfl, by decide +kernel, rfl, by decide +kernel, by decide +kernel⟩
abbrev s__law_sum : Stmt := topS 73
theorem sc__law_sum : FnScope ["_law_way", "_law_row_here", "_law_index", "_law_forth"] ["_law_way", "_law_row_here"] (defScope s__law_sum) := ⟨rfl, rfl, rfl, by decide +kernel, rfl, by decide +kernel, by decide +kernel⟩
abbrev s__law_row : Stmt := topS 74
theorem sc__law_row : FnScope ["_law_beat_here", "_law_parts", "_law_spans", "_law_moments", "_law_found", "_law_one", "_law_other", "_law_low", "_law_high", "_law_number"] ["_law_beat_here", "_law_parts", "_law_spans", "_law_moments"] (defScope s__law_row) := ⟨rfl, rfl, rfl, by decide +kernel, rfl, by decide +kernel, by decide +kernel⟩
abbrev s__law_is_ring : Stmt := topS 75
theorem sc__law_is_ring : FnScope ["_law_spans", "_law_thing", "_law_ends", "_law_pair", "_law_one", "_law_other", "_law_k"] ["_law_spans", "_law_thing"] (defScope s__law_is_ring) := ⟨rfl, rfl, rfl, by decide +kernel, rfl, by decide +kernel, by decide +kernel⟩
abbrev s__law_beats : Stmt := topS 76
theorem sc__law_beats : FnScope ["_law_rings", "_law_island", "_law_ring", "_law_total", "_law_k", "_law_share", "_law_index", "_law_forth"] ["_law_rings", "_law_island", "_law_ring"] (defScope s__law_beats) := ⟨rfl, rfl, rfl, by decide +kernel, rfl, by decide +kernel, by decide +kernel⟩
abbrev s__law_bars : Stmt := topS 77
theorem sc__law_bars : FnScope ["_law_beat_here", "_law_spans", "_law_rings", "_law_island", "_law_ring", "_law_used", "_law_least", "_law_most", "_law_number", "_law_index", "_law_forth"] ["_law_beat_here", "_law_spans", "_law_rings", "_law_island", "_law_ring"] (defScope s__law_bars) := ⟨rfl, rfl, rfl, by decide +kernel, rfl, by decide +kernel, by decide +kernel⟩
abbrev s__law_fits : Stmt := topS 78
theorem sc__law_fits : FnScope ["_law_beat_here", "_law_spans", "_law_events", "_law_rings", "_law_island", "_law_told", "_law_marks_here", "_law_row_here", "_law_moment", "_law_event", "_law_ring"] ["_law_beat_here", "_law_spans", "_law_events", "_law_rings", "_law_island", "_law_told"] (defScope s__law_fits) := ⟨rfl, rfl, rfl, by decide +kernel, rfl, by decide +kernel, by decide +kernel⟩
abbrev s__law_any_span : Stmt := topS 79
theorem sc__law_any_span : FnScope ["_law_source_here", "_law_beat_here", "_law_one", "_law_other", "_law_width", "_law_low", "_law_high"] ["_law_source_here", "_law_beat_here", "_law_one", "_law_other", "_law_width"] (defScope s__law_any_span) := ⟨rfl, rfl, rfl, by decide +kernel, rfl, by decide +kernel, by decide +kernel⟩
abbrev s__law_net_spans : Stmt := topS 80
theorem sc__law_net_spans : FnScope ["_law_source_here", "_law_beat_here", "_law_size", "_law_more", "_law_width", "_law_order_here", "_law_spans", "_law_k", "_law_span"] ["_law_source_here", "_law_beat_here", "_law_size", "_law_more", "_law_width"] (defScope s__law_net_spans) := ⟨rfl, rfl, rfl, by decide +kernel, rfl, by decide +kernel, by decide +kernel⟩
abbrev s__law_barred_right : Stmt := topS 81
theorem sc__law_barred_right : FnScope ["_law_net", "_law_spans", "_law_rings", "_law_number", "_law_told", "_law_index", "_law_forth"] ["_law_net", "_law_spans", "_law_rings", "_law_number"] (defScope s__law_barred_right) := ⟨rfl, rfl, rfl, by decide +kernel, rfl, by decide +kernel, by decide +kernel⟩
abbrev s_law : Stmt := topS 82
theorem sc_law : FnScope ["_law_script", "_law_source_here", "_law_beat_here", "_law_size", "_law_more", "_law_width", "_law_spans", "_law_events", "_law_net", "_law_rings", "_law_least", "_law_most", "_law_run", "_law_back", "_law_number", "_law_told", "_law_beats_here", "_law_below", "_law_above", "_law_index", "_law_forth"] ["_law_script"] (defScope s_law) := ⟨rfl, rfl, rfl, by decide +kernel, rfl, by decide +kernel, by decide +kernel⟩
abbrev s_Ratio___init__ : Stmt := inClass (topS 13) 0
theorem sc_Ratio___init__ : FnScope ["self", "top", "bottom", "value", "part"] ["self", "top", "bottom"] (defScope s_Ratio___init__) := ⟨rfl, rfl, rfl, by decide +kernel, rfl, by decide +kernel, by decide +kernel⟩
abbrev s_Ratio_less : Stmt := inClass (topS 13) 10
theorem sc_Ratio_less : FnScope ["self", "number", "other"] ["self", "number"] (defScope s_Ratio_less) := ⟨rfl, rfl, rfl, by decide +kernel, rfl, by decide +kernel, by decide +kernel⟩
abbrev s_Ratio_whole : Stmt := inClass (topS 13) 12
theorem sc_Ratio_whole : FnScope ["self"] ["self"] (defScope s_Ratio_whole) := ⟨rfl, rfl, rfl, by decide +kernel, rfl, by decide +kernel, by decide +kernel⟩
abbrev s_Net___init__ : Stmt := inClass (topS 26) 0
theorem sc_Net___init__ : FnScope ["self", "beat", "events", "spans", "index", "item"] ["self", "beat", "events", "spans"] (defScope s_Net___init__) := ⟨rfl, rfl, rfl, by decide +kernel, rfl, by decide +kernel, by decide +kernel⟩
structure Txt (K : PySem.W.Frag) (mg : Str → Option Value) (CN CR : Addr) : Prop where
  z_len : mg "len" = none
  z_all : mg "all" = none
  z_any : mg "any" = none
  z_sum : mg "sum" = none
  z_min : mg "min" = none
  z_max : mg "max" = none
  z_abs : mg "abs" = none
  z_int : mg "int" = none
  z_bool : mg "bool" = none
  z_tuple : mg "tuple" = none
  z_list : mg "list" = none
  z_sorted : mg "sorted" = none
  z_isinstance : mg "isinstance" = none
  z_range : mg "range" = none
  z_enumerate : mg "enumerate" = none
  z_zip : mg "zip" = none
  z_dict : mg "dict" = none
  c_LEAST_BEAT : ∃ u, mg "LEAST_BEAT" = some u ∧ RelV (.int 3) u
  c_MOST_BEAT : ∃ u, mg "MOST_BEAT" = some u ∧ RelV (.int 1440) u
  c_MOST_EVENTS : ∃ u, mg "MOST_EVENTS" = some u ∧ RelV (.int 24) u
  c_MOST_SPANS : ∃ u, mg "MOST_SPANS" = some u ∧ RelV (.int 60) u
  c_MOST_BOUND : ∃ u, mg "MOST_BOUND" = some u ∧ RelV (.int 2880) u
  g_Ratio : mg "Ratio" = some (.ref CR)
  g_Net : mg "Net" = some (.ref CN)
  clR : Cls K CR
  clN : Cls K CN
  nR_top : NoAttr K CR "top"
  nR_bottom : NoAttr K CR "bottom"
  nN_beat : NoAttr K CN "beat"
  nN_events : NoAttr K CN "events"
  nN_spans : NoAttr K CN "spans"
  kitR : PySem.W.kitOne K (.type "int") (.ref CR) = some false
  d_is_integer : DefAt K mg "is_integer" s_is_integer ["thing"]
  d_common : DefAt K mg "common" s_common ["one", "other"]
  d_is_number : DefAt K mg "is_number" s_is_number ["thing"]
  d_as_ratio : DefAt K mg "as_ratio" s_as_ratio ["number"]
  d_rest_by : DefAt K mg "rest_by" s_rest_by ["number", "beat"]
  d_is_below : DefAt K mg "is_below" s_is_below ["one", "other"]
  d_is_span : DefAt K mg "is_span" s_is_span ["thing", "beat", "events"]
  d_marks_of : DefAt K mg "marks_of" s_marks_of ["net"]
  d_pieces : DefAt K mg "pieces" s_pieces ["net"]
  d_ends_of : DefAt K mg "ends_of" s_ends_of ["net", "pair"]
  d_is_pair : DefAt K mg "is_pair" s_is_pair ["net", "thing"]
  d_ends_or_none : DefAt K mg "ends_or_none" s_ends_or_none ["net", "thing"]
  d_is_ring : DefAt K mg "is_ring" s_is_ring ["net", "thing"]
  d_check_ring : DefAt K mg "check_ring" s_check_ring ["net", "thing"]
  d_tree : DefAt K mg "tree" s_tree ["net"]
  d_tree_steps : DefAt K mg "tree_steps" s_tree_steps ["net"]
  d_ways_from : DefAt K mg "ways_from" s_ways_from ["net", "begin"]
  d_loose_spans : DefAt K mg "loose_spans" s_loose_spans ["net"]
  d_base : DefAt K mg "base" s_base ["net"]
  d_shares_of : DefAt K mg "shares_of" s_shares_of ["net", "ring"]
  d_sum_along : DefAt K mg "sum_along" s_sum_along ["way", "lengths"]
  d_length_of : DefAt K mg "length_of" s_length_of ["net", "span", "moments"]
  d_all_lengths : DefAt K mg "all_lengths" s_all_lengths ["net", "moments"]
  d_moments_fault : DefAt K mg "moments_fault" s_moments_fault ["net", "thing"]
  d_is_timetable : DefAt K mg "is_timetable" s_is_timetable ["net", "thing"]
  d_check_timetable : DefAt K mg "check_timetable" s_check_timetable ["net", "thing"]
  d_rounds_of : DefAt K mg "rounds_of" s_rounds_of ["net", "row", "ring"]
  d_rounds : DefAt K mg "rounds" s_rounds ["net", "timetable", "ring"]
  d_check_row : DefAt K mg "check_row" s_check_row ["net", "island"]
  d_rounds_in : DefAt K mg "rounds_in" s_rounds_in ["net", "island", "ring"]
  d_arcs_of : DefAt K mg "arcs_of" s_arcs_of ["net", "island"]
  d_least_places : DefAt K mg "least_places" s_least_places ["net", "arcs"]
  d_ring_behind : DefAt K mg "ring_behind" s_ring_behind ["net", "came", "event"]
  d_longest : DefAt K mg "longest" s_longest ["net", "arcs", "events", "begin"]
  d_places_of : DefAt K mg "places_of" s_places_of ["net", "island"]
  d_as_moments : DefAt K mg "as_moments" s_as_moments ["net", "places"]
  d_held : DefAt K mg "held" s_held ["net", "row"]
  d_bounds_along : DefAt K mg "bounds_along" s_bounds_along ["net", "way"]
  d_is_barring : DefAt K mg "is_barring" s_is_barring ["net", "row", "thing"]
  d_islands : DefAt K mg "islands" s_islands ["net"]
  d__law_source : DefAt K mg "_law_source" s__law_source ["_law_script", "_law_k"]
  d__law_draw : DefAt K mg "_law_draw" s__law_draw ["_law_source_here", "_law_many"]
  d__law_integer : DefAt K mg "_law_integer" s__law_integer ["_law_thing"]
  d__law_order : DefAt K mg "_law_order" s__law_order ["_law_source_here", "_law_many"]
  d__law_beat : DefAt K mg "_law_beat" s__law_beat ["_law_source_here"]
  d__law_marks : DefAt K mg "_law_marks" s__law_marks ["_law_spans", "_law_events"]
  d__law_path : DefAt K mg "_law_path" s__law_path ["_law_spans", "_law_kept", "_law_begin", "_law_end"]
  d__law_base : DefAt K mg "_law_base" s__law_base ["_law_spans", "_law_kept"]
  d__law_bounds : DefAt K mg "_law_bounds" s__law_bounds ["_law_spans", "_law_way"]
  d__law_sum : DefAt K mg "_law_sum" s__law_sum ["_law_way", "_law_row_here"]
  d__law_row : DefAt K mg "_law_row" s__law_row ["_law_beat_here", "_law_parts", "_law_spans", "_law_moments"]
  d__law_is_ring : DefAt K mg "_law_is_ring" s__law_is_ring ["_law_spans", "_law_thing"]
  d__law_beats : DefAt K mg "_law_beats" s__law_beats ["_law_rings", "_law_island", "_law_ring"]
  d__law_bars : DefAt K mg "_law_bars" s__law_bars ["_law_beat_here", "_law_spans", "_law_rings", "_law_island", "_law_ring"]
  d__law_fits : DefAt K mg "_law_fits" s__law_fits ["_law_beat_here", "_law_spans", "_law_events", "_law_rings", "_law_island", "_law_told"]
  d__law_any_span : DefAt K mg "_law_any_span" s__law_any_span ["_law_source_here", "_law_beat_here", "_law_one", "_law_other", "_law_width"]
  d__law_net_spans : DefAt K mg "_law_net_spans" s__law_net_spans ["_law_source_here", "_law_beat_here", "_law_size", "_law_more", "_law_width"]
  d__law_barred_right : DefAt K mg "_law_barred_right" s__law_barred_right ["_law_net", "_law_spans", "_law_rings", "_law_number"]
  d_law : DefAt K mg "law" s_law ["_law_script"]
  d_Ratio___init__ : ∃ (f : Addr) (fd : FuncData), Fun K "__init__" "Ratio.__init__" s_Ratio___init__ f fd ∧ Mk K CR f ∧ Binds K fd ["self", "top", "bottom"] []
  d_Ratio_less : ∃ (f : Addr) (fd : FuncData), Fun K "less" "Ratio.less" s_Ratio_less f fd ∧ Meth K CR "less" f ∧ Binds K fd ["self", "number"] []
  d_Ratio_whole : ∃ (f : Addr) (fd : FuncData), Fun K "whole" "Ratio.whole" s_Ratio_whole f fd ∧ Meth K CR "whole" f ∧ Binds K fd ["self"] []
  d_Net___init__ : ∃ (f : Addr) (fd : FuncData), Fun K "__init__" "Net.__init__" s_Net___init__ f fd ∧ Mk K CN f ∧ Binds K fd ["self", "beat", "events", "spans"] []
end Z
end
section
/-! ZHD: the head, by facts that one run reads. -/
namespace Z
open PySem PySem.Spec PyProof.Rows L2
def faL0 : List He.Fa := [.free "len", .free "all", .free "any", .free "sum", .free "min", .free "max", .free "abs", .free "int", .free "bool", .free "tuple", .free "list", .free "sorted", .free "isinstance", .free "range", .free "enumerate", .free "zip", .free "dict", .int "LEAST_BEAT" 3, .int "MOST_BEAT" 1440, .int "MOST_EVENTS" 24, .int "MOST_SPANS" 60, .int "MOST_BOUND" 2880, .glo "Ratio", .glo "Net", .cls "Ratio", .mkr "Ratio", .meth "Ratio" "__init__", .cls "Net", .mkr "Net", .meth "Net" "__init__"]
def faL1 : List He.Fa := [.noat "Ratio" "top", .noat "Ratio" "bottom", .noat "Net" "beat", .noat "Net" "events", .noat "Net" "spans", .meth "Ratio" "less", .meth "Ratio" "whole", .glo "is_integer", .keep "is_integer", .glo "common", .keep "common", .glo "is_number", .keep "is_number", .glo "as_ratio", .keep "as_ratio", .glo "rest_by", .keep "rest_by", .glo "is_below", .keep "is_below", .glo "is_span", .keep "is_span", .glo "marks_of", .keep "marks_of", .glo "pieces", .keep "pieces", .glo "ends_of", .keep "ends_of", .glo "is_pair", .keep "is_pair", .glo "ends_or_none"]
def faL2 : List He.Fa := [.keep "ends_or_none", .glo "is_ring", .keep "is_ring", .glo "check_ring", .keep "check_ring", .glo "tree", .keep "tree", .glo "tree_steps", .keep "tree_steps", .glo "ways_from", .keep "ways_from", .glo "loose_spans", .keep "loose_spans", .glo "base", .keep "base", .glo "shares_of", .keep "shares_of", .glo "sum_along", .keep "sum_along", .glo "length_of", .keep "length_of", .glo "all_lengths", .keep "all_lengths", .glo "moments_fault", .keep "moments_fault", .glo "is_timetable", .keep "is_timetable", .glo "check_timetable", .keep "check_timetable", .glo "rounds_of"]
def faL3 : List He.Fa := [.keep "rounds_of", .glo "rounds", .keep "rounds", .glo "check_row", .keep "check_row", .glo "rounds_in", .keep "rounds_in", .glo "arcs_of", .keep "arcs_of", .glo "least_places", .keep "least_places", .glo "ring_behind", .keep "ring_behind", .glo "longest", .keep "longest", .glo "places_of", .keep "places_of", .glo "as_moments", .keep "as_moments", .glo "held", .keep "held", .glo "bounds_along", .keep "bounds_along", .glo "is_barring", .keep "is_barring", .glo "islands", .keep "islands", .glo "_law_source", .keep "_law_source", .glo "_law_draw"]
def faL4 : List He.Fa := [.keep "_law_draw", .glo "_law_integer", .keep "_law_integer", .glo "_law_order", .keep "_law_order", .glo "_law_beat", .keep "_law_beat", .glo "_law_marks", .keep "_law_marks", .glo "_law_path", .keep "_law_path", .glo "_law_base", .keep "_law_base", .glo "_law_bounds", .keep "_law_bounds", .glo "_law_sum", .keep "_law_sum", .glo "_law_row", .keep "_law_row", .glo "_law_is_ring", .keep "_law_is_ring", .glo "_law_beats", .keep "_law_beats", .glo "_law_bars", .keep "_law_bars", .glo "_law_fits", .keep "_law_fits", .glo "_law_any_span", .keep "_law_any_span", .glo "_law_net_spans"]
def faL5 : List He.Fa := [.keep "_law_net_spans", .glo "_law_barred_right", .keep "_law_barred_right", .glo "law", .keep "law"]
def faL : List He.Fa := faL0 ++ faL1 ++ faL2 ++ faL3 ++ faL4 ++ faL5
def fnL0 : List He.FnD := [⟨("is_integer", none), "is_integer", "is_integer", defArgs s_is_integer, defBody s_is_integer, defScope s_is_integer⟩, ⟨("common", none), "common", "common", defArgs s_common, defBody s_common, defScope s_common⟩, ⟨("is_number", none), "is_number", "is_number", defArgs s_is_number, defBody s_is_number, defScope s_is_number⟩, ⟨("as_ratio", none), "as_ratio", "as_ratio", defArgs s_as_ratio, defBody s_as_ratio, defScope s_as_ratio⟩, ⟨("rest_by", none), "rest_by", "rest_by", defArgs s_rest_by, defBody s_rest_by, defScope s_rest_by⟩, ⟨("is_below", none), "is_below", "is_below", defArgs s_is_below, defBody s_is_below, defScope s_is_below⟩, ⟨("is_span", none), "is_span", "is_span", defArgs s_is_span, defBody s_is_span, defScope s_is_span⟩, ⟨("marks_of", none), "marks_of", "marks_of", defArgs s_marks_of, defBody s_marks_of, defScope s_marks_of⟩, ⟨("pieces", none), "pieces", "pieces", defArgs s_pieces, defBody s_pieces, defScope s_pieces⟩, ⟨("ends_of", none), "ends_of", "ends_of", defArgs s_ends_of, defBody s_ends_of, defScope s_ends_of⟩, ⟨("is_pair", none), "is_pair", "is_pair", defArgs s_is_pair, defBody s_is_pair, defScope s_is_pair⟩, ⟨("ends_or_none", none), "ends_or_none", "ends_or_none", defArgs s_ends_or_none, defBody s_ends_or_none, defScope s_ends_or_none⟩, ⟨("is_ring", none), "is_ring", "is_ring", defArgs s_is_ring, defBody s_is_ring, defScope s_is_ring⟩, ⟨("check_ring", none), "check_ring", "check_ring", defArgs s_check_ring, defBody s_check_ring, defScope s_check_ring⟩, ⟨("tree", none), "tree", "tree", defArgs s_tree, defBody s_tree, defScope s_tree⟩, ⟨("tree_steps", none), "tree_steps", "tree_steps", defArgs s_tree_steps, defBody s_tree_steps, defScope s_tree_steps⟩, ⟨("ways_from", none), "ways_from", "ways_from", defArgs s_ways_from, defBody s_ways_from, defScope s_ways_from⟩, ⟨("loose_spans", none), "loose_spans", "loose_spans", defArgs s_loose_spans, defBody s_loose_spans, defScope s_loose_spans⟩, ⟨("base", none), "base", "base", defArgs s_base, defBody s_base, defScope s_base⟩, ⟨("shares_of", none), "shares_of", "shares_of", defArgs s_shares_of, defBody s_shares_of, defScope s_shares_of⟩, ⟨("sum_along", none), "sum_along", "sum_along", defArgs s_sum_along, defBody s_sum_along, defScope s_sum_along⟩, ⟨("length_of", none), "length_of", "length_of", defArgs s_length_of, defBody s_length_of, defScope s_length_of⟩, ⟨("all_lengths", none), "all_lengths", "all_lengths", defArgs s_all_lengths, defBody s_all_lengths, defScope s_all_lengths⟩, ⟨("moments_fault", none), "moments_fault", "moments_fault", defArgs s_moments_fault, defBody s_moments_fault, defScope s_moments_fault⟩, ⟨("is_timetable", none), "is_timetable", "is_timetable", defArgs s_is_timetable, defBody s_is_timetable, defScope s_is_timetable⟩, ⟨("check_timetable", none), "check_timetable", "check_timetable", defArgs s_check_timetable, defBody s_check_timetable, defScope s_check_timetable⟩, ⟨("rounds_of", none), "rounds_of", "rounds_of", defArgs s_rounds_of, defBody s_rounds_of, defScope s_rounds_of⟩, ⟨("rounds", none), "rounds", "rounds", defArgs s_rounds, defBody s_rounds, defScope s_rounds⟩, ⟨("check_row", none), "check_row", "check_row", defArgs s_check_row, defBody s_check_row, defScope s_check_row⟩, ⟨("rounds_in", none), "rounds_in", "rounds_in", defArgs s_rounds_in, defBody s_rounds_in, defScope s_rounds_in⟩]
def fnL1 : List He.FnD := [⟨("arcs_of", none), "arcs_of", "arcs_of", defArgs s_arcs_of, defBody s_arcs_of, defScope s_arcs_of⟩, ⟨("least_places", none), "least_places", "least_places", defArgs s_least_places, defBody s_least_places, defScope s_least_places⟩, ⟨("ring_behind", none), "ring_behind", "ring_behind", defArgs s_ring_behind, defBody s_ring_behind, defScope s_ring_behind⟩, ⟨("longest", none), "longest", "longest", defArgs s_longest, defBody s_longest, defScope s_longest⟩, ⟨("places_of", none), "places_of", "places_of", defArgs s_places_of, defBody s_places_of, defScope s_places_of⟩, ⟨("as_moments", none), "as_moments", "as_moments", defArgs s_as_moments, defBody s_as_moments, defScope s_as_moments⟩, ⟨("held", none), "held", "held", defArgs s_held, defBody s_held, defScope s_held⟩, ⟨("bounds_along", none), "bounds_along", "bounds_along", defArgs s_bounds_along, defBody s_bounds_along, defScope s_bounds_along⟩, ⟨("is_barring", none), "is_barring", "is_barring", defArgs s_is_barring, defBody s_is_barring, defScope s_is_barring⟩, ⟨("islands", none), "islands", "islands", defArgs s_islands, defBody s_islands, defScope s_islands⟩, ⟨("_law_source", none), "_law_source", "_law_source", defArgs s__law_source, defBody s__law_source, defScope s__law_source⟩, ⟨("_law_draw", none), "_law_draw", "_law_draw", defArgs s__law_draw, defBody s__law_draw, defScope s__law_draw⟩, ⟨("_law_integer", none), "_law_integer", "_law_integer", defArgs s__law_integer, defBody s__law_integer, defScope s__law_integer⟩, ⟨("_law_order", none), "_law_order", "_law_order", defArgs s__law_order, defBody s__law_order, defScope s__law_order⟩, ⟨("_law_beat", none), "_law_beat", "_law_beat", defArgs s__law_beat, defBody s__law_beat, defScope s__law_beat⟩, ⟨("_law_marks", none), "_law_marks", "_law_marks", defArgs s__law_marks, defBody s__law_marks, defScope s__law_marks⟩, ⟨("_law_path", none), "_law_path", "_law_path", defArgs s__law_path, defBody s__law_path, defScope s__law_path⟩, ⟨("_law_base", none), "_law_base", "_law_base", defArgs s__law_base, defBody s__law_base, defScope s__law_base⟩, ⟨("_law_bounds", none), "_law_bounds", "_law_bounds", defArgs s__law_bounds, defBody s__law_bounds, defScope s__law_bounds⟩, ⟨("_law_sum", none), "_law_sum", "_law_sum", defArgs s__law_sum, defBody s__law_sum, defScope s__law_sum⟩, ⟨("_law_row", none), "_law_row", "_law_row", defArgs s__law_row, defBody s__law_row, defScope s__law_row⟩, ⟨("_law_is_ring", none), "_law_is_ring", "_law_is_ring", defArgs s__law_is_ring, defBody s__law_is_ring, defScope s__law_is_ring⟩, ⟨("_law_beats", none), "_law_beats", "_law_beats", defArgs s__law_beats, defBody s__law_beats, defScope s__law_beats⟩, ⟨("_law_bars", none), "_law_bars", "_law_bars", defArgs s__law_bars, defBody s__law_bars, defScope s__law_bars⟩, ⟨("_law_fits", none), "_law_fits", "_law_fits", defArgs s__law_fits, defBody s__law_fits, defScope s__law_fits⟩, ⟨("_law_any_span", none), "_law_any_span", "_law_any_span", defArgs s__law_any_span, defBody s__law_any_span, defScope s__law_any_span⟩, ⟨("_law_net_spans", none), "_law_net_spans", "_law_net_spans", defArgs s__law_net_spans, defBody s__law_net_spans, defScope s__law_net_spans⟩, ⟨("_law_barred_right", none), "_law_barred_right", "_law_barred_right", defArgs s__law_barred_right, defBody s__law_barred_right, defScope s__law_barred_right⟩, ⟨("law", none), "law", "law", defArgs s_law, defBody s_law, defScope s_law⟩, ⟨("Ratio", some "__init__"), "__init__", "Ratio.__init__", defArgs s_Ratio___init__, defBody s_Ratio___init__, defScope s_Ratio___init__⟩]
def fnL2 : List He.FnD := [⟨("Ratio", some "less"), "less", "Ratio.less", defArgs s_Ratio_less, defBody s_Ratio_less, defScope s_Ratio_less⟩, ⟨("Ratio", some "whole"), "whole", "Ratio.whole", defArgs s_Ratio_whole, defBody s_Ratio_whole, defScope s_Ratio_whole⟩, ⟨("Net", some "__init__"), "__init__", "Net.__init__", defArgs s_Net___init__, defBody s_Net___init__, defScope s_Net___init__⟩]
def fnL : List He.FnD := fnL0 ++ fnL1 ++ fnL2
def nameL0 : List PySem.Str := ["_wall", "__name__", "SpansError", "BadNumber", "BadBeat", "BadEvents", "BadSpan", "BadRing", "BadTimetable", "BadIsland", "is_integer", "common", "Ratio", "is_number", "as_ratio", "plain", "rest_by", "is_below", "LEAST_BEAT", "MOST_BEAT", "MOST_EVENTS", "MOST_SPANS", "MOST_BOUND", "is_span", "Net", "marks_of", "pieces", "ends_of", "is_pair", "ends_or_none"]
def nameL1 : List PySem.Str := ["is_ring", "check_ring", "tree", "tree_steps", "ways_from", "loose_spans", "base", "shares_of", "sum_along", "length_of", "all_lengths", "moments_fault", "is_timetable", "check_timetable", "rounds_of", "rounds", "check_row", "rounds_in", "arcs_of", "least_places", "ring_behind", "longest", "places_of", "as_moments", "held", "bounds_along", "is_barring", "islands", "_law_source", "_law_draw"]
def nameL2 : List PySem.Str := ["_law_integer", "_law_order", "_law_beat", "_law_marks", "_law_path", "_law_base", "_law_bounds", "_law_sum", "_law_row", "_law_is_ring", "_law_beats", "_law_bars", "_law_fits", "_law_any_span", "_law_net_spans", "_law_barred_right"]
def nameL : List PySem.Str := nameL0 ++ nameL1 ++ nameL2
def ownL0 : List PySem.Str := ["Ratio", "Net", "is_integer", "common", "is_number", "as_ratio", "rest_by", "is_below", "is_span", "marks_of", "pieces", "ends_of", "is_pair", "ends_or_none", "is_ring", "check_ring", "tree", "tree_steps", "ways_from", "loose_spans", "base", "shares_of", "sum_along", "length_of", "all_lengths", "moments_fault", "is_timetable", "check_timetable", "rounds_of", "rounds"]
def ownL1 : List PySem.Str := ["check_row", "rounds_in", "arcs_of", "least_places", "ring_behind", "longest", "places_of", "as_moments", "held", "bounds_along", "is_barring", "islands", "_law_source", "_law_draw", "_law_integer", "_law_order", "_law_beat", "_law_marks", "_law_path", "_law_base", "_law_bounds", "_law_sum", "_law_row", "_law_is_ring", "_law_beats", "_law_bars", "_law_fits", "_law_any_span", "_law_net_spans", "_law_barred_right"]
def ownL2 : List PySem.Str := ["law"]
def ownL : List PySem.Str := ownL0 ++ ownL1 ++ ownL2
/-- the class's own class -/
def tyB (K : PySem.W.Frag) : Bool := decide (PySem.W.typeIn K (.ref (He.ga K "Ratio")) = some (.type "type"))
/-- what the named things reach: the module, the defs and classes, what they name, twice more for the methods -/
def refG (g : Addr → Option Obj) (as : List Addr) : List Addr := as.flatMap fun a => match g a with
  | some o => He.refsO o
  | none => []
def part1 (g : Addr → Option Obj) (l1 l2 : List Addr) (l3 : List Addr) : PySem.W.Frag := He.frG g (mainGlobals :: (l1 ++ (l2 ++ (l3 ++ refG g l3))))
def part0 (g : Addr → Option Obj) (l1 l2 : List Addr) : PySem.W.Frag := part1 g l1 l2 (refG g l2)
def partN (g : Addr → Option Obj) (l1 : List Addr) : PySem.W.Frag := part0 g l1 (refG g l1)
def part (g : Addr → Option Obj) : PySem.W.Frag := partN g (ownL.map (He.ga (He.frG g [mainGlobals])))
def hk : PySem.W.Hook where
  α := He.Al × Bool
  obs := fun s => (He.obsE faL fnL (part s.heap.get?), tyB (part s.heap.get?))
  val := fun _ => (He.valE fnL, true)
  says := fun _ h => ∃ K : PySem.W.Frag, K.In h ∧ He.SaysE faL fnL K ∧ tyB K = true
  of := fun _ _ e => ⟨_, He.frG_in, congrArg Prod.fst e, congrArg Prod.snd e⟩
  keeps := fun _ _ _ ⟨K, hK, c⟩ k => ⟨K, PySem.W.Frag.In.keeps hK k, c⟩
def ob (s : PySem.W.SharedT) : He.Al × Bool := (He.obsE faL fnL (part (HandSHeadRun.getT s)), tyB (part (HandSHeadRun.getT s)))
theorem ob_eq (s : PySem.W.SharedT) : ob s = hk.obs s.abs := by
  have e : HandSHeadRun.getT s = s.abs.heap.get? := funext (HandSHeadRun.getT_eq s)
  unfold ob
  rw [e]
  rfl
theorem run_top (w : World) : HandSHeadRun.RunEq (PySem.W.OpenLaw.row PySem.Challenge.rw_likespans_k19_whole_one_ring_unbroken_ru) (PySem.W.view (PySem.W.OpenLaw.row PySem.Challenge.rw_likespans_k19_whole_one_ring_unbroken_ru).prog [82]) hk ob 6000 nameL w := by
  intro os
  kernel_rfl
end Z
end
section
/-! M0: the plain mirror of the program: spans, marks, ways. -/
namespace Z
structure Span where
  a : Nat
  b : Nat
  lo : Int
  hi : Int
structure Val (B : Int) (n : Nat) (S : List Span) : Prop where
  b3 : 3 ≤ B
  bm : B ≤ 1440
  n1 : 1 ≤ n
  nm : n ≤ 24
  sm : S.length ≤ 60
  sp : ∀ s ∈ S, s.a < n ∧ s.b < n ∧ s.a ≠ s.b ∧ 0 ≤ s.lo ∧ s.lo ≤ s.hi ∧ s.hi ≤ 2880 ∧ s.hi - s.lo ≤ B - 2
/-- one step of the marks -/
def mstep (st : List Nat × List Nat) (p : Span × Nat) : List Nat × List Nat :=
  if st.1.getD p.1.a 0 = st.1.getD p.1.b 0 then st else
    (st.1.map fun m => if m = st.1.getD p.1.a 0 ∨ m = st.1.getD p.1.b 0 then min (st.1.getD p.1.a 0) (st.1.getD p.1.b 0) else m, st.2 ++ [p.2])
def marks (n : Nat) (S : List Span) : List Nat × List Nat := S.zipIdx.foldl mstep (List.range n, [])
def kept (n : Nat) (S : List Span) : List Nat := (marks n S).2
def loose (n : Nat) (S : List Span) : List Nat := (List.range S.length).filter fun i => decide (i ∉ kept n S)
abbrev Way := List (Nat × Bool)
def spanAt (S : List Span) (i : Nat) : Span := S.getD i ⟨0, 0, 0, 0⟩
/-- from where, to where a pair goes -/
def src (S : List Span) (p : Nat × Bool) : Nat := if p.2 then (spanAt S p.1).a else (spanAt S p.1).b
def dst (S : List Span) (p : Nat × Bool) : Nat := if p.2 then (spanAt S p.1).b else (spanAt S p.1).a
def sumW (f : Nat → Int) (w : Way) : Int := (w.map fun p => if p.2 then f p.1 else -f p.1).sum
theorem mstep_len (st : List Nat × List Nat) (p : Span × Nat) : (mstep st p).1.length = st.1.length := by
  unfold mstep
  split
  · rfl
  · simp
theorem marks_len (n : Nat) (S : List Span) : (marks n S).1.length = n := by
  unfold marks
  have : ∀ (l : List (Span × Nat)) (st : List Nat × List Nat), (l.foldl mstep st).1.length = st.1.length := by
    intro l
    induction l with
    | nil => intro st; rfl
    | cons p l ih => intro st; rw [List.foldl_cons, ih, mstep_len]
  rw [this]
  simp
/-- a way from x to y -/
inductive IsWalk (S : List Span) : Nat → Way → Nat → Prop
  | nil (x : Nat) : IsWalk S x [] x
  | cons {p : Nat × Bool} {w : Way} {y : Nat} (h : p.1 < S.length) (t : IsWalk S (dst S p) w y) : IsWalk S (src S p) (p :: w) y
def cntW (i : Nat) (w : Way) : Int := ((w.filter fun p => decide (p.1 = i)).map fun p => if p.2 then (1 : Int) else -1).sum
def loW (S : List Span) (w : Way) : Int := (w.map fun p => if p.2 then (spanAt S p.1).lo else -(spanAt S p.1).hi).sum
def hiW (S : List Span) (w : Way) : Int := (w.map fun p => if p.2 then (spanAt S p.1).hi else -(spanAt S p.1).lo).sum
/-- the length of a span by moments -/
def lenS (B : Int) (ts : List Int) (s : Span) : Int := (ts.getD s.b 0 - ts.getD s.a 0 - s.lo) % B + s.lo
end Z
end
section
/-! ZE: how the plain things stand as data; loops over them. -/
namespace Z
open PySem PySem.Spec PyProof.Rows L2
theorem lk {a b : Nat} (h : Nat.ble a b = true := by rfl) : a ≤ b := Nat.le_of_ble_eq_true h
abbrev encS (s : Span) : PyData := .tuple [.int (s.a : Int), .int (s.b : Int), .int s.lo, .int s.hi]
abbrev encP (p : Nat × Bool) : PyData := .tuple [.int (p.1 : Int), .bool p.2]
abbrev encW (w : Way) : PyData := .tuple (w.map encP)
abbrev intN (n : Nat) : PyData := .int (n : Int)
def netF (B : Int) (n : Nat) (S : List Span) : List (Str × PyData) := [("spans", .tuple (S.map encS)), ("events", intN n), ("beat", .int B)]
abbrev netS (CN : Addr) (B : Int) (n : Nat) (S : List Span) : Sl := .ob CN (netF B n S)
theorem net_beat (B : Int) (n : Nat) (S : List Span) : (netF B n S).lookup ("beat" : Str) = some (.int B) := rfl
theorem net_events (B : Int) (n : Nat) (S : List Span) : (netF B n S).lookup ("events" : Str) = some (intN n) := rfl
theorem net_spans (B : Int) (n : Nat) (S : List Span) : (netF B n S).lookup ("spans" : Str) = some (.tuple (S.map encS)) := rfl
def enumD : Nat → List PyData → List PyData
  | _, [] => []
  | k, d :: ds => .tuple [intN k, d] :: enumD (k + 1) ds
theorem enumD_len : ∀ (k : Nat) (ds : List PyData), (enumD k ds).length = ds.length
  | _, [] => rfl
  | k, d :: ds => by simp [enumD, enumD_len]
theorem enumD_get : ∀ (k : Nat) (ds : List PyData) (i : Nat), (enumD k ds)[i]? = ds[i]?.map fun d => .tuple [intN (k + i), d]
  | _, [], _ => by simp [enumD]
  | k, d :: ds, 0 => by simp [enumD]
  | k, d :: ds, i + 1 => by
    simp only [enumD, List.getElem?_cons_succ]
    rw [enumD_get, show k + 1 + i = k + (i + 1) by omega]
def zipD : List PyData → List PyData → List PyData
  | d :: ds, e :: es => .tuple [d, e] :: zipD ds es
  | _, _ => []
theorem zipD_len : ∀ (ds es : List PyData), (zipD ds es).length = min ds.length es.length
  | [], es => by simp [zipD]
  | d :: ds, [] => by simp [zipD]
  | d :: ds, e :: es => by simp [zipD, zipD_len ds es]
theorem zipD_get : ∀ (ds es : List PyData) (i : Nat) (x y : PyData), ds[i]? = some x → es[i]? = some y → (zipD ds es)[i]? = some (.tuple [x, y])
  | d :: ds, e :: es, 0, x, y, h1, h2 => by
    simp at h1 h2
    subst h1 h2
    rfl
  | d :: ds, e :: es, i + 1, x, y, h1, h2 => zipD_get ds es i x y (by simpa using h1) (by simpa using h2)
  | [], _, _, _, _, h, _ => by simp at h
  | _ :: _, [], _, _, _, _, h => by simp at h
section
variable {ρ ρ' ρ1 ρ2 : List Sl} {cs cs' : Cs} {ta tb te tc : TE} {t u : TT} {s z : Sl} {ts us : TS} {g : TG} {N N' : List Sl → Cs → Prop} {T T' : Sl → Cs → Prop} {K : PySem.W.Frag}
theorem fz_pair {M : Addr → Prop} {H2 : Hp} (hM : ∀ a, M a → ∃ o, H2 a = some o) {T : Addr} (hT : H2 T = none) {x y : V} {d e : PyData} (hx : Dq (fz M H2) x d) (hy : Dq (fz M H2) y e) : Dq (fz M (upd H2 T (.tup [x, y]))) (.ref T) (.tuple [d, e]) := by
  have s := same_upd (o := .tup [x, y]) hT
  exact .tup (fz_new hM hT) (.cons (hx.mono (fz_mono s)) (.cons (hy.mono (fz_mono s)) .nil))
theorem ei_enum {ds : List PyData} (h : EvA te ρ cs (.d (.tuple ds))) : EvI (iEnumX K (tCons te tNil)) ρ cs (enumD 0 ds) := fun b as H σ ok R q =>
  h b as H σ ok _ fun v H1 e1 r1 => by
    cases r1 with
    | @tup a xs _ h1 h2 =>
      refine ⟨a, xs, rfl, .inr ⟨SqT.of ((ok.mono e1).h.gle _ _ h1), q _ H1 e1 fun H2 e2 => ?_⟩⟩
      have hs : SqT K H2 a xs := SqT.of (e2 _ _ h1)
      have hl : (enumD 0 ds).length = xs.length := by rw [enumD_len, h2.length]
      rw [hl]
      refine ⟨fun i hi => ⟨xs, xs[i], hs, by simp [hi]⟩, ⟨xs, hs, rfl⟩, fun i x H3 hi y => ?_⟩
      obtain ⟨T, u, rfl, hT, rfl, y2⟩ := y
      refine ⟨same_upd hT, fun M hM eM d hd => ?_⟩
      rw [enumD_get, Nat.zero_add] at hd
      obtain ⟨d', h3, rfl⟩ := Option.map_eq_some_iff.mp hd
      obtain ⟨u', h4, h5⟩ := h2.get h3
      have := y2 xs hs
      rw [h4] at this
      cases this
      exact fz_pair hM hT (.int _) (h5.mono eM)
theorem ei_zip {x' : PyData} {ds es : List PyData} (h : EvA ta ρ cs (.d x')) (hx : x' = .list ds ∨ x' = .tuple ds) (h' : EvA tb ρ cs (.d (.tuple es))) : EvI (iZipX K (tCons ta (tCons tb tNil))) ρ cs (zipD ds es) := fun b as H σ ok R q =>
  h b as H σ ok _ fun v H1 e1 r1 => h' b as H1 σ (ok.mono e1) _ fun w H2 e2 r2 => by
    have ok2 := (ok.mono e1).mono e2
    have r1' : Dq (b.G as cs H2) v x' := Dq.mono (fz_mono e2) r1
    have r2' : Dq (b.G as cs H2) w (.tuple es) := r2
    cases r2' with
    | @tup a' ys _ h3 h4 =>
      rcases hx with rfl | rfl
      · cases r1' with
        | @lst a xs _ h1 h5 =>
          refine ⟨a, a', xs, ys, rfl, .inl ⟨SqL.of (ok2.h.gle _ _ h1), SqT.of (ok2.h.gle _ _ h3), q _ H2 (e1.trans e2) fun H3 e3 => ?_⟩⟩
          have hs1 : SqL K H3 a xs := SqL.of (e3 _ _ h1)
          have hs2 : SqT K H3 a' ys := SqT.of (e3 _ _ h3)
          have hl : (zipD ds es).length = min xs.length ys.length := by rw [zipD_len, h5.length, h4.length]
          rw [hl]
          refine ⟨fun i hi => ⟨xs, ys, xs[i], ys[i], hs1, hs2, by simp, by simp⟩, ⟨xs, ys, hs1, hs2, by omega⟩, fun i x H4 hi y => ?_⟩
          obtain ⟨T, u1, u2, rfl, hT, rfl, y1, y2⟩ := y
          refine ⟨same_upd hT, fun M hM eM d hd => ?_⟩
          obtain ⟨d1, k1, k2⟩ := h5.get2 (y1 xs hs1)
          obtain ⟨d2, k3, k4⟩ := h4.get2 (y2 ys hs2)
          rw [zipD_get ds es i d1 d2 k1 k3] at hd
          cases hd
          exact fz_pair hM hT (k2.mono eM) (k4.mono eM)
      · cases r1' with
        | @tup a xs _ h1 h5 =>
          refine ⟨a, a', xs, ys, rfl, .inr ⟨SqT.of (ok2.h.gle _ _ h1), SqT.of (ok2.h.gle _ _ h3), q _ H2 (e1.trans e2) fun H3 e3 => ?_⟩⟩
          have hs1 : SqT K H3 a xs := SqT.of (e3 _ _ h1)
          have hs2 : SqT K H3 a' ys := SqT.of (e3 _ _ h3)
          have hl : (zipD ds es).length = min xs.length ys.length := by rw [zipD_len, h5.length, h4.length]
          rw [hl]
          refine ⟨fun i hi => ⟨xs, ys, xs[i], ys[i], hs1, hs2, by simp, by simp⟩, ⟨xs, ys, hs1, hs2, by omega⟩, fun i x H4 hi y => ?_⟩
          obtain ⟨T, u1, u2, rfl, hT, rfl, y1, y2⟩ := y
          refine ⟨same_upd hT, fun M hM eM d hd => ?_⟩
          obtain ⟨d1, k1, k2⟩ := h5.get2 (y1 xs hs1)
          obtain ⟨d2, k3, k4⟩ := h4.get2 (y2 ys hs2)
          rw [zipD_get ds es i d1 d2 k1 k3] at hd
          cases hd
          exact fz_pair hM hT (k2.mono eM) (k4.mono eM)
/-- a for over a tuple, a list, a range, an enumerate -/
theorem sx_forT {τ : Type} (ys : List τ) (enc : τ → PyData) (Inv : Nat → List Sl → Cs → Prop) (h : EvA te ρ cs (.d (.tuple (ys.map enc)))) (h0 : Inv 0 ρ cs)
    (hs : ∀ i y ρ cs, ys[i]? = some y → Inv i ρ cs → ∃ J ρ', Gx g (.d (enc y)) ρ cs J ρ' ∧ Sx ts ρ' cs (Inv (i + 1)) T) (hd : ∀ ρ cs, Inv ys.length ρ cs → N ρ cs) : Sx (tFor (iTup K te) g ts) ρ cs N T :=
  sx_for Inv (ei_tup h) h0 (fun i d ρ cs e inv => by
    rw [List.getElem?_map] at e
    obtain ⟨y, h1, rfl⟩ := Option.map_eq_some_iff.mp e
    exact hs i y ρ cs h1 inv) fun ρ cs inv => hd ρ cs (by rw [List.length_map] at inv; exact inv)
theorem sx_forL {τ : Type} (ys : List τ) (enc : τ → PyData) (Inv : Nat → List Sl → Cs → Prop) (h : EvA te ρ cs (.d (.list (ys.map enc)))) (h0 : Inv 0 ρ cs)
    (hs : ∀ i y ρ cs, ys[i]? = some y → Inv i ρ cs → ∃ J ρ', Gx g (.d (enc y)) ρ cs J ρ' ∧ Sx ts ρ' cs (Inv (i + 1)) T) (hd : ∀ ρ cs, Inv ys.length ρ cs → N ρ cs) : Sx (tFor (iList K te) g ts) ρ cs N T :=
  sx_for Inv (ei_list h) h0 (fun i d ρ cs e inv => by
    rw [List.getElem?_map] at e
    obtain ⟨y, h1, rfl⟩ := Option.map_eq_some_iff.mp e
    exact hs i y ρ cs h1 inv) fun ρ cs inv => hd ρ cs (by rw [List.length_map] at inv; exact inv)
theorem sx_forR (n : Nat) (hn : n < 100000) (Inv : Nat → List Sl → Cs → Prop) (h : EvA te ρ cs (.d (intN n))) (h0 : Inv 0 ρ cs)
    (hs : ∀ i ρ cs, i < n → Inv i ρ cs → ∃ J ρ', Gx g (.d (intN i)) ρ cs J ρ' ∧ Sx ts ρ' cs (Inv (i + 1)) T) (hd : ∀ ρ cs, Inv n ρ cs → N ρ cs) : Sx (tFor (iRng1 (tCons te tNil)) g ts) ρ cs N T :=
  sx_for Inv (ei_range1 h (by omega) (by omega)) h0 (fun i d ρ cs e inv => by
    rw [Int.toNat_natCast, List.getElem?_map] at e
    obtain ⟨y, h1, rfl⟩ := Option.map_eq_some_iff.mp e
    have hi : i < n := by
      have := (List.getElem?_eq_some_iff.mp h1).1
      simpa using this
    rw [List.getElem?_range hi] at h1
    cases h1
    exact hs i ρ cs hi inv) fun ρ cs inv => hd ρ cs (by simpa using inv)
theorem sx_forE {τ : Type} (ys : List τ) (enc : τ → PyData) (Inv : Nat → List Sl → Cs → Prop) (h : EvA te ρ cs (.d (.tuple (ys.map enc)))) (h0 : Inv 0 ρ cs)
    (hs : ∀ i y ρ cs, ys[i]? = some y → Inv i ρ cs → ∃ J ρ', Gx g (.d (.tuple [intN i, enc y])) ρ cs J ρ' ∧ Sx ts ρ' cs (Inv (i + 1)) T) (hd : ∀ ρ cs, Inv ys.length ρ cs → N ρ cs) : Sx (tFor (iEnumX K (tCons te tNil)) g ts) ρ cs N T :=
  sx_for Inv (ei_enum h) h0 (fun i d ρ cs e inv => by
    rw [enumD_get, Nat.zero_add, List.getElem?_map] at e
    obtain ⟨d', h1, rfl⟩ := Option.map_eq_some_iff.mp e
    obtain ⟨y, h2, rfl⟩ := Option.map_eq_some_iff.mp h1
    exact hs i y ρ cs h2 inv) fun ρ cs inv => hd ρ cs (by rw [enumD_len, List.length_map] at inv; exact inv)
end
section
variable {ρ ρ' ρ1 ρ2 : List Sl} {cs cs' : Cs} {ta tb te tc : TE} {t u : TT} {s z : Sl} {ts us : TS} {g : TG} {N N' : List Sl → Cs → Prop} {T T' : Sl → Cs → Prop} {K : PySem.W.Frag}
theorem filter_yes {α : Type} (l : List α) : l.filter (fun _ => true) = l := List.filter_eq_self.mpr fun _ _ => rfl
theorem en_map {τ : Type} {wi : TI} {vs : List Nat} (ys : List τ) (enc : τ → PyData) (f : τ → PyData) (h : EvI wi ρ cs (ys.map enc)) (hl : ys.length ≤ 10000000)
    (hs : ∀ (i : Nat) y, ys[i]? = some y → ∃ J ρ', Gx g (.d (enc y)) (wp ρ vs) cs J ρ' ∧ (∀ i ∈ J, i ∈ vs) ∧ EvA te ρ' cs (.d (f y))) : EvN (tLc wi g tYes te vs) ρ cs (ys.map f) := by
  have := en_lc (te := te) (tt := tYes) ys enc (fun _ => true) f h rfl hl fun i y hy => by
    obtain ⟨J, ρ', h1, h2, h3⟩ := hs i y hy
    exact ⟨J, ρ', h1, h2, et_yes, fun _ => h3⟩
  rw [filter_yes] at this
  exact this
theorem en_flt {τ : Type} {wi : TI} {vs : List Nat} {tt : TT} (ys : List τ) (enc : τ → PyData) (p : τ → Bool) (f : τ → PyData) (h : EvI wi ρ cs (ys.map enc)) (hl : ys.length ≤ 10000000)
    (hs : ∀ (i : Nat) y, ys[i]? = some y → ∃ J ρ', Gx g (.d (enc y)) (wp ρ vs) cs J ρ' ∧ (∀ i ∈ J, i ∈ vs) ∧ EvT tt ρ' cs (p y) ∧ (p y = true → EvA te ρ' cs (.d (f y)))) : EvN (tLc wi g tt te vs) ρ cs ((ys.filter p).map f) :=
  en_lc ys enc p f h rfl hl hs
theorem ev_isi2 {x : PyData} (h : EvA ta ρ cs (.d x)) (e : tyD x = some "tuple") : EvA (tCB (rIsiT K) (tCons ta (tCons (tTup (tCons (tC (.ty "list")) (tCons (tC (.ty "tuple")) tNil))) tNil))) ρ cs (.d (.bool true)) := fun b as H σ k Q q =>
  h b as H σ k _ fun v H1 e1 r1 => ⟨by decide, fun p hp => by
    have s := same_upd (o := .tup [.ty "list", .ty "tuple"]) hp
    have k2 := (k.mono e1).mono s
    refine ⟨v, p, _, .type "tuple", _, true, rfl, upd_same, .cons (.ty _) (.cons (.ty _) .nil), tyX_of k2.h (Dq.mono (fz_mono s) r1) e, ?_, q _ _ (e1.trans s) (.bl _)⟩
    exact kitAny_cons (b := false) (kit_ty (by decide +kernel)) (fun _ => kitAny_cons (b := true) (kit_ty (by decide +kernel)) (fun h => nomatch h) fun _ => rfl) fun h => nomatch h⟩
end
theorem drop_get {α : Type} {l : List α} {i : Nat} {x : α} (h : l[i]? = some x) : l.drop i = x :: l.drop (i + 1) := by
  obtain ⟨h1, h2⟩ := List.getElem?_eq_some_iff.mp h
  rw [List.drop_eq_getElem_cons h1, h2]
theorem zipIdx_get {α : Type} {l : List α} {i : Nat} {x : α} (h : l[i]? = some x) : l.zipIdx[i]? = some (x, i) := by
  rw [List.getElem?_zipIdx, h]
  simp
theorem eqv_int (i j : Int) : PyData.eqv (.int i) (.int j) = decide (i = j) := by
  rw [← Bool.beq_eq_decide_eq]; simp only [PyData.eqv]
theorem eqv_intN (i j : Nat) : PyData.eqv (intN i) (intN j) = decide (i = j) := by
  rw [eqv_int]
  by_cases h : i = j
  · subst h; simp
  · rw [decide_eq_false h, decide_eq_false (by omega)]
theorem eqv_bool (a b : Bool) : PyData.eqv (.bool a) (.bool b) = decide (a = b) := by
  rw [← Bool.beq_eq_decide_eq]; simp only [PyData.eqv]
theorem eqv_encS (s t : Span) : PyData.eqv (encS s) (encS t) = true ↔ s = t := by
  obtain ⟨a, b, c, d⟩ := s
  obtain ⟨a', b', c', d'⟩ := t
  simp only [encS, PyData.eqv, PyData.eqvAll, Bool.and_eq_true, beq_iff_eq, Span.mk.injEq]
  constructor
  · rintro ⟨h1, h2, h3, h4, _⟩
    exact ⟨by omega, by omega, h3, h4⟩
  · rintro ⟨rfl, rfl, rfl, rfl⟩
    simp
theorem shp_encS (s : Span) : Shp 1 (encS s) := shp_tup fun d hd => by
  simp only [List.mem_cons, List.not_mem_nil, or_false] at hd
  rcases hd with rfl | rfl | rfl | rfl <;> exact shp_int _
theorem in_intN2 (f g m : Nat) : ([intN f, intN g].any fun z => PyData.eqv z (intN m)) = decide (m = f ∨ m = g) := by
  simp only [List.any_cons, List.any_nil, eqv_intN, Bool.or_false]
  by_cases h1 : f = m
  · subst h1; simp
  · by_cases h2 : g = m
    · subst h2; simp
    · rw [decide_eq_false h1, decide_eq_false h2, decide_eq_false (by omega)]; rfl
theorem in_intN (l : List Nat) (m : Nat) : ((l.map intN).any fun z => PyData.eqv z (intN m)) = decide (m ∈ l) := by
  induction l with
  | nil => rfl
  | cons f l ih =>
    rw [List.map_cons, List.any_cons, ih, eqv_intN]
    by_cases h1 : f = m
    · subst h1; simp
    · simp [h1, Ne.symm h1]
theorem shp_intN (l : List Nat) : ∀ e ∈ l.map intN, Shp 0 e := fun e he => by
  obtain ⟨n, _, rfl⟩ := List.mem_map.mp he
  exact shp_int n
theorem neN_f {a b : Nat} (h : (!((a : Int) == (b : Int))) = false) : a = b := by
  rw [Bool.not_eq_false', beq_iff_eq] at h
  omega
theorem neN_t {a b : Nat} (h : (!((a : Int) == (b : Int))) = true) : ¬ a = b := by
  rw [Bool.not_eq_true', beq_eq_false_iff_ne] at h
  omega
theorem eqN_t {a b : Nat} (h : ((a : Int) == (b : Int)) = true) : a = b := by
  rw [beq_iff_eq] at h
  omega
theorem eqN_f {a b : Nat} (h : ((a : Int) == (b : Int)) = false) : ¬ a = b := by
  rw [beq_eq_false_iff_ne] at h
  omega
end Z
end
section
namespace Z
open PySem PySem.Spec PyProof.Rows L2
section
variable {P : Program} {w : World} {K : PySem.W.Frag} {mg : Str → Option Value} {base : Heap} {CN CR : Addr}
inductive pre_is_integer (CN CR : Addr) : List Sl → Sl → Prop
  | mk (i : Int) : pre_is_integer CN CR [.d (.int i)] (.d (.bool true))
theorem cal_is_integer (T : Txt K mg CN CR) : C8.Cal P w K mg base 1 "is_integer" (spP (pre_is_integer CN CR)) [] := by
  refine calP 0 T.d_is_integer sc_is_integer (by intro ss r h; cases h <;> rfl) (fun f cdv A outer s H E hr => ⟨_, (pss_one (ps_ret (pe_and (pe_callB (r := rIsi K) call_isi (by rfl) T.z_isinstance boot_isinstance (pa_cons (pv 0) (pa_cons (pe_bltn (v := V.ty "int") (by rfl) T.z_int boot_int rfl) pa_nil))) (pe_one (pe_not (pe_callB (r := rIsi K) call_isi (by rfl) T.z_isinstance boot_isinstance (pa_cons (pv 0) (pa_cons (pe_bltn (v := V.ty "bool") (by rfl) T.z_bool boot_bool rfl) pa_nil)))))))), ?_⟩)
  intro ss r h; cases h <;> refine ⟨Nat.le_of_ble_eq_true rfl, rfl, ?_⟩
  refine sx_ret (s := .d (.bool true)) (ev_andV (a := true) (b := true) (ev_isi (ev_var rfl rfl) ev_w (.ty _) rfl (kit_ty (by decide +kernel))) fun _ => ev_notV (a := false) (ev_isi (ev_var rfl rfl) ev_w (.ty _) rfl (kit_ty (by decide +kernel)))) (.d rfl)
inductive pre_common (CN CR : Addr) : List Sl → Sl → Prop
  | mk (i : Int) : pre_common CN CR [.d (.int i), .d (.int 1)] (.d (.int 1))
theorem cal_common (T : Txt K mg CN CR) : C8.Cal P w K mg base 1 "common" (spP (pre_common CN CR)) [] := by
  refine calP 0 T.d_common sc_common (by intro ss r h; cases h <;> rfl) (fun f cdv A outer s H E hr => ⟨_, (pss_cons (ps_set (i := 0) sc_common.nd rfl (.inl rfl) (pe_callB call_abs (by rfl) T.z_abs boot_abs (pa_cons (pv 0) pa_nil)))
      (pss_cons (ps_set (i := 1) sc_common.nd rfl (.inl rfl) (pe_callB call_abs (by rfl) T.z_abs boot_abs (pa_cons (pv 1) pa_nil)))
      (pss_cons (ps_while PassesOwn.never (pt_cmpR op_gt (pv 1) pe_int (nomark _))
        (pss_one (ps_par (i := 0) (j := 1) rfl sc_common.nd rfl rfl (by decide) rfl rfl (pa_cons (pv 1) (pa_cons (pe_op op_mod (pv 0) (pv 1)) pa_nil)) rfl)))
      (pss_one (ps_ret (pv 0)))))), ?_⟩)
  intro ss r h; cases h <;> refine ⟨Nat.le_of_ble_eq_true rfl, rfl, ?_⟩
  rename_i i
  refine sx_seq (sx_asg (ev_abs (ev_var rfl rfl)) (sx_seq (sx_asg (ev_abs (ev_var rfl rfl)) (sx_seq ?_))))
  refine sx_while (fun m ρ cs => (m = 1 ∧ ρ = [.d (.int (i.natAbs : Int)), .d (.int 1)]) ∨ (m = 0 ∧ ρ = [.d (.int 1), .d (.int 0)])) 1 (.inl ⟨rfl, rfl⟩) ?_
  rintro m ρ cs (⟨rfl, rfl⟩ | ⟨rfl, rfl⟩)
  · refine ⟨true, et_test (ev_op (ev_var rfl rfl) ev_int rv_b0), fun _ => ?_, (fun h => nomatch h)⟩
    refine sx_par (ea_cons (ev_var rfl rfl) (ea_cons (ev_op (ev_var rfl rfl) (ev_var rfl rfl) (rv_i (by decide))) ea_nil)) ⟨0, by omega, .inr ⟨rfl, ?_⟩⟩
    simp
  · refine ⟨false, et_test (ev_op (ev_var rfl rfl) ev_int rv_b0), (fun h => nomatch h), fun _ => ?_⟩
    exact sx_ret (ev_var rfl rfl) (.d rfl)
/-- a Ratio that is whole -/
def ratF (i : Int) : List (Str × PyData) := [("bottom", .int 1), ("top", .int i)]
abbrev ratS (CR : Addr) (i : Int) : Sl := .ob CR (ratF i)
theorem rat_top (i : Int) : (ratF i).lookup ("top" : Str) = some (.int i) := rfl
theorem rat_bottom (i : Int) : (ratF i).lookup ("bottom" : Str) = some (.int 1) := rfl
inductive pre_Ratio___init__ : List Sl → List (Str × PyData) → Prop
  | mk (i : Int) : pre_Ratio___init__ [.d (.int i), .d (.int 1)] (ratF i)
theorem cal_Ratio___init__ (T : Txt K mg CN CR) : C8.Mak P w K mg base 2 "Ratio" CR (spM CR pre_Ratio___init__) [] := by
  have C_is_integer := cal_is_integer (P := P) (w := w) (base := base) T
  have C_common := cal_common (P := P) (w := w) (base := base) T
  refine calM 0 T.d_Ratio___init__ T.g_Ratio sc_Ratio___init__ (by intro ss r h; cases h <;> rfl) (fun f cdv A outer s H E hr => ⟨_, (pss_cons (ps_for PassesOwn.never rfl (kpi_tup K (pe_tup (pa_cons (pv 1) (pa_cons (pv 2) pa_nil)))) (pg_name (i := 3) sc_Ratio___init__.nd rfl (.inl rfl))
        (pss_one (ps_if (pt_not (pt_val (C8.pe_c C_is_integer hr (by decide) (by rfl) (pa_cons (pv 3) pa_nil)))) pss_never pss_nil)))
      (pss_cons (ps_if (pt_cmpR (r := rEqD K) (op_eqD (hu64 hr)) (pv 2) pe_int (nomark _)) pss_never pss_nil)
      (pss_cons (ps_set (i := 4) sc_Ratio___init__.nd rfl (.inl rfl) (C8.pe_c C_common hr (by decide) (by rfl) (pa_cons (pv 1) (pa_cons (pv 2) pa_nil))))
      (pss_cons (ps_if (pt_cmpR op_lt (pv 2) pe_int (nomark _)) (pss_one (ps_set (i := 4) sc_Ratio___init__.nd rfl (.inl rfl) (pe_un un_neg (pv 4)))) pss_nil)
      (pss_cons (ps_fld (pv 0) (pe_op op_fdiv (pv 1) (pv 4)) rfl)
      (pss_one (ps_fld (pv 0) (pe_op op_fdiv (pv 2) (pv 4)) rfl))))))), ?_⟩)
  intro ss r h; cases h <;> refine ⟨Nat.le_of_ble_eq_true rfl, rfl, ?_⟩
  rename_i i
  refine sx_seq (sx_for (fun _ ρ cs => ∃ x, ρ = [.c 0, .d (.int i), .d (.int 1), x, .un] ∧ cs = [some (.ob CR [])]) (ei_tup (ev_tup (ed_cons (ev_var rfl rfl) (ed_cons (ev_var rfl rfl) ed_nil)) lk)) ⟨.un, rfl, rfl⟩ ?_ ?_)
  · rintro j d ρ cs hd ⟨x, rfl, rfl⟩
    refine ⟨_, _, gx_name, ?_⟩
    have hi : ∃ z, d = .int z := by
      rcases j with _ | _ | j
      · exact ⟨_, (Option.some.inj hd).symm⟩
      · exact ⟨_, (Option.some.inj hd).symm⟩
      · cases hd
    obtain ⟨z, rfl⟩ := hi
    refine sx_if (b := !true) (et_not (et_B (ev_call (ea_cons (ev_var rfl rfl) ea_nil) (.mk z) rfl rfl))) (fun h => nomatch h) fun _ => sx_next ⟨_, rfl, rfl⟩
  · rintro ρ cs ⟨x, rfl, rfl⟩
    refine sx_seq (sx_if (b := (1 == 0 : Bool)) (et_test (ev_op (ev_var rfl rfl) ev_int rv_eqI)) (fun h => nomatch h) fun _ => sx_next ?_)
    refine sx_seq (sx_asg (ev_call (ea_cons (ev_var rfl rfl) (ea_cons (ev_var rfl rfl) ea_nil)) (.mk i) rfl rfl) ?_)
    refine sx_seq (sx_if (b := false) (et_test (ev_op (ev_var rfl rfl) ev_int rv_b0)) (fun h => nomatch h) fun _ => sx_next ?_)
    refine sx_seq (sx_fld (ev_op (ev_var rfl rfl) (ev_var rfl rfl) (rv_i ⟨by decide, by decide⟩)) (ev_var rfl rfl) rfl T.clR T.nR_top lk ?_)
    refine sx_fld (ev_op (ev_var rfl rfl) (ev_var rfl rfl) (rv_i ⟨by decide, by decide⟩)) (ev_var rfl rfl) rfl T.clR T.nR_bottom lk ⟨_, rfl, fun f => ?_⟩
    show List.lookup f [("bottom", PyData.int 1), ("top", PyData.int (i / 1))] = List.lookup f [("bottom", PyData.int 1), ("top", PyData.int i)]
    rw [Int.ediv_one]
inductive pre_as_ratio (CN CR : Addr) : List Sl → Sl → Prop
  | mk (i : Int) : pre_as_ratio CN CR [.d (.int i)] (ratS CR i)
theorem cal_as_ratio (T : Txt K mg CN CR) : C8.Cal P w K mg base 4 "as_ratio" (spP (pre_as_ratio CN CR)) [] := by
  have C_Ratio := cal_Ratio___init__ (P := P) (w := w) (base := base) T
  refine calP 0 T.d_as_ratio sc_as_ratio (by intro ss r h; cases h <;> rfl) (fun f cdv A outer s H E hr => ⟨_, (pss_one (ps_ret (pe_ifExp (pt_val (pe_callB (r := rIsi K) call_isi (by rfl) T.z_isinstance boot_isinstance (pa_cons (pv 0) (pa_cons (pe_glob (v := V.ref CR) (by rfl) T.g_Ratio rfl) pa_nil)))) (pv 0) (C8.pe_mk C_Ratio hr (by decide) (by rfl) (pa_cons (pv 0) (pa_cons pe_int pa_nil)))))), ?_⟩)
  intro ss r h; cases h <;> refine ⟨Nat.le_of_ble_eq_true rfl, rfl, ?_⟩
  rename_i i
  refine sx_ret (ev_if (b := false) (et_B (ev_isi (ev_var rfl rfl) ev_w (.own _) rfl T.kitR)) (fun h => nomatch h) fun _ => ev_make (ea_cons (ev_var rfl rfl) (ea_cons ev_int ea_nil)) (.mk i) rfl) (.d rfl)
inductive pre_is_number (CN CR : Addr) : List Sl → Sl → Prop
  | mk (i : Int) : pre_is_number CN CR [.d (.int i)] (.d (.bool true))
theorem cal_is_number (T : Txt K mg CN CR) : C8.Cal P w K mg base 2 "is_number" (spP (pre_is_number CN CR)) [] := by
  have C_is_integer := cal_is_integer (P := P) (w := w) (base := base) T
  refine calP 0 T.d_is_number sc_is_number (by intro ss r h; cases h <;> rfl) (fun f cdv A outer s H E hr => ⟨_, (pss_one (ps_ret (pe_or (pe_callB (r := rIsi K) call_isi (by rfl) T.z_isinstance boot_isinstance (pa_cons (pv 0) (pa_cons (pe_glob (v := V.ref CR) (by rfl) T.g_Ratio rfl) pa_nil))) (pe_one (C8.pe_c C_is_integer hr (by decide) (by rfl) (pa_cons (pv 0) pa_nil)))))), ?_⟩)
  intro ss r h; cases h <;> refine ⟨Nat.le_of_ble_eq_true rfl, rfl, ?_⟩
  rename_i i
  refine sx_ret (ev_orV (a := false) (b := true) (ev_isi (ev_var rfl rfl) ev_w (.own _) rfl T.kitR) fun _ => ev_call (ea_cons (ev_var rfl rfl) ea_nil) (.mk i) rfl rfl) (.d rfl)
inductive pre_Ratio_less (CR : Addr) : List Sl → Sl → Prop
  | mk (i j : Int) : pre_Ratio_less CR [ratS CR i, .d (.int j)] (.d (.bool (decide (i < j))))
theorem cal_Ratio_less (T : Txt K mg CN CR) : C8.Met P w K mg base 5 CR "less" (spP (pre_Ratio_less CR)) [] := by
  have C_is_number := cal_is_number (P := P) (w := w) (base := base) T
  have C_as_ratio := cal_as_ratio (P := P) (w := w) (base := base) T
  refine calT 0 T.clR T.d_Ratio_less sc_Ratio_less (by intro ss r h; cases h <;> rfl) (fun f cdv A outer s H E hr => ⟨_, (pss_cons (ps_if (pt_not (pt_val (C8.pe_c C_is_number hr (by decide) (by rfl) (pa_cons (pv 1) pa_nil)))) pss_never pss_nil)
      (pss_cons (ps_set (i := 2) sc_Ratio_less.nd rfl (.inl rfl) (C8.pe_c C_as_ratio hr (by decide) (by rfl) (pa_cons (pv 1) pa_nil)))
      (pss_one (ps_ret (pe_cmpR op_lt (pe_op (r := rMulX K) opx_mul (kpe_fld K (pv 0) rfl) (kpe_fld K (pv 2) rfl)) (pe_op (r := rMulX K) opx_mul (kpe_fld K (pv 2) rfl) (kpe_fld K (pv 0) rfl)) (nomark _)))))), ?_⟩)
  intro ss r h; cases h <;> refine ⟨Nat.le_of_ble_eq_true rfl, rfl, ?_⟩
  rename_i i j
  refine sx_seq (sx_if (b := !true) (et_not (et_B (ev_call (ea_cons (ev_var rfl rfl) ea_nil) (.mk j) rfl rfl))) (fun h => nomatch h) fun _ => sx_next ?_)
  refine sx_seq (sx_asg (ev_call (ea_cons (ev_var rfl rfl) ea_nil) (.mk j) rfl rfl) ?_)
  refine sx_ret (ev_is (ev_op (ev_op (ev_fld (ev_var rfl rfl) (rat_top _) T.clR T.nR_top) (ev_fld (ev_var rfl rfl) (rat_bottom _) T.clR T.nR_bottom) (rv_or1 (rv_i (.inr ⟨by decide, by decide⟩)))) (ev_op (ev_fld (ev_var rfl rfl) (rat_top _) T.clR T.nR_top) (ev_fld (ev_var rfl rfl) (rat_bottom _) T.clR T.nR_bottom) (rv_or1 (rv_i (.inr ⟨by decide, by decide⟩)))) rv_b0) ?_) (.d rfl)
  rw [Int.mul_one, Int.mul_one]
inductive pre_Ratio_whole (CR : Addr) : List Sl → Sl → Prop
  | mk (i : Int) : pre_Ratio_whole CR [ratS CR i] (.d (.int i))
theorem cal_Ratio_whole (T : Txt K mg CN CR) : C8.Met P w K mg base 1 CR "whole" (spP (pre_Ratio_whole CR)) [] := by
  refine calT 0 T.clR T.d_Ratio_whole sc_Ratio_whole (by intro ss r h; cases h <;> rfl) (fun f cdv A outer s H E hr => ⟨_, (pss_one (ps_ret (pe_op op_fdiv (kpe_fld K (pv 0) rfl) (kpe_fld K (pv 0) rfl)))), ?_⟩)
  intro ss r h; cases h <;> refine ⟨Nat.le_of_ble_eq_true rfl, rfl, ?_⟩
  rename_i i
  refine sx_ret (ev_is (ev_op (ev_fld (ev_var rfl rfl) (rat_top _) T.clR T.nR_top) (ev_fld (ev_var rfl rfl) (rat_bottom _) T.clR T.nR_bottom) (rv_i ⟨by decide, by decide⟩)) ?_) (.d rfl)
  rw [Int.ediv_one]
end
end Z
end
section
namespace Z
open PySem PySem.Spec PyProof.Rows L2
section
variable {P : Program} {w : World} {K : PySem.W.Frag} {mg : Str → Option Value} {base : Heap} {CN CR : Addr}
inductive pre_rest_by (CN CR : Addr) : List Sl → Sl → Prop
  | mk (i B : Int) (h : 0 < B) : pre_rest_by CN CR [.d (.int i), .d (.int B)] (.d (.int (i % B)))
theorem cal_rest_by (T : Txt K mg CN CR) : C8.Cal P w K mg base 1 "rest_by" (spP (pre_rest_by CN CR)) [] := by
  refine calP 0 T.d_rest_by sc_rest_by (by intro ss r h; cases h <;> rfl) (fun f cdv A outer s H E hr => ⟨_, (pss_cons (ps_if (pt_val (pe_callB (r := rIsi K) call_isi (by rfl) T.z_isinstance boot_isinstance (pa_cons (pv 0) (pa_cons (pe_glob (v := V.ref CR) (by rfl) T.g_Ratio rfl) pa_nil)))) pss_never pss_nil)
      (pss_one (ps_ret (pe_op op_mod (pv 0) (pv 1))))), ?_⟩)
  intro ss r h; cases h <;> refine ⟨Nat.le_of_ble_eq_true rfl, rfl, ?_⟩
  rename_i i B h
  refine sx_seq (sx_if (b := false) (et_B (ev_isi (ev_var rfl rfl) ev_w (.own _) rfl T.kitR)) (fun h => nomatch h) fun _ => sx_next ?_)
  exact sx_ret (ev_op (ev_var rfl rfl) (ev_var rfl rfl) (rv_i h)) (.d rfl)
inductive pre_is_below (CN CR : Addr) : List Sl → Sl → Prop
  | mk (i j : Int) : pre_is_below CN CR [.d (.int i), .d (.int j)] (.d (.bool (decide (i < j))))
theorem cal_is_below (T : Txt K mg CN CR) : C8.Cal P w K mg base 6 "is_below" (spP (pre_is_below CN CR)) [] := by
  have C_m_less := cal_Ratio_less (P := P) (w := w) (base := base) T
  have C_as_ratio := cal_as_ratio (P := P) (w := w) (base := base) T
  refine calP 0 T.d_is_below sc_is_below (by intro ss r h; cases h <;> rfl) (fun f cdv A outer s H E hr => ⟨_, (pss_one (ps_ret (C8.pe_mt C_m_less hr (by decide) (C8.pe_c C_as_ratio hr (by decide) (by rfl) (pa_cons (pv 0) pa_nil)) (pa_cons (pv 1) pa_nil)))), ?_⟩)
  intro ss r h; cases h <;> refine ⟨Nat.le_of_ble_eq_true rfl, rfl, ?_⟩
  rename_i i j
  exact sx_ret (ev_meth (ev_call (ea_cons (ev_var rfl rfl) ea_nil) (.mk i) rfl rfl) rfl (ea_cons (ev_var rfl rfl) ea_nil) (.mk i j) rfl rfl) (.d rfl)
def SpanOk (B : Int) (n : Nat) (s : Span) : Prop := s.a < n ∧ s.b < n ∧ s.a ≠ s.b ∧ 0 ≤ s.lo ∧ s.lo ≤ s.hi ∧ s.hi ≤ 2880 ∧ s.hi - s.lo ≤ B - 2
inductive pre_is_span (CN CR : Addr) : List Sl → Sl → Prop
  | mk (s : Span) (B : Int) (n : Nat) (h : SpanOk B n s) : pre_is_span CN CR [.d (encS s), .d (.int B), .d (intN n)] (.d (.bool true))
theorem ev_chain3 {ρ : List Sl} {cs : Cs} {ta tb tc td : TE} {i j k l : Int} (ha : EvA ta ρ cs (.d (.int i))) (hb : EvA tb ρ cs (.d (.int j))) (hc : EvA tc ρ cs (.d (.int k))) (hd : EvA td ρ cs (.d (.int l))) (h1 : i ≤ j) (h2 : j ≤ k) :
    EvA (tChain3 ta tb tc td) ρ cs (.d (.bool (decide (k ≤ l)))) := fun B as H σ ok Q q =>
  ha B as H σ ok _ fun v1 H1 e1 r1 => hb B as H1 σ (ok.mono e1) _ fun v2 H2 e2 r2 => by
    cases r1; cases r2
    refine ⟨i, j, rfl, rfl, ?_⟩
    rw [if_pos h1]
    refine hc B as H2 σ ((ok.mono e1).mono e2) _ fun v3 H3 e3 r3 => ?_
    cases r3
    refine ⟨k, rfl, ?_⟩
    rw [if_pos h2]
    refine hd B as H3 σ (((ok.mono e1).mono e2).mono e3) _ fun v4 H4 e4 r4 => ?_
    cases r4
    exact ⟨l, rfl, q _ H4 (((e1.trans e2).trans e3).trans e4) (.bl _)⟩
theorem cal_is_span (T : Txt K mg CN CR) : C8.Cal P w K mg base 2 "is_span" (spP (pre_is_span CN CR)) [] := by
  have C_is_integer := cal_is_integer (P := P) (w := w) (base := base) T
  refine calP 0 T.d_is_span sc_is_span (by intro ss r h; cases h <;> rfl) (fun f cdv A outer s H E hr => ⟨_, (pss_cons (ps_if (PW.pt (pw_or (pt_not (pt_val (pe_callB (r := rIsi K) call_isi (by rfl) T.z_isinstance boot_isinstance (pa_cons (pv 0) (pa_cons (pe_bltn (v := V.ty "tuple") (by rfl) T.z_tuple boot_tuple rfl) pa_nil))))) (pw_or (pt_cmpR (r := rNeD K) (op_neD (hu64 hr)) (pe_callB (r := rLenX K) call_len_seq (by rfl) T.z_len boot_len (pa_cons (pv 0) pa_nil)) pe_int (nomark _)) (pw_or1 (pt_not (pt_val (pe_callB (r := rAll K) (cr_all rfl) (by rfl) T.z_all boot_all (pa_cons (pe_lc (own := [("item", 7)]) rfl sc_is_span.nd (kpi_tup K (pv 0)) (blkOk_by (N := ["thing", "beat", "events", "one", "other", "low", "high", "item"]) (sc := defScope s_is_span) (by decide +kernel)) (fun _ _ _ _ _ => (pg_name (i := 7) sc_is_span.nd rfl (.inl rfl))) (fun _ _ _ _ _ => pts_nil) (fun _ _ _ _ _ => (C8.pe_c C_is_integer hr (by decide) (by rfl) (pa_cons (pv 7) pa_nil)))) pa_nil)))))))) (pss_one (ps_ret pe_bl)) pss_nil)
      (pss_cons (ps_asg (pv 0) (kpg_tup K (n := 4) rfl (pgs_cons (pg_name (i := 3) sc_is_span.nd rfl (.inl rfl)) (pgs_cons (pg_name (i := 4) sc_is_span.nd rfl (.inl rfl)) (pgs_cons (pg_name (i := 5) sc_is_span.nd rfl (.inl rfl)) (pgs_cons (pg_name (i := 6) sc_is_span.nd rfl (.inl rfl)) pgs_nil))))))
      (pss_cons (ps_if (PW.pt (pw_or (pt_not (pt_chain op_le op_lt pe_int (pv 3) (pv 2))) (pw_or (pt_not (pt_chain op_le op_lt pe_int (pv 4) (pv 2))) (pw_or1 (pt_cmpR (r := rEqD K) (op_eqD (hu64 hr)) (pv 3) (pv 4) (nomark _)))))) (pss_one (ps_ret pe_bl)) pss_nil)
      (pss_one (ps_ret (pe_and (pe_chain3 pe_int (pv 5) (pv 6) (C8.pe_gc (by rfl) T.c_MOST_BOUND)) (pe_one (pe_cmpR op_le (pe_op op_sub (pv 6) (pv 5)) (pe_op op_sub (pv 1) pe_int) (nomark _))))))))), ?_⟩)
  intro ss r h; cases h <;> refine ⟨Nat.le_of_ble_eq_true rfl, rfl, ?_⟩
  rename_i s B n h
  obtain ⟨ha, hb, hab, h0, hlh, hh, hw⟩ := h
  refine sx_seq (sx_if (b := false) (et_is (et_or (et_not (et_B (ev_isi (r := true) (ev_var rfl rfl) ev_w (.ty _) rfl (kit_ty (by decide +kernel))))) fun _ => et_or (et_test (ev_op (ev_len (ev_var rfl rfl) .t) ev_int rv_neI)) fun _ => et_not (et_B (ev_all (ns := [true, true, true, true]) (ea_en (en_map [(s.a : Int), (s.b : Int), s.lo, s.hi] PyData.int (fun _ => PyData.bool true) (ei_tup (ev_var rfl rfl)) lk fun i y hy => ⟨_, _, gx_name, by decide, ev_call (ea_cons (ev_var rfl rfl) ea_nil) (.mk y) rfl rfl⟩))))) rfl) (fun h => nomatch h) fun _ => sx_next ?_)
  refine sx_seq (sx_asgG (ev_var rfl rfl) (gx_tup (gxl_cons gx_name (gxl_cons gx_name (gxl_cons gx_name (gxl_cons gx_name gxl_nil)))) rfl) ?_)
  refine sx_seq (sx_if (b := false) (et_is (et_or (et_not (et_test (ev_chain ev_int (ev_var rfl rfl) (ev_var rfl rfl) rv_b0 rv_b0))) fun _ => et_or (et_not (et_test (ev_chain ev_int (ev_var rfl rfl) (ev_var rfl rfl) rv_b0 rv_b0))) fun _ => et_test (ev_op (ev_var rfl rfl) (ev_var rfl rfl) rv_eqI)) ?_) (fun h => nomatch h) fun _ => sx_next ?_)
  · have e1 : ((s.a : Int) == (s.b : Int)) = false := beq_eq_false_iff_ne.mpr (by omega)
    rw [decide_eq_true (show (0 : Int) ≤ (s.a : Int) by omega), decide_eq_true (show (s.a : Int) < (n : Int) by omega), decide_eq_true (show (0 : Int) ≤ (s.b : Int) by omega), decide_eq_true (show (s.b : Int) < (n : Int) by omega), e1]
    rfl
  · refine sx_ret (ev_is (ev_andV (ev_chain3 ev_int (ev_var rfl rfl) (ev_var rfl rfl) ev_int h0 hlh) fun _ => ev_op (ev_op (ev_var rfl rfl) (ev_var rfl rfl) rv_i0) (ev_op (ev_var rfl rfl) ev_int rv_i0) rv_b0) ?_) (.d rfl)
    rw [decide_eq_true hh, decide_eq_true hw]
    rfl
inductive pre_Net___init__ : List Sl → List (Str × PyData) → Prop
  | mk (B : Int) (n : Nat) (S : List Span) (hv : Val B n S) (hd : S.Nodup) : pre_Net___init__ [.d (.int B), .d (intN n), .d (.tuple (S.map encS))] (netF B n S)
theorem not_in_take {S : List Span} (hd : S.Nodup) {i : Nat} {s : Span} (h : S[i]? = some s) : (((S.map encS).take i).any fun z => PyData.eqv z (encS s)) = false := by
  rw [Bool.eq_false_iff]
  intro hc
  obtain ⟨z, h1, h2⟩ := List.any_eq_true.mp hc
  rw [← List.map_take] at h1
  obtain ⟨t, h3, rfl⟩ := List.mem_map.mp h1
  have e := (eqv_encS t s).mp h2
  subst e
  obtain ⟨j, h4⟩ := List.getElem?_of_mem h3
  rw [List.getElem?_take] at h4
  split at h4
  · rename_i hj
    have h5 := (List.getElem?_eq_some_iff.mp h).1
    have h6 := (List.getElem?_eq_some_iff.mp h4).1
    have := (List.getElem_inj hd (i := i) (j := j) (h₀ := h5) (h₁ := h6)).mp (by rw [(List.getElem?_eq_some_iff.mp h).2, (List.getElem?_eq_some_iff.mp h4).2])
    omega
  · cases h4
theorem cal_Net___init__ (T : Txt K mg CN CR) : C8.Mak P w K mg base 3 "Net" CN (spM CN pre_Net___init__) [] := by
  have C_is_integer := cal_is_integer (P := P) (w := w) (base := base) T
  have C_is_span := cal_is_span (P := P) (w := w) (base := base) T
  refine calM 0 T.d_Net___init__ T.g_Net sc_Net___init__ (by intro ss r h; cases h <;> rfl) (fun f cdv A outer s H E hr => ⟨_, (pss_cons (ps_if (PW.pt (pw_or (pt_not (pt_val (C8.pe_c C_is_integer hr (by decide) (by rfl) (pa_cons (pv 1) pa_nil)))) (pw_or1 (pt_not (pt_chain op_le op_le (C8.pe_gc (by rfl) T.c_LEAST_BEAT) (pv 1) (C8.pe_gc (by rfl) T.c_MOST_BEAT)))))) pss_never pss_nil)
      (pss_cons (ps_if (PW.pt (pw_or (pt_not (pt_val (C8.pe_c C_is_integer hr (by decide) (by rfl) (pa_cons (pv 2) pa_nil)))) (pw_or1 (pt_not (pt_chain op_le op_le pe_int (pv 2) (C8.pe_gc (by rfl) T.c_MOST_EVENTS)))))) pss_never pss_nil)
      (pss_cons (ps_if (PW.pt (pw_or (pt_not (pt_val (pe_callB (r := rIsiT K) call_isiT (by rfl) T.z_isinstance boot_isinstance (pa_cons (pv 3) (pa_cons (pe_tup (pa_cons (pe_bltn (v := V.ty "list") (by rfl) T.z_list boot_list rfl) (pa_cons (pe_bltn (v := V.ty "tuple") (by rfl) T.z_tuple boot_tuple rfl) pa_nil))) pa_nil))))) (pw_or1 (pt_cmpR op_gt (pe_callB (r := rLenX K) call_len_seq (by rfl) T.z_len boot_len (pa_cons (pv 3) pa_nil)) (C8.pe_gc (by rfl) T.c_MOST_SPANS) (nomark _))))) pss_never pss_nil)
      (pss_cons (ps_for PassesOwn.never rfl (kpi_enum K (by rfl) T.z_enumerate (pa_cons (pv 3) pa_nil)) (kpg_tup K (n := 2) rfl (pgs_cons (pg_name (i := 4) sc_Net___init__.nd rfl (.inl rfl)) (pgs_cons (pg_name (i := 5) sc_Net___init__.nd rfl (.inl rfl)) pgs_nil)))
        (pss_one (ps_if (PW.pt (pw_or (pt_not (pt_val (C8.pe_c C_is_span hr (by decide) (by rfl) (pa_cons (pv 5) (pa_cons (pv 1) (pa_cons (pv 2) pa_nil)))))) (pw_or1 (pt_cmpR (r := rInX K false) (opx_in (hu65 hr)) (pv 5) (pe_slice (r := rSlX K) (SlR.or sl_list sl_tupA) (pv 3) po_none (po_some (pv 4))) rfl)))) pss_never pss_nil)))
      (pss_cons (ps_fld (pv 0) (pv 1) rfl)
      (pss_cons (ps_fld (pv 0) (pv 2) rfl)
      (pss_one (ps_fld (pv 0) (kpe_tupleOf K (by rfl) T.z_tuple (pv 3)) rfl)))))))), ?_⟩)
  intro ss r h; cases h <;> refine ⟨Nat.le_of_ble_eq_true rfl, rfl, ?_⟩
  rename_i B n S hv hd
  refine sx_seq (sx_if (b := false) (et_is (et_or (et_not (et_B (ev_call (ea_cons (ev_var rfl rfl) ea_nil) (.mk B) rfl rfl))) fun _ => et_not (et_test (ev_chain ev_int (ev_var rfl rfl) ev_int rv_b0 rv_b0))) (by rw [decide_eq_true hv.b3, decide_eq_true hv.bm]; rfl)) (fun h => nomatch h) fun _ => sx_next ?_)
  refine sx_seq (sx_if (b := false) (et_is (et_or (et_not (et_B (ev_call (ea_cons (ev_var rfl rfl) ea_nil) (.mk (n : Int)) rfl rfl))) fun _ => et_not (et_test (ev_chain ev_int (ev_var rfl rfl) ev_int rv_b0 rv_b0))) (by
    have h1 := hv.n1
    have h2 := hv.nm
    rw [decide_eq_true (show (1 : Int) ≤ (n : Int) by omega), decide_eq_true (show (n : Int) ≤ 24 by omega)]; rfl)) (fun h => nomatch h) fun _ => sx_next ?_)
  refine sx_seq (sx_if (b := false) (et_is (et_or (et_not (et_B (ev_isi2 (ev_var rfl rfl) rfl))) fun _ => et_test (ev_op (ev_len (ev_var rfl rfl) .t) ev_int rv_b0)) (by
    have h1 := hv.sm
    rw [List.length_map, decide_eq_false (show ¬ (60 : Int) < (S.length : Int) by omega)]; rfl)) (fun h => nomatch h) fun _ => sx_next ?_)
  refine sx_seq (sx_forE S encS (fun _ ρ cs => ∃ x y, ρ = [.c 0, .d (.int B), .d (intN n), .d (.tuple (S.map encS)), x, y] ∧ cs = [some (.ob CN [])]) (ev_var rfl rfl) ⟨_, _, rfl, rfl⟩ ?_ ?_)
  · rintro i s ρ cs hs ⟨x, y, rfl, rfl⟩
    refine ⟨_, _, (gx_tup (gxl_cons gx_name (gxl_cons gx_name gxl_nil)) rfl), ?_⟩
    have hm := List.mem_of_getElem? hs
    refine sx_if (b := false) (et_is (et_or (et_not (et_B (ev_call (ea_cons (ev_var rfl rfl) (ea_cons (ev_var rfl rfl) (ea_cons (ev_var rfl rfl) ea_nil))) (.mk s B n (hv.sp s hm)) rfl rfl))) fun _ => et_test (ev_op (ev_var rfl rfl) (ev_to (n := i) (ev_var rfl rfl) eo_none (eo_some (ev_var rfl rfl))) (rv_in (n := 1) .d .t (shp_encS s) (fun e he => ?_) lk))) ?_) (fun h => nomatch h) fun _ => sx_next ⟨_, _, rfl, rfl⟩
    · have h1 := List.mem_of_mem_take he
      obtain ⟨t, _, rfl⟩ := List.mem_map.mp h1
      exact shp_encS t
    · rw [not_in_take hd hs]; rfl
  · rintro ρ cs ⟨x, y, rfl, rfl⟩
    refine sx_seq (sx_fld (ev_var rfl rfl) (ev_var rfl rfl) rfl T.clN T.nN_beat lk ?_)
    refine sx_seq (sx_fld (ev_var rfl rfl) (ev_var rfl rfl) rfl T.clN T.nN_events lk ?_)
    refine sx_fld (ev_tupT (ev_var rfl rfl)) (ev_var rfl rfl) rfl T.clN T.nN_spans lk ⟨_, rfl, fun f => rfl⟩
end
end Z
end
section
namespace Z
open PySem PySem.Spec PyProof.Rows L2
section
variable {P : Program} {w : World} {K : PySem.W.Frag} {mg : Str → Option Value} {base : Heap} {CN CR : Addr}
abbrev listN (l : List Nat) : PyData := .list (l.map intN)
abbrev tupN (l : List Nat) : PyData := .tuple (l.map intN)
inductive pre_marks_of (CN CR : Addr) : List Sl → Sl → Prop
  | mk (B : Int) (n : Nat) (S : List Span) (hv : Val B n S) : pre_marks_of CN CR [netS CN B n S] (.d (.tuple [listN (marks n S).1, listN (marks n S).2]))
theorem range_intN (n : Nat) : ((List.range (n : Int).toNat).map fun k => PyData.int ((k : Nat) : Int)) = (List.range n).map intN := by rw [Int.toNat_natCast]
theorem getD_get {l : List Nat} {i d : Nat} (h : i < l.length) : l[i]? = some (l.getD i d) := by
  rw [List.getD_eq_getElem?_getD, List.getElem?_eq_getElem h]
  rfl
theorem getN {l : List Nat} {i d : Nat} (h : i < l.length) : (l.map intN)[i]? = some (intN (l.getD i d)) := by rw [List.getElem?_map, getD_get h]; rfl
theorem min_natCast (a b : Nat) : min (a : Int) (b : Int) = ((min a b : Nat) : Int) := by omega
def mstep_eq (st : List Nat × List Nat) (s : Span) (i : Nat) : mstep st (s, i) = if st.1.getD s.a 0 = st.1.getD s.b 0 then st else
    (st.1.map fun m => if m = st.1.getD s.a 0 ∨ m = st.1.getD s.b 0 then min (st.1.getD s.a 0) (st.1.getD s.b 0) else m, st.2 ++ [i]) := rfl
theorem cal_marks_of (T : Txt K mg CN CR) : C8.Cal P w K mg base 1 "marks_of" (spP (pre_marks_of CN CR)) [] := by
  refine calP 2 T.d_marks_of sc_marks_of (by intro ss r h; cases h <;> rfl) (fun f cdv A outer s H E hr => ⟨_, (pss_cons (ps_set (i := 1) sc_marks_of.nd rfl (.inl rfl) (pe_listRg rfl (by rfl) T.z_list (prg_1 (by rfl) T.z_range (kpe_fld K (pv 0) rfl))))
      (pss_cons (ps_set (i := 2) sc_marks_of.nd rfl (.inl rfl) (pe_lst pa_nil))
      (pss_cons (ps_for PassesOwn.never rfl (kpi_enum K (by rfl) T.z_enumerate (pa_cons (kpe_fld K (pv 0) rfl) pa_nil)) (kpg_tup K (n := 2) rfl (pgs_cons (pg_name (i := 3) sc_marks_of.nd rfl (.inl rfl)) (pgs_cons (kpg_tup K (n := 4) rfl (pgs_cons (pg_name (i := 4) sc_marks_of.nd rfl (.inl rfl)) (pgs_cons (pg_name (i := 5) sc_marks_of.nd rfl (.inl rfl)) (pgs_cons (pg_name (i := 6) sc_marks_of.nd rfl (.inl rfl)) (pgs_cons (pg_name (i := 7) sc_marks_of.nd rfl (.inl rfl)) pgs_nil))))) pgs_nil)))
        (pss_cons (ps_set (i := 8) sc_marks_of.nd rfl (.inr rfl) (pe_ix (r := rIx K) ix_seq (pv 1) (pv 4) (fun _ _ => rfl)))
        (pss_cons (ps_set (i := 9) sc_marks_of.nd rfl (.inr rfl) (pe_ix (r := rIx K) ix_seq (pv 1) (pv 5) (fun _ _ => rfl)))
        (pss_one (ps_if (pt_cmpR (r := rNeD K) (op_neD (hu64 hr)) (pv 8) (pv 9) (nomark _)) (pss_cons (ps_expr (kpe_bm K PySem.F.plainAttrs_list PySem.F.slot_list_append PySem.F.type_list_append mt_append (pv 2) (pa_cons (pv 3) pa_nil)))
          (pss_cons (ps_set (i := 10) sc_marks_of.nd rfl (.inr rfl) (pe_callB (call_min2 rfl) (by rfl) T.z_min boot_min (pa_cons (pv 8) (pa_cons (pv 9) pa_nil))))
          (pss_one (ps_setLc (i := 1) (own := [("mark", 11)]) rfl sc_marks_of.nd rfl rfl (sw_true rfl rfl rfl (by decide +kernel)) (kpi_list K (pv 1)) (blkOk_by (N := ["net", "marks", "found", "index", "one", "other", "low", "high", "first", "second", "least", "mark"]) (sc := defScope s_marks_of) (by decide +kernel)) (fun _ _ _ _ _ => (pg_name (i := 11) sc_marks_of.nd rfl (.inl rfl))) (fun _ _ _ _ _ => pts_nil) (fun _ _ _ _ _ => (pe_ifExp (pt_cmpR (r := rInX K false) (opx_in (hu65 hr)) (pv 11) (pe_tup (pa_cons (pv 8) (pa_cons (pv 9) pa_nil))) rfl) (pv 10) (pv 11))))))) pss_nil)))))
      (pss_one (ps_ret (pe_tup (pa_cons (pv 1) (pa_cons (pv 2) pa_nil)))))))), ?_⟩)
  intro ss r h; cases h <;> refine ⟨Nat.le_of_ble_eq_true rfl, rfl, ?_⟩
  rename_i B n S hv
  have hn := hv.nm
  refine sx_seq (sx_asg (s := .d (listN (List.range n))) (ea_en (en_is (en_range1 (ev_fld (ev_var rfl rfl) (net_events _ _ _) T.clN T.nN_events) (by omega) (by omega)) (range_intN n))) ?_)
  refine sx_seq (sx_asgN 1 (en_lst ed_nil lk) rfl rfl ?_)
  refine sx_seq (sx_forE S encS (fun i ρ cs => ∃ (st : List Nat × List Nat) (a3 a4 a5 a6 a7 a8 a9 a10 a11 : Sl), (S.zipIdx.drop i).foldl mstep st = marks n S ∧ st.1.length = n ∧ st.2.length ≤ i ∧
      ρ = [netS CN B n S, .d (listN st.1), .c 1, a3, a4, a5, a6, a7, a8, a9, a10, a11] ∧ cs = [none, some (.ls (st.2.map intN))]) (ev_fld (ev_var rfl rfl) (net_spans _ _ _) T.clN T.nN_spans)
      ⟨(List.range n, []), _, _, _, _, _, _, _, _, _, rfl, by simp, Nat.le_refl _, rfl, rfl⟩ ?_ ?_)
  · rintro i s ρ cs hs ⟨st, a3, a4, a5, a6, a7, a8, a9, a10, a11, hf, hl, hk, rfl, rfl⟩
    have hm := hv.sp s (List.mem_of_getElem? hs)
    have hi : i < S.length := (List.getElem?_eq_some_iff.mp hs).1
    rw [drop_get (zipIdx_get hs), List.foldl_cons, mstep_eq] at hf
    refine ⟨_, _, (gx_tup (gxl_cons gx_name (gxl_cons (gx_tup (gxl_cons gx_name (gxl_cons gx_name (gxl_cons gx_name (gxl_cons gx_name gxl_nil)))) rfl) gxl_nil)) rfl), ?_⟩
    refine sx_seq (sx_asg (s := .d (intN (st.1.getD s.a 0))) (ev_op (ev_var rfl rfl) (ev_var rfl rfl) (rv_ixn .l (getN (by omega)))) ?_)
    refine sx_seq (sx_asg (s := .d (intN (st.1.getD s.b 0))) (ev_op (ev_var rfl rfl) (ev_var rfl rfl) (rv_ixn .l (getN (by omega)))) ?_)
    refine sx_if (et_test (ev_op (ev_var rfl rfl) (ev_var rfl rfl) rv_neI)) (fun hc => ?_) (fun hc => ?_)
    · have hne := neN_t hc
      rw [if_neg hne] at hf
      refine sx_seq (sx_app (ev_var rfl rfl) rfl (ev_var rfl rfl) (by rw [List.length_map]; have := hv.sm; omega) ?_)
      refine sx_seq (sx_asg (s := .d (intN (min (st.1.getD s.a 0) (st.1.getD s.b 0)))) (ev_is (ev_min2 (ev_var rfl rfl) (ev_var rfl rfl)) (by rw [min_natCast])) ?_)
      refine sx_asg (s := .d (listN (st.1.map fun m => if m = st.1.getD s.a 0 ∨ m = st.1.getD s.b 0 then min (st.1.getD s.a 0) (st.1.getD s.b 0) else m))) (ea_en (en_is (en_map st.1 intN (fun m => intN (if m = st.1.getD s.a 0 ∨ m = st.1.getD s.b 0 then min (st.1.getD s.a 0) (st.1.getD s.b 0) else m)) (ei_list (ev_var rfl rfl)) (by omega) fun j m hj => ⟨_, _, gx_name, by decide, ?_⟩) (by rw [List.map_map]; rfl)))
        ⟨_, _, _, _, _, _, _, _, _, _, hf, by rw [List.length_map]; exact hl, by rw [List.length_append]; exact Nat.succ_le_succ hk, rfl, by rw [List.map_append]; rfl⟩
      refine ev_if (et_test (ev_op (ev_var rfl rfl) (ev_tup (ed_cons (ev_var rfl rfl) (ed_cons (ev_var rfl rfl) ed_nil)) lk) (rv_in (n := 0) .d .t (shp_int _) (shp_intN [st.1.getD s.a 0, st.1.getD s.b 0]) lk))) (fun h => ?_) (fun h => ?_)
      · rw [in_intN2] at h
        rw [if_pos (of_decide_eq_true h)]
        exact ev_var rfl rfl
      · rw [in_intN2] at h
        rw [if_neg (of_decide_eq_false h)]
        exact ev_var rfl rfl
    · have hne := neN_f hc
      rw [if_pos hne] at hf
      exact sx_next ⟨st, _, _, _, _, _, _, _, _, _, hf, hl, by omega, rfl, rfl⟩
  · rintro ρ cs ⟨st, a3, a4, a5, a6, a7, a8, a9, a10, a11, hf, hl, hk, rfl, rfl⟩
    have hz : S.zipIdx.drop S.length = [] := by simp
    rw [hz, List.foldl_nil] at hf
    subst hf
    refine sx_frz 1 rfl lk ?_
    exact sx_ret (ev_tup (ed_cons (ev_var rfl rfl) (ed_cons (ev_var rfl rfl) ed_nil)) lk) (.d rfl)
inductive pre_tree (CN CR : Addr) : List Sl → Sl → Prop
  | mk (B : Int) (n : Nat) (S : List Span) (hv : Val B n S) : pre_tree CN CR [netS CN B n S] (.d (tupN (kept n S)))
theorem cal_tree (T : Txt K mg CN CR) : C8.Cal P w K mg base 2 "tree" (spP (pre_tree CN CR)) [] := by
  have C_marks_of := cal_marks_of (P := P) (w := w) (base := base) T
  refine calP 0 T.d_tree sc_tree (by intro ss r h; cases h <;> rfl) (fun f cdv A outer s H E hr => ⟨_, (pss_one (ps_ret (kpe_tupleOf K (by rfl) T.z_tuple (pe_ix (r := rIx K) ix_seq (C8.pe_c C_marks_of hr (by decide) (by rfl) (pa_cons (pv 0) pa_nil)) pe_int (fun _ _ => rfl))))), ?_⟩)
  intro ss r h; cases h <;> refine ⟨Nat.le_of_ble_eq_true rfl, rfl, ?_⟩
  rename_i B n S hv
  exact sx_ret (ev_tuple (ev_op (ev_call (ea_cons (ev_var rfl rfl) ea_nil) (.mk B n S hv) rfl rfl) ev_int (rv_ixn (j := 1) .t rfl)) .l) (.d rfl)
inductive pre_loose_spans (CN CR : Addr) : List Sl → Sl → Prop
  | mk (B : Int) (n : Nat) (S : List Span) (hv : Val B n S) : pre_loose_spans CN CR [netS CN B n S] (.d (listN (loose n S)))
theorem in_tupN (l : List Nat) (m : Nat) {ρ : List Sl} {cs : Cs} {ta tb : TE} (ha : EvA ta ρ cs (.d (intN m))) (hb : EvA tb ρ cs (.d (tupN l))) : EvA (tOp (rInX K false) ta tb) ρ cs (.d (.bool (decide (m ∈ l)))) :=
  ev_is (ev_op ha hb (rv_in (n := 0) .d .t (shp_int _) (shp_intN l) lk)) (by rw [in_intN])
theorem nin_tupN (l : List Nat) (m : Nat) {ρ : List Sl} {cs : Cs} {ta tb : TE} (ha : EvA ta ρ cs (.d (intN m))) (hb : EvA tb ρ cs (.d (tupN l))) : EvA (tOp (rInX K true) ta tb) ρ cs (.d (.bool (decide (m ∉ l)))) :=
  ev_is (ev_op ha hb (rv_nin (n := 0) .d .t (shp_int _) (shp_intN l) lk)) (by rw [in_intN, decide_not])
theorem ei_rangeN {ρ : List Sl} {cs : Cs} {te : TE} {n : Nat} (h : EvA te ρ cs (.d (intN n))) (hn : n < 100000) : EvI (iRng1 (tCons te tNil)) ρ cs ((List.range n).map intN) := by
  have := ei_range1 h (by omega) (by omega)
  rw [Int.toNat_natCast] at this
  exact this
theorem cal_loose_spans (T : Txt K mg CN CR) : C8.Cal P w K mg base 3 "loose_spans" (spP (pre_loose_spans CN CR)) [] := by
  have C_tree := cal_tree (P := P) (w := w) (base := base) T
  refine calP 0 T.d_loose_spans sc_loose_spans (by intro ss r h; cases h <;> rfl) (fun f cdv A outer s H E hr => ⟨_, (pss_cons (ps_set (i := 1) sc_loose_spans.nd rfl (.inr rfl) (C8.pe_c C_tree hr (by decide) (by rfl) (pa_cons (pv 0) pa_nil)))
      (pss_one (ps_ret (pe_lc (own := [("index", 2)]) rfl sc_loose_spans.nd (pi_range1 (by rfl) T.z_range (pa_cons (pe_callB (r := rLenX K) call_len_seq (by rfl) T.z_len boot_len (pa_cons (kpe_fld K (pv 0) rfl) pa_nil)) pa_nil)) (blkOk_by (N := ["net", "kept", "index"]) (sc := defScope s_loose_spans) (by decide +kernel)) (fun _ _ _ _ _ => (pg_name (i := 2) sc_loose_spans.nd rfl (.inl rfl))) (fun _ _ _ _ _ => (pts_one (pt_cmpR (r := rInX K true) (opx_nin (hu65 hr)) (pv 2) (pv 1) rfl))) (fun _ _ _ _ _ => (pv 2)))))), ?_⟩)
  intro ss r h; cases h <;> refine ⟨Nat.le_of_ble_eq_true rfl, rfl, ?_⟩
  rename_i B n S hv
  have hs := hv.sm
  refine sx_seq (sx_asg (ev_call (ea_cons (ev_var rfl rfl) ea_nil) (.mk B n S hv) rfl rfl) ?_)
  refine sx_ret (ea_en (en_flt (List.range S.length) intN (fun i => decide (i ∉ kept n S)) intN (ei_rangeN (ev_is (ev_len (ev_fld (ev_var rfl rfl) (net_spans _ _ _) T.clN T.nN_spans) .t) (by rw [List.length_map])) (by omega)) (by simp; omega) fun i y hy => ⟨_, _, gx_name, by decide, ?_, fun _ => ev_var rfl rfl⟩)) (.d rfl)
  exact et_test (nin_tupN _ _ (ev_var rfl rfl) (ev_var rfl rfl))
end
end Z
end
section
/-! M1: the plain mirror: arcs, places, rings, pieces. -/
namespace Z
structure Arc where
  p : Nat × Bool
  a : Nat
  b : Nat
  w : Int
def arcs1 (B k : Int) (L : Nat) (q : Span × Nat) : List Arc :=
  [⟨(q.2, true), q.1.a, q.1.b, q.1.lo - (if q.2 = L then k else 0) * B⟩, ⟨(q.2, false), q.1.b, q.1.a, (if q.2 = L then k else 0) * B - q.1.hi⟩]
def arcsOf (B k : Int) (L : Nat) (S : List Span) : List Arc := S.zipIdx.flatMap (arcs1 B k L)
def turnArc (r : Arc) : Arc := ⟨r.p, r.b, r.a, r.w⟩
/-- the state of a round: places, the arcs by which they came, what changed last -/
structure LS where
  f : List Int
  c : List (Option Arc)
  e : Option Nat
def lstep (st : LS) (r : Arc) : LS := if st.f.getD r.b 0 < st.f.getD r.a 0 + r.w then ⟨st.f.set r.b (st.f.getD r.a 0 + r.w), st.c.set r.b (some r), some r.b⟩ else st
def lround (A : List Arc) (st : LS) : LS := A.foldl lstep ⟨st.f, st.c, none⟩
/-- the rounds -/
def lrun (A : List Arc) (st : LS) : Nat → LS
  | 0 => st
  | m + 1 => lround A (lrun A st m)
def ls0 (n : Nat) : LS := ⟨List.replicate n 0, List.replicate n none, none⟩
def came (c : List (Option Arc)) (x : Nat) : Option Arc := c.getD x none
/-- back by what came, m times -/
inductive BackN (c : List (Option Arc)) : Nat → Nat → Nat → Prop
  | nil (x : Nat) : BackN c 0 x x
  | cons {m x y : Nat} {r : Arc} (h : came c x = some r) (t : BackN c m r.a y) : BackN c (m + 1) x y
/-- back by what came, until y -/
inductive Back (c : List (Option Arc)) (y : Nat) : Nat → List Arc → Prop
  | last {x : Nat} {r : Arc} (h : came c x = some r) (e : r.a = y) : Back c y x [r]
  | step {x : Nat} {r : Arc} {t : List Arc} (h : came c x = some r) (e : r.a ≠ y) (k : Back c y r.a t) : Back c y x (r :: t)
def wayB (t : List Arc) : Way := (t.map fun r => r.p).reverse
/-- the longest -/
def gstep (f : Nat → Option Int) (r : Arc) : Nat → Option Int := match f r.a, f r.b with
  | some x, some y => if y < x + r.w then fun m => if m = r.b then some (x + r.w) else f m else f
  | some x, none => fun m => if m = r.b then some (x + r.w) else f m
  | none, _ => f
def grun (A : List Arc) (f : Nat → Option Int) : Nat → Nat → Option Int
  | 0 => f
  | m + 1 => A.foldl gstep (grun A f m)
def g0 (b : Nat) : Nat → Option Int := fun m => if m = b then some 0 else none
/-- the pieces -/
def sortU (n : Nat) (l : List Nat) : List Nat := (List.range n).filter fun m => decide (m ∈ l)
def pieceOf (n : Nat) (S : List Span) (m : Nat) : List Nat := (List.range n).filter fun e => decide ((marks n S).1.getD e 0 = m)
def piecesOf (n : Nat) (S : List Span) : List (List Nat) := (sortU n (marks n S).1).map (pieceOf n S)
theorem foldl_take {α β : Type} (g : β → α → β) (s : β) {l : List α} {j : Nat} {x : α} (h : l[j]? = some x) : (l.take (j + 1)).foldl g s = g ((l.take j).foldl g s) x := by
  rw [List.take_add_one, h, List.foldl_append]
  rfl
theorem lstep_len (st : LS) (r : Arc) : (lstep st r).f.length = st.f.length ∧ (lstep st r).c.length = st.c.length := by
  unfold lstep
  split
  · simp
  · exact ⟨rfl, rfl⟩
theorem lfold_len (A : List Arc) : ∀ st : LS, (A.foldl lstep st).f.length = st.f.length ∧ (A.foldl lstep st).c.length = st.c.length := by
  induction A with
  | nil => intro st; exact ⟨rfl, rfl⟩
  | cons r A ih =>
    intro st
    rw [List.foldl_cons]
    exact ⟨(ih _).1.trans (lstep_len st r).1, (ih _).2.trans (lstep_len st r).2⟩
theorem lrun_len (A : List Arc) (st : LS) : ∀ m, (lrun A st m).f.length = st.f.length ∧ (lrun A st m).c.length = st.c.length
  | 0 => ⟨rfl, rfl⟩
  | m + 1 => ⟨(lfold_len A _).1.trans (lrun_len A st m).1, (lfold_len A _).2.trans (lrun_len A st m).2⟩
end Z
end
section
/-! M2: the plain mirror: steps of the kept spans. -/
namespace Z
abbrev Stp := (Nat × Bool) × Nat
def stepsAt (S : List Span) (ks : List Nat) (x : Nat) : List Stp :=
  ks.flatMap fun i => (if (spanAt S i).a = x then [((i, true), (spanAt S i).b)] else []) ++ (if (spanAt S i).b = x then [((i, false), (spanAt S i).a)] else [])
theorem stepsAt_snoc (S : List Span) (ks : List Nat) (i x : Nat) : stepsAt S (ks ++ [i]) x = stepsAt S ks x ++ ((if (spanAt S i).a = x then [((i, true), (spanAt S i).b)] else []) ++ (if (spanAt S i).b = x then [((i, false), (spanAt S i).a)] else [])) := by
  unfold stepsAt
  rw [List.flatMap_append]
  simp
theorem kept_lt {n : Nat} {S : List Span} : ∀ i ∈ kept n S, i < S.length := by
  unfold kept marks
  have : ∀ (l : List (Span × Nat)) (st : List Nat × List Nat), (∀ i ∈ st.2, i < S.length) → (∀ q ∈ l, q.2 < S.length) → ∀ i ∈ (l.foldl mstep st).2, i < S.length := by
    intro l
    induction l with
    | nil => intro st h _; exact h
    | cons p l ih =>
      intro st h hq
      rw [List.foldl_cons]
      refine ih _ ?_ fun q hq' => hq q (List.mem_cons_of_mem _ hq')
      unfold mstep
      split
      · exact h
      · intro i hi
        rcases List.mem_append.mp hi with hi | hi
        · exact h i hi
        · rw [List.mem_singleton] at hi
          subst hi
          exact hq p List.mem_cons_self
  exact this _ _ (fun i hi => by cases hi) fun q hq => by
    have := (List.mem_zipIdx' hq).1
    exact this
theorem kept_len {n : Nat} {S : List Span} : (kept n S).length ≤ S.length := by
  unfold kept marks
  have : ∀ (l : List (Span × Nat)) (st : List Nat × List Nat), (l.foldl mstep st).2.length ≤ st.2.length + l.length := by
    intro l
    induction l with
    | nil => intro st; exact Nat.le_refl _
    | cons p l ih =>
      intro st
      rw [List.foldl_cons]
      refine Nat.le_trans (ih _) ?_
      have : (mstep st p).2.length ≤ st.2.length + 1 := by
        unfold mstep
        split
        · omega
        · simp
      rw [List.length_cons]
      omega
  have h := this S.zipIdx (List.range n, [])
  rw [List.length_zipIdx] at h
  simpa using h
end Z
end
section
/-! M3: sums, flows, the forest of the kept spans. -/
namespace Z
/-- a sum over 0..n-1 -/
def sm : Nat → (Nat → Int) → Int
  | 0, _ => 0
  | n + 1, f => sm n f + f n
theorem sm_add (f g : Nat → Int) : ∀ n, sm n (fun i => f i + g i) = sm n f + sm n g
  | 0 => rfl
  | n + 1 => by simp only [sm, sm_add f g n]; omega
theorem sm_sub (f g : Nat → Int) : ∀ n, sm n (fun i => f i - g i) = sm n f - sm n g
  | 0 => rfl
  | n + 1 => by simp only [sm, sm_sub f g n]; omega
theorem sm_neg (f : Nat → Int) : ∀ n, sm n (fun i => -f i) = -sm n f
  | 0 => rfl
  | n + 1 => by simp only [sm, sm_neg f n]; omega
theorem sm_mul (c : Int) (f : Nat → Int) : ∀ n, sm n (fun i => c * f i) = c * sm n f
  | 0 => by simp [sm]
  | n + 1 => by simp only [sm, sm_mul c f n, Int.mul_add]
theorem sm_congr {f g : Nat → Int} : ∀ n, (∀ i, i < n → f i = g i) → sm n f = sm n g
  | 0, _ => rfl
  | n + 1, h => by simp only [sm]; rw [sm_congr n fun i hi => h i (by omega), h n (by omega)]
theorem sm_zero {f : Nat → Int} (n : Nat) (h : ∀ i, i < n → f i = 0) : sm n f = 0 := by
  induction n with
  | zero => rfl
  | succ n ih => simp only [sm]; rw [ih fun i hi => h i (by omega), h n (by omega)]; rfl
theorem sm_one {f : Nat → Int} {n j : Nat} (hj : j < n) (h : ∀ i, i < n → i ≠ j → f i = 0) : sm n f = f j := by
  induction n with
  | zero => omega
  | succ n ih =>
    simp only [sm]
    by_cases e : j = n
    · subst e
      rw [sm_zero j fun i hi => h i (by omega) (by omega), Int.zero_add]
    · rw [ih (by omega) fun i hi => h i (by omega), h n (by omega) (by omega), Int.add_zero]
theorem sm_le {f g : Nat → Int} : ∀ n, (∀ i, i < n → f i ≤ g i) → sm n f ≤ sm n g
  | 0, _ => Int.le_refl _
  | n + 1, h => by
    simp only [sm]
    have := sm_le n fun i hi => h i (by omega)
    have := h n (by omega)
    omega
theorem sm_map (f : Nat → Int) : ∀ n, ((List.range n).map f).sum = sm n f
  | 0 => rfl
  | n + 1 => by rw [List.range_succ, List.map_append, List.sum_append, sm_map f n]; simp [sm]
/-- what a signed use of the spans brings to a potential -/
def fs (S : List Span) (c : Nat → Int) (φ : Nat → Int) : Int := sm S.length fun i => c i * (φ (spanAt S i).b - φ (spanAt S i).a)
def Flow (S : List Span) (c : Nat → Int) : Prop := ∀ φ : Nat → Int, fs S c φ = 0
def sgn (b : Bool) : Int := if b then 1 else -1
theorem cntW_nil (i : Nat) : cntW i [] = 0 := rfl
theorem cntW_cons (i : Nat) (p : Nat × Bool) (v : Way) : cntW i (p :: v) = (if p.1 = i then sgn p.2 else 0) + cntW i v := by
  unfold cntW sgn
  by_cases h : p.1 = i
  · rw [if_pos h, List.filter_cons, if_pos (decide_eq_true h), List.map_cons, List.sum_cons]
  · rw [if_neg h, List.filter_cons, if_neg (by simp [h]), Int.zero_add]
theorem cntW_append (i : Nat) (v w : Way) : cntW i (v ++ w) = cntW i v + cntW i w := by
  induction v with
  | nil => rw [List.nil_append, cntW_nil, Int.zero_add]
  | cons p v ih => rw [List.cons_append, cntW_cons, cntW_cons, ih, Int.add_assoc]
theorem dst_src (S : List Span) (p : Nat × Bool) (φ : Nat → Int) : φ (dst S p) - φ (src S p) = sgn p.2 * (φ (spanAt S p.1).b - φ (spanAt S p.1).a) := by
  unfold dst src sgn
  cases p.2 <;> simp <;> omega
theorem fs_walk {S : List Span} {x y : Nat} {w : Way} (h : IsWalk S x w y) (φ : Nat → Int) : fs S (fun i => cntW i w) φ = φ y - φ x := by
  induction h with
  | nil x => rw [Int.sub_self]; exact sm_zero _ fun i _ => by show cntW i [] * _ = 0; rw [cntW_nil, Int.zero_mul]
  | @cons p w y hp t ih =>
    have e : fs S (fun i => cntW i (p :: w)) φ = sm S.length (fun i => (if p.1 = i then sgn p.2 else 0) * (φ (spanAt S i).b - φ (spanAt S i).a)) + fs S (fun i => cntW i w) φ := by
      unfold fs
      rw [← sm_add]
      exact sm_congr _ fun i _ => by
        show cntW i (p :: w) * _ = _
        rw [cntW_cons, Int.add_mul]
    rw [e, ih, sm_one hp fun i _ hne => by rw [if_neg (Ne.symm hne), Int.zero_mul], if_pos rfl, ← dst_src]
    omega
theorem flow_closed {S : List Span} {x : Nat} {w : Way} (h : IsWalk S x w x) : Flow S fun i => cntW i w := fun φ => by rw [fs_walk h]; omega
theorem flow_diff {S : List Span} {x y : Nat} {w v : Way} (h : IsWalk S x w y) (k : IsWalk S x v y) : Flow S fun i => cntW i w - cntW i v := fun φ => by
  have h1 := fs_walk h φ
  have h2 := fs_walk k φ
  unfold fs at h1 h2 ⊢
  rw [sm_congr _ fun i _ => Int.sub_mul .., sm_sub, h1, h2]
  omega
/-! ### the marks, step by step -/
def mk (n : Nat) (S : List Span) (j : Nat) : List Nat × List Nat := (S.zipIdx.take j).foldl mstep (List.range n, [])
theorem mk_succ {n : Nat} {S : List Span} {j : Nat} (h : j < S.length) : mk n S (j + 1) = mstep (mk n S j) (spanAt S j, j) := by
  have hz : S.zipIdx[j]? = some (spanAt S j, j) := by
    rw [List.getElem?_zipIdx]
    unfold spanAt
    rw [List.getD_eq_getElem?_getD, List.getElem?_eq_getElem h]
    simp
  unfold mk
  rw [List.take_add_one, hz, List.foldl_append]
  rfl
theorem mk_all (n : Nat) (S : List Span) : mk n S S.length = marks n S := by
  unfold mk marks
  rw [List.take_of_length_le (by simp)]
theorem mk_len (n : Nat) (S : List Span) (j : Nat) : (mk n S j).1.length = n := by
  unfold mk
  have : ∀ (l : List (Span × Nat)) (st : List Nat × List Nat), (l.foldl mstep st).1.length = st.1.length := by
    intro l
    induction l with
    | nil => intro st; rfl
    | cons p l ih => intro st; rw [List.foldl_cons, ih, mstep_len]
  rw [this]
  simp
/-- the mark of x before step j -/
def mka (n : Nat) (S : List Span) (j x : Nat) : Nat := (mk n S j).1.getD x 0
theorem mka_0 {n : Nat} {S : List Span} {x : Nat} (h : x < n) : mka n S 0 x = x := by
  unfold mka mk
  rw [List.take_zero, List.foldl_nil, List.getD_eq_getElem?_getD, List.getElem?_range h]
  rfl
theorem mka_succ {n : Nat} {S : List Span} {j x : Nat} (h : j < S.length) (hx : x < n) : mka n S (j + 1) x =
    if mka n S j (spanAt S j).a = mka n S j (spanAt S j).b then mka n S j x else
      if mka n S j x = mka n S j (spanAt S j).a ∨ mka n S j x = mka n S j (spanAt S j).b then min (mka n S j (spanAt S j).a) (mka n S j (spanAt S j).b) else mka n S j x := by
  unfold mka
  rw [mk_succ h]
  unfold mstep
  split
  · rfl
  · have hl := mk_len n S j
    have hx' : x < (mk n S j).1.length := by omega
    simp only [List.getD_eq_getElem?_getD, List.getElem?_map, List.getElem?_eq_getElem hx']
    simp
theorem mkk_succ {n : Nat} {S : List Span} {j : Nat} (h : j < S.length) : (mk n S (j + 1)).2 = if mka n S j (spanAt S j).a = mka n S j (spanAt S j).b then (mk n S j).2 else (mk n S j).2 ++ [j] := by
  rw [mk_succ h]
  unfold mstep mka
  split <;> rfl
theorem mem_mk {n : Nat} {S : List Span} : ∀ {j i : Nat}, j ≤ S.length → (i ∈ (mk n S j).2 ↔ i < j ∧ mka n S i (spanAt S i).a ≠ mka n S i (spanAt S i).b)
  | 0, i, _ => by simp [mk]
  | j + 1, i, h => by
    rw [mkk_succ (by omega)]
    split
    · rename_i e
      rw [mem_mk (by omega)]
      constructor
      · rintro ⟨h1, h2⟩; exact ⟨by omega, h2⟩
      · rintro ⟨h1, h2⟩
        by_cases q : i = j
        · subst q; exact absurd e h2
        · exact ⟨by omega, h2⟩
    · rename_i e
      rw [List.mem_append, List.mem_singleton, mem_mk (by omega)]
      constructor
      · rintro (⟨h1, h2⟩ | rfl)
        · exact ⟨by omega, h2⟩
        · exact ⟨by omega, e⟩
      · rintro ⟨h1, h2⟩
        by_cases q : i = j
        · exact .inr q
        · exact .inl ⟨by omega, h2⟩
theorem mem_kept {n : Nat} {S : List Span} {i : Nat} : i ∈ kept n S ↔ i < S.length ∧ mka n S i (spanAt S i).a ≠ mka n S i (spanAt S i).b := by
  unfold kept
  rw [← mk_all]
  exact mem_mk (Nat.le_refl _)
theorem mem_loose {n : Nat} {S : List Span} {i : Nat} : i ∈ loose n S ↔ i < S.length ∧ mka n S i (spanAt S i).a = mka n S i (spanAt S i).b := by
  unfold loose
  rw [List.mem_filter, List.mem_range, decide_eq_true_eq, mem_kept]
  constructor
  · rintro ⟨h1, h2⟩
    refine ⟨h1, ?_⟩
    by_cases e : mka n S i (spanAt S i).a = mka n S i (spanAt S i).b
    · exact e
    · exact absurd ⟨h1, e⟩ h2
  · rintro ⟨h1, h2⟩
    exact ⟨h1, fun z => z.2 h2⟩
section
variable {B : Int} {n : Nat} {S : List Span}
theorem sp_lt (hv : Val B n S) {i : Nat} (h : i < S.length) : (spanAt S i).a < n ∧ (spanAt S i).b < n ∧ (spanAt S i).a ≠ (spanAt S i).b ∧ 0 ≤ (spanAt S i).lo ∧ (spanAt S i).lo ≤ (spanAt S i).hi ∧ (spanAt S i).hi ≤ 2880 ∧ (spanAt S i).hi - (spanAt S i).lo ≤ B - 2 := by
  apply hv.sp
  unfold spanAt
  rw [List.getD_eq_getElem?_getD, List.getElem?_eq_getElem h]
  exact List.getElem_mem _
theorem mka_keep {j x y : Nat} (h : j < S.length) (hx : x < n) (hy : y < n) (e : mka n S j x = mka n S j y) : mka n S (j + 1) x = mka n S (j + 1) y := by
  rw [mka_succ h hx, mka_succ h hy, e]
theorem mka_keeps {j k x y : Nat} (hk : j + k ≤ S.length) (hx : x < n) (hy : y < n) (e : mka n S j x = mka n S j y) : mka n S (j + k) x = mka n S (j + k) y := by
  induction k with
  | zero => exact e
  | succ k ih =>
    have : j + k < S.length := by omega
    exact mka_keep this hx hy (ih (by omega))
theorem mka_done (hv : Val B n S) {j : Nat} (h : j < S.length) : mka n S (j + 1) (spanAt S j).a = mka n S (j + 1) (spanAt S j).b := by
  have hs := sp_lt hv h
  rw [mka_succ h hs.1, mka_succ h hs.2.1]
  split
  · assumption
  · rw [if_pos (.inl rfl), if_pos (.inr rfl)]
theorem mka_joined (hv : Val B n S) {i j : Nat} (hj : j < i) (hi : i ≤ S.length) : mka n S i (spanAt S j).a = mka n S i (spanAt S j).b := by
  have hs := sp_lt hv (i := j) (by omega)
  have := mka_keeps (k := i - (j + 1)) (by omega) hs.1 hs.2.1 (mka_done hv (j := j) (by omega))
  rw [show j + 1 + (i - (j + 1)) = i by omega] at this
  exact this
/-- a flow on the kept spans is nothing -/
theorem flow_kept (hv : Val B n S) {c : Nat → Int} (hf : Flow S c) (h0 : ∀ i, i < S.length → i ∉ kept n S → c i = 0) : ∀ i, i < S.length → c i = 0 := by
  have key : ∀ d i, i + d + 1 = S.length → c i = 0 := by
    intro d
    induction d using Nat.strongRecOn with
    | ind d ih =>
      intro i hi
      by_cases hk : i ∈ kept n S
      · have hne := (mem_kept.mp hk).2
        have f := hf fun x => if mka n S i x = mka n S i (spanAt S i).a then 1 else 0
        unfold fs at f
        rw [sm_one (j := i) (by omega)] at f
        · dsimp only at f
          rw [if_pos rfl, if_neg (Ne.symm hne)] at f
          omega
        · intro j hj hij
          by_cases hlt : j < i
          · dsimp only
            rw [mka_joined hv hlt (by omega), Int.sub_self, Int.mul_zero]
          · rw [ih (S.length - 1 - j) (by omega) j (by omega), Int.zero_mul]
      · exact h0 i (by omega) hk
  intro i hi
  exact key (S.length - 1 - i) i (by omega)
/-- what does not change along the kept spans does not change within a mark -/
theorem const_marks (hv : Val B n S) {α : Type} {f : Nat → α} (hf : ∀ i ∈ kept n S, f (spanAt S i).a = f (spanAt S i).b) : ∀ {j : Nat}, j ≤ S.length → ∀ {x y : Nat}, x < n → y < n → mka n S j x = mka n S j y → f x = f y
  | 0, _, x, y, hx, hy, e => by rw [mka_0 hx, mka_0 hy] at e; rw [e]
  | j + 1, h, x, y, hx, hy, e => by
    have ih : ∀ {x y : Nat}, x < n → y < n → mka n S j x = mka n S j y → f x = f y := const_marks hv hf (j := j) (by omega)
    rw [mka_succ (by omega) hx, mka_succ (by omega) hy] at e
    have hs := sp_lt hv (i := j) (by omega)
    by_cases q : mka n S j (spanAt S j).a = mka n S j (spanAt S j).b
    · rw [if_pos q, if_pos q] at e
      exact ih hx hy e
    · rw [if_neg q, if_neg q] at e
      have hab := hf j (mem_kept.mpr ⟨by omega, q⟩)
      have cls : ∀ {z : Nat}, z < n → (mka n S j z = mka n S j (spanAt S j).a ∨ mka n S j z = mka n S j (spanAt S j).b) → f z = f (spanAt S j).a := fun hz hc => by
        rcases hc with hc | hc
        · exact ih hz hs.1 hc
        · exact (ih hz hs.2.1 hc).trans hab.symm
      by_cases h1 : mka n S j x = mka n S j (spanAt S j).a ∨ mka n S j x = mka n S j (spanAt S j).b
      · by_cases h2 : mka n S j y = mka n S j (spanAt S j).a ∨ mka n S j y = mka n S j (spanAt S j).b
        · exact (cls hx h1).trans (cls hy h2).symm
        · rw [if_pos h1, if_neg h2] at e
          refine absurd ?_ h2
          rcases Nat.le_total (mka n S j (spanAt S j).a) (mka n S j (spanAt S j).b) with z | z
          · rw [Nat.min_eq_left z] at e; exact .inl e.symm
          · rw [Nat.min_eq_right z] at e; exact .inr e.symm
      · by_cases h2 : mka n S j y = mka n S j (spanAt S j).a ∨ mka n S j y = mka n S j (spanAt S j).b
        · rw [if_neg h1, if_pos h2] at e
          refine absurd ?_ h1
          rcases Nat.le_total (mka n S j (spanAt S j).a) (mka n S j (spanAt S j).b) with z | z
          · rw [Nat.min_eq_left z] at e; exact .inl e
          · rw [Nat.min_eq_right z] at e; exact .inr e
        · rw [if_neg h1, if_neg h2] at e
          exact ih hx hy e
end
end Z
end
section
/-! M4: simple ways along the kept spans. -/
namespace Z
def nodesW (S : List Span) (x : Nat) (w : Way) : List Nat := x :: w.map (dst S)
theorem walk_lt {S : List Span} {x y : Nat} {w : Way} (h : IsWalk S x w y) : ∀ p ∈ w, p.1 < S.length := by
  induction h with
  | nil => intro p hp; cases hp
  | cons h t ih =>
    intro p hp
    rcases List.mem_cons.mp hp with rfl | hp
    · exact h
    · exact ih p hp
theorem walk_append {S : List Span} {x y z : Nat} {w v : Way} (h : IsWalk S x w y) (k : IsWalk S y v z) : IsWalk S x (w ++ v) z := by
  induction h with
  | nil => exact k
  | cons h t ih => exact .cons h (ih k)
theorem walk_one {S : List Span} {p : Nat × Bool} (h : p.1 < S.length) : IsWalk S (src S p) [p] (dst S p) := .cons h (.nil _)
theorem nodesW_append (S : List Span) (x : Nat) (w v : Way) : nodesW S x (w ++ v) = nodesW S x w ++ v.map (dst S) := by
  unfold nodesW
  rw [List.map_append, List.cons_append]
theorem src_mem {S : List Span} {x y : Nat} {w : Way} (h : IsWalk S x w y) : ∀ p ∈ w, src S p ∈ nodesW S x w := by
  induction h with
  | nil => intro p hp; cases hp
  | @cons q w y hq t ih =>
    intro p hp
    rcases List.mem_cons.mp hp with rfl | hp
    · exact List.mem_cons_self
    · exact List.mem_cons_of_mem _ (ih p hp)
theorem end_mem {S : List Span} {x y : Nat} {w : Way} (h : IsWalk S x w y) : y ∈ nodesW S x w := by
  induction h with
  | nil => exact List.mem_cons_self
  | cons hq t ih => exact List.mem_cons_of_mem _ ih
theorem end_mem' {S : List Span} {x y : Nat} {w : Way} (h : IsWalk S x w y) (hw : w ≠ []) : y ∈ w.map (dst S) := by
  cases h with
  | nil => exact absurd rfl hw
  | cons hq t => exact end_mem t
theorem walk_split {S : List Span} {x y z : Nat} {w : Way} (h : IsWalk S x w y) (hz : z ∈ nodesW S x w) : ∃ u v, w = u ++ v ∧ IsWalk S x u z ∧ IsWalk S z v y := by
  induction h with
  | nil x =>
    have : z = x := by simpa [nodesW] using hz
    subst this
    exact ⟨[], [], rfl, .nil _, .nil _⟩
  | @cons q w y hq t ih =>
    rcases List.mem_cons.mp hz with rfl | hz
    · exact ⟨[], q :: w, rfl, .nil _, .cons hq t⟩
    · obtain ⟨u, v, rfl, h1, h2⟩ := ih hz
      exact ⟨q :: u, v, rfl, .cons hq h1, h2⟩
theorem dst_of {S : List Span} {p r : Nat × Bool} (h : r.1 = p.1) : dst S r = dst S p ∨ dst S r = src S p := by
  unfold dst src
  rw [h]
  cases r.2 <;> cases p.2 <;> simp
theorem idx_once {S : List Span} {p : Nat × Bool} {w : Way} {y : Nat} (t : IsWalk S (dst S p) w y) (nd : (nodesW S (src S p) (p :: w)).Nodup) : ∀ r ∈ w, r.1 ≠ p.1 := by
  intro r hr e
  have nd' : (src S p :: dst S p :: w.map (dst S)).Nodup := nd
  rw [List.nodup_cons, List.nodup_cons] at nd'
  have hm : dst S r ∈ w.map (dst S) := List.mem_map.mpr ⟨r, hr, rfl⟩
  rcases dst_of (S := S) e with h | h
  · rw [h] at hm; exact nd'.2.1 hm
  · rw [h] at hm; exact nd'.1 (List.mem_cons_of_mem _ hm)
theorem cnt_none {w : Way} {i : Nat} (h : ∀ r ∈ w, r.1 ≠ i) : cntW i w = 0 := by
  induction w with
  | nil => rfl
  | cons p w ih => rw [cntW_cons, if_neg (h p List.mem_cons_self), ih fun r hr => h r (List.mem_cons_of_mem _ hr)]; rfl
theorem cnt_simple {S : List Span} {x y : Nat} {w : Way} (h : IsWalk S x w y) (nd : (nodesW S x w).Nodup) : ∀ r ∈ w, cntW r.1 w = sgn r.2 := by
  induction h with
  | nil => intro r hr; cases hr
  | @cons q w y hq t ih =>
    intro r hr
    have h1 := idx_once t nd
    have nd' : (nodesW S (dst S q) w).Nodup := (List.nodup_cons.mp nd).2
    rw [cntW_cons]
    rcases List.mem_cons.mp hr with rfl | hr
    · rw [if_pos rfl, cnt_none h1, Int.add_zero]
    · rw [if_neg (Ne.symm (h1 r hr)), ih nd' r hr, Int.zero_add]
theorem sgn_ne (b : Bool) : sgn b ≠ 0 := by cases b <;> decide
theorem sgn_inj {a b : Bool} (h : sgn a = sgn b) : a = b := by
  revert h
  cases a <;> cases b <;> decide
theorem cnt_mem {w : Way} {i : Nat} (h : cntW i w ≠ 0) : ∃ r ∈ w, r.1 = i := by
  by_cases e : ∃ r ∈ w, r.1 = i
  · exact e
  · exact absurd (cnt_none fun r hr q => e ⟨r, hr, q⟩) h
/-- simple ways with equal use are equal -/
theorem simple_eq {S : List Span} {x y : Nat} {w : Way} (h : IsWalk S x w y) : ∀ {v : Way}, IsWalk S x v y → (nodesW S x w).Nodup → (nodesW S x v).Nodup → (∀ i, i < S.length → cntW i w = cntW i v) → w = v := by
  induction h with
  | nil x =>
    intro v k n1 n2 _
    by_cases e : v = []
    · exact e.symm
    · exact absurd (end_mem' k e) (List.nodup_cons.mp n2).1
  | @cons p w y hp t ih =>
    intro v k n1 n2 hc
    have c1 := cnt_simple (.cons hp t) n1 p List.mem_cons_self
    rw [hc p.1 hp] at c1
    obtain ⟨r, hr, hr1⟩ := cnt_mem (w := v) (i := p.1) (by rw [c1]; exact sgn_ne _)
    have c2 := cnt_simple k n2 r hr
    rw [hr1, c1] at c2
    have hrp : r = p := Prod.ext hr1 (sgn_inj c2).symm
    subst hrp
    generalize hx : src S r = x at k n1 n2
    cases k with
    | nil => cases hr
    | @cons q v' _ hq t' =>
      rcases List.mem_cons.mp hr with rfl | hr'
      · have := ih t' (List.nodup_cons.mp n1).2 (List.nodup_cons.mp n2).2 fun i hi => by
          have := hc i hi
          rw [cntW_cons, cntW_cons] at this
          omega
        rw [this]
      · have := src_mem t' r hr'
        rw [hx] at this
        exact absurd this (List.nodup_cons.mp n2).1
structure KP (n : Nat) (S : List Span) (x : Nat) (w : Way) (y : Nat) : Prop where
  walk : IsWalk S x w y
  kp : ∀ p ∈ w, p.1 ∈ kept n S
  nd : (nodesW S x w).Nodup
section
variable {B : Int} {n : Nat} {S : List Span}
theorem KP.unique (hv : Val B n S) {x y : Nat} {w v : Way} (h : KP n S x w y) (k : KP n S x v y) : w = v := by
  have z := flow_kept hv (flow_diff h.walk k.walk) fun i _ hn => by
    have e1 : cntW i w = 0 := cnt_none fun r hr e => hn (e ▸ h.kp r hr)
    have e2 : cntW i v = 0 := cnt_none fun r hr e => hn (e ▸ k.kp r hr)
    rw [e1, e2]
    rfl
  exact simple_eq h.walk k.walk h.nd k.nd fun i hi => by have := z i hi; omega
theorem KP.nil (n : Nat) (S : List Span) (x : Nat) : KP n S x [] x := ⟨.nil x, fun p hp => absurd hp (by simp), by simp [nodesW]⟩
theorem KP.snoc {x y : Nat} {w : Way} {p : Nat × Bool} (h : KP n S x w y) (hp : p.1 ∈ kept n S) (hs : src S p = y) (hn : dst S p ∉ nodesW S x w) : KP n S x (w ++ [p]) (dst S p) := by
  subst hs
  refine ⟨walk_append h.walk (walk_one (kept_lt _ hp)), fun q hq => ?_, ?_⟩
  · rcases List.mem_append.mp hq with hq | hq
    · exact h.kp q hq
    · rw [List.mem_singleton] at hq; subst hq; exact hp
  · rw [nodesW_append]
    refine List.nodup_append.mpr ⟨h.nd, by simp, fun a ha b hb => ?_⟩
    rw [List.map_singleton, List.mem_singleton] at hb
    subst hb
    exact fun e => hn (e ▸ ha)
theorem KP.prefix {x y z : Nat} {w : Way} (h : KP n S x w y) (hz : z ∈ nodesW S x w) : ∃ u, KP n S x u z := by
  obtain ⟨u, v, rfl, h1, h2⟩ := walk_split h.walk hz
  refine ⟨u, h1, fun p hp => h.kp p (List.mem_append_left _ hp), ?_⟩
  have := h.nd
  rw [nodesW_append] at this
  exact (List.nodup_append.mp this).1
theorem KP.step {x y : Nat} {w : Way} {p : Nat × Bool} (h : KP n S x w y) (hp : p.1 ∈ kept n S) (hs : src S p = y) : ∃ u, KP n S x u (dst S p) := by
  by_cases e : dst S p ∈ nodesW S x w
  · exact h.prefix e
  · exact ⟨_, h.snoc hp hs e⟩
theorem KP.exists (hv : Val B n S) {x y : Nat} (hx : x < n) (hy : y < n) (e : mka n S S.length x = mka n S S.length y) : ∃ w, KP n S x w y := by
  have := const_marks hv (f := fun z => ∃ w, KP n S x w z) (fun i hi => propext ⟨fun ⟨w, h⟩ => ?_, fun ⟨w, h⟩ => ?_⟩) (Nat.le_refl _) hx hy e
  · exact this ▸ ⟨[], KP.nil n S x⟩
  · exact h.step (p := (i, true)) hi rfl
  · exact h.step (p := (i, false)) hi rfl
theorem dst_lt (hv : Val B n S) {p : Nat × Bool} (h : p.1 < S.length) : dst S p < n := by
  have := sp_lt hv h
  unfold dst
  split
  · exact this.2.1
  · exact this.1
theorem src_lt (hv : Val B n S) {p : Nat × Bool} (h : p.1 < S.length) : src S p < n := by
  have := sp_lt hv h
  unfold src
  split
  · exact this.1
  · exact this.2.1
theorem nodes_lt (hv : Val B n S) {x y : Nat} {w : Way} (h : IsWalk S x w y) (hx : x < n) : ∀ z ∈ nodesW S x w, z < n := by
  intro z hz
  rcases List.mem_cons.mp hz with rfl | hz
  · exact hx
  · obtain ⟨p, hp, rfl⟩ := List.mem_map.mp hz
    exact dst_lt hv (walk_lt h p hp)
end
theorem nodup_len : ∀ {n : Nat} {l : List Nat}, l.Nodup → (∀ x ∈ l, x < n) → l.length ≤ n
  | 0, l, _, h => by
    cases l with
    | nil => exact Nat.le_refl _
    | cons x l => have := h x List.mem_cons_self; omega
  | n + 1, l, nd, h => by
    have h1 : (l.erase n).length ≤ n := nodup_len (nd.erase n) fun x hx => by
      have h2 := h x (List.mem_of_mem_erase hx)
      have h3 : x ≠ n := fun e => by
        subst e
        exact (List.Nodup.not_mem_erase nd) hx
      omega
    have := List.length_erase (a := n) (l := l)
    split at this <;> omega
theorem KP.len {B : Int} {n : Nat} {S : List Span} (hv : Val B n S) {x y : Nat} {w : Way} (h : KP n S x w y) (hx : x < n) : w.length < n := by
  have := nodup_len h.nd (nodes_lt hv h.walk hx)
  unfold nodesW at this
  rw [List.length_cons, List.length_map] at this
  omega
open Classical in
/-- the way from x to y, where there is one -/
noncomputable def reachF (n : Nat) (S : List Span) (x y : Nat) : Option Way := if h : ∃ w, KP n S x w y then some (Classical.choose h) else none
theorem reachF_some {B : Int} {n : Nat} {S : List Span} (hv : Val B n S) {x y : Nat} {w : Way} (h : KP n S x w y) : reachF n S x y = some w := by
  unfold reachF
  rw [dif_pos ⟨w, h⟩]
  exact congrArg some ((Classical.choose_spec (⟨w, h⟩ : ∃ w, KP n S x w y)).unique hv h)
theorem reachF_none {n : Nat} {S : List Span} {x y : Nat} (h : ¬ ∃ w, KP n S x w y) : reachF n S x y = none := by
  unfold reachF
  rw [dif_neg h]
theorem mem_stepsAt {S : List Span} {ks : List Nat} {x : Nat} {q : Stp} : q ∈ stepsAt S ks x ↔ q.1.1 ∈ ks ∧ src S q.1 = x ∧ dst S q.1 = q.2 := by
  unfold stepsAt
  rw [List.mem_flatMap]
  obtain ⟨⟨i, b⟩, t⟩ := q
  constructor
  · rintro ⟨k, hk, h⟩
    rcases List.mem_append.mp h with h | h
    · split at h
      · rw [List.mem_singleton] at h
        cases h
        rename_i e
        exact ⟨hk, e, rfl⟩
      · cases h
    · split at h
      · rw [List.mem_singleton] at h
        cases h
        rename_i e
        exact ⟨hk, e, rfl⟩
      · cases h
  · rintro ⟨h1, h2, h3⟩
    refine ⟨i, h1, ?_⟩
    cases b with
    | true =>
      have h2' : (spanAt S i).a = x := h2
      have h3' : (spanAt S i).b = t := h3
      rw [if_pos h2', h3']
      simp
    | false =>
      have h2' : (spanAt S i).b = x := h2
      have h3' : (spanAt S i).a = t := h3
      rw [if_pos h2', h3']
      simp
end Z
end
section
namespace Z
open PySem PySem.Spec PyProof.Rows L2
section
variable {P : Program} {w : World} {K : PySem.W.Frag} {mg : Str → Option Value} {base : Heap} {CN CR : Addr}
theorem spanAt_get {S : List Span} {i : Nat} (h : i < S.length) : (S.map encS)[i]? = some (encS (spanAt S i)) := by
  unfold spanAt
  rw [List.getElem?_map, List.getD_eq_getElem?_getD, List.getElem?_eq_getElem h]
  rfl
/-- the kept parts of the net -/
theorem evn_spans {ρ : List Sl} {cs : Cs} {te : TE} {B : Int} {n : Nat} {S : List Span} (T : Txt K mg CN CR) (h : EvA te ρ cs (netS CN B n S)) : EvA (tFld K te "spans") ρ cs (.d (.tuple (S.map encS))) := ev_fld h (net_spans _ _ _) T.clN T.nN_spans
theorem evn_beat {ρ : List Sl} {cs : Cs} {te : TE} {B : Int} {n : Nat} {S : List Span} (T : Txt K mg CN CR) (h : EvA te ρ cs (netS CN B n S)) : EvA (tFld K te "beat") ρ cs (.d (.int B)) := ev_fld h (net_beat _ _ _) T.clN T.nN_beat
theorem evn_events {ρ : List Sl} {cs : Cs} {te : TE} {B : Int} {n : Nat} {S : List Span} (T : Txt K mg CN CR) (h : EvA te ρ cs (netS CN B n S)) : EvA (tFld K te "events") ρ cs (.d (intN n)) := ev_fld h (net_events _ _ _) T.clN T.nN_events
inductive pre_ends_of (CN CR : Addr) : List Sl → Sl → Prop
  | mk (B : Int) (n : Nat) (S : List Span) (p : Nat × Bool) (h : p.1 < S.length) : pre_ends_of CN CR [netS CN B n S, .d (encP p)] (.d (.tuple [intN (src S p), intN (dst S p)]))
theorem cal_ends_of (T : Txt K mg CN CR) : C8.Cal P w K mg base 1 "ends_of" (spP (pre_ends_of CN CR)) [] := by
  refine calP 0 T.d_ends_of sc_ends_of (by intro ss r h; cases h <;> rfl) (fun f cdv A outer s H E hr => ⟨_, (pss_cons (ps_asg (pe_slice (r := rSlX K) (SlR.or sl_list sl_tupA) (pe_ix (r := rIx K) ix_seq (kpe_fld K (pv 0) rfl) (pe_ix (r := rIx K) ix_seq (pv 1) pe_int (fun _ _ => rfl)) (fun _ _ => rfl)) po_none (po_some pe_int)) (kpg_tup K (n := 2) rfl (pgs_cons (pg_name (i := 2) sc_ends_of.nd rfl (.inl rfl)) (pgs_cons (pg_name (i := 3) sc_ends_of.nd rfl (.inl rfl)) pgs_nil))))
      (pss_one (ps_ret (pe_ifExp (pt_val (pe_ix (r := rIx K) ix_seq (pv 1) pe_int (fun _ _ => rfl))) (pe_tup (pa_cons (pv 2) (pa_cons (pv 3) pa_nil))) (pe_tup (pa_cons (pv 3) (pa_cons (pv 2) pa_nil))))))), ?_⟩)
  intro ss r h; cases h <;> refine ⟨Nat.le_of_ble_eq_true rfl, rfl, ?_⟩
  rename_i B n S p h
  refine sx_seq (sx_asgG (ev_to (n := 2) (ev_op (evn_spans T (ev_var rfl rfl)) (ev_op (ev_var rfl rfl) ev_int (rv_ixn (j := 0) .t rfl)) (rv_ixn .t (spanAt_get h))) eo_none (eo_some ev_int)) (gx_tup (gxl_cons gx_name (gxl_cons gx_name gxl_nil)) rfl) ?_)
  refine sx_ret (ev_if (et_B (ev_op (ev_var rfl rfl) ev_int (rv_ixn (j := 1) .t rfl))) (fun hb => ?_) (fun hb => ?_)) (.d rfl)
  · unfold src dst
    rw [hb]
    exact ev_tup (ed_cons (ev_var rfl rfl) (ed_cons (ev_var rfl rfl) ed_nil)) lk
  · unfold src dst
    rw [hb]
    exact ev_tup (ed_cons (ev_var rfl rfl) (ed_cons (ev_var rfl rfl) ed_nil)) lk
inductive pre_is_pair (CN CR : Addr) : List Sl → Sl → Prop
  | mk (B : Int) (n : Nat) (S : List Span) (p : Nat × Bool) (h : p.1 < S.length) : pre_is_pair CN CR [netS CN B n S, .d (encP p)] (.d (.bool true))
theorem cal_is_pair (T : Txt K mg CN CR) : C8.Cal P w K mg base 2 "is_pair" (spP (pre_is_pair CN CR)) [] := by
  have C_is_integer := cal_is_integer (P := P) (w := w) (base := base) T
  refine calP 0 T.d_is_pair sc_is_pair (by intro ss r h; cases h <;> rfl) (fun f cdv A outer s H E hr => ⟨_, (pss_cons (ps_if (PW.pt (pw_or (pt_not (pt_val (pe_callB (r := rIsi K) call_isi (by rfl) T.z_isinstance boot_isinstance (pa_cons (pv 1) (pa_cons (pe_bltn (v := V.ty "tuple") (by rfl) T.z_tuple boot_tuple rfl) pa_nil))))) (pw_or (pt_cmpR (r := rNeD K) (op_neD (hu64 hr)) (pe_callB (r := rLenX K) call_len_seq (by rfl) T.z_len boot_len (pa_cons (pv 1) pa_nil)) pe_int (nomark _)) (pw_or (pt_not (pt_val (C8.pe_c C_is_integer hr (by decide) (by rfl) (pa_cons (pe_ix (r := rIx K) ix_seq (pv 1) pe_int (fun _ _ => rfl)) pa_nil)))) (pw_or1 (pt_not (pt_val (pe_callB (r := rIsi K) call_isi (by rfl) T.z_isinstance boot_isinstance (pa_cons (pe_ix (r := rIx K) ix_seq (pv 1) pe_int (fun _ _ => rfl)) (pa_cons (pe_bltn (v := V.ty "bool") (by rfl) T.z_bool boot_bool rfl) pa_nil)))))))))) (pss_one (ps_ret pe_bl)) pss_nil)
      (pss_one (ps_ret (pe_chain op_le op_lt pe_int (pe_ix (r := rIx K) ix_seq (pv 1) pe_int (fun _ _ => rfl)) (pe_callB (r := rLenX K) call_len_seq (by rfl) T.z_len boot_len (pa_cons (kpe_fld K (pv 0) rfl) pa_nil)))))), ?_⟩)
  intro ss r h; cases h <;> refine ⟨Nat.le_of_ble_eq_true rfl, rfl, ?_⟩
  rename_i B n S p h
  refine sx_seq (sx_if (b := false) (et_is (et_or (et_not (et_B (ev_isi (r := true) (ev_var rfl rfl) ev_w (.ty _) rfl (kit_ty (by decide +kernel))))) fun _ => et_or (et_test (ev_op (ev_len (ev_var rfl rfl) .t) ev_int rv_neI)) fun _ =>
    et_or (et_not (et_B (ev_call (ea_cons (ev_op (ev_var rfl rfl) ev_int (rv_ixn (j := 0) .t rfl)) ea_nil) (.mk (p.1 : Int)) rfl rfl))) fun _ => et_not (et_B (ev_isi (r := true) (ev_op (ev_var rfl rfl) ev_int (rv_ixn (j := 1) .t rfl)) ev_w (.ty _) rfl (kit_ty (by decide +kernel))))) rfl) (fun h => nomatch h) fun _ => sx_next ?_)
  refine sx_ret (ev_is (ev_chain ev_int (ev_op (ev_var rfl rfl) ev_int (rv_ixn (j := 0) .t rfl)) (ev_len (evn_spans T (ev_var rfl rfl)) .t) rv_b0 rv_b0) ?_) (.d rfl)
  rw [List.length_map, decide_eq_true (show (0 : Int) ≤ (p.1 : Int) by omega), decide_eq_true (show (p.1 : Int) < (S.length : Int) by omega)]
  rfl
theorem all_yes (m : Nat) : (List.replicate m true).all id = true := by
  induction m with
  | zero => rfl
  | succ m ih => rw [List.replicate_succ, List.all_cons, ih]; rfl
theorem map_yes {α : Type} (l : List α) : l.map (fun _ => PyData.bool true) = (List.replicate l.length true).map PyData.bool := by
  induction l with
  | nil => rfl
  | cons x l ih => rw [List.map_cons, ih, List.length_cons, List.replicate_succ, List.map_cons]
inductive pre_ends_or_none (CN CR : Addr) : List Sl → Sl → Prop
  | mk (B : Int) (n : Nat) (S : List Span) (x y : Nat) (w : Way) (h : IsWalk S x w y) (hw : w ≠ []) (hl : w.length ≤ 1000) : pre_ends_or_none CN CR [netS CN B n S, .d (encW w)] (.d (.tuple [intN x, intN y]))
theorem shp_encP (p : Nat × Bool) : Shp 1 (encP p) := shp_tup fun d hd => by
  simp only [List.mem_cons, List.not_mem_nil, or_false] at hd
  rcases hd with rfl | rfl
  · exact shp_int _
  · exact shp_bool _
theorem shp_encW (w : Way) : Shp 2 (encW w) := shp_tup fun d hd => by
  obtain ⟨p, _, rfl⟩ := List.mem_map.mp hd
  exact shp_encP p
theorem cal_ends_or_none (T : Txt K mg CN CR) : C8.Cal P w K mg base 3 "ends_or_none" (spP (pre_ends_or_none CN CR)) [] := by
  have C_is_pair := cal_is_pair (P := P) (w := w) (base := base) T
  have C_ends_of := cal_ends_of (P := P) (w := w) (base := base) T
  refine calP 0 T.d_ends_or_none sc_ends_or_none (by intro ss r h; cases h <;> rfl) (fun f cdv A outer s H E hr => ⟨_, (pss_cons (ps_if (PW.pt (pw_or (pt_not (pt_val (pe_callB (r := rIsi K) call_isi (by rfl) T.z_isinstance boot_isinstance (pa_cons (pv 1) (pa_cons (pe_bltn (v := V.ty "tuple") (by rfl) T.z_tuple boot_tuple rfl) pa_nil))))) (pw_or (pt_cmpR (r := rEqD K) (op_eqD (hu64 hr)) (pv 1) (pe_tup pa_nil) (nomark _)) (pw_or1 (pt_not (pt_val (pe_callB (r := rAll K) (cr_all rfl) (by rfl) T.z_all boot_all (pa_cons (pe_lc (own := [("item", 7)]) rfl sc_ends_or_none.nd (kpi_tup K (pv 1)) (blkOk_by (N := ["net", "thing", "begin", "here", "pair", "one", "other", "item"]) (sc := defScope s_ends_or_none) (by decide +kernel)) (fun _ _ _ _ _ => (pg_name (i := 7) sc_ends_or_none.nd rfl (.inl rfl))) (fun _ _ _ _ _ => pts_nil) (fun _ _ _ _ _ => (C8.pe_c C_is_pair hr (by decide) (by rfl) (pa_cons (pv 0) (pa_cons (pv 7) pa_nil))))) pa_nil)))))))) (pss_one (ps_ret pe_non)) pss_nil)
      (pss_cons (ps_asg (C8.pe_c C_ends_of hr (by decide) (by rfl) (pa_cons (pv 0) (pa_cons (pe_ix (r := rIx K) ix_seq (pv 1) pe_int (fun _ _ => rfl)) pa_nil))) (kpg_tup K (n := 2) rfl (pgs_cons (pg_name (i := 2) sc_ends_or_none.nd rfl (.inl rfl)) (pgs_cons (pg_name (i := 3) sc_ends_or_none.nd rfl (.inl rfl)) pgs_nil))))
      (pss_cons (ps_for PassesOwn.never rfl (kpi_tup K (pe_slice (r := rSlX K) (SlR.or sl_list sl_tupA) (pv 1) (po_some pe_int) po_none)) (pg_name (i := 4) sc_ends_or_none.nd rfl (.inl rfl))
        (pss_cons (ps_asg (C8.pe_c C_ends_of hr (by decide) (by rfl) (pa_cons (pv 0) (pa_cons (pv 4) pa_nil))) (kpg_tup K (n := 2) rfl (pgs_cons (pg_name (i := 5) sc_ends_or_none.nd rfl (.inl rfl)) (pgs_cons (pg_name (i := 6) sc_ends_or_none.nd rfl (.inl rfl)) pgs_nil))))
        (pss_cons (ps_if (pt_cmpR (r := rNeD K) (op_neD (hu64 hr)) (pv 5) (pv 3) (nomark _)) (pss_one (ps_ret pe_non)) pss_nil)
        (pss_one (ps_set (i := 3) sc_ends_or_none.nd rfl (.inl rfl) (pv 6))))))
      (pss_one (ps_ret (pe_tup (pa_cons (pv 2) (pa_cons (pv 3) pa_nil)))))))), ?_⟩)
  intro ss r h; cases h <;> refine ⟨Nat.le_of_ble_eq_true rfl, rfl, ?_⟩
  rename_i B n S x y w h hw hl
  cases h with
  | nil => exact absurd rfl hw
  | @cons p w _ hp t =>
    have hlt := walk_lt (IsWalk.cons hp t)
    refine sx_seq (sx_if (b := false) (et_is (et_or (et_not (et_B (ev_isi (r := true) (ev_var rfl rfl) ev_w (.ty _) rfl (kit_ty (by decide +kernel))))) fun _ => et_or (et_test (ev_op (ev_var rfl rfl) (ev_tup ed_nil lk) (rv_eq .d .d ((shp_encW _).ok lk) ((shp_tup (n := 0) (ds := []) (fun d hd => nomatch hd)).ok lk)))) fun _ =>
      et_not (et_B (ev_all (ns := List.replicate (p :: w).length true) (ea_en (en_is (en_map (p :: w) encP (fun _ => PyData.bool true) (ei_tup (ev_var rfl rfl)) (by omega) fun i q hq => ⟨_, _, gx_name, by decide, ev_call (ea_cons (ev_var rfl rfl) (ea_cons (ev_var rfl rfl) ea_nil)) (.mk B n S q (hlt q (List.mem_of_getElem? hq))) rfl rfl⟩) (map_yes _)))))) ?_) (fun h => nomatch h) fun _ => sx_next ?_)
    · rw [all_yes]
      simp [PyData.eqv, PyData.eqvAll]
    · refine sx_seq (sx_asgG (ev_call (ea_cons (ev_var rfl rfl) (ea_cons (ev_op (ev_var rfl rfl) ev_int (rv_ixn (j := 0) .t rfl)) ea_nil)) (.mk B n S p hp) rfl rfl) (gx_tup (gxl_cons gx_name (gxl_cons gx_name gxl_nil)) rfl) ?_)
      refine sx_seq (sx_forT w encP (fun i ρ cs => ∃ (z : Nat) (a4 a5 a6 : Sl), IsWalk S z (w.drop i) y ∧ ρ = [netS CN B n S, .d (encW (p :: w)), .d (intN (src S p)), .d (intN z), a4, a5, a6, .un] ∧ cs = []) (ev_is (ev_from (n := 1) (ev_var rfl rfl) (eo_some ev_int) eo_none) rfl) ⟨dst S p, _, _, _, t, rfl, rfl⟩ ?_ ?_)
      · rintro i q ρ cs hq ⟨z, a4, a5, a6, hz, rfl, rfl⟩
        rw [drop_get hq] at hz
        refine ⟨_, _, gx_name, ?_⟩
        have hqs := hlt q (List.mem_cons_of_mem _ (List.mem_of_getElem? hq))
        refine sx_seq (sx_asgG (ev_call (ea_cons (ev_var rfl rfl) (ea_cons (ev_var rfl rfl) ea_nil)) (.mk B n S q hqs) rfl rfl) (gx_tup (gxl_cons gx_name (gxl_cons gx_name gxl_nil)) rfl) ?_)
        cases hz with
        | cons _ t' =>
          refine sx_seq (sx_if (b := false) (et_is (et_test (ev_op (ev_var rfl rfl) (ev_var rfl rfl) rv_neI)) (by simp)) (fun h => nomatch h) fun _ => sx_next ?_)
          exact sx_asg (ev_var rfl rfl) ⟨dst S q, _, _, _, t', rfl, rfl⟩
      · rintro ρ cs ⟨z, a4, a5, a6, hz, rfl, rfl⟩
        rw [List.drop_length] at hz
        cases hz
        exact sx_ret (ev_tup (ed_cons (ev_var rfl rfl) (ed_cons (ev_var rfl rfl) ed_nil)) lk) (.d rfl)
inductive pre_is_ring (CN CR : Addr) : List Sl → Sl → Prop
  | mk (B : Int) (n : Nat) (S : List Span) (x : Nat) (w : Way) (h : IsWalk S x w x) (hw : w ≠ []) (hl : w.length ≤ 1000) : pre_is_ring CN CR [netS CN B n S, .d (encW w)] (.d (.bool true))
theorem cal_is_ring (T : Txt K mg CN CR) : C8.Cal P w K mg base 4 "is_ring" (spP (pre_is_ring CN CR)) [] := by
  have C_ends_or_none := cal_ends_or_none (P := P) (w := w) (base := base) T
  refine calP 0 T.d_is_ring sc_is_ring (by intro ss r h; cases h <;> rfl) (fun f cdv A outer s H E hr => ⟨_, (pss_cons (ps_set (i := 2) sc_is_ring.nd rfl (.inl rfl) (C8.pe_c C_ends_or_none hr (by decide) (by rfl) (pa_cons (pv 0) (pa_cons (pv 1) pa_nil))))
      (pss_one (ps_ret (pe_and (pe_cmpR op_notN (pv 2) pe_non (nomark _)) (pe_one (pe_cmpR (r := rEqD K) (op_eqD (hu64 hr)) (pe_ix (r := rIx K) ix_seq (pv 2) pe_int (fun _ _ => rfl)) (pe_ix (r := rIx K) ix_seq (pv 2) pe_int (fun _ _ => rfl)) (nomark _))))))), ?_⟩)
  intro ss r h; cases h <;> refine ⟨Nat.le_of_ble_eq_true rfl, rfl, ?_⟩
  rename_i B n S x w h hw hl
  refine sx_seq (sx_asg (ev_call (ea_cons (ev_var rfl rfl) (ea_cons (ev_var rfl rfl) ea_nil)) (.mk B n S x x w h hw hl) rfl rfl) ?_)
  refine sx_ret (ev_is (ev_andV (ev_op (ev_var rfl rfl) ev_non rv_notN) fun _ => ev_op (ev_op (ev_var rfl rfl) ev_int (rv_ixn (j := 0) .t rfl)) (ev_op (ev_var rfl rfl) ev_int (rv_ixn (j := 1) .t rfl)) rv_eqI) ?_) (.d rfl)
  simp
inductive pre_check_ring (CN CR : Addr) : List Sl → Sl → Prop
  | mk (B : Int) (n : Nat) (S : List Span) (x : Nat) (w : Way) (h : IsWalk S x w x) (hw : w ≠ []) (hl : w.length ≤ 1000) : pre_check_ring CN CR [netS CN B n S, .d (encW w)] (.d (encW w))
theorem cal_check_ring (T : Txt K mg CN CR) : C8.Cal P w K mg base 5 "check_ring" (spP (pre_check_ring CN CR)) [] := by
  have C_is_ring := cal_is_ring (P := P) (w := w) (base := base) T
  refine calP 0 T.d_check_ring sc_check_ring (by intro ss r h; cases h <;> rfl) (fun f cdv A outer s H E hr => ⟨_, (pss_cons (ps_if (pt_not (pt_val (C8.pe_c C_is_ring hr (by decide) (by rfl) (pa_cons (pv 0) (pa_cons (pv 1) pa_nil))))) pss_never pss_nil)
      (pss_one (ps_ret (pv 1)))), ?_⟩)
  intro ss r h; cases h <;> refine ⟨Nat.le_of_ble_eq_true rfl, rfl, ?_⟩
  rename_i B n S x w h hw hl
  refine sx_seq (sx_if (b := !true) (et_not (et_B (ev_call (ea_cons (ev_var rfl rfl) (ea_cons (ev_var rfl rfl) ea_nil)) (.mk B n S x w h hw hl) rfl rfl))) (fun h => nomatch h) fun _ => sx_next ?_)
  exact sx_ret (ev_var rfl rfl) (.d rfl)
end
end Z
end
section
/-! M5: what the law draws: a ring and what hangs on it. -/
namespace Z
def joins (s : Span) (x y : Nat) : Prop := (s.a = x ∧ s.b = y) ∨ (s.a = y ∧ s.b = x)
def Rng (B : Int) (s : Span) : Prop := 0 ≤ s.lo ∧ s.lo ≤ s.hi ∧ s.hi ≤ 2880 ∧ s.hi - s.lo ≤ B - 2
def REnds (o : List Nat) (size : Nat) (s : Span) (k : Nat) : Prop := if k < size then joins s (o.getD k 0) (o.getD ((k + 1) % size) 0) else ∃ j, j < k ∧ joins s (o.getD k 0) (o.getD j 0)
/-- the spans so far, with labels under k -/
structure LabS (B : Int) (o : List Nat) (size k : Nat) (L : List (Span × Nat)) : Prop where
  nd : (L.map (·.1)).Nodup
  ln : (L.map (·.2)).Nodup
  all : ∀ j, j < size → j < k → j ∈ L.map (·.2)
  lt : ∀ q ∈ L, q.2 < k
  rg : ∀ q ∈ L, Rng B q.1
  en : ∀ q ∈ L, REnds o size q.1 q.2
def NetS (B : Int) (size more : Nat) (S : List Span) : Prop := ∃ (o : List Nat) (L : List (Span × Nat)), o.Perm (List.range (size + more)) ∧ S = L.map (·.1) ∧ LabS B o size (size + more) L
def ins {α : Type} (l : List α) (i : Nat) (x : α) : List α := l.take i ++ [x] ++ l.drop i
theorem ins_perm {α : Type} (l : List α) (i : Nat) (x : α) : (ins l i x).Perm (x :: l) := by
  unfold ins
  have h : (l.take i ++ [x] ++ l.drop i).Perm ([x] ++ l.take i ++ l.drop i) := List.Perm.append_right _ List.perm_append_comm
  have e : [x] ++ l.take i ++ l.drop i = x :: l := by rw [List.append_assoc, List.take_append_drop]; rfl
  rw [e] at h
  exact h
theorem ins_map {α β : Type} (f : α → β) (l : List α) (i : Nat) (x : α) : (ins l i x).map f = ins (l.map f) i (f x) := by
  unfold ins
  simp [List.map_take, List.map_drop]
theorem LabS.step {B : Int} {o : List Nat} {size k : Nat} {L : List (Span × Nat)} (h : LabS B o size k L) {s : Span} (hn : s ∉ L.map (·.1)) (hr : Rng B s) (he : REnds o size s k) (i : Nat) : LabS B o size (k + 1) (ins L i (s, k)) := by
  have p := ins_perm L i (s, k)
  have hk : k ∉ L.map (·.2) := fun m => by
    obtain ⟨q, hq, e⟩ := List.mem_map.mp m
    have := h.lt q hq
    omega
  refine ⟨(p.map (·.1)).nodup_iff.mpr ?_, (p.map (·.2)).nodup_iff.mpr ?_, fun j h1 h2 => ?_, fun q hq => ?_, fun q hq => ?_, fun q hq => ?_⟩
  · rw [List.map_cons]; exact List.nodup_cons.mpr ⟨hn, h.nd⟩
  · rw [List.map_cons]; exact List.nodup_cons.mpr ⟨hk, h.ln⟩
  · rw [(p.map (·.2)).mem_iff, List.map_cons, List.mem_cons]
    by_cases e : j = k
    · exact .inl e
    · exact .inr (h.all j h1 (by omega))
  · rcases List.mem_cons.mp (p.mem_iff.mp hq) with rfl | hq
    · exact Nat.lt_succ_self _
    · have := h.lt q hq; omega
  · rcases List.mem_cons.mp (p.mem_iff.mp hq) with rfl | hq
    · exact hr
    · exact h.rg q hq
  · rcases List.mem_cons.mp (p.mem_iff.mp hq) with rfl | hq
    · exact he
    · exact h.en q hq
theorem LabS.skip {B : Int} {o : List Nat} {size k : Nat} {L : List (Span × Nat)} (h : LabS B o size k L) (hk : size ≤ k) : LabS B o size (k + 1) L :=
  ⟨h.nd, h.ln, fun j h1 h2 => h.all j h1 (by omega), fun q hq => by have := h.lt q hq; omega, h.rg, h.en⟩
theorem LabS.nil (B : Int) (o : List Nat) (size : Nat) : LabS B o size 0 [] := ⟨by simp, by simp, fun j _ h => by omega, by simp, by simp, by simp⟩
/-- the order is one to one -/
theorem ord_inj {o : List Nat} {m : Nat} (p : o.Perm (List.range m)) {i j : Nat} (hi : i < m) (hj : j < m) (e : o.getD i 0 = o.getD j 0) : i = j := by
  have hl : o.length = m := by rw [p.length_eq, List.length_range]
  have nd : o.Nodup := p.nodup_iff.mpr List.nodup_range
  rw [List.getD_eq_getElem?_getD, List.getD_eq_getElem?_getD, List.getElem?_eq_getElem (by omega), List.getElem?_eq_getElem (by omega)] at e
  exact (List.getElem_inj nd).mp e
theorem ord_lt {o : List Nat} {m : Nat} (p : o.Perm (List.range m)) {i : Nat} (hi : i < m) : o.getD i 0 < m := by
  have hl : o.length = m := by rw [p.length_eq, List.length_range]
  rw [List.getD_eq_getElem?_getD, List.getElem?_eq_getElem (by omega)]
  exact List.mem_range.mp (p.mem_iff.mp (List.getElem_mem _))
theorem joins_two {s : Span} {x y x' y' : Nat} (h : joins s x y) (k : joins s x' y') : (x = x' ∧ y = y') ∨ (x = y' ∧ y = x') := by
  unfold joins at h k
  omega
/-- of the ring, two of a kind only where it is of two -/
theorem ring_new {B : Int} {o : List Nat} {size more k : Nat} {L : List (Span × Nat)} (p : o.Perm (List.range (size + more))) (h : LabS B o size k L) (hk : k < size) {s : Span} (hj : joins s (o.getD k 0) (o.getD ((k + 1) % size) 0)) (hm : s ∈ L.map (·.1)) : ∃ t, L = [(t, 0)] ∧ t = s ∧ k = 1 := by
  obtain ⟨⟨t, k'⟩, hq, e⟩ := List.mem_map.mp hm
  have e' : t = s := e
  subst e'
  have h1 : k' < k := h.lt _ hq
  have h2 := h.en _ hq
  unfold REnds at h2
  rw [if_pos (show (t, k').2 < size by show k' < size; omega)] at h2
  have h2' : joins t (o.getD k' 0) (o.getD ((k' + 1) % size) 0) := h2
  have m1 : (k + 1) % size < size := Nat.mod_lt _ (by omega)
  have m2 : (k' + 1) % size = k' + 1 := Nat.mod_eq_of_lt (by omega)
  rcases joins_two hj h2' with ⟨a1, a2⟩ | ⟨a1, a2⟩
  · have := ord_inj p (by omega) (by omega) a1
    omega
  · have b1 := ord_inj p (by omega) (by omega) a1
    have b2 := ord_inj p (by omega) (by omega) a2
    rw [m2] at b1
    have hk1 : k + 1 = size := by
      by_cases z : k + 1 < size
      · rw [Nat.mod_eq_of_lt z] at b2
        omega
      · omega
    rw [hk1, Nat.mod_self] at b2
    subst b2
    have hk' : k = 1 := by omega
    subst hk'
    refine ⟨t, ?_, rfl, rfl⟩
    have all0 : ∀ q ∈ L, q = (t, 0) := fun q hq' => by
      have z := h.lt q hq'
      have z0 : q.2 = 0 := by omega
      have hn := h.ln
      obtain ⟨i, hi⟩ := List.getElem?_of_mem hq
      obtain ⟨j, hj⟩ := List.getElem?_of_mem hq'
      have hi' := (List.getElem?_eq_some_iff.mp hi)
      have hj' := (List.getElem?_eq_some_iff.mp hj)
      have hij : i = j := by
        refine (List.getElem_inj (h₀ := by rw [List.length_map]; exact hi'.1) (h₁ := by rw [List.length_map]; exact hj'.1) hn).mp ?_
        rw [List.getElem_map, List.getElem_map, hi'.2, hj'.2, z0]
      subst hij
      rw [hi] at hj
      exact (Option.some.inj hj).symm
    cases L with
    | nil => cases hq
    | cons q L =>
      have z1 := all0 q List.mem_cons_self
      subst z1
      cases L with
      | nil => rfl
      | cons q' L =>
        have z2 := all0 q' (List.mem_cons_of_mem _ List.mem_cons_self)
        subst z2
        have := h.ln
        simp at this
/-- what hangs is new -/
theorem hang_new {B : Int} {o : List Nat} {size more k j : Nat} {L : List (Span × Nat)} (p : o.Perm (List.range (size + more))) (h : LabS B o size k L) (hs : 0 < size) (h1 : size ≤ k) (h2 : k < size + more) {s : Span} (hj : joins s (o.getD k 0) (o.getD j 0)) (hjk : j < k) : s ∉ L.map (·.1) := by
  intro hm
  obtain ⟨⟨t, k'⟩, hq, e⟩ := List.mem_map.mp hm
  have e' : t = s := e
  subst e'
  have z1 : k' < k := h.lt _ hq
  have z2 := h.en _ hq
  unfold REnds at z2
  have kill : ∀ u v, u < k → v < k → joins t (o.getD u 0) (o.getD v 0) → False := fun u v hu hv q => by
    rcases joins_two hj q with ⟨a1, a2⟩ | ⟨a1, a2⟩
    · have := ord_inj p (by omega) (by omega) a1; omega
    · have := ord_inj p (by omega) (by omega) a1; omega
  split at z2
  · rename_i c
    have m1 : (k' + 1) % size < size := Nat.mod_lt _ (by omega)
    exact kill k' ((k' + 1) % size) z1 (by omega) z2
  · obtain ⟨u, hu, q⟩ := z2
    have hu' : u < k' := hu
    exact kill k' u z1 (by omega) q
end Z
end
section
/-! MD: what the plain law says, in plain words. -/
namespace Z
structure TT (B : Int) (n : Nat) (S : List Span) (ts : List Int) : Prop where
  len : ts.length = n
  rg : ∀ t ∈ ts, 0 ≤ t ∧ t < B
  ok : ∀ s ∈ S, lenS B ts s ≤ s.hi
/-- what a ring can last, as is_barring sums it -/
def barLo (S : List Span) (w : Way) : Int := (S.zipIdx.map fun q => min (cntW q.2 w * q.1.lo) (cntW q.2 w * q.1.hi)).sum
def barHi (S : List Span) (w : Way) : Int := (S.zipIdx.map fun q => max (cntW q.2 w * q.1.lo) (cntW q.2 w * q.1.hi)).sum
def LpOk (A : List Arc) (n : Nat) : Prop := ∃ m, m < n + 1 ∧ (lrun A (ls0 n) (m + 1)).e = none
/-- how least_places fails -/
structure LpBad (A : List Arc) (n : Nat) (t : List Arc) : Prop where
  ne : ∀ i, i < n + 1 → (lrun A (ls0 n) (i + 1)).e ≠ none
  back : ∃ x y, (lrun A (ls0 n) (n + 1)).e = some x ∧ BackN (lrun A (ls0 n) (n + 1)).c n x y ∧ Back (lrun A (ls0 n) (n + 1)).c y y t
  len : t.length ≤ 900
/-- what the longest ways are -/
structure Longs (A : List Arc) (n : Nat) (S : List Span) (d : Nat → Int) : Prop where
  g : ∀ Q ∈ piecesOf n S, ∀ e ∈ Q, grun A (g0 (Q.headD 0)) Q.length e = some (d e)
noncomputable def ringOf (n : Nat) (S : List Span) (i : Nat) : Way := (i, true) :: (reachF n S (spanAt S i).b (spanAt S i).a).getD []
/-- the run of numbers, as rows -/
def runOf (lo hi : Int) : List Int := (List.range (hi + 1 - lo).toNat).map fun (i : Nat) => lo + (i : Int)
/-- where v stands first -/
def fix1 (v : Nat) : List Nat → Nat
  | [] => 0
  | x :: l => if x = v then 0 else fix1 v l + 1
def backW (R : Way) : Way := R.reverse.map fun p => (p.1, !p.2)
/-- a number within the run -/
def HoldK (B : Int) (n : Nat) (S : List Span) (l : Nat) (R : Way) (k : Int) (d : Nat → Int) : Prop := LpOk (arcsOf B k l S) n ∧ (∃ d', Longs (arcsOf B k l S) n S d ∧ Longs ((arcsOf B k l S).map turnArc) n S d') ∧
  TT B n S ((List.range n).map fun e => d e % B) ∧ (∀ e, e < n → fix1 ((marks n S).1.getD e 0) (marks n S).1 = e → ((List.range n).map fun e => d e % B).getD e 0 = 0) ∧
  sumW (fun i => (S.map (lenS B ((List.range n).map fun e => d e % B))).getD i 0) R / B = k ∧ sumW (fun i => (S.map (lenS B ((List.range n).map fun e => d e % B))).getD i 0) (backW R) / B = -k
/-- a number next to the run -/
def BarK (B : Int) (n : Nat) (S : List Span) (l : Nat) (R : Way) (k : Int) : Prop := ∃ t x, LpBad (arcsOf B k l S) n t ∧ IsWalk S x (wayB t) x ∧ wayB t ≠ [] ∧ ((wayB t).map (·.1)).Nodup ∧
  (cntW l (wayB t) * k * B < loW S (wayB t) ∨ hiW S (wayB t) < cntW l (wayB t) * k * B) ∧ (k * cntW l (wayB t) * B < barLo S (wayB t) ∨ barHi S (wayB t) < k * cntW l (wayB t) * B) ∧ ((wayB t).map (·.1)).Perm (R.map (·.1))
structure LawF (B : Int) (n : Nat) (S : List Span) (l : Nat) (R : Way) : Prop where
  hv : Val B n S
  nd : S.Nodup
  he : loose n S = [l]
  hR : ringOf n S l = R
  rl : R.length ≤ 900
  walk : ∃ x, IsWalk S x R x
  back : ∃ x, IsWalk S x (backW R) x
  lo : -80000 < loW S R ∧ loW S R < 80000
  hi : -80000 < hiW S R ∧ hiW S R < 80000
  hold : ∀ k ∈ runOf (-(-loW S R / B)) (hiW S R / B), ∃ d, HoldK B n S l R k d
  below : BarK B n S l R (-(-loW S R / B) - 1)
  above : BarK B n S l R (hiW S R / B + 1)
def Plain : Prop := ∀ (B : Int) (size more : Nat) (S : List Span), 3 ≤ B → B ≤ 1440 → 2 ≤ size → size + more ≤ 20 → NetS B size more S → ∃ l R, LawF B (size + more) S l R
end Z
end
section
namespace Z
open PySem PySem.Spec PyProof.Rows L2
section
variable {ρ ρ' : List Sl} {cs : Cs} {ta tb te : TE} {N : List Sl → Cs → Prop} {T : Sl → Cs → Prop} {K : PySem.W.Frag}
theorem sx_aug {i : Nat} {a b : Int} (hi : ρ[i]? = some (.d (.int a))) (h : EvA te ρ cs (.d (.int b))) (k : N (ρ.set i (.d (.int (a + b)))) cs) : Sx (tAug i te (ipI fun i j => i + j)) ρ cs N T := fun B as H σ ok D hn ht => by
  rcases ok.sl i _ hi with e | ⟨v, h1, h2⟩
  · cases e
  · refine ⟨v, h1, h B as H σ ok _ fun w H1 e1 r1 => ?_⟩
    cases h2; cases r1
    exact ⟨a, b, rfl, rfl, hn as H1 _ _ cs k ((ok.mono e1).store (.int _))⟩
theorem sx_augL {j n : Nat} {ds : List PyData} {a b : Int} (ho : EvA ta ρ cs (.c j)) (hj : cs[j]? = some (some (.ls ds))) (hi : EvA tb ρ cs (.d (.int (n : Int)))) (ha : ds[n]? = some (.int a)) (h : EvA te ρ cs (.d (.int b))) (k : N ρ (cs.set j (some (.ls (ds.set n (.int (a + b))))))) :
    Sx (tAugS ta tb te (rGetN K) (ipI fun i j => i + j) rSetL) ρ cs N T := fun B as H σ ok D hn ht =>
  ho B as H σ ok _ fun w H1 e1 r1 => hi B as H1 σ (ok.mono e1) _ fun w' H2 e2 r2 => by
    cases r2
    have ok2 := (ok.mono e1).mono e2
    obtain ⟨p, h1, rfl, xs, h3, h4⟩ := ok2.h.cell hj (r1.mono (fz_mono e2))
    obtain ⟨v, h5, h6⟩ := h4.get ha
    refine ⟨p, xs, n, v, rfl, rfl, SqL.of h3, h5, h B as H2 σ ok2 _ fun y H3 e3 r3 => ?_⟩
    cases h6; cases r3
    have ok3 := ok2.mono e3
    refine ⟨a, b, rfl, rfl, ?_⟩
    have hl := (List.getElem?_eq_some_iff.mp h5).1
    refine ⟨p, xs, n, n, rfl, rfl, e3 _ _ h3, ixN_nat hl, ?_⟩
    exact hn as _ σ ρ _ k (ok3.write (c' := .ls (ds.set n (.int (a + b)))) hj h1 ⟨_, upd_same, (h4.mono (fz_mono e3)).set (.int _) n⟩)
end
abbrev tupI (l : List Int) : PyData := .tuple (l.map PyData.int)
abbrev listI (l : List Int) : PyData := .list (l.map PyData.int)
theorem getI {l : List Int} {i : Nat} {d : Int} (h : i < l.length) : (l.map PyData.int)[i]? = some (.int (l.getD i d)) := by
  rw [List.getElem?_map, List.getD_eq_getElem?_getD, List.getElem?_eq_getElem h]
  rfl
theorem mapI {α : Type} (l : List α) (f : α → Int) : l.map (fun x => PyData.int (f x)) = (l.map f).map PyData.int := by rw [List.map_map]; rfl
section
variable {P : Program} {w : World} {K : PySem.W.Frag} {mg : Str → Option Value} {base : Heap} {CN CR : Addr}
inductive pre_sum_along (CN CR : Addr) : List Sl → Sl → Prop
  | mk (v : Way) (ls : List Int) (h : ∀ p ∈ v, p.1 < ls.length) (hl : v.length ≤ 1000) : pre_sum_along CN CR [.d (encW v), .d (tupI ls)] (.d (.int (sumW (fun i => ls.getD i 0) v)))
theorem cal_sum_along (T : Txt K mg CN CR) : C8.Cal P w K mg base 1 "sum_along" (spP (pre_sum_along CN CR)) [] := by
  refine calP 0 T.d_sum_along sc_sum_along (by intro ss r h; cases h <;> rfl) (fun f cdv A outer s H E hr => ⟨_, (pss_one (ps_ret (pe_callB (r := rSum K) (cr_sum rfl) (by rfl) T.z_sum boot_sum (pa_cons (pe_lc (own := [("index", 2), ("forth", 3)]) rfl sc_sum_along.nd (kpi_tup K (pv 0)) (blkOk_by (N := ["way", "lengths", "index", "forth"]) (sc := defScope s_sum_along) (by decide +kernel)) (fun _ _ _ _ _ => (kpg_tup K (n := 2) rfl (pgs_cons (pg_name (i := 2) sc_sum_along.nd rfl (.inl rfl)) (pgs_cons (pg_name (i := 3) sc_sum_along.nd rfl (.inl rfl)) pgs_nil)))) (fun _ _ _ _ _ => pts_nil) (fun _ _ _ _ _ => (pe_ifExp (pt_val (pv 3)) (pe_ix (r := rIx K) ix_seq (pv 1) (pv 2) (fun _ _ => rfl)) (pe_un un_neg (pe_ix (r := rIx K) ix_seq (pv 1) (pv 2) (fun _ _ => rfl)))))) pa_nil)))), ?_⟩)
  intro ss r h; cases h <;> refine ⟨Nat.le_of_ble_eq_true rfl, rfl, ?_⟩
  rename_i v ls h hl
  refine sx_ret (ev_is (ev_sum (ns := v.map fun p => if p.2 then ls.getD p.1 0 else -ls.getD p.1 0) (ea_en (en_is (en_map v encP (fun p => PyData.int (if p.2 then ls.getD p.1 0 else -ls.getD p.1 0)) (ei_tup (ev_var rfl rfl)) (by omega) fun i p hp => ⟨_, _, (gx_tup (gxl_cons gx_name (gxl_cons gx_name gxl_nil)) rfl), by decide, ?_⟩) (mapI _ _)))) rfl) (.d rfl)
  have hp1 := h p (List.mem_of_getElem? hp)
  refine ev_if (et_test (ev_var rfl rfl)) (fun hb => ?_) (fun hb => ?_)
  · rw [if_pos hb]
    exact ev_op (ev_var rfl rfl) (ev_var rfl rfl) (rv_ixn .t (getI hp1))
  · rw [if_neg (by rw [hb]; exact Bool.false_ne_true)]
    exact ev_un (ev_op (ev_var rfl rfl) (ev_var rfl rfl) (rv_ixn .t (getI hp1))) ru_neg
inductive pre_shares_of (CN CR : Addr) : List Sl → Sl → Prop
  | mk (B : Int) (n : Nat) (S : List Span) (hv : Val B n S) (v : Way) (hl : v.length ≤ 1000) : pre_shares_of CN CR [netS CN B n S, .d (encW v)] (.d (tupI ((loose n S).map fun i => cntW i v)))
theorem loose_len {B : Int} {n : Nat} {S : List Span} (hv : Val B n S) : (loose n S).length ≤ 60 := by
  have h1 := hv.sm
  have h2 := List.length_filter_le (fun i => decide (i ∉ kept n S)) (List.range S.length)
  rw [List.length_range] at h2
  unfold loose
  omega
theorem cal_shares_of (T : Txt K mg CN CR) : C8.Cal P w K mg base 4 "shares_of" (spP (pre_shares_of CN CR)) [] := by
  have C_loose_spans := cal_loose_spans (P := P) (w := w) (base := base) T
  refine calP 1 T.d_shares_of sc_shares_of (by intro ss r h; cases h <;> rfl) (fun f cdv A outer s H E hr => ⟨_, (pss_cons (ps_set (i := 2) sc_shares_of.nd rfl (.inl rfl) (pe_lst pa_nil))
      (pss_cons (ps_for PassesOwn.never rfl (kpi_list K (C8.pe_c C_loose_spans hr (by decide) (by rfl) (pa_cons (pv 0) pa_nil))) (pg_name (i := 3) sc_shares_of.nd rfl (.inr rfl))
        (pss_one (ps_expr (kpe_bm K PySem.F.plainAttrs_list PySem.F.slot_list_append PySem.F.type_list_append mt_append (pv 2) (pa_cons (pe_callB (r := rSum K) (cr_sum rfl) (by rfl) T.z_sum boot_sum (pa_cons (pe_lc (own := [("index", 4), ("forth", 5)]) rfl sc_shares_of.nd (kpi_tup K (pv 1)) (blkOk_by (N := ["net", "ring", "found", "loose", "index", "forth"]) (sc := defScope s_shares_of) (by decide +kernel)) (fun _ _ _ _ _ => (kpg_tup K (n := 2) rfl (pgs_cons (pg_name (i := 4) sc_shares_of.nd rfl (.inl rfl)) (pgs_cons (pg_name (i := 5) sc_shares_of.nd rfl (.inl rfl)) pgs_nil)))) (fun _ _ _ _ _ => (pts_one (pt_cmpR (r := rEqD K) (op_eqD (hu64 hr)) (pv 4) (pv 3) (nomark _)))) (fun _ _ _ _ _ => (pe_ifExp (pt_val (pv 5)) pe_int (pe_un un_neg pe_int)))) pa_nil)) pa_nil)))))
      (pss_one (ps_ret (kpe_tupleOf K (by rfl) T.z_tuple (pv 2)))))), ?_⟩)
  intro ss r h; cases h <;> refine ⟨Nat.le_of_ble_eq_true rfl, rfl, ?_⟩
  rename_i B n S hv v hl
  refine sx_seq (sx_asgN 0 (en_lst ed_nil lk) rfl rfl ?_)
  refine sx_seq (sx_forL (loose n S) intN (fun i ρ cs => ∃ (a3 a4 a5 : Sl), ρ = [netS CN B n S, .d (encW v), .c 0, a3, a4, a5] ∧ cs = [some (.ls (((loose n S).take i).map fun i => PyData.int (cntW i v)))])
    (ev_call (ea_cons (ev_var rfl rfl) ea_nil) (.mk B n S hv) rfl rfl) ⟨_, _, _, rfl, rfl⟩ ?_ ?_)
  · rintro i m ρ cs hm ⟨a3, a4, a5, rfl, rfl⟩
    refine ⟨_, _, gx_name, ?_⟩
    have hll := loose_len hv
    refine sx_app (d := .int (cntW m v)) (ev_var rfl rfl) rfl (ev_is (ev_sum (ns := (v.filter fun p => decide (p.1 = m)).map fun p => if p.2 then (1 : Int) else -1) (ea_en (en_is (en_flt v encP (fun p => decide (p.1 = m)) (fun p => PyData.int (if p.2 then (1 : Int) else -1)) (ei_tup (ev_var rfl rfl)) (by omega) fun i p hp => ⟨_, _, (gx_tup (gxl_cons gx_name (gxl_cons gx_name gxl_nil)) rfl), by decide, ?_, fun _ => ?_⟩) (mapI _ _)))) rfl)
      (by rw [List.length_map, List.length_take]; omega) ⟨_, _, _, rfl, ?_⟩
    · exact et_is (et_test (ev_op (ev_var rfl rfl) (ev_var rfl rfl) rv_eqI)) (by
        by_cases e : p.1 = m
        · rw [e]; simp
        · rw [decide_eq_false e]; exact beq_eq_false_iff_ne.mpr (by omega))
    · refine ev_if (et_test (ev_var rfl rfl)) (fun hb => ?_) (fun hb => ?_)
      · rw [if_pos hb]
        exact ev_int
      · rw [if_neg (by rw [hb]; exact Bool.false_ne_true)]
        exact ev_un ev_int ru_neg
    · rw [List.take_add_one, hm, List.map_append]
      rfl
  · rintro ρ cs ⟨a3, a4, a5, rfl, rfl⟩
    rw [List.take_length, mapI]
    exact sx_ret (ev_tuple (ev_var rfl rfl) (.c rfl)) (.d rfl)
inductive pre_bounds_along (CN CR : Addr) : List Sl → Sl → Prop
  | mk (B : Int) (n : Nat) (S : List Span) (hv : Val B n S) (v : Way) (h : ∀ p ∈ v, p.1 < S.length) (hl : v.length ≤ 1000) : pre_bounds_along CN CR [netS CN B n S, .d (encW v)] (.d (.tuple [.int (loW S v), .int (hiW S v)]))
theorem getLo {S : List Span} {i : Nat} (h : i < S.length) : (S.map fun s => PyData.int s.lo)[i]? = some (.int (spanAt S i).lo) := by
  unfold spanAt
  rw [List.getElem?_map, List.getD_eq_getElem?_getD, List.getElem?_eq_getElem h]
  rfl
theorem getHi {S : List Span} {i : Nat} (h : i < S.length) : (S.map fun s => PyData.int s.hi)[i]? = some (.int (spanAt S i).hi) := by
  unfold spanAt
  rw [List.getElem?_map, List.getD_eq_getElem?_getD, List.getElem?_eq_getElem h]
  rfl
theorem cal_bounds_along (T : Txt K mg CN CR) : C8.Cal P w K mg base 1 "bounds_along" (spP (pre_bounds_along CN CR)) [] := by
  refine calP 0 T.d_bounds_along sc_bounds_along (by intro ss r h; cases h <;> rfl) (fun f cdv A outer s H E hr => ⟨_, (pss_cons (ps_set (i := 2) sc_bounds_along.nd rfl (.inr rfl) (pe_lc (own := [("span", 5)]) rfl sc_bounds_along.nd (kpi_tup K (kpe_fld K (pv 0) rfl)) (blkOk_by (N := ["net", "way", "lows", "highs", "least", "span", "index", "forth"]) (sc := defScope s_bounds_along) (by decide +kernel)) (fun _ _ _ _ _ => (pg_name (i := 5) sc_bounds_along.nd rfl (.inl rfl))) (fun _ _ _ _ _ => pts_nil) (fun _ _ _ _ _ => (pe_ix (r := rIx K) ix_seq (pv 5) pe_int (fun _ _ => rfl)))))
      (pss_cons (ps_set (i := 3) sc_bounds_along.nd rfl (.inr rfl) (pe_lc (own := [("span", 5)]) rfl sc_bounds_along.nd (kpi_tup K (kpe_fld K (pv 0) rfl)) (blkOk_by (N := ["net", "way", "lows", "highs", "least", "span", "index", "forth"]) (sc := defScope s_bounds_along) (by decide +kernel)) (fun _ _ _ _ _ => (pg_name (i := 5) sc_bounds_along.nd rfl (.inl rfl))) (fun _ _ _ _ _ => pts_nil) (fun _ _ _ _ _ => (pe_ix (r := rIx K) ix_seq (pv 5) pe_int (fun _ _ => rfl)))))
      (pss_cons (ps_set (i := 4) sc_bounds_along.nd rfl (.inl rfl) (pe_callB (r := rSum K) (cr_sum rfl) (by rfl) T.z_sum boot_sum (pa_cons (pe_lc (own := [("index", 6), ("forth", 7)]) rfl sc_bounds_along.nd (kpi_tup K (pv 1)) (blkOk_by (N := ["net", "way", "lows", "highs", "least", "span", "index", "forth"]) (sc := defScope s_bounds_along) (by decide +kernel)) (fun _ _ _ _ _ => (kpg_tup K (n := 2) rfl (pgs_cons (pg_name (i := 6) sc_bounds_along.nd rfl (.inl rfl)) (pgs_cons (pg_name (i := 7) sc_bounds_along.nd rfl (.inl rfl)) pgs_nil)))) (fun _ _ _ _ _ => pts_nil) (fun _ _ _ _ _ => (pe_ifExp (pt_val (pv 7)) (pe_ix (r := rIx K) ix_seq (pv 2) (pv 6) (fun _ _ => rfl)) (pe_un un_neg (pe_ix (r := rIx K) ix_seq (pv 3) (pv 6) (fun _ _ => rfl)))))) pa_nil)))
      (pss_one (ps_ret (pe_tup (pa_cons (pv 4) (pa_cons (pe_callB (r := rSum K) (cr_sum rfl) (by rfl) T.z_sum boot_sum (pa_cons (pe_lc (own := [("index", 6), ("forth", 7)]) rfl sc_bounds_along.nd (kpi_tup K (pv 1)) (blkOk_by (N := ["net", "way", "lows", "highs", "least", "span", "index", "forth"]) (sc := defScope s_bounds_along) (by decide +kernel)) (fun _ _ _ _ _ => (kpg_tup K (n := 2) rfl (pgs_cons (pg_name (i := 6) sc_bounds_along.nd rfl (.inl rfl)) (pgs_cons (pg_name (i := 7) sc_bounds_along.nd rfl (.inl rfl)) pgs_nil)))) (fun _ _ _ _ _ => pts_nil) (fun _ _ _ _ _ => (pe_ifExp (pt_val (pv 7)) (pe_ix (r := rIx K) ix_seq (pv 3) (pv 6) (fun _ _ => rfl)) (pe_un un_neg (pe_ix (r := rIx K) ix_seq (pv 2) (pv 6) (fun _ _ => rfl)))))) pa_nil)) pa_nil)))))))), ?_⟩)
  intro ss r h; cases h <;> refine ⟨Nat.le_of_ble_eq_true rfl, rfl, ?_⟩
  rename_i B n S hv v h hl
  have hs := hv.sm
  refine sx_seq (sx_asg (ea_en (en_map S encS (fun s => PyData.int s.lo) (ei_tup (evn_spans T (ev_var rfl rfl))) (by omega) fun i s hs => ⟨_, _, gx_name, by decide, ev_op (ev_var rfl rfl) ev_int (rv_ixn (j := 2) .t rfl)⟩)) ?_)
  refine sx_seq (sx_asg (ea_en (en_map S encS (fun s => PyData.int s.hi) (ei_tup (evn_spans T (ev_var rfl rfl))) (by omega) fun i s hs => ⟨_, _, gx_name, by decide, ev_op (ev_var rfl rfl) ev_int (rv_ixn (j := 3) .t rfl)⟩)) ?_)
  refine sx_seq (sx_asg (ev_sum (ns := v.map fun p => if p.2 then (spanAt S p.1).lo else -(spanAt S p.1).hi) (ea_en (en_is (en_map v encP (fun p => PyData.int (if p.2 then (spanAt S p.1).lo else -(spanAt S p.1).hi)) (ei_tup (ev_var rfl rfl)) (by omega) fun i p hp => ⟨_, _, (gx_tup (gxl_cons gx_name (gxl_cons gx_name gxl_nil)) rfl), by decide, ?_⟩) (mapI _ _)))) ?_)
  · have hp1 := h p (List.mem_of_getElem? hp)
    refine ev_if (et_test (ev_var rfl rfl)) (fun hb => ?_) (fun hb => ?_)
    · rw [if_pos hb]
      exact ev_op (ev_var rfl rfl) (ev_var rfl rfl) (rv_ixn .l (getLo hp1))
    · rw [if_neg (by rw [hb]; exact Bool.false_ne_true)]
      exact ev_un (ev_op (ev_var rfl rfl) (ev_var rfl rfl) (rv_ixn .l (getHi hp1))) ru_neg
  refine sx_ret (ev_tup (ed_cons (ev_var rfl rfl) (ed_cons (ev_sum (ns := v.map fun p => if p.2 then (spanAt S p.1).hi else -(spanAt S p.1).lo) (ea_en (en_is (en_map v encP (fun p => PyData.int (if p.2 then (spanAt S p.1).hi else -(spanAt S p.1).lo)) (ei_tup (ev_var rfl rfl)) (by omega) fun i p hp => ⟨_, _, (gx_tup (gxl_cons gx_name (gxl_cons gx_name gxl_nil)) rfl), by decide, ?_⟩) (mapI _ _)))) ed_nil)) lk) (.d rfl)
  have hp1 := h p (List.mem_of_getElem? hp)
  refine ev_if (et_test (ev_var rfl rfl)) (fun hb => ?_) (fun hb => ?_)
  · rw [if_pos hb]
    exact ev_op (ev_var rfl rfl) (ev_var rfl rfl) (rv_ixn .l (getHi hp1))
  · rw [if_neg (by rw [hb]; exact Bool.false_ne_true)]
    exact ev_un (ev_op (ev_var rfl rfl) (ev_var rfl rfl) (rv_ixn .l (getLo hp1))) ru_neg
/-- moments that are a timetable -/
inductive pre_length_of (CN CR : Addr) : List Sl → Sl → Prop
  | mk (B : Int) (n : Nat) (S : List Span) (hv : Val B n S) (ts : List Int) (s : Span) (hl : ts.length = n) (hs : s.a < n ∧ s.b < n) (h : lenS B ts s ≤ s.hi) : pre_length_of CN CR [netS CN B n S, .d (encS s), .d (tupI ts)] (.d (.int (lenS B ts s)))
theorem cal_length_of (T : Txt K mg CN CR) : C8.Cal P w K mg base 7 "length_of" (spP (pre_length_of CN CR)) [] := by
  have C_rest_by := cal_rest_by (P := P) (w := w) (base := base) T
  have C_is_below := cal_is_below (P := P) (w := w) (base := base) T
  refine calP 0 T.d_length_of sc_length_of (by intro ss r h; cases h <;> rfl) (fun f cdv A outer s H E hr => ⟨_, (pss_cons (ps_asg (pv 1) (kpg_tup K (n := 4) rfl (pgs_cons (pg_name (i := 3) sc_length_of.nd rfl (.inl rfl)) (pgs_cons (pg_name (i := 4) sc_length_of.nd rfl (.inl rfl)) (pgs_cons (pg_name (i := 5) sc_length_of.nd rfl (.inl rfl)) (pgs_cons (pg_name (i := 6) sc_length_of.nd rfl (.inl rfl)) pgs_nil))))))
      (pss_cons (ps_set (i := 7) sc_length_of.nd rfl (.inl rfl) (pe_op (r := rAddX K) opx_add (C8.pe_c C_rest_by hr (by decide) (by rfl) (pa_cons (pe_op op_sub (pe_op op_sub (pe_ix (r := rIx K) ix_seq (pv 2) (pv 4) (fun _ _ => rfl)) (pe_ix (r := rIx K) ix_seq (pv 2) (pv 3) (fun _ _ => rfl))) (pv 5)) (pa_cons (kpe_fld K (pv 0) rfl) pa_nil))) (pv 5)))
      (pss_one (ps_ret (pe_ifExp (pt_val (C8.pe_c C_is_below hr (by decide) (by rfl) (pa_cons (pv 6) (pa_cons (pv 7) pa_nil)))) pe_non (pv 7)))))), ?_⟩)
  intro ss r h; cases h <;> refine ⟨Nat.le_of_ble_eq_true rfl, rfl, ?_⟩
  rename_i B n S hv ts s hl hs h
  have hB := hv.b3
  refine sx_seq (sx_asgG (ev_var rfl rfl) (gx_tup (gxl_cons gx_name (gxl_cons gx_name (gxl_cons gx_name (gxl_cons gx_name gxl_nil)))) rfl) ?_)
  refine sx_seq (sx_asg (s := .d (.int (lenS B ts s))) (ev_op (ev_call (ea_cons (ev_op (ev_op (ev_op (ev_var rfl rfl) (ev_var rfl rfl) (rv_ixn .t (getI (by omega)))) (ev_op (ev_var rfl rfl) (ev_var rfl rfl) (rv_ixn .t (getI (by omega)))) rv_i0) (ev_var rfl rfl) rv_i0) (ea_cons (evn_beat T (ev_var rfl rfl)) ea_nil)) (.mk _ B (by omega)) rfl rfl) (ev_var rfl rfl) (rv_or1 rv_i0)) ?_)
  refine sx_ret (ev_if (b := false) (et_is (et_B (ev_call (ea_cons (ev_var rfl rfl) (ea_cons (ev_var rfl rfl) ea_nil)) (.mk s.hi (lenS B ts s)) rfl rfl)) (decide_eq_false (by omega))) (fun h => nomatch h) fun _ => ev_var rfl rfl) (.d rfl)
inductive pre_all_lengths (CN CR : Addr) : List Sl → Sl → Prop
  | mk (B : Int) (n : Nat) (S : List Span) (hv : Val B n S) (ts : List Int) (h : TT B n S ts) : pre_all_lengths CN CR [netS CN B n S, .d (tupI ts)] (.d (tupI (S.map (lenS B ts))))
theorem cal_all_lengths (T : Txt K mg CN CR) : C8.Cal P w K mg base 8 "all_lengths" (spP (pre_all_lengths CN CR)) [] := by
  have C_length_of := cal_length_of (P := P) (w := w) (base := base) T
  refine calP 0 T.d_all_lengths sc_all_lengths (by intro ss r h; cases h <;> rfl) (fun f cdv A outer s H E hr => ⟨_, (pss_one (ps_ret (kpe_tupleOf K (by rfl) T.z_tuple (pe_lc (own := [("span", 2)]) rfl sc_all_lengths.nd (kpi_tup K (kpe_fld K (pv 0) rfl)) (blkOk_by (N := ["net", "moments", "span"]) (sc := defScope s_all_lengths) (by decide +kernel)) (fun _ _ _ _ _ => (pg_name (i := 2) sc_all_lengths.nd rfl (.inl rfl))) (fun _ _ _ _ _ => pts_nil) (fun _ _ _ _ _ => (C8.pe_c C_length_of hr (by decide) (by rfl) (pa_cons (pv 0) (pa_cons (pv 2) (pa_cons (pv 1) pa_nil))))))))), ?_⟩)
  intro ss r h; cases h <;> refine ⟨Nat.le_of_ble_eq_true rfl, rfl, ?_⟩
  rename_i B n S hv ts h
  have hs := hv.sm
  refine sx_ret (ev_tuple (ea_en (en_is (en_map S encS (fun s => PyData.int (lenS B ts s)) (ei_tup (evn_spans T (ev_var rfl rfl))) (by omega) fun i s hs => ⟨_, _, gx_name, by decide, ?_⟩) (mapI _ _))) .l) (.d rfl)
  have hm := List.mem_of_getElem? hs
  exact ev_call (ea_cons (ev_var rfl rfl) (ea_cons (ev_var rfl rfl) (ea_cons (ev_var rfl rfl) ea_nil))) (.mk B n S hv ts s h.len ⟨(hv.sp s hm).1, (hv.sp s hm).2.1⟩ (h.ok s hm)) rfl rfl
inductive pre_moments_fault (CN CR : Addr) : List Sl → Sl → Prop
  | mk (B : Int) (n : Nat) (S : List Span) (hv : Val B n S) (ts : List Int) (h : TT B n S ts) : pre_moments_fault CN CR [netS CN B n S, .d (tupI ts)] (.d .none)
theorem cal_moments_fault (T : Txt K mg CN CR) : C8.Cal P w K mg base 8 "moments_fault" (spP (pre_moments_fault CN CR)) [] := by
  have C_is_below := cal_is_below (P := P) (w := w) (base := base) T
  have C_is_number := cal_is_number (P := P) (w := w) (base := base) T
  have C_length_of := cal_length_of (P := P) (w := w) (base := base) T
  refine calP 0 T.d_moments_fault sc_moments_fault (by intro ss r h; cases h <;> rfl) (fun f cdv A outer s H E hr => ⟨_, (pss_cons (ps_if (PW.pt (pw_or (pt_not (pt_val (pe_callB (r := rIsi K) call_isi (by rfl) T.z_isinstance boot_isinstance (pa_cons (pv 1) (pa_cons (pe_bltn (v := V.ty "tuple") (by rfl) T.z_tuple boot_tuple rfl) pa_nil))))) (pw_or1 (pt_cmpR (r := rNeD K) (op_neD (hu64 hr)) (pe_callB (r := rLenX K) call_len_seq (by rfl) T.z_len boot_len (pa_cons (pv 1) pa_nil)) (kpe_fld K (pv 0) rfl) (nomark _))))) (pss_one (ps_ret (pe_tup (pa_cons pe_str (pa_cons (pe_un un_neg pe_int) pa_nil))))) pss_nil)
      (pss_cons (ps_for PassesOwn.never rfl (kpi_enum K (by rfl) T.z_enumerate (pa_cons (pv 1) pa_nil)) (kpg_tup K (n := 2) rfl (pgs_cons (pg_name (i := 2) sc_moments_fault.nd rfl (.inl rfl)) (pgs_cons (pg_name (i := 3) sc_moments_fault.nd rfl (.inl rfl)) pgs_nil)))
        (pss_one (ps_if (PW.pt (pw_or (pt_not (pt_val (C8.pe_c C_is_number hr (by decide) (by rfl) (pa_cons (pv 3) pa_nil)))) (pw_or (pt_val (C8.pe_c C_is_below hr (by decide) (by rfl) (pa_cons (pv 3) (pa_cons pe_int pa_nil)))) (pw_or1 (pt_not (pt_val (C8.pe_c C_is_below hr (by decide) (by rfl) (pa_cons (pv 3) (pa_cons (kpe_fld K (pv 0) rfl) pa_nil))))))))) (pss_one (ps_ret (pe_tup (pa_cons pe_str (pa_cons (pv 2) pa_nil))))) pss_nil)))
      (pss_cons (ps_for PassesOwn.never rfl (kpi_enum K (by rfl) T.z_enumerate (pa_cons (kpe_fld K (pv 0) rfl) pa_nil)) (kpg_tup K (n := 2) rfl (pgs_cons (pg_name (i := 2) sc_moments_fault.nd rfl (.inl rfl)) (pgs_cons (pg_name (i := 4) sc_moments_fault.nd rfl (.inl rfl)) pgs_nil)))
        (pss_one (ps_if (pt_cmpR op_isN (C8.pe_c C_length_of hr (by decide) (by rfl) (pa_cons (pv 0) (pa_cons (pv 4) (pa_cons (pv 1) pa_nil)))) pe_non (nomark _)) (pss_one (ps_ret (pe_tup (pa_cons pe_str (pa_cons (pv 2) pa_nil))))) pss_nil)))
      (pss_one (ps_ret pe_non))))), ?_⟩)
  intro ss r h; cases h <;> refine ⟨Nat.le_of_ble_eq_true rfl, rfl, ?_⟩
  rename_i B n S hv ts h
  refine sx_seq (sx_if (b := false) (et_is (et_or (et_not (et_B (ev_isi (r := true) (ev_var rfl rfl) ev_w (.ty _) rfl (kit_ty (by decide +kernel))))) fun _ => et_test (ev_op (ev_len (ev_var rfl rfl) .t) (evn_events T (ev_var rfl rfl)) rv_neI)) ?_) (fun h => nomatch h) fun _ => sx_next ?_)
  · rw [List.length_map, h.len]
    simp
  refine sx_seq (sx_forE ts PyData.int (fun i ρ cs => ∃ (a2 a3 : Sl), ρ = [netS CN B n S, .d (tupI ts), a2, a3, .un] ∧ cs = []) (ev_var rfl rfl) ⟨_, _, rfl, rfl⟩ ?_ ?_)
  · rintro i t ρ cs ht ⟨a2, a3, rfl, rfl⟩
    refine ⟨_, _, (gx_tup (gxl_cons gx_name (gxl_cons gx_name gxl_nil)) rfl), ?_⟩
    have hr := h.rg t (List.mem_of_getElem? ht)
    refine sx_if (b := false) (et_is (et_or (et_not (et_B (ev_call (ea_cons (ev_var rfl rfl) ea_nil) (.mk t) rfl rfl))) fun _ => et_or (et_B (ev_call (ea_cons (ev_var rfl rfl) (ea_cons ev_int ea_nil)) (.mk t 0) rfl rfl)) fun _ =>
      et_not (et_B (ev_call (ea_cons (ev_var rfl rfl) (ea_cons (evn_beat T (ev_var rfl rfl)) ea_nil)) (.mk t B) rfl rfl))) ?_) (fun h => nomatch h) fun _ => sx_next ⟨_, _, rfl, rfl⟩
    rw [decide_eq_false (show ¬ t < 0 by omega), decide_eq_true hr.2]
    rfl
  · rintro ρ cs ⟨a2, a3, rfl, rfl⟩
    refine sx_seq (sx_forE S encS (fun i ρ cs => ∃ (a2 a3 a4 : Sl), ρ = [netS CN B n S, .d (tupI ts), a2, a3, a4] ∧ cs = []) (evn_spans T (ev_var rfl rfl)) ⟨_, _, _, rfl, rfl⟩ ?_ ?_)
    · rintro i s ρ cs hs ⟨a2, a3, a4, rfl, rfl⟩
      refine ⟨_, _, (gx_tup (gxl_cons gx_name (gxl_cons gx_name gxl_nil)) rfl), ?_⟩
      have hm := List.mem_of_getElem? hs
      exact sx_if (b := false) (et_test (ev_op (ev_call (ea_cons (ev_var rfl rfl) (ea_cons (ev_var rfl rfl) (ea_cons (ev_var rfl rfl) ea_nil))) (.mk B n S hv ts s h.len ⟨(hv.sp s hm).1, (hv.sp s hm).2.1⟩ (h.ok s hm)) rfl rfl) ev_non rv_isN)) (fun h => nomatch h) fun _ => sx_next ⟨_, _, _, rfl, rfl⟩
    · rintro ρ cs ⟨a2, a3, a4, rfl, rfl⟩
      exact sx_ret ev_non (.d rfl)
inductive pre_is_timetable (CN CR : Addr) : List Sl → Sl → Prop
  | mk (B : Int) (n : Nat) (S : List Span) (hv : Val B n S) (ts : List Int) (h : TT B n S ts) : pre_is_timetable CN CR [netS CN B n S, .d (tupI ts)] (.d (.bool true))
theorem cal_is_timetable (T : Txt K mg CN CR) : C8.Cal P w K mg base 9 "is_timetable" (spP (pre_is_timetable CN CR)) [] := by
  have C_moments_fault := cal_moments_fault (P := P) (w := w) (base := base) T
  refine calP 0 T.d_is_timetable sc_is_timetable (by intro ss r h; cases h <;> rfl) (fun f cdv A outer s H E hr => ⟨_, (pss_one (ps_ret (pe_cmpR op_isN (C8.pe_c C_moments_fault hr (by decide) (by rfl) (pa_cons (pv 0) (pa_cons (pv 1) pa_nil))) pe_non (nomark _)))), ?_⟩)
  intro ss r h; cases h <;> refine ⟨Nat.le_of_ble_eq_true rfl, rfl, ?_⟩
  rename_i B n S hv ts h
  exact sx_ret (ev_op (ev_call (ea_cons (ev_var rfl rfl) (ea_cons (ev_var rfl rfl) ea_nil)) (.mk B n S hv ts h) rfl rfl) ev_non rv_isN) (.d rfl)
inductive pre_check_timetable (CN CR : Addr) : List Sl → Sl → Prop
  | mk (B : Int) (n : Nat) (S : List Span) (hv : Val B n S) (ts : List Int) (h : TT B n S ts) : pre_check_timetable CN CR [netS CN B n S, .d (tupI ts)] (.d (tupI ts))
theorem cal_check_timetable (T : Txt K mg CN CR) : C8.Cal P w K mg base 10 "check_timetable" (spP (pre_check_timetable CN CR)) [] := by
  have C_is_timetable := cal_is_timetable (P := P) (w := w) (base := base) T
  refine calP 0 T.d_check_timetable sc_check_timetable (by intro ss r h; cases h <;> rfl) (fun f cdv A outer s H E hr => ⟨_, (pss_cons (ps_if (pt_not (pt_val (C8.pe_c C_is_timetable hr (by decide) (by rfl) (pa_cons (pv 0) (pa_cons (pv 1) pa_nil))))) pss_never pss_nil)
      (pss_one (ps_ret (pv 1)))), ?_⟩)
  intro ss r h; cases h <;> refine ⟨Nat.le_of_ble_eq_true rfl, rfl, ?_⟩
  rename_i B n S hv ts h
  refine sx_seq (sx_if (b := !true) (et_not (et_B (ev_call (ea_cons (ev_var rfl rfl) (ea_cons (ev_var rfl rfl) ea_nil)) (.mk B n S hv ts h) rfl rfl))) (fun h => nomatch h) fun _ => sx_next ?_)
  exact sx_ret (ev_var rfl rfl) (.d rfl)
inductive pre_rounds_of (CN CR : Addr) : List Sl → Sl → Prop
  | mk (B : Int) (n : Nat) (S : List Span) (hv : Val B n S) (v : Way) (ls : List Int) (h : ∀ p ∈ v, p.1 < ls.length) (hl : v.length ≤ 1000) : pre_rounds_of CN CR [netS CN B n S, .d (tupI ls), .d (encW v)] (.d (.int (sumW (fun i => ls.getD i 0) v / B)))
theorem cal_rounds_of (T : Txt K mg CN CR) : C8.Cal P w K mg base 5 "rounds_of" (spP (pre_rounds_of CN CR)) [] := by
  have C_m_whole := cal_Ratio_whole (P := P) (w := w) (base := base) T
  have C_as_ratio := cal_as_ratio (P := P) (w := w) (base := base) T
  have C_sum_along := cal_sum_along (P := P) (w := w) (base := base) T
  refine calP 0 T.d_rounds_of sc_rounds_of (by intro ss r h; cases h <;> rfl) (fun f cdv A outer s H E hr => ⟨_, (pss_one (ps_ret (pe_op op_fdiv (C8.pe_mt0 C_m_whole hr (by decide) (C8.pe_c C_as_ratio hr (by decide) (by rfl) (pa_cons (C8.pe_c C_sum_along hr (by decide) (by rfl) (pa_cons (pv 2) (pa_cons (pv 1) pa_nil))) pa_nil))) (kpe_fld K (pv 0) rfl)))), ?_⟩)
  intro ss r h; cases h <;> refine ⟨Nat.le_of_ble_eq_true rfl, rfl, ?_⟩
  rename_i B n S hv v ls h hl
  have h3 := hv.b3
  have hm := hv.bm
  exact sx_ret (ev_op (ev_meth (ev_call (ea_cons (ev_call (ea_cons (ev_var rfl rfl) (ea_cons (ev_var rfl rfl) ea_nil)) (pre_sum_along.mk v ls h hl) rfl rfl) ea_nil) (pre_as_ratio.mk _) rfl rfl) rfl ea_nil (pre_Ratio_whole.mk _) rfl rfl) (evn_beat T (ev_var rfl rfl)) (rv_i ⟨by omega, by omega⟩)) (.d rfl)
inductive pre_rounds (CN CR : Addr) : List Sl → Sl → Prop
  | mk (B : Int) (n : Nat) (S : List Span) (hv : Val B n S) (ts : List Int) (ht : TT B n S ts) (x : Nat) (v : Way) (h : IsWalk S x v x) (hw : v ≠ []) (hl : v.length ≤ 1000) : pre_rounds CN CR [netS CN B n S, .d (tupI ts), .d (encW v)] (.d (.int (sumW (fun i => (S.map (lenS B ts)).getD i 0) v / B)))
theorem cal_rounds (T : Txt K mg CN CR) : C8.Cal P w K mg base 11 "rounds" (spP (pre_rounds CN CR)) [] := by
  have C_all_lengths := cal_all_lengths (P := P) (w := w) (base := base) T
  have C_check_timetable := cal_check_timetable (P := P) (w := w) (base := base) T
  have C_rounds_of := cal_rounds_of (P := P) (w := w) (base := base) T
  have C_check_ring := cal_check_ring (P := P) (w := w) (base := base) T
  refine calP 0 T.d_rounds sc_rounds (by intro ss r h; cases h <;> rfl) (fun f cdv A outer s H E hr => ⟨_, (pss_cons (ps_set (i := 3) sc_rounds.nd rfl (.inl rfl) (C8.pe_c C_all_lengths hr (by decide) (by rfl) (pa_cons (pv 0) (pa_cons (C8.pe_c C_check_timetable hr (by decide) (by rfl) (pa_cons (pv 0) (pa_cons (pv 1) pa_nil))) pa_nil))))
      (pss_one (ps_ret (C8.pe_c C_rounds_of hr (by decide) (by rfl) (pa_cons (pv 0) (pa_cons (pv 3) (pa_cons (C8.pe_c C_check_ring hr (by decide) (by rfl) (pa_cons (pv 0) (pa_cons (pv 2) pa_nil))) pa_nil))))))), ?_⟩)
  intro ss r h; cases h <;> refine ⟨Nat.le_of_ble_eq_true rfl, rfl, ?_⟩
  rename_i B n S hv ts ht x v h hw hl
  refine sx_seq (sx_asg (ev_call (ea_cons (ev_var rfl rfl) (ea_cons (ev_call (ea_cons (ev_var rfl rfl) (ea_cons (ev_var rfl rfl) ea_nil)) (.mk B n S hv ts ht) rfl rfl) ea_nil)) (.mk B n S hv ts ht) rfl rfl) ?_)
  exact sx_ret (ev_call (ea_cons (ev_var rfl rfl) (ea_cons (ev_var rfl rfl) (ea_cons (ev_call (ea_cons (ev_var rfl rfl) (ea_cons (ev_var rfl rfl) ea_nil)) (.mk B n S x v h hw hl) rfl rfl) ea_nil))) (.mk B n S hv v _ (fun p hp => by rw [List.length_map]; exact walk_lt h p hp) hl) rfl rfl) (.d rfl)
inductive pre_check_row (CN CR : Addr) : List Sl → Sl → Prop
  | mk (B : Int) (n : Nat) (S : List Span) (hv : Val B n S) (ks : List Int) (h : ks.length = (loose n S).length) : pre_check_row CN CR [netS CN B n S, .d (tupI ks)] (.d (tupI ks))
theorem cal_check_row (T : Txt K mg CN CR) : C8.Cal P w K mg base 4 "check_row" (spP (pre_check_row CN CR)) [] := by
  have C_loose_spans := cal_loose_spans (P := P) (w := w) (base := base) T
  have C_is_integer := cal_is_integer (P := P) (w := w) (base := base) T
  refine calP 0 T.d_check_row sc_check_row (by intro ss r h; cases h <;> rfl) (fun f cdv A outer s H E hr => ⟨_, (pss_cons (ps_set (i := 2) sc_check_row.nd rfl (.inl rfl) (pe_callB (r := rLenX K) call_len_seq (by rfl) T.z_len boot_len (pa_cons (C8.pe_c C_loose_spans hr (by decide) (by rfl) (pa_cons (pv 0) pa_nil)) pa_nil)))
      (pss_cons (ps_if (PW.pt (pw_or (pt_not (pt_val (pe_callB (r := rIsi K) call_isi (by rfl) T.z_isinstance boot_isinstance (pa_cons (pv 1) (pa_cons (pe_bltn (v := V.ty "tuple") (by rfl) T.z_tuple boot_tuple rfl) pa_nil))))) (pw_or (pt_cmpR (r := rNeD K) (op_neD (hu64 hr)) (pe_callB (r := rLenX K) call_len_seq (by rfl) T.z_len boot_len (pa_cons (pv 1) pa_nil)) (pv 2) (nomark _)) (pw_or1 (pt_not (pt_val (pe_callB (r := rAll K) (cr_all rfl) (by rfl) T.z_all boot_all (pa_cons (pe_lc (own := [("item", 3)]) rfl sc_check_row.nd (kpi_tup K (pv 1)) (blkOk_by (N := ["net", "island", "many", "item"]) (sc := defScope s_check_row) (by decide +kernel)) (fun _ _ _ _ _ => (pg_name (i := 3) sc_check_row.nd rfl (.inl rfl))) (fun _ _ _ _ _ => pts_nil) (fun _ _ _ _ _ => (C8.pe_c C_is_integer hr (by decide) (by rfl) (pa_cons (pv 3) pa_nil)))) pa_nil)))))))) pss_never pss_nil)
      (pss_one (ps_ret (pv 1))))), ?_⟩)
  intro ss r h; cases h <;> refine ⟨Nat.le_of_ble_eq_true rfl, rfl, ?_⟩
  rename_i B n S hv ks h
  have hl := loose_len hv
  refine sx_seq (sx_asg (ev_len (ev_call (ea_cons (ev_var rfl rfl) ea_nil) (.mk B n S hv) rfl rfl) .l) ?_)
  refine sx_seq (sx_if (b := false) (et_is (et_or (et_not (et_B (ev_isi (r := true) (ev_var rfl rfl) ev_w (.ty _) rfl (kit_ty (by decide +kernel))))) fun _ => et_or (et_test (ev_op (ev_len (ev_var rfl rfl) .t) (ev_var rfl rfl) rv_neI)) fun _ =>
      et_not (et_B (ev_all (ns := List.replicate ks.length true) (ea_en (en_is (en_map ks PyData.int (fun _ => PyData.bool true) (ei_tup (ev_var rfl rfl)) (by omega) fun i q hq => ⟨_, _, gx_name, by decide, ev_call (ea_cons (ev_var rfl rfl) ea_nil) (.mk q) rfl rfl⟩) (map_yes _)))))) ?_) (fun h => nomatch h) fun _ => sx_next ?_)
  · rw [all_yes, List.length_map, List.length_map, h]
    simp
  · exact sx_ret (ev_var rfl rfl) (.d rfl)
inductive pre_rounds_in (CN CR : Addr) : List Sl → Sl → Prop
  | mk (B : Int) (n : Nat) (S : List Span) (hv : Val B n S) (k : Int) (l : Nat) (he : loose n S = [l]) (hk : -(2 ^ 60) < k ∧ k < 2 ^ 60) (v : Way) (hl : v.length ≤ 1000) : pre_rounds_in CN CR [netS CN B n S, .d (tupI [k]), .d (encW v)] (.d (.int (k * cntW l v)))
theorem ei_is {wi : TI} {ρ : List Sl} {cs : Cs} {xs ys : List PyData} (h : EvI wi ρ cs xs) (e : xs = ys) : EvI wi ρ cs ys := e ▸ h
theorem zip1 (k j : Int) : zipD ([k].map PyData.int) ([j].map PyData.int) = [((k, j) : Int × Int)].map fun p => PyData.tuple [.int p.1, .int p.2] := rfl
theorem cal_rounds_in (T : Txt K mg CN CR) : C8.Cal P w K mg base 5 "rounds_in" (spP (pre_rounds_in CN CR)) [] := by
  have C_shares_of := cal_shares_of (P := P) (w := w) (base := base) T
  refine calP 0 T.d_rounds_in sc_rounds_in (by intro ss r h; cases h <;> rfl) (fun f cdv A outer s H E hr => ⟨_, (pss_one (ps_ret (pe_callB (r := rSum K) (cr_sum rfl) (by rfl) T.z_sum boot_sum (pa_cons (pe_lc (own := [("number", 3), ("share", 4)]) rfl sc_rounds_in.nd (kpi_zip K (by rfl) T.z_zip (pa_cons (pv 1) (pa_cons (C8.pe_c C_shares_of hr (by decide) (by rfl) (pa_cons (pv 0) (pa_cons (pv 2) pa_nil))) pa_nil))) (blkOk_by (N := ["net", "island", "ring", "number", "share"]) (sc := defScope s_rounds_in) (by decide +kernel)) (fun _ _ _ _ _ => (kpg_tup K (n := 2) rfl (pgs_cons (pg_name (i := 3) sc_rounds_in.nd rfl (.inl rfl)) (pgs_cons (pg_name (i := 4) sc_rounds_in.nd rfl (.inl rfl)) pgs_nil)))) (fun _ _ _ _ _ => pts_nil) (fun _ _ _ _ _ => (pe_op (r := rMulX K) opx_mul (pv 3) (pv 4)))) pa_nil)))), ?_⟩)
  intro ss r h; cases h <;> refine ⟨Nat.le_of_ble_eq_true rfl, rfl, ?_⟩
  rename_i B n S hv k l he hk v hl
  have e1 : tupI ((loose n S).map fun i => cntW i v) = tupI [cntW l v] := by rw [he]; rfl
  refine sx_ret (ev_is (ev_sum (ns := [k * cntW l v]) (ea_en (en_map (g := _) [(k, cntW l v)] (fun p => PyData.tuple [.int p.1, .int p.2]) (fun p => PyData.int (p.1 * p.2)) (ei_is (ei_zip (ds := [k].map PyData.int) (ev_var rfl rfl) (.inr rfl) (ev_is (ev_call (ea_cons (ev_var rfl rfl) (ea_cons (ev_var rfl rfl) ea_nil)) (pre_shares_of.mk B n S hv v hl) rfl rfl) (congrArg Sl.d e1))) (zip1 k _)) lk fun i p hp => ⟨_, _, (gx_tup (gxl_cons gx_name (gxl_cons gx_name gxl_nil)) rfl), by decide, ?_⟩))) ?_) (.d rfl)
  · have hp' := List.mem_of_getElem? hp
    rw [List.mem_singleton] at hp'
    subst hp'
    exact ev_op (ev_var rfl rfl) (ev_var rfl rfl) (rv_or1 (rv_i (.inl ⟨by omega, by omega⟩)))
  · simp
inductive pre_as_moments (CN CR : Addr) : List Sl → Sl → Prop
  | mk (B : Int) (n : Nat) (S : List Span) (hv : Val B n S) (ls : List Int) (hl : ls.length ≤ 1000) : pre_as_moments CN CR [netS CN B n S, .d (listI ls)] (.d (tupI (ls.map (· % B))))
theorem cal_as_moments (T : Txt K mg CN CR) : C8.Cal P w K mg base 1 "as_moments" (spP (pre_as_moments CN CR)) [] := by
  refine calP 0 T.d_as_moments sc_as_moments (by intro ss r h; cases h <;> rfl) (fun f cdv A outer s H E hr => ⟨_, (pss_one (ps_ret (kpe_tupleOf K (by rfl) T.z_tuple (pe_lc (own := [("number", 2)]) rfl sc_as_moments.nd (kpi_list K (pv 1)) (blkOk_by (N := ["net", "places", "number"]) (sc := defScope s_as_moments) (by decide +kernel)) (fun _ _ _ _ _ => (pg_name (i := 2) sc_as_moments.nd rfl (.inl rfl))) (fun _ _ _ _ _ => pts_nil) (fun _ _ _ _ _ => (pe_op op_mod (pv 2) (kpe_fld K (pv 0) rfl))))))), ?_⟩)
  intro ss r h; cases h <;> refine ⟨Nat.le_of_ble_eq_true rfl, rfl, ?_⟩
  rename_i B n S hv ls hl
  have h3 := hv.b3
  exact sx_ret (ev_tuple (ea_en (en_is (en_map ls PyData.int (fun m => PyData.int (m % B)) (ei_list (ev_var rfl rfl)) (by omega) fun i p hp => ⟨_, _, gx_name, by decide, ev_op (ev_var rfl rfl) (evn_beat T (ev_var rfl rfl)) (rv_i (by omega))⟩) (mapI _ _))) .l) (.d rfl)
end
end Z
end
section
namespace Z
open PySem PySem.Spec PyProof.Rows L2
theorem cntW_snoc (i : Nat) (v : Way) (p : Nat × Bool) : cntW i (v ++ [p]) = cntW i v + (if p.1 = i then (if p.2 then 1 else -1) else 0) := by
  unfold cntW
  rw [List.filter_append, List.map_append, List.sum_append]
  congr 1
  by_cases h : p.1 = i <;> simp [h]
theorem set_range (m j : Nat) (f : Nat → Int) (d : Int) (hj : j < m) : (((List.range m).map fun i => PyData.int (f i)).set j (.int (f j + d))) = (List.range m).map fun i => PyData.int (f i + if j = i then d else 0) := by
  apply List.ext_getElem?
  intro i
  by_cases e : j = i
  · subst e
    rw [List.getElem?_set_self (by simp; exact hj), List.getElem?_map, List.getElem?_range hj]
    simp
  · rw [List.getElem?_set_ne e, List.getElem?_map, List.getElem?_map]
    by_cases hi : i < m
    · rw [List.getElem?_range hi]
      simp [e]
    · rw [List.getElem?_eq_none (by simp; omega)]
      rfl
theorem ev_rep_or {K : PySem.W.Frag} {ρ : List Sl} {cs : Cs} {ta tb : TE} {ds : List PyData} {i : Int} (ha : EvN ta ρ cs ds) (hb : EvA tb ρ cs (.d (.int i))) (h0 : i ≤ 1000) (hneg : 0 ≤ i) (hl : ds.length ≤ 1) : EvN (tOp (rMulX K) ta tb) ρ cs (List.replicate i.toNat ds).flatten := fun b as H σ k Q q =>
  ha b as H σ k _ fun p xs H1 e1 hp hx r1 => hb b as H1 σ (k.mono e1) _ fun w H2 e2 r2 => by
    cases r2
    · refine .inr (.inl ⟨p, i, xs, rfl, rfl, e2 _ _ hx, by omega, by omega, ?_, fun p' hp' => ?_⟩)
      · have hl' : xs.length ≤ 1 := by rw [r1.length]; exact hl
        have h1 : xs.length * i.toNat ≤ 1 * 1000 := Nat.mul_le_mul hl' (by omega)
        exact Nat.le_trans h1 (by decide)
      · have s := same_upd (o := .lst (List.replicate i.toNat xs).flatten) hp'
        have e12 := e1.trans e2
        refine q p' _ _ (e12.trans s) (e12.free hp') upd_same ?_
        have hne : p ≠ p' := ne_of_none (e2 _ _ hx) hp'
        have r3 : DqA (fz (fun a => b.M as cs a ∨ a = p') (upd H2 p' (.lst (List.replicate i.toNat xs).flatten))) xs ds := r1.mono fun x u hx => by
          have hm := fz_not hx
          have hx' := fz_le x u hx
          rw [fz_out]
          · exact s x u (e2 x u hx')
          · rintro (m | rfl)
            · exact hm (.inl m)
            · have := e2 _ _ hx'
              rw [hp'] at this; cases this
        exact r3.rep _
theorem rep0 (n : Nat) (d : PyData) : (List.replicate (n : Int).toNat [d]).flatten = List.replicate n d := by
  rw [Int.toNat_natCast]
  induction n with
  | zero => rfl
  | succ n ih => rw [List.replicate_succ, List.flatten_cons, ih, List.replicate_succ]; rfl
theorem map_range_const (n : Nat) (d : PyData) : (List.range n).map (fun _ => d) = List.replicate n d := by
  rw [List.map_const', List.length_range]
theorem sx_augE {ρ : List Sl} {cs : Cs} {te : TE} {N : List Sl → Cs → Prop} {T : Sl → Cs → Prop} {i : Nat} {a b c : Int} (hi : ρ[i]? = some (.d (.int a))) (h : EvA te ρ cs (.d (.int b))) (e : c = a + b) (k : N (ρ.set i (.d (.int c))) cs) : Sx (tAug i te (ipI fun i j => i + j)) ρ cs N T := sx_aug hi h (e ▸ k)
theorem sx_un {ρ : List Sl} {cs : Cs} {ts : TS} {N : List Sl → Cs → Prop} {T : Sl → Cs → Prop} (i : Nat) (h : Sx ts (ρ.set i .un) cs N T) : Sx ts ρ cs N T := sx_weak (ρ.set i .un) (by rw [List.length_set]) (fun m w hm => by
  by_cases e : i = m
  · subst e
    have hi : i < ρ.length := by
      have := (List.getElem?_eq_some_iff.mp hm).1
      rwa [List.length_set] at this
    rw [List.getElem?_set_self hi] at hm
    exact .inl (Option.some.inj hm).symm
  · rw [List.getElem?_set_ne e] at hm; exact .inr hm) h
section
variable {P : Program} {w : World} {K : PySem.W.Frag} {mg : Str → Option Value} {base : Heap} {CN CR : Addr}
inductive pre_is_barring (CN CR : Addr) : List Sl → Sl → Prop
  | mk (B : Int) (n : Nat) (S : List Span) (hv : Val B n S) (k : Int) (l : Nat) (he : loose n S = [l]) (hk : -(2 ^ 60) < k ∧ k < 2 ^ 60) (x : Nat) (v : Way) (h : IsWalk S x v x) (hw : v ≠ []) (hl : v.length ≤ 1000) :
    pre_is_barring CN CR [netS CN B n S, .d (tupI [k]), .d (encW v)] (.d (.bool (decide (k * cntW l v * B < barLo S v) || decide (barHi S v < k * cntW l v * B))))
theorem zipC (S : List Span) (v : Way) : zipD ((List.range S.length).map fun i => PyData.int (cntW i v)) (S.map encS) = S.zipIdx.map fun q => .tuple [.int (cntW q.2 v), encS q.1] := by
  apply List.ext_getElem?
  intro i
  by_cases h : i < S.length
  · rw [zipD_get _ _ i (.int (cntW i v)) (encS S[i]) (by rw [List.getElem?_map, List.getElem?_range h]; rfl) (by rw [List.getElem?_map, List.getElem?_eq_getElem h]; rfl), List.getElem?_map, zipIdx_get (List.getElem?_eq_getElem h)]
    rfl
  · rw [List.getElem?_eq_none (by rw [zipD_len]; simp; omega), List.getElem?_eq_none (by simp; omega)]
theorem ei_range_zip {α : Type} {l : List α} {f : α → Int} {i : Nat} {x : α} (h : l[i]? = some x) : ((l.take (i + 1)).map f).sum = ((l.take i).map f).sum + f x := by
  rw [List.take_add_one, h, List.map_append, List.sum_append]
  simp
theorem cal_is_barring (T : Txt K mg CN CR) : C8.Cal P w K mg base 6 "is_barring" (spP (pre_is_barring CN CR)) [] := by
  have C_check_row := cal_check_row (P := P) (w := w) (base := base) T
  have C_is_ring := cal_is_ring (P := P) (w := w) (base := base) T
  have C_rounds_in := cal_rounds_in (P := P) (w := w) (base := base) T
  refine calP 2 T.d_is_barring sc_is_barring (by intro ss r h; cases h <;> rfl) (fun f cdv A outer s H E hr => ⟨_, (pss_cons (ps_expr (C8.pe_c C_check_row hr (by decide) (by rfl) (pa_cons (pv 0) (pa_cons (pv 1) pa_nil))))
      (pss_cons (ps_if (pt_not (pt_val (C8.pe_c C_is_ring hr (by decide) (by rfl) (pa_cons (pv 0) (pa_cons (pv 2) pa_nil))))) (pss_one (ps_ret pe_bl)) pss_nil)
      (pss_cons (ps_set (i := 3) sc_is_barring.nd rfl (.inl rfl) (pe_op (r := rMulX K) opx_mul (pe_lst (pa_cons pe_int pa_nil)) (pe_callB (r := rLenX K) call_len_seq (by rfl) T.z_len boot_len (pa_cons (kpe_fld K (pv 0) rfl) pa_nil))))
      (pss_cons (ps_for PassesOwn.never rfl (kpi_tup K (pv 2)) (kpg_tup K (n := 2) rfl (pgs_cons (pg_name (i := 4) sc_is_barring.nd rfl (.inl rfl)) (pgs_cons (pg_name (i := 5) sc_is_barring.nd rfl (.inl rfl)) pgs_nil)))
        (pss_one (ps_augS (pv 3) (pv 4) (pg_ixL K) (pe_ifExp (pt_val (pv 5)) pe_int (pe_un un_neg pe_int)) ip_add set_list)))
      (pss_cons (ps_set (i := 6) sc_is_barring.nd rfl (.inl rfl) pe_int)
      (pss_cons (ps_set (i := 7) sc_is_barring.nd rfl (.inl rfl) pe_int)
      (pss_cons (ps_for PassesOwn.never rfl (kpi_zip K (by rfl) T.z_zip (pa_cons (pv 3) (pa_cons (kpe_fld K (pv 0) rfl) pa_nil))) (kpg_tup K (n := 2) rfl (pgs_cons (pg_name (i := 8) sc_is_barring.nd rfl (.inl rfl)) (pgs_cons (kpg_tup K (n := 4) rfl (pgs_cons (pg_name (i := 9) sc_is_barring.nd rfl (.inl rfl)) (pgs_cons (pg_name (i := 10) sc_is_barring.nd rfl (.inl rfl)) (pgs_cons (pg_name (i := 11) sc_is_barring.nd rfl (.inl rfl)) (pgs_cons (pg_name (i := 12) sc_is_barring.nd rfl (.inl rfl)) pgs_nil))))) pgs_nil)))
        (pss_cons (ps_aug (i := 6) sc_is_barring.nd rfl (.inl rfl) (pe_callB (call_min2 rfl) (by rfl) T.z_min boot_min (pa_cons (pe_op (r := rMulX K) opx_mul (pv 8) (pv 11)) (pa_cons (pe_op (r := rMulX K) opx_mul (pv 8) (pv 12)) pa_nil))) ip_add)
        (pss_one (ps_aug (i := 7) sc_is_barring.nd rfl (.inl rfl) (pe_callB (call_max2 rfl) (by rfl) T.z_max boot_max (pa_cons (pe_op (r := rMulX K) opx_mul (pv 8) (pv 11)) (pa_cons (pe_op (r := rMulX K) opx_mul (pv 8) (pv 12)) pa_nil))) ip_add))))
      (pss_cons (ps_set (i := 13) sc_is_barring.nd rfl (.inl rfl) (pe_op (r := rMulX K) opx_mul (C8.pe_c C_rounds_in hr (by decide) (by rfl) (pa_cons (pv 0) (pa_cons (pv 1) (pa_cons (pv 2) pa_nil)))) (kpe_fld K (pv 0) rfl)))
      (pss_one (ps_ret (pe_or (pe_cmpR op_lt (pv 13) (pv 6) (nomark _)) (pe_one (pe_cmpR op_gt (pv 13) (pv 7) (nomark _)))))))))))))), ?_⟩)
  intro ss r h; cases h <;> refine ⟨Nat.le_of_ble_eq_true rfl, rfl, ?_⟩
  rename_i B n S hv k l he hk x v h hw hl
  have hs := hv.sm
  have hb := hv.bm
  refine sx_seq (sx_drop (ev_call (ea_cons (ev_var rfl rfl) (ea_cons (ev_var rfl rfl) ea_nil)) (pre_check_row.mk B n S hv [k] (by rw [he]; rfl)) rfl rfl) ?_)
  refine sx_seq (sx_if (b := !true) (et_not (et_B (ev_call (ea_cons (ev_var rfl rfl) (ea_cons (ev_var rfl rfl) ea_nil)) (pre_is_ring.mk B n S x v h hw hl) rfl rfl))) (fun h => nomatch h) fun _ => sx_next ?_)
  refine sx_seq (sx_asgN (ds := (List.range S.length).map fun i => PyData.int (cntW i [])) 1 (en_is (ev_rep_or (en_lst (ed_cons ev_int ed_nil) lk) (ev_len (evn_spans T (ev_var rfl rfl)) .t) (by rw [List.length_map]; omega) (by omega) lk) (by rw [List.length_map, rep0]; exact (map_range_const _ _).symm)) rfl rfl ?_)
  refine sx_seq (sx_forT v encP (fun j ρ cs => ∃ (a4 a5 : Sl), ρ = [netS CN B n S, .d (tupI [k]), .d (encW v), .c 1, a4, a5, .un, .un, .un, .un, .un, .un, .un, .un] ∧ cs = [none, some (.ls ((List.range S.length).map fun i => PyData.int (cntW i (v.take j))))])
    (ev_var rfl rfl) ⟨_, _, rfl, rfl⟩ ?_ ?_)
  · rintro j p ρ cs hp ⟨a4, a5, rfl, rfl⟩
    refine ⟨_, _, (gx_tup (gxl_cons gx_name (gxl_cons gx_name gxl_nil)) rfl), ?_⟩
    have hp1 := walk_lt h p (List.mem_of_getElem? hp)
    refine sx_augL (a := cntW p.1 (v.take j)) (b := if p.2 then 1 else -1) (ev_var rfl rfl) rfl (ev_var rfl rfl) (by rw [List.getElem?_map, List.getElem?_range hp1]; rfl) ?_ ⟨_, _, rfl, ?_⟩
    · refine ev_if (et_test (ev_var rfl rfl)) (fun hb => ?_) (fun hb => ?_)
      · rw [if_pos hb]; exact ev_int
      · rw [if_neg (by rw [hb]; exact Bool.false_ne_true)]; exact ev_un ev_int ru_neg
    · rw [List.take_add_one, hp]
      show [none, some (Cell.ls _)] = _
      rw [set_range S.length p.1 (fun i => cntW i (v.take j)) _ hp1]
      congr 4
      refine List.map_congr_left fun i _ => ?_
      rw [show (some p).toList = [p] from rfl, cntW_snoc]
  · rintro ρ cs ⟨a4, a5, rfl, rfl⟩
    rw [List.take_length]
    refine sx_seq (sx_asg ev_int ?_)
    refine sx_seq (sx_asg ev_int ?_)
    refine sx_seq (sx_un 4 (sx_un 5 (sx_frz 1 rfl lk ?_)))
    refine sx_for (fun j ρ cs => ∃ (a8 a9 a10 a11 a12 : Sl), ρ = [netS CN B n S, .d (tupI [k]), .d (encW v), .d (.list ((List.range S.length).map fun i => PyData.int (cntW i v))), .un, .un, .d (.int ((S.zipIdx.take j).map fun q => min (cntW q.2 v * q.1.lo) (cntW q.2 v * q.1.hi)).sum), .d (.int ((S.zipIdx.take j).map fun q => max (cntW q.2 v * q.1.lo) (cntW q.2 v * q.1.hi)).sum), a8, a9, a10, a11, a12, .un] ∧ cs = [none, none])
      (ei_is (ei_zip (ev_var rfl rfl) (.inl rfl) (evn_spans T (ev_var rfl rfl))) (zipC S v)) ⟨_, _, _, _, _, rfl, rfl⟩ ?_ ?_
    · rintro j d ρ cs hd ⟨a8, a9, a10, a11, a12, rfl, rfl⟩
      rw [List.getElem?_map] at hd
      obtain ⟨q, hq, rfl⟩ := Option.map_eq_some_iff.mp hd
      refine ⟨_, _, (gx_tup (gxl_cons gx_name (gxl_cons (gx_tup (gxl_cons gx_name (gxl_cons gx_name (gxl_cons gx_name (gxl_cons gx_name gxl_nil)))) rfl) gxl_nil)) rfl), ?_⟩
      have hm : q.1 ∈ S := by
        have := List.mem_of_getElem? hq
        exact (List.mem_zipIdx' this).2 ▸ List.getElem_mem _
      obtain ⟨h1, h2, h3, h4, h5, h6, h7⟩ := hv.sp q.1 hm
      have c1 : RvA (rMulX K) [none, none] (.d (.int (cntW q.2 v))) (.d (.int q.1.lo)) (.d (.int (cntW q.2 v * q.1.lo))) := rv_or1 (rv_i (.inr ⟨by omega, by omega⟩))
      have c2 : RvA (rMulX K) [none, none] (.d (.int (cntW q.2 v))) (.d (.int q.1.hi)) (.d (.int (cntW q.2 v * q.1.hi))) := rv_or1 (rv_i (.inr ⟨by omega, by omega⟩))
      refine sx_seq (sx_augE rfl (ev_min2 (ev_op (ev_var rfl rfl) (ev_var rfl rfl) c1) (ev_op (ev_var rfl rfl) (ev_var rfl rfl) c2)) (ei_range_zip (f := fun q : Span × Nat => min (cntW q.2 v * q.1.lo) (cntW q.2 v * q.1.hi)) hq) ?_)
      exact sx_augE rfl (ev_max2 (ev_op (ev_var rfl rfl) (ev_var rfl rfl) c1) (ev_op (ev_var rfl rfl) (ev_var rfl rfl) c2)) (ei_range_zip (f := fun q : Span × Nat => max (cntW q.2 v * q.1.lo) (cntW q.2 v * q.1.hi)) hq) ⟨_, _, _, _, _, rfl, rfl⟩
    · rintro ρ cs ⟨a8, a9, a10, a11, a12, rfl, rfl⟩
      rw [List.length_map, List.take_length]
      refine sx_seq (sx_asg (ev_op (ev_call (ea_cons (ev_var rfl rfl) (ea_cons (ev_var rfl rfl) (ea_cons (ev_var rfl rfl) ea_nil))) (pre_rounds_in.mk B n S hv k l he hk v hl) rfl rfl) (evn_beat T (ev_var rfl rfl)) (rv_or1 (rv_i (.inr ⟨by have := hv.b3; omega, by omega⟩)))) ?_)
      exact sx_ret (ev_orV (ev_op (ev_var rfl rfl) (ev_var rfl rfl) rv_b0) fun _ => ev_op (ev_var rfl rfl) (ev_var rfl rfl) rv_b0) (.d rfl)
end
end Z
end
section
namespace Z
open PySem PySem.Spec PyProof.Rows L2
abbrev encA (r : Arc) : PyData := .tuple [encP r.p, intN r.a, intN r.b, .int r.w]
abbrev listA (A : List Arc) : PyData := .list (A.map encA)
def encOA : Option Arc → PyData
  | none => .none
  | some r => encA r
def encON : Option Nat → PyData
  | none => .none
  | some r => intN r
section
variable {ρ ρ' : List Sl} {cs : Cs} {ta tb te : TE} {N : List Sl → Cs → Prop} {T : Sl → Cs → Prop} {K : PySem.W.Frag}
/-- dict(zip([k], (v,))) -/
theorem ev_dz {x y : Sl} {i : Int} {d : PyData} (ha : EvA ta ρ cs x) (hx : x = .d (.list [.int i])) (hb : EvA tb ρ cs y) (hy : y = .d (.tuple [d])) : EvA (tDZ K (tCons ta (tCons tb tNil))) ρ cs (.dd fun j => if j = i then some d else none) := fun b as H σ ok Q q =>
  ha b as H σ ok _ fun v H1 e1 r1 => hb b as H1 σ (ok.mono e1) _ fun w H2 e2 r2 => by
    subst hx hy
    have ok2 := (ok.mono e1).mono e2
    have r1' : Dq (b.G as cs H2) v (.list [.int i]) := Dq.mono (fz_mono e2) r1
    have r2' : Dq (b.G as cs H2) w (.tuple [d]) := r2
    cases r1' with
    | @lst a xs _ h1 h2 =>
      cases r2' with
      | @tup a' ys _ h3 h4 =>
        cases h2 with
        | cons k1 k2 =>
          cases k2
          cases k1
          cases h4 with
          | @cons u _ _ _ k3 k4 =>
            cases k4
            refine ⟨a, a', i, u, rfl, SqL.of (ok2.h.gle _ _ h1), SqT.of (ok2.h.gle _ _ h3), fun p hp => ?_⟩
            have s := same_upd (o := .dK [(Sum.inl i, u)]) hp
            refine q _ _ ((e1.trans e2).trans s) ⟨p, _, 1, rfl, ok2.h.laid hp, Nat.le_refl _, fun j => ?_⟩
            by_cases hj : j = i
            · subst hj
              dsimp only
              rw [if_pos rfl, valV_pos rfl]
              exact Dq.mono (fz_mono s) k3
            · dsimp only
              rw [if_neg hj, valV_neg (fun z => hj (Sum.inl.inj z).symm), valV_nil]
              exact True.intro
end
theorem encOA_some (r : Arc) : encOA (some r) = encA r := rfl
theorem get_came {c : List (Option Arc)} {x : Nat} {r : Arc} (h : came c x = some r) : (c.map encOA)[x]? = some (encA r) := by
  unfold came at h
  rw [List.getD_eq_getElem?_getD] at h
  cases e : c[x]? with
  | none => rw [e] at h; cases h
  | some o =>
    rw [e] at h
    have : o = some r := h
    rw [List.getElem?_map, e, this]
    rfl
section
variable {P : Program} {w : World} {K : PySem.W.Frag} {mg : Str → Option Value} {base : Heap} {CN CR : Addr}
inductive pre_arcs_of (CN CR : Addr) : List Sl → Sl → Prop
  | mk (B : Int) (n : Nat) (S : List Span) (hv : Val B n S) (k : Int) (l : Nat) (he : loose n S = [l]) (hk : -(2 ^ 60) < k ∧ k < 2 ^ 60) : pre_arcs_of CN CR [netS CN B n S, .d (tupI [k])] (.d (listA (arcsOf B k l S)))
theorem arcs_take {B k : Int} {l : Nat} {S : List Span} {i : Nat} {s : Span} (h : S[i]? = some s) : ((S.zipIdx.take (i + 1)).flatMap (arcs1 B k l)).map encA = ((S.zipIdx.take i).flatMap (arcs1 B k l)).map encA ++ [encA ⟨(i, true), s.a, s.b, s.lo - (if i = l then k else 0) * B⟩] ++ [encA ⟨(i, false), s.b, s.a, (if i = l then k else 0) * B - s.hi⟩] := by
  rw [List.take_add_one, zipIdx_get h, List.flatMap_append, List.map_append, List.append_assoc]
  rfl
theorem arcs_len (B k : Int) (l : Nat) (Q : List (Span × Nat)) : (Q.flatMap (arcs1 B k l)).length = 2 * Q.length := by
  induction Q with
  | nil => rfl
  | cons q Q ih => rw [List.flatMap_cons, List.length_append, ih, List.length_cons]; show 2 + _ = _; omega
theorem cal_arcs_of (T : Txt K mg CN CR) : C8.Cal P w K mg base 4 "arcs_of" (spP (pre_arcs_of CN CR)) [] := by
  have C_loose_spans := cal_loose_spans (P := P) (w := w) (base := base) T
  refine calP 2 T.d_arcs_of sc_arcs_of (by intro ss r h; cases h <;> rfl) (fun f cdv A outer s H E hr => ⟨_, (pss_cons (ps_set (i := 2) sc_arcs_of.nd rfl (.inl rfl) (pe_dictZip rfl (by rfl) T.z_dict (by rfl) T.z_zip (pa_cons (C8.pe_c C_loose_spans hr (by decide) (by rfl) (pa_cons (pv 0) pa_nil)) (pa_cons (pv 1) pa_nil))))
      (pss_cons (ps_set (i := 3) sc_arcs_of.nd rfl (.inl rfl) (pe_lst pa_nil))
      (pss_cons (ps_for PassesOwn.never rfl (kpi_enum K (by rfl) T.z_enumerate (pa_cons (kpe_fld K (pv 0) rfl) pa_nil)) (kpg_tup K (n := 2) rfl (pgs_cons (pg_name (i := 4) sc_arcs_of.nd rfl (.inl rfl)) (pgs_cons (kpg_tup K (n := 4) rfl (pgs_cons (pg_name (i := 5) sc_arcs_of.nd rfl (.inl rfl)) (pgs_cons (pg_name (i := 6) sc_arcs_of.nd rfl (.inl rfl)) (pgs_cons (pg_name (i := 7) sc_arcs_of.nd rfl (.inl rfl)) (pgs_cons (pg_name (i := 8) sc_arcs_of.nd rfl (.inl rfl)) pgs_nil))))) pgs_nil)))
        (pss_cons (ps_set (i := 9) sc_arcs_of.nd rfl (.inl rfl) (pe_dget2 (hu_of hr) (pv 2) (pv 4) pe_int ⟨rfl, rfl, rfl, rfl⟩))
        (pss_one (ps_if (pt_cmpR op_notN (pv 9) pe_non (nomark _)) (pss_cons (ps_expr (kpe_bm K PySem.F.plainAttrs_list PySem.F.slot_list_append PySem.F.type_list_append mt_append (pv 3) (pa_cons (pe_tup (pa_cons (pe_tup (pa_cons (pv 4) (pa_cons pe_bl pa_nil))) (pa_cons (pv 5) (pa_cons (pv 6) (pa_cons (pe_op op_sub (pv 7) (pe_op (r := rMulX K) opx_mul (pv 9) (kpe_fld K (pv 0) rfl))) pa_nil))))) pa_nil)))
          (pss_one (ps_expr (kpe_bm K PySem.F.plainAttrs_list PySem.F.slot_list_append PySem.F.type_list_append mt_append (pv 3) (pa_cons (pe_tup (pa_cons (pe_tup (pa_cons (pv 4) (pa_cons pe_bl pa_nil))) (pa_cons (pv 6) (pa_cons (pv 5) (pa_cons (pe_op op_sub (pe_op (r := rMulX K) opx_mul (pv 9) (kpe_fld K (pv 0) rfl)) (pv 8)) pa_nil))))) pa_nil))))) pss_nil))))
      (pss_one (ps_ret (pv 3)))))), ?_⟩)
  intro ss r h; cases h <;> refine ⟨Nat.le_of_ble_eq_true rfl, rfl, ?_⟩
  rename_i B n S hv k l he hk
  have hs := hv.sm
  have h3 := hv.b3
  have hb := hv.bm
  refine sx_seq (sx_asg (ev_dz (i := (l : Int)) (d := .int k) (ev_call (ea_cons (ev_var rfl rfl) ea_nil) (pre_loose_spans.mk B n S hv) rfl rfl) (by rw [he]; rfl) (ev_var rfl rfl) rfl) ?_)
  refine sx_seq (sx_asgN 1 (en_lst ed_nil lk) rfl rfl ?_)
  refine sx_seq (sx_forE S encS (fun i ρ cs => ∃ (a4 a5 a6 a7 a8 a9 : Sl), ρ = [netS CN B n S, .d (tupI [k]), .dd (fun j => if j = (l : Int) then some (.int k) else none), .c 1, a4, a5, a6, a7, a8, a9] ∧ cs = [none, some (.ls (((S.zipIdx.take i).flatMap (arcs1 B k l)).map encA))])
    (evn_spans T (ev_var rfl rfl)) ⟨_, _, _, _, _, _, rfl, rfl⟩ ?_ ?_)
  · rintro i s ρ cs hi ⟨a4, a5, a6, a7, a8, a9, rfl, rfl⟩
    refine ⟨_, _, (gx_tup (gxl_cons gx_name (gxl_cons (gx_tup (gxl_cons gx_name (gxl_cons gx_name (gxl_cons gx_name (gxl_cons gx_name gxl_nil)))) rfl) gxl_nil)) rfl), ?_⟩
    have hil := (List.getElem?_eq_some_iff.mp hi).1
    have eb : ((if ((i : Nat) : Int) = (l : Int) then some (PyData.int k) else none).getD (.int 0)) = .int (if i = l then k else 0) := by
      by_cases e : i = l
      · rw [if_pos (by omega), if_pos e]; rfl
      · rw [if_neg (by omega), if_neg e]; rfl
    refine sx_seq (sx_asg (s := .d (.int (if i = l then k else 0))) (ev_is (ev_dgetO (ev_var rfl rfl) .d (ev_var rfl rfl) ev_int) (congrArg Sl.d eb)) ?_)
    refine sx_if (b := true) (et_test (ev_op (ev_var rfl rfl) ev_non rv_notN)) (fun _ => ?_) (fun h => nomatch h)
    have cm : ∀ {cs : Cs}, RvA (rMulX K) cs (.d (.int (if i = l then k else 0))) (.d (.int B)) (.d (.int ((if i = l then k else 0) * B))) := rv_or1 (rv_i (.inr ⟨by omega, by omega⟩))
    have hlen : (((S.zipIdx.take i).flatMap (arcs1 B k l)).map encA).length ≤ 120 := by
      rw [List.length_map, arcs_len, List.length_take, List.length_zipIdx]; omega
    refine sx_seq (sx_app (ev_var rfl rfl) rfl (ev_tup (ed_cons (ev_tup (ed_cons (ev_var rfl rfl) (ed_cons ev_bl ed_nil)) lk) (ed_cons (ev_var rfl rfl) (ed_cons (ev_var rfl rfl) (ed_cons (ev_op (ev_var rfl rfl) (ev_op (ev_var rfl rfl) (evn_beat T (ev_var rfl rfl)) cm) rv_i0) ed_nil)))) lk) (by omega) ?_)
    refine sx_app (ev_var rfl rfl) rfl (ev_tup (ed_cons (ev_tup (ed_cons (ev_var rfl rfl) (ed_cons ev_bl ed_nil)) lk) (ed_cons (ev_var rfl rfl) (ed_cons (ev_var rfl rfl) (ed_cons (ev_op (ev_op (ev_var rfl rfl) (evn_beat T (ev_var rfl rfl)) cm) (ev_var rfl rfl) rv_i0) ed_nil)))) lk) (by rw [List.length_append]; show _ + 1 < _; omega) ⟨_, _, _, _, _, _, rfl, ?_⟩
    rw [arcs_take hi]
    rfl
  · rintro ρ cs ⟨a4, a5, a6, a7, a8, a9, rfl, rfl⟩
    rw [← List.length_zipIdx (l := S) (i := 0), List.take_length]
    exact sx_ret (ev_var rfl rfl) (.ls rfl)
inductive pre_ring_behind (CN CR : Addr) : List Sl → Sl → Prop
  | mk (B : Int) (n : Nat) (S : List Span) (hv : Val B n S) (c : List (Option Arc)) (x y : Nat) (t : List Arc) (hn : BackN c n x y) (hb : Back c y y t) (hl : t.length ≤ 900) :
    pre_ring_behind CN CR [netS CN B n S, .d (.list (c.map encOA)), .d (intN x)] (.d (encW (wayB t)))
theorem wayB_cons (r : Arc) (t : List Arc) : wayB (t ++ [r]) = r.p :: wayB t := by
  unfold wayB
  rw [List.map_append, List.reverse_append]
  rfl
theorem eqv_nil (w : Way) : PyData.eqv (encW w) (.tuple []) = decide (w = []) := by
  cases w with
  | nil => simp [PyData.eqv, PyData.eqvAll]
  | cons p w => simp [PyData.eqv, PyData.eqvAll]
theorem cal_ring_behind (T : Txt K mg CN CR) : C8.Cal P w K mg base 1 "ring_behind" (spP (pre_ring_behind CN CR)) [] := by
  refine calP 0 T.d_ring_behind sc_ring_behind (by intro ss r h; cases h <;> rfl) (fun f cdv A outer s H E hr => ⟨_, (pss_cons (ps_for PassesOwn.never rfl (pi_range1 (by rfl) T.z_range (pa_cons (kpe_fld K (pv 0) rfl) pa_nil)) (pg_name (i := 3) sc_ring_behind.nd rfl (.inl rfl))
        (pss_one (ps_set (i := 2) sc_ring_behind.nd rfl (.inl rfl) (pe_ix (r := rIx K) ix_seq (pe_ix (r := rIx K) ix_seq (pv 1) (pv 2) (fun _ _ => rfl)) pe_int (fun _ _ => rfl)))))
      (pss_cons (ps_set (i := 4) sc_ring_behind.nd rfl (.inl rfl) (pe_tup pa_nil))
      (pss_cons (ps_set (i := 5) sc_ring_behind.nd rfl (.inl rfl) (pv 2))
      (pss_cons (ps_while PassesOwn.never (PW.pt (pw_or (pt_cmpR (r := rEqD K) (op_eqD (hu64 hr)) (pv 4) (pe_tup pa_nil) (nomark _)) (pw_or1 (pt_cmpR (r := rNeD K) (op_neD (hu64 hr)) (pv 5) (pv 2) (nomark _)))))
        (pss_cons (ps_asg (pe_ix (r := rIx K) ix_seq (pv 1) (pv 5) (fun _ _ => rfl)) (kpg_tup K (n := 4) rfl (pgs_cons (pg_name (i := 6) sc_ring_behind.nd rfl (.inl rfl)) (pgs_cons (pg_name (i := 7) sc_ring_behind.nd rfl (.inl rfl)) (pgs_cons (pg_name (i := 8) sc_ring_behind.nd rfl (.inl rfl)) (pgs_cons (pg_name (i := 9) sc_ring_behind.nd rfl (.inl rfl)) pgs_nil))))))
        (pss_cons (ps_set (i := 4) sc_ring_behind.nd rfl (.inl rfl) (pe_op (r := rAddX K) opx_add (pe_tup (pa_cons (pv 6) pa_nil)) (pv 4)))
        (pss_one (ps_set (i := 5) sc_ring_behind.nd rfl (.inl rfl) (pv 7))))))
      (pss_one (ps_ret (pv 4))))))), ?_⟩)
  intro ss r h; cases h <;> refine ⟨Nat.le_of_ble_eq_true rfl, rfl, ?_⟩
  rename_i B n S hv c x y t hn hb hl
  refine sx_seq (sx_forR n (by have := hv.nm; omega) (fun i ρ cs => ∃ (z m : Nat) (a3 : Sl), BackN c m z y ∧ i + m = n ∧ ρ = [netS CN B n S, .d (.list (c.map encOA)), .d (intN z), a3, .un, .un, .un, .un, .un, .un] ∧ cs = []) (evn_events T (ev_var rfl rfl)) ⟨x, n, _, hn, by omega, rfl, rfl⟩ ?_ ?_)
  · rintro i ρ cs hi ⟨z, m, a3, hz, hm, rfl, rfl⟩
    refine ⟨_, _, gx_name, ?_⟩
    cases hz with
    | nil => omega
    | @cons m' _ _ r h k =>
      exact sx_asg (ev_op (ev_op (ev_var rfl rfl) (ev_var rfl rfl) (rv_ixn .l (get_came h))) ev_int (rv_ixn (j := 1) .t rfl)) ⟨r.a, m', _, k, by omega, rfl, rfl⟩
  · rintro ρ cs ⟨z, m, a3, hz, hm, rfl, rfl⟩
    have : m = 0 := by omega
    subst this
    cases hz
    refine sx_seq (sx_asg (ev_tup ed_nil lk) ?_)
    refine sx_seq (sx_asg (ev_var rfl rfl) ?_)
    refine sx_seq (sx_while (fun m ρ cs => ∃ (u : Nat) (q r : List Arc) (a6 a7 a8 a9 : Sl), t = q ++ r ∧ m = r.length ∧ ((r = [] ∧ q ≠ [] ∧ u = y) ∨ (Back c y u r ∧ (q = [] ∨ u ≠ y))) ∧
      ρ = [netS CN B n S, .d (.list (c.map encOA)), .d (intN y), a3, .d (encW (wayB q)), .d (intN u), a6, a7, a8, a9] ∧ cs = []) t.length ⟨y, [], t, _, _, _, _, rfl, rfl, .inr ⟨hb, .inl rfl⟩, rfl, rfl⟩ ?_)
    rintro m ρ cs ⟨u, q, r, a6, a7, a8, a9, ht, hm, hc, rfl, rfl⟩
    have hql : q.length ≤ 900 := by rw [ht, List.length_append] at hl; omega
    rcases hc with ⟨rfl, hq, rfl⟩ | ⟨hbk, hq⟩
    · refine ⟨false, et_is (et_or (et_test (ev_op (ev_var rfl rfl) (ev_tup ed_nil lk) (rv_eq .d .d ((shp_encW _).ok lk) ((shp_tup (n := 0) (ds := []) (fun d hd => nomatch hd)).ok lk)))) fun _ => et_test (ev_op (ev_var rfl rfl) (ev_var rfl rfl) rv_neI)) ?_, (fun h => nomatch h), fun _ => ?_⟩
      · rw [eqv_nil, decide_eq_false]
        · simp
        · unfold wayB
          simp [hq]
      · rw [List.append_nil] at ht
        subst ht
        exact sx_ret (ev_var rfl rfl) (.d rfl)
    · refine ⟨true, et_is (et_or (et_test (ev_op (ev_var rfl rfl) (ev_tup ed_nil lk) (rv_eq .d .d ((shp_encW _).ok lk) ((shp_tup (n := 0) (ds := []) (fun d hd => nomatch hd)).ok lk)))) fun _ => et_test (ev_op (ev_var rfl rfl) (ev_var rfl rfl) rv_neI)) ?_, fun _ => ?_, (fun h => nomatch h)⟩
      · rw [eqv_nil]
        rcases hq with rfl | hq
        · rfl
        · rw [beq_eq_false_iff_ne.mpr (by omega)]
          simp
      · have key : ∃ (b : Arc) (r' : List Arc), r = b :: r' ∧ came c u = some b ∧ ((r' = [] ∧ b.a = y) ∨ (Back c y b.a r' ∧ b.a ≠ y)) := by
          cases hbk with
          | last h e => exact ⟨_, _, rfl, h, .inl ⟨rfl, e⟩⟩
          | step h e k => exact ⟨_, _, rfl, h, .inr ⟨k, e⟩⟩
        obtain ⟨b, r', rfl, h, hor⟩ := key
        refine sx_seq (sx_asgG (ev_op (ev_var rfl rfl) (ev_var rfl rfl) (rv_ixn .l (get_came h))) (gx_tup (gxl_cons gx_name (gxl_cons gx_name (gxl_cons gx_name (gxl_cons gx_name gxl_nil)))) rfl) ?_)
        refine sx_seq (sx_asg (ev_op (ev_tup (ed_cons (ev_var rfl rfl) ed_nil) lk) (ev_var rfl rfl) (rv_or2 (rv_or1 (rv_catT (by show 1 + _ ≤ _; rw [List.length_map, wayB, List.length_reverse, List.length_map]; omega))))) ?_)
        refine sx_asg (ev_var rfl rfl) ⟨r'.length, by rw [hm]; exact Nat.lt_succ_self _, b.a, q ++ [b], r', _, _, _, _, by rw [ht]; simp, rfl, ?_, by rw [wayB_cons]; rfl, rfl⟩
        rcases hor with ⟨rfl, e⟩ | ⟨k, e⟩
        · exact .inl ⟨rfl, by simp, e⟩
        · exact .inr ⟨k, .inr e⟩
inductive pre_least_places (CN CR : Addr) : List Sl → Sl → Prop
  | ok (B : Int) (n : Nat) (S : List Span) (hv : Val B n S) (A : List Arc) (hA : ∀ r ∈ A, r.a < n ∧ r.b < n) (m : Nat) (hm : m < n + 1) (h : (lrun A (ls0 n) (m + 1)).e = none) (hp : ∀ i, i < m → (lrun A (ls0 n) (i + 1)).e ≠ none) :
    pre_least_places CN CR [netS CN B n S, .d (listA A)] (.d (.tuple [listI (lrun A (ls0 n) (m + 1)).f, .none]))
  | bad (B : Int) (n : Nat) (S : List Span) (hv : Val B n S) (A : List Arc) (hA : ∀ r ∈ A, r.a < n ∧ r.b < n) (hp : ∀ i, i < n + 1 → (lrun A (ls0 n) (i + 1)).e ≠ none) (x y : Nat) (t : List Arc) (he : (lrun A (ls0 n) (n + 1)).e = some x)
    (hn : BackN (lrun A (ls0 n) (n + 1)).c n x y) (hb : Back (lrun A (ls0 n) (n + 1)).c y y t) (hl : t.length ≤ 900) :
    pre_least_places CN CR [netS CN B n S, .d (listA A)] (.d (.tuple [.none, encW (wayB t)]))
/-- one round, walked -/
theorem round_walk {T : Sl → Cs → Prop} {B : Int} {n : Nat} {S : List Span} {A : List Arc} (hA : ∀ r ∈ A, r.a < n ∧ r.b < n) {st : LS} (hf : st.f.length = n) (hc : st.c.length = n) {a4 a6 a7 a8 a9 a10 : Sl}
    {N : List Sl → Cs → Prop} (hg : ∀ (r : Arc) (ρ : List Sl) (cs : Cs), Gx (gName 6) (.d (encA r)) ρ cs [6] (ρ.set 6 (.d (encA r)))) (hN : ∀ ρ cs, (∃ (a6 a7 a8 a9 a10 : Sl), ρ = [netS CN B n S, .d (listA A), .c 1, .c 2, a4, .d (encON (lround A st).e), a6, a7, a8, a9, a10] ∧ cs = [none, some (.ls ((lround A st).f.map PyData.int)), some (.ls ((lround A st).c.map encOA))]) → N ρ cs) :
    Sx (tFor (iList K (tVar 1)) (gName 6) (tSeq (tAsg (tVar 6) (gTup K 4 (gCons (gName 7) (gCons (gName 8) (gCons (gName 9) (gCons (gName 10) gNil))))))
      (tIfS (tTest (tOp (rI0 fun i j => .bl (decide (i > j))) (tOp (rAddX K) (tOp (rIx K) (tVar 2) (tVar 8)) (tVar 10)) (tOp (rIx K) (tVar 2) (tVar 9)))) (tSeq (tAsg (tOp (rAddX K) (tOp (rIx K) (tVar 2) (tVar 8)) (tVar 10)) (gSub (tVar 2) (tVar 9) rSetL)) (tSeq (tAsg (tVar 6) (gSub (tVar 3) (tVar 9) rSetL)) (tAsg (tVar 9) (gName 5)))) tNext)))
      [netS CN B n S, .d (listA A), .c 1, .c 2, a4, .d .none, a6, a7, a8, a9, a10] [none, some (.ls (st.f.map PyData.int)), some (.ls (st.c.map encOA))] N T := by
  refine sx_forL A encA (fun j ρ cs => ∃ (a6 a7 a8 a9 a10 : Sl), ρ = [netS CN B n S, .d (listA A), .c 1, .c 2, a4, .d (encON ((A.take j).foldl lstep ⟨st.f, st.c, none⟩).e), a6, a7, a8, a9, a10] ∧
    cs = [none, some (.ls (((A.take j).foldl lstep ⟨st.f, st.c, none⟩).f.map PyData.int)), some (.ls (((A.take j).foldl lstep ⟨st.f, st.c, none⟩).c.map encOA))]) (ev_var rfl rfl) ⟨_, _, _, _, _, rfl, rfl⟩ ?_ (fun ρ cs h => hN ρ cs (by rw [List.take_length] at h; exact h))
  rintro j r ρ cs hj ⟨a6, a7, a8, a9, a10, rfl, rfl⟩
  refine ⟨_, _, hg r _ _, ?_⟩
  rw [foldl_take lstep _ hj]
  have hr := hA r (List.mem_of_getElem? hj)
  have l1 := (lfold_len (A.take j) ⟨st.f, st.c, none⟩).1
  have l2 := (lfold_len (A.take j) ⟨st.f, st.c, none⟩).2
  generalize (A.take j).foldl lstep ⟨st.f, st.c, none⟩ = u at l1 l2 ⊢
  have l1' : u.f.length = n := l1.trans hf
  have l2' : u.c.length = n := l2.trans hc
  refine sx_seq (sx_asgG (ev_var rfl rfl) (gx_tup (gxl_cons gx_name (gxl_cons gx_name (gxl_cons gx_name (gxl_cons gx_name gxl_nil)))) rfl) ?_)
  have g1 := getI (d := 0) (l := u.f) (i := r.a) (by omega)
  have g2 := getI (d := 0) (l := u.f) (i := r.b) (by omega)
  refine sx_if (et_test (ev_op (ev_op (ev_op (ev_var rfl rfl) (ev_var rfl rfl) (rv_ixn (.c rfl) g1)) (ev_var rfl rfl) (rv_or1 rv_i0)) (ev_op (ev_var rfl rfl) (ev_var rfl rfl) (rv_ixn (.c rfl) g2)) rv_b0)) (fun hb => ?_) (fun hb => ?_)
  · have hlt : u.f.getD r.b 0 < u.f.getD r.a 0 + r.w := of_decide_eq_true hb
    have e : lstep u r = ⟨u.f.set r.b (u.f.getD r.a 0 + r.w), u.c.set r.b (some r), some r.b⟩ := if_pos hlt
    rw [e]
    refine sx_seq (sx_set (ev_op (ev_op (ev_var rfl rfl) (ev_var rfl rfl) (rv_ixn (.c rfl) g1)) (ev_var rfl rfl) (rv_or1 rv_i0)) (ev_var rfl rfl) rfl (ev_var rfl rfl) (by rw [List.length_map]; omega) ?_)
    refine sx_seq (sx_set (ev_var rfl rfl) (ev_var rfl rfl) rfl (ev_var rfl rfl) (by rw [List.length_map]; omega) ?_)
    refine sx_asg (ev_var rfl rfl) ⟨_, _, _, _, _, rfl, ?_⟩
    rw [List.map_set, List.map_set]
    rfl
  · have hlt : ¬ u.f.getD r.b 0 < u.f.getD r.a 0 + r.w := of_decide_eq_false hb
    have e : lstep u r = u := if_neg hlt
    rw [e]
    exact sx_next ⟨_, _, _, _, _, rfl, rfl⟩
theorem en_rep1 {ρ : List Sl} {cs : Cs} {ta tb : TE} {d : PyData} {n : Nat} (ha : EvN ta ρ cs [d]) (hb : EvA tb ρ cs (.d (intN n))) (hn : n ≤ 1000) : EvN (tOp (rMulX K) ta tb) ρ cs (List.replicate n d) := en_is (ev_rep_or ha hb (by omega) (by omega) lk) (rep0 n d)
theorem lround_e0 (A : List Arc) (st : LS) (h : A = []) : (lround A st).e = none := by subst h; rfl
theorem cal_least_places (T : Txt K mg CN CR) : C8.Cal P w K mg base 2 "least_places" (spP (pre_least_places CN CR)) [] := by
  have C_ring_behind := cal_ring_behind (P := P) (w := w) (base := base) T
  refine calP 3 T.d_least_places sc_least_places (by intro ss r h; cases h <;> rfl) (fun f cdv A outer s H E hr => ⟨_, (pss_cons (ps_set (i := 2) sc_least_places.nd rfl (.inl rfl) (pe_op (r := rMulX K) opx_mul (pe_lst (pa_cons pe_int pa_nil)) (kpe_fld K (pv 0) rfl)))
      (pss_cons (ps_set (i := 3) sc_least_places.nd rfl (.inl rfl) (pe_op (r := rMulX K) opx_mul (pe_lst (pa_cons pe_non pa_nil)) (kpe_fld K (pv 0) rfl)))
      (pss_cons (ps_for PassesOwn.never rfl (pi_range1 (by rfl) T.z_range (pa_cons (pe_op (r := rAddX K) opx_add (kpe_fld K (pv 0) rfl) pe_int) pa_nil)) (pg_name (i := 4) sc_least_places.nd rfl (.inl rfl))
        (pss_cons (ps_set (i := 5) sc_least_places.nd rfl (.inl rfl) pe_non)
        (pss_cons (ps_for PassesOwn.never rfl (kpi_list K (pv 1)) (pg_name (i := 6) sc_least_places.nd rfl (.inl rfl))
          (pss_cons (ps_asg (pv 6) (kpg_tup K (n := 4) rfl (pgs_cons (pg_name (i := 7) sc_least_places.nd rfl (.inl rfl)) (pgs_cons (pg_name (i := 8) sc_least_places.nd rfl (.inl rfl)) (pgs_cons (pg_name (i := 9) sc_least_places.nd rfl (.inl rfl)) (pgs_cons (pg_name (i := 10) sc_least_places.nd rfl (.inl rfl)) pgs_nil))))))
          (pss_one (ps_if (pt_cmpR op_gt (pe_op (r := rAddX K) opx_add (pe_ix (r := rIx K) ix_seq (pv 2) (pv 8) (fun _ _ => rfl)) (pv 10)) (pe_ix (r := rIx K) ix_seq (pv 2) (pv 9) (fun _ _ => rfl)) (nomark _)) (pss_cons (ps_asg (pe_op (r := rAddX K) opx_add (pe_ix (r := rIx K) ix_seq (pv 2) (pv 8) (fun _ _ => rfl)) (pv 10)) (pg_sub (pv 2) (pv 9) set_list))
            (pss_cons (ps_asg (pv 6) (pg_sub (pv 3) (pv 9) set_list))
            (pss_one (ps_set (i := 5) sc_least_places.nd rfl (.inl rfl) (pv 9))))) pss_nil))))
        (pss_one (ps_if (pt_cmpR op_isN (pv 5) pe_non (nomark _)) (pss_one (ps_ret (pe_tup (pa_cons (pv 2) (pa_cons pe_non pa_nil))))) pss_nil)))))
      (pss_one (ps_ret (pe_tup (pa_cons pe_non (pa_cons (C8.pe_c C_ring_behind hr (by decide) (by rfl) (pa_cons (pv 0) (pa_cons (pv 3) (pa_cons (pv 5) pa_nil)))) pa_nil)))))))), ?_⟩)
  intro ss r h; cases h <;> refine ⟨Nat.le_of_ble_eq_true rfl, rfl, ?_⟩
  · rename_i B n S hv A hA m hm h hp
    have hnm := hv.nm
    refine sx_seq (sx_asgN 1 (en_rep1 (n := n) (en_lst (ed_cons ev_int ed_nil) lk) (evn_events T (ev_var rfl rfl)) (by omega)) rfl rfl ?_)
    refine sx_seq (sx_asgN 2 (en_rep1 (n := n) (en_lst (ed_cons ev_non ed_nil) lk) (evn_events T (ev_var rfl rfl)) (by omega)) rfl rfl ?_)
    refine sx_seq (sx_forR (n + 1) (by omega) (fun i ρ cs => i ≤ m ∧ ∃ (a4 a5 a6 a7 a8 a9 a10 : Sl), ρ = [netS CN B n S, .d (listA A), .c 1, .c 2, a4, a5, a6, a7, a8, a9, a10] ∧
      cs = [none, some (.ls ((lrun A (ls0 n) i).f.map PyData.int)), some (.ls ((lrun A (ls0 n) i).c.map encOA))]) (ev_is (ev_op (evn_events T (ev_var rfl rfl)) ev_int (rv_or1 rv_i0)) (by norm_cast)) ⟨Nat.zero_le _, _, _, _, _, _, _, _, rfl, by
        show [none, some (Cell.ls _), some (Cell.ls _)] = [none, some (Cell.ls ((List.replicate n (0 : Int)).map PyData.int)), some (Cell.ls ((List.replicate n (none : Option Arc)).map encOA))]
        rw [List.map_replicate, List.map_replicate]
        rfl⟩ ?_ ?_)
    · rintro i ρ cs hi ⟨him, a4, a5, a6, a7, a8, a9, a10, rfl, rfl⟩
      refine ⟨_, _, gx_name, ?_⟩
      have l1 := lrun_len A (ls0 n) i
      have l1a : (lrun A (ls0 n) i).f.length = n := l1.1.trans (List.length_replicate ..)
      have l1b : (lrun A (ls0 n) i).c.length = n := l1.2.trans (List.length_replicate ..)
      refine sx_seq (sx_asg ev_non ?_)
      refine sx_seq (round_walk hA l1a l1b (fun r ρ cs => gx_name) ?_)
      rintro ρ cs ⟨a6, a7, a8, a9, a10, rfl, rfl⟩
      by_cases e : i = m
      · subst e
        have h' : (lround A (lrun A (ls0 n) i)).e = none := h
        rw [h']
        refine sx_if (b := true) (et_test (ev_op (ev_var rfl rfl) ev_non rv_isN)) (fun _ => ?_) (fun h => nomatch h)
        refine sx_un 4 (sx_un 6 (sx_un 7 (sx_un 8 (sx_un 9 (sx_un 10 (sx_frz 1 rfl lk ?_))))))
        exact sx_ret (ev_tup (ed_cons (ev_var rfl rfl) (ed_cons ev_non ed_nil)) lk) (.d rfl)
      · have h' := hp i (by omega)
        obtain ⟨z, hz⟩ := Option.ne_none_iff_exists'.mp h'
        have hz' : (lround A (lrun A (ls0 n) i)).e = some z := hz
        rw [hz']
        exact sx_if (b := false) (et_test (ev_op (ev_var rfl rfl) ev_non rv_isN)) (fun h => nomatch h) fun _ => sx_next ⟨by omega, _, _, _, _, _, _, _, rfl, rfl⟩
    · rintro ρ cs ⟨him, _⟩
      omega
  · rename_i B n S hv A hA hp x y t he hn hb hl
    have hnm := hv.nm
    refine sx_seq (sx_asgN 1 (en_rep1 (n := n) (en_lst (ed_cons ev_int ed_nil) lk) (evn_events T (ev_var rfl rfl)) (by omega)) rfl rfl ?_)
    refine sx_seq (sx_asgN 2 (en_rep1 (n := n) (en_lst (ed_cons ev_non ed_nil) lk) (evn_events T (ev_var rfl rfl)) (by omega)) rfl rfl ?_)
    refine sx_seq (sx_forR (n + 1) (by omega) (fun i ρ cs => ∃ (a4 a5 a6 a7 a8 a9 a10 : Sl), (i = n + 1 → a5 = .d (intN x)) ∧ ρ = [netS CN B n S, .d (listA A), .c 1, .c 2, a4, a5, a6, a7, a8, a9, a10] ∧
      cs = [none, some (.ls ((lrun A (ls0 n) i).f.map PyData.int)), some (.ls ((lrun A (ls0 n) i).c.map encOA))]) (ev_is (ev_op (evn_events T (ev_var rfl rfl)) ev_int (rv_or1 rv_i0)) (by norm_cast)) ⟨_, .un, _, _, _, _, _, fun h => (by omega), rfl, by
        show [none, some (Cell.ls _), some (Cell.ls _)] = [none, some (Cell.ls ((List.replicate n (0 : Int)).map PyData.int)), some (Cell.ls ((List.replicate n (none : Option Arc)).map encOA))]
        rw [List.map_replicate, List.map_replicate]
        rfl⟩ ?_ ?_)
    · rintro i ρ cs hi ⟨a4, a5, a6, a7, a8, a9, a10, h5, rfl, rfl⟩
      refine ⟨_, _, gx_name, ?_⟩
      have l1 := lrun_len A (ls0 n) i
      have l1a : (lrun A (ls0 n) i).f.length = n := l1.1.trans (List.length_replicate ..)
      have l1b : (lrun A (ls0 n) i).c.length = n := l1.2.trans (List.length_replicate ..)
      refine sx_seq (sx_asg ev_non ?_)
      refine sx_seq (round_walk hA l1a l1b (fun r ρ cs => gx_name) ?_)
      rintro ρ cs ⟨a6, a7, a8, a9, a10, rfl, rfl⟩
      have h' := hp i (by omega)
      obtain ⟨z, hz⟩ := Option.ne_none_iff_exists'.mp h'
      have hz' : (lround A (lrun A (ls0 n) i)).e = some z := hz
      rw [hz']
      refine sx_if (b := false) (et_test (ev_op (ev_var rfl rfl) ev_non rv_isN)) (fun h => nomatch h) fun _ => sx_next ⟨_, _, _, _, _, _, _, fun h => ?_, rfl, rfl⟩
      have : i = n := by omega
      subst this
      rw [hz] at he
      cases he
      rfl
    · rintro ρ cs ⟨a4, a5, a6, a7, a8, a9, a10, h5, rfl, rfl⟩
      have := h5 rfl
      subst this
      refine sx_un 4 (sx_un 6 (sx_un 7 (sx_un 8 (sx_un 9 (sx_un 10 (sx_frz 2 rfl lk ?_))))))
      exact sx_ret (ev_tup (ed_cons ev_non (ed_cons (ev_call (ea_cons (ev_var rfl rfl) (ea_cons (ev_var rfl rfl) (ea_cons (ev_var rfl rfl) ea_nil))) (pre_ring_behind.mk B n S hv _ x y t hn hb hl) rfl rfl) ed_nil)) lk) (.d rfl)
/-- the found ones, as a dict -/
def encG (f : Nat → Option Int) : Int → Option PyData := fun k => if 0 ≤ k then (f k.toNat).map PyData.int else none
theorem encG_nat (f : Nat → Option Int) (x : Nat) : encG f (x : Int) = (f x).map PyData.int := by
  unfold encG
  rw [if_pos (by omega), Int.toNat_natCast]
theorem encG_put (f : Nat → Option Int) (x : Nat) (d : Int) : (fun m : Int => if m = (x : Int) then some (PyData.int d) else encG f m) = encG (fun m => if m = x then some d else f m) := by
  funext m
  unfold encG
  by_cases h0 : 0 ≤ m
  · rw [if_pos h0, if_pos h0]
    by_cases e : m = (x : Int)
    · dsimp only
      rw [if_pos e, if_pos (by omega)]; rfl
    · dsimp only
      rw [if_neg e, if_neg (by omega)]
  · rw [if_neg h0, if_neg (by omega), if_neg h0]
theorem encG_0 (b : Nat) : (fun j : Int => if j = (b : Int) then some (PyData.int 0) else none) = encG (g0 b) := by
  funext m
  unfold encG g0
  by_cases h0 : 0 ≤ m
  · rw [if_pos h0]
    by_cases e : m = (b : Int)
    · rw [if_pos e, if_pos (by omega)]; rfl
    · rw [if_neg e, if_neg (by omega)]; rfl
  · rw [if_neg h0, if_neg (by omega)]
inductive pre_longest (CN CR : Addr) : List Sl → Sl → Prop
  | mk (B : Int) (n : Nat) (S : List Span) (A : List Arc) (hl : A.length ≤ 1000) (ev : List Nat) (he : ev.length ≤ 60) (b : Nat) : pre_longest CN CR [netS CN B n S, .d (listA A), .d (listN ev), .d (intN b)] (.dd (encG (grun A (g0 b) ev.length)))
theorem cal_longest (T : Txt K mg CN CR) : C8.Cal P w K mg base 1 "longest" (spP (pre_longest CN CR)) [] := by
  refine calP 1 T.d_longest sc_longest (by intro ss r h; cases h <;> rfl) (fun f cdv A outer s H E hr => ⟨_, (pss_cons (ps_set (i := 4) sc_longest.nd rfl (.inl rfl) (pe_disp (pps_cons (pv 3) pe_int pps_nil) rfl rfl (by simp) (by decide)))
      (pss_cons (ps_for PassesOwn.never rfl (pi_range1 (by rfl) T.z_range (pa_cons (pe_callB (r := rLenX K) call_len_seq (by rfl) T.z_len boot_len (pa_cons (pv 2) pa_nil)) pa_nil)) (pg_name (i := 5) sc_longest.nd rfl (.inl rfl))
        (pss_one (ps_for PassesOwn.never rfl (kpi_list K (pv 1)) (kpg_tup K (n := 4) rfl (pgs_cons (pg_name (i := 6) sc_longest.nd rfl (.inl rfl)) (pgs_cons (pg_name (i := 7) sc_longest.nd rfl (.inl rfl)) (pgs_cons (pg_name (i := 8) sc_longest.nd rfl (.inl rfl)) (pgs_cons (pg_name (i := 9) sc_longest.nd rfl (.inl rfl)) pgs_nil)))))
          (pss_one (ps_if (PW.pt (pw_and (pt_cmp (pc_din (hu_of hr) (pv 7) (pv 4)) rfl) (pw_and1 (PW.pt (pw_or (pt_cmp (pc_dnotin (hu_of hr) (pv 8) (pv 4)) rfl) (pw_or1 (pt_cmpR op_gt (pe_op (r := rAddX K) opx_add (pe_dget (hu_of hr) (pv 4) (pv 7) (fun _ _ => rfl)) (pv 9)) (pe_dget (hu_of hr) (pv 4) (pv 8) (fun _ _ => rfl)) (nomark _)))))))) (pss_one (ps_dput (hu_of hr) (pv 4) (pv 8) (pe_op (r := rAddX K) opx_add (pe_dget (hu_of hr) (pv 4) (pv 7) (fun _ _ => rfl)) (pv 9)) rfl)) pss_nil)))))
      (pss_one (ps_ret (pv 4))))), ?_⟩)
  intro ss r h; cases h <;> refine ⟨Nat.le_of_ble_eq_true rfl, rfl, ?_⟩
  rename_i B n S A hl ev he b
  refine sx_seq (sx_asgM 0 (em_one (ev_var rfl rfl) ev_int) rfl rfl ?_)
  refine sx_seq (sx_forR ev.length (by omega) (fun i ρ cs => ∃ (a5 a6 a7 a8 a9 : Sl) (c : Nat), c ≤ 1 + 1000 * i ∧ ρ = [netS CN B n S, .d (listA A), .d (listN ev), .d (intN b), .c 0, a5, a6, a7, a8, a9] ∧ cs = [some (.di (encG (grun A (g0 b) i)) c)])
    (ev_is (ev_len (ev_var rfl rfl) .l) (by rw [List.length_map])) ⟨_, _, _, _, _, 1, by omega, rfl, by rw [← show _ = encG (grun A (g0 b) 0) from encG_0 b]; rfl⟩ ?_ ?_)
  · rintro i ρ cs hi ⟨a5, a6, a7, a8, a9, c, hc, rfl, rfl⟩
    refine ⟨_, _, gx_name, ?_⟩
    refine sx_forL A encA (fun j ρ cs => ∃ (a6 a7 a8 a9 : Sl) (c : Nat), c ≤ 1 + 1000 * i + j ∧ ρ = [netS CN B n S, .d (listA A), .d (listN ev), .d (intN b), .c 0, .d (intN i), a6, a7, a8, a9] ∧ cs = [some (.di (encG ((A.take j).foldl gstep (grun A (g0 b) i))) c)])
      (ev_var rfl rfl) ⟨_, _, _, _, c, by omega, rfl, rfl⟩ ?_ ?_
    · rintro j r ρ cs hj ⟨a6, a7, a8, a9, c, hc, rfl, rfl⟩
      refine ⟨_, _, (gx_tup (gxl_cons gx_name (gxl_cons gx_name (gxl_cons gx_name (gxl_cons gx_name gxl_nil)))) rfl), ?_⟩
      rw [foldl_take gstep _ hj]
      have hjl := (List.getElem?_eq_some_iff.mp hj).1
      generalize (A.take j).foldl gstep (grun A (g0 b) i) = u
      have hA1 := encG_nat u r.a
      have hB1 := encG_nat u r.b
      cases ha : u r.a with
      | none =>
        rw [ha] at hA1
        have e : gstep u r = u := by unfold gstep; rw [ha]
        rw [e]
        refine sx_if (b := false) (et_is (et_and (b := false) (et_test (ev_din (ev_var rfl rfl) (.c rfl) (ev_var rfl rfl))) (fun h => ?_)) ?_) (fun h => nomatch h) fun _ => sx_next ⟨_, _, _, _, c, by omega, rfl, rfl⟩
        · rw [hA1] at h; cases h
        · rw [hA1]; rfl
      | some x =>
        rw [ha] at hA1
        have put : ∀ e : (gstep u r) = (fun m => if m = r.b then some (x + r.w) else u m), Sx (sDPut (tVar 4) (tVar 8) (tOp (rAddX K) (tDGet (tVar 4) (tVar 7)) (tVar 9))) [netS CN B n S, .d (listA A), .d (listN ev), .d (intN b), .c 0, .d (intN i), .d (encP r.p), .d (intN r.a), .d (intN r.b), .d (.int r.w)] [some (.di (encG u) c)]
            (fun ρ cs => ∃ (a6 a7 a8 a9 : Sl) (c : Nat), c ≤ 1 + 1000 * i + (j + 1) ∧ ρ = [netS CN B n S, .d (listA A), .d (listN ev), .d (intN b), .c 0, .d (intN i), a6, a7, a8, a9] ∧ cs = [some (.di (encG (gstep u r)) c)]) (fun s cs => Fin cs s (.dd (encG (grun A (g0 b) ev.length)))) := fun e => by
          refine sx_dput (ev_op (ev_dget (ev_var rfl rfl) (.c rfl) (ev_var rfl rfl) hA1) (ev_var rfl rfl) (rv_or1 rv_i0)) (ev_var rfl rfl) rfl (ev_var rfl rfl) (by omega) ⟨_, _, _, _, c + 1, by omega, rfl, ?_⟩
          rw [e, ← encG_put]
          rfl
        cases hb : u r.b with
        | none =>
          rw [hb] at hB1
          refine sx_if (b := true) (et_is (et_and (b := true) (et_test (ev_din (ev_var rfl rfl) (.c rfl) (ev_var rfl rfl))) (fun h => et_is (et_or (b := true) (et_test (ev_dnin (ev_var rfl rfl) (.c rfl) (ev_var rfl rfl))) (fun h => ?_)) (by rw [hB1]; rfl))) (by rw [hA1]; rfl)) (fun _ => put ?_) (fun h => nomatch h)
          · rw [hB1] at h; cases h
          · unfold gstep; rw [ha, hb]
        | some y =>
          rw [hb] at hB1
          refine sx_if (b := decide (y < x + r.w)) (et_is (et_and (b := decide (y < x + r.w)) (et_test (ev_din (ev_var rfl rfl) (.c rfl) (ev_var rfl rfl))) (fun h => et_is (et_or (b := decide (y < x + r.w)) (et_test (ev_dnin (ev_var rfl rfl) (.c rfl) (ev_var rfl rfl))) (fun h => et_test (ev_op (ev_op (ev_dget (ev_var rfl rfl) (.c rfl) (ev_var rfl rfl) hA1) (ev_var rfl rfl) (rv_or1 rv_i0)) (ev_dget (ev_var rfl rfl) (.c rfl) (ev_var rfl rfl) hB1) rv_b0))) (by rw [hB1]; rfl))) (by rw [hA1]; rfl)) (fun h => put ?_) (fun h => ?_)
          · unfold gstep
            rw [ha, hb]
            exact if_pos (of_decide_eq_true h)
          · have e : gstep u r = u := by
              unfold gstep
              rw [ha, hb]
              exact if_neg (of_decide_eq_false h)
            rw [e]
            exact sx_next ⟨_, _, _, _, c, by omega, rfl, rfl⟩
    · rintro ρ cs ⟨a6, a7, a8, a9, c, hc, rfl, rfl⟩
      rw [List.take_length]
      exact ⟨_, _, _, _, _, c, by omega, rfl, rfl⟩
  · rintro ρ cs ⟨a5, a6, a7, a8, a9, c, hc, rfl, rfl⟩
    exact sx_ret (ev_var rfl rfl) (.di rfl)
end
end Z
end
section
namespace Z
open PySem PySem.Spec PyProof.Rows L2
theorem strict_ext : ∀ {xs ys : List Int}, xs.Pairwise (· < ·) → ys.Pairwise (· < ·) → (∀ k, k ∈ xs ↔ k ∈ ys) → xs = ys
  | [], [], _, _, _ => rfl
  | [], y :: ys, _, _, h => absurd ((h y).mpr List.mem_cons_self) (by simp)
  | x :: xs, [], _, _, h => absurd ((h x).mp List.mem_cons_self) (by simp)
  | x :: xs, y :: ys, hx, hy, h => by
    obtain ⟨hx1, hx2⟩ := List.pairwise_cons.mp hx
    obtain ⟨hy1, hy2⟩ := List.pairwise_cons.mp hy
    have e : x = y := by
      rcases List.mem_cons.mp ((h x).mp List.mem_cons_self) with h1 | h1
      · exact h1
      · rcases List.mem_cons.mp ((h y).mpr List.mem_cons_self) with h2 | h2
        · exact h2.symm
        · have := hx1 y h2
          have := hy1 x h1
          omega
    subst e
    rw [strict_ext hx2 hy2 fun k => ?_]
    constructor
    · intro hk
      have := hx1 k hk
      rcases List.mem_cons.mp ((h k).mp (List.mem_cons_of_mem _ hk)) with h1 | h1
      · omega
      · exact h1
    · intro hk
      have := hy1 k hk
      rcases List.mem_cons.mp ((h k).mpr (List.mem_cons_of_mem _ hk)) with h1 | h1
      · omega
      · exact h1
theorem sortU_strict (n : Nat) (l : List Nat) : ((sortU n l).map fun m : Nat => (m : Int)).Pairwise (· < ·) := by
  rw [List.pairwise_map]
  unfold sortU
  exact ((List.pairwise_lt_range (n := n)).filter _).imp fun h => by omega
theorem mem_sortU {n : Nat} {l : List Nat} (h : ∀ y ∈ l, y < n) (m : Nat) : m ∈ sortU n l ↔ m ∈ l := by
  unfold sortU
  rw [List.mem_filter, List.mem_range]
  simp only [decide_eq_true_eq]
  exact ⟨fun z => z.2, fun z => ⟨h m z, z⟩⟩
section
variable {ρ ρ' : List Sl} {cs : Cs} {ta tb te : TE} {N : List Sl → Cs → Prop} {T : Sl → Cs → Prop} {K : PySem.W.Frag} {w : World} {wi : TI} {g : TG} {vs : List Nat}
theorem en_sortSc (n : Nat) (ys : List Nat) (hn : ∀ y ∈ ys, y < n) (h : EvI wi ρ cs (ys.map intN)) (hl : ys.length ≤ 60)
    (hs : ∀ (i : Nat) y, ys[i]? = some y → ∃ J ρ', Gx g (.d (intN y)) (wp ρ vs) cs J ρ' ∧ (∀ i ∈ J, i ∈ vs) ∧ EvA te ρ' cs (.d (intN y))) :
    EvN (tCB (rSortedSet w) (tCons (tScI w wi g tYes te vs) tNil)) ρ cs ((sortU n ys).map intN) := fun b as H σ ok Q q =>
  h b as H σ ok _ fun J H1 e1 it D hD => by
    have ok1 := ok.mono e1
    let O0 : HO := SetO w D (fun _ => false) 0
    have s0 := same_upd (o := O0) hD
    have hDm := ok1.h.fresh hD
    let b' : Bs := ⟨b.H0, fun a => b.M0 a ∨ a = D, b.R, b.G as cs H1, b.r1⟩
    have me : b'.M as cs = fun a => b.M as cs a ∨ a = D := by
      funext a
      refine propext ⟨fun m => ?_, fun m => ?_⟩
      · rcases m with (m | m) | m
        · exact .inl (.inl m)
        · exact .inr m
        · exact .inl (.inr m)
      · rcases m with (m | m) | m
        · exact .inl (.inl m)
        · exact .inr m
        · exact .inl (.inr m)
    have mD : b'.M as cs D := .inl (.inr rfl)
    have gs : Same (b.G as cs H1) (b'.G as cs (upd H1 D O0)) := fun x u h => by
      have hm := fz_not h
      have hx := fz_le x u h
      unfold Bs.G
      rw [me, fz_out]
      · exact s0 x u hx
      · rintro (m | rfl)
        · exact hm m
        · rw [hD] at hx; cases hx
    have ok2 : Ok b' as (upd H1 D O0) σ ρ cs := by
      have k0 := ok1.mono s0
      refine ⟨⟨k0.h.ext, fun a m => ?_, ok1.h.rl, ok1.h.nd, ok1.h.nw, fun i c a h1 h2 m => ?_, fun i c h1 => ?_, gs, ok1.h.al⟩, ok1.len, fun i s h => (ok1.sl i s h).imp id fun ⟨v, a, c⟩ => ⟨v, a, c.mono gs⟩⟩
      · rcases m with m | rfl
        · exact k0.h.m0 a m
        · exact ⟨_, upd_same⟩
      · rcases m with m | rfl
        · exact ok1.h.nm i c a h1 h2 m
        · exact hDm (.inr ⟨i, c, h1, h2⟩)
      · obtain ⟨a, h2, h3⟩ := ok1.h.ce i c h1
        obtain ⟨o, ho⟩ := h3.some
        exact ⟨a, h2, h3.mono gs ((s0 a o ho).trans ho.symm)⟩
    have wr : ∀ {H' : Hp} {σ' : L2.St} {ρ' : List Sl} {o : HO}, Ok b' as H' σ' ρ' cs → Ok b' as (upd H' D o) σ' ρ' cs := fun {H' σ' ρ' o} k => by
      have ge : b'.G as cs (upd H' D o) = b'.G as cs H' := fz_upd mD
      refine ⟨⟨fun a u h n => ?_, fun a m => ?_, k.h.rl, k.h.nd, k.h.nw, k.h.nm, fun i c h1 => ?_, by rw [ge]; exact k.h.fl, k.h.al⟩, k.len, fun i s h => by rw [ge]; exact k.sl i s h⟩
      · have ne : a ≠ D := fun z => by
          subst z
          have := ok1.h.fresh0 hD
          rw [show b.H0 a = some u from h] at this; cases this
        rw [upd_ne ne]; exact k.h.ext a u h n
      · by_cases e : a = D
        · exact ⟨o, by rw [e, upd_same]⟩
        · rw [upd_ne e]; exact k.h.m0 a m
      · obtain ⟨a, h2, h3⟩ := k.h.ce i c h1
        have ne : a ≠ D := fun z => k.h.nm i c a h1 h2 (.inr z)
        exact ⟨a, h2, by rw [ge]; exact h3.mono (Same.refl _) (upd_ne ne)⟩
    refine ⟨fun i m H => m = ys.length - i ∧ i ≤ ys.length ∧ Same H1 (upd H D O0) ∧ Ok b' as H (L2.wipe σ vs) (wp ρ vs) cs ∧ ∃ (S : Int → Bool) (c : Nat), H D = some (SetO w D S c) ∧ c ≤ i ∧ ∀ k : Int, S k = true ↔ ∃ y ∈ ys.take i, (y : Int) = k,
      ⟨ys.length, by simp, Nat.zero_le _, by rw [upd_upd]; exact s0, ok2.wipe vs, _, _, upd_same, Nat.zero_le _, fun k => by simp⟩, ?_⟩
    rintro i m H2 ⟨rfl, hi, sm, okw, S, c, hacc, hal, hrep⟩
    have eG : Same (b.G as cs H1) H2 := okw.h.fl.trans okw.h.gle
    obtain ⟨go, stop, yld⟩ := it H2 eG
    rw [List.length_map] at go stop yld
    by_cases hlt : i < ys.length
    · refine .inr ⟨go i hlt, fun H => i + 1 ≤ ys.length ∧ Same H1 (upd H D O0) ∧ Ok b' as H (L2.wipe σ vs) (wp ρ vs) cs ∧ ∃ (S : Int → Bool) (c : Nat), H D = some (SetO w D S c) ∧ c ≤ i + 1 ∧ ∀ k : Int, S k = true ↔ ∃ y ∈ ys.take (i + 1), (y : Int) = k, fun H' p' => ⟨ys.length - (i + 1), by omega, rfl, p'⟩, fun x H3 y => ?_⟩
      obtain ⟨e3, yd⟩ := yld i x H3 hlt y
      have ok3 := okw.mono e3
      have hy : ys[i]? = some ys[i] := List.getElem?_eq_getElem hlt
      obtain ⟨J', ρ', gx, hJ, ev⟩ := hs i _ hy
      have dq : Dq (b'.G as cs H3) x (intN ys[i]) := yd (b'.M as cs) (fun a m => okw.h.live m) okw.h.fl _ (by rw [List.getElem?_map, hy]; rfl)
      have smx : ∀ {H' : Hp}, Same H2 H' → Same H1 (upd H' D O0) := fun {H'} e a o h => by
        have := sm a o h
        by_cases ea : a = D
        · rw [ea, upd_same] at this ⊢; exact this
        · rw [upd_ne ea] at this ⊢; exact e a o this
      have tk : ys.take (i + 1) = ys.take i ++ [ys[i]] := by rw [List.take_add_one, hy]; rfl
      refine gx b' as H3 _ x ok3 dq _ fun σ4 ok4 l4 a4 => ⟨wipe_same l4 a4 hJ, ?_⟩
      refine et_yes b' as H3 σ4 ok4 _ fun H4 e4 => ?_
      have e34 := e3.trans e4
      have ok5 := okw.mono e34
      rw [if_pos rfl]
      refine ev b' as H4 σ4 (ok4.mono e4) _ fun v H5 e5 r5 => ?_
      cases r5
      have e35 := e34.trans e5
      refine ⟨_, S, c, rfl, e35 _ _ hacc, ?_, hlt, ?_, wr (okw.mono e35), _, _, upd_same, by split <;> omega, fun k => ?_⟩
      · exact Nat.lt_of_le_of_lt (Nat.succ_le_succ (Nat.le_trans hal (Nat.le_of_lt (Nat.lt_of_lt_of_le hlt hl)))) (by decide)
      · rw [upd_upd]; exact smx e35
      · rw [tk, Bool.or_eq_true, hrep k]
        constructor
        · rintro (⟨y, h1, h2⟩ | h1)
          · exact ⟨y, List.mem_append_left _ h1, h2⟩
          · exact ⟨ys[i], List.mem_append_right _ List.mem_cons_self, (of_decide_eq_true h1).symm⟩
        · rintro ⟨y, h1, h2⟩
          rcases List.mem_append.mp h1 with h1 | h1
          · exact .inl ⟨y, h1, h2⟩
          · rw [List.mem_singleton] at h1
            subst h1
            exact .inr (decide_eq_true h2.symm)
    · have e : i = ys.length := by omega
      subst e
      rw [List.take_length] at hrep
      refine .inl ⟨stop, D, S, c, rfl, hacc, by omega, fun ns p hpw hns _ hp => ?_⟩
      have e5 : ns = (sortU n ys).map fun m : Nat => (m : Int) := strict_ext hpw (sortU_strict n ys) fun k => by
        rw [hns k, hrep k, List.mem_map]
        constructor
        · rintro ⟨y, h1, h2⟩; exact ⟨y, (mem_sortU hn y).mpr h1, h2⟩
        · rintro ⟨y, h1, h2⟩; exact ⟨y, (mem_sortU hn y).mp h1, h2⟩
      have e2 : Same H1 H2 := fun a o h => by
        have := sm a o h
        have ne : a ≠ D := ne_of_none h hD
        rwa [upd_ne ne] at this
      have s9 := same_upd (o := .lst (ns.map V.int)) hp
      refine q p _ _ ((e1.trans e2).trans s9) ((e1.trans e2).free hp) upd_same ?_
      rw [show (sortU n ys).map intN = ns.map PyData.int by rw [e5, List.map_map]; rfl]
      exact DqA.of_ints _ _
end
section
variable {P : Program} {w : World} {K : PySem.W.Frag} {mg : Str → Option Value} {base : Heap} {CN CR : Addr}
theorem marks_lt {B : Int} {n : Nat} {S : List Span} (hv : Val B n S) : ∀ m ∈ (marks n S).1, m < n := by
  unfold marks
  have : ∀ (l : List (Span × Nat)) (st : List Nat × List Nat), (∀ m ∈ st.1, m < n) → (∀ q ∈ l, q.1.a < n ∧ q.1.b < n) → st.1.length = n → ∀ m ∈ (l.foldl mstep st).1, m < n := by
    intro l
    induction l with
    | nil => intro st h _ _; exact h
    | cons p l ih =>
      intro st h hq hlen
      rw [List.foldl_cons]
      refine ih _ ?_ (fun q hq' => hq q (List.mem_cons_of_mem _ hq')) ((mstep_len st p).trans hlen)
      unfold mstep
      split
      · exact h
      · intro m hm
        obtain ⟨u, hu, rfl⟩ := List.mem_map.mp hm
        have hp := hq p List.mem_cons_self
        have hb : st.1.getD p.1.b 0 < n := by
          have hb' : p.1.b < st.1.length := by omega
          exact h _ (List.mem_of_getElem? (getD_get (d := 0) hb'))
        have := h u hu
        split <;> omega
  refine this _ _ (fun m hm => List.mem_range.mp hm) (fun q hq => ?_) (by simp)
  have hm : q.1 ∈ S := (List.mem_zipIdx' hq).2 ▸ List.getElem_mem _
  exact ⟨(hv.sp _ hm).1, (hv.sp _ hm).2.1⟩
inductive pre_pieces (CN CR : Addr) : List Sl → Sl → Prop
  | mk (B : Int) (n : Nat) (S : List Span) (hv : Val B n S) : pre_pieces CN CR [netS CN B n S] (.d (.list ((piecesOf n S).map listN)))
theorem cal_pieces (T : Txt K mg CN CR) : C8.Cal P w K mg base 2 "pieces" (spP (pre_pieces CN CR)) [] := by
  have C_marks_of := cal_marks_of (P := P) (w := w) (base := base) T
  refine calP 0 T.d_pieces sc_pieces (by intro ss r h; cases h <;> rfl) (fun f cdv A outer s H E hr => ⟨_, (pss_cons (ps_set (i := 1) sc_pieces.nd rfl (.inr rfl) (pe_ix (r := rIx K) ix_seq (C8.pe_c C_marks_of hr (by decide) (by rfl) (pa_cons (pv 0) pa_nil)) pe_int (fun _ _ => rfl)))
      (pss_one (ps_ret (pe_lc (own := [("mark", 2)]) rfl sc_pieces.nd (kpi_list K (pe_callB (r := rSortedSet w) (cr_sortedSet rfl) (by rfl) T.z_sorted boot_sorted (pa_cons (pe_scI (own := [("mark", 2)]) rfl sc_pieces.nd (kpi_list K (pv 1)) (blkOk_by (N := ["net", "marks", "mark", "event"]) (sc := defScope s_pieces) (by decide +kernel)) (fun _ _ _ _ _ => (pg_name (i := 2) sc_pieces.nd rfl (.inl rfl))) (fun _ _ _ _ _ => pts_nil) (fun _ _ _ _ _ => (pv 2))) pa_nil))) (blkOk_by (N := ["net", "marks", "mark", "event"]) (sc := defScope s_pieces) (by decide +kernel)) (fun _ _ _ _ _ => (pg_name (i := 2) sc_pieces.nd rfl (.inr rfl))) (fun _ _ _ _ _ => pts_nil) (fun _ _ _ _ _ => (pe_lc (own := [("event", 3)]) rfl sc_pieces.nd (pi_range1 (by rfl) T.z_range (pa_cons (kpe_fld K (pv 0) rfl) pa_nil)) (blkOk_by (N := ["net", "marks", "mark", "event"]) (sc := { kind := .function, names := [(".0", .local), ("mark", .cell), ("range", .globalImplicit), ("marks", .cell), ("net", .cell)], isGenerator := false, isCoroutine := false }) (by decide +kernel)) (fun _ _ _ _ _ => (pg_name (i := 3) sc_pieces.nd rfl (.inl rfl))) (fun _ _ _ _ _ => (pts_one (pt_cmpR (r := rEqD K) (op_eqD (hu64 hr)) (pe_ix (r := rIx K) ix_seq (pv 1) (pv 3) (fun _ _ => rfl)) (pv 2) (nomark _)))) (fun _ _ _ _ _ => (pv 3)))))))), ?_⟩)
  intro ss r h; cases h <;> refine ⟨Nat.le_of_ble_eq_true rfl, rfl, ?_⟩
  rename_i B n S hv
  have hnm := hv.nm
  have hml := marks_len n S
  refine sx_seq (sx_asg (ev_op (ev_call (ea_cons (ev_var rfl rfl) ea_nil) (pre_marks_of.mk B n S hv) rfl rfl) ev_int (rv_ixn (j := 0) .t rfl)) ?_)
  refine sx_ret (ea_en (en_is (en_map (sortU n (marks n S).1) intN (fun m => listN (pieceOf n S m)) (ei_list (ea_en (en_sortSc n (marks n S).1 (marks_lt hv) (ei_list (ev_var rfl rfl)) (by omega) fun i y hy => ⟨_, _, gx_name, by decide, ev_var rfl rfl⟩))) ?_ fun i y hy => ⟨_, _, gx_name, by decide, ?_⟩) (by unfold piecesOf; rw [List.map_map]; rfl))) (.d rfl)
  · have := List.length_filter_le (fun m => decide (m ∈ (marks n S).1)) (List.range n)
    rw [List.length_range] at this
    unfold sortU
    omega
  · refine ea_en (en_flt (List.range n) intN (fun e => decide ((marks n S).1.getD e 0 = y)) intN (ei_rangeN (evn_events T (ev_var rfl rfl)) (by omega)) (by rw [List.length_range]; omega) fun j e he => ⟨_, _, gx_name, by decide, ?_, fun _ => ev_var rfl rfl⟩)
    have hen : e < n := List.mem_range.mp (List.mem_of_getElem? he)
    refine et_is (et_test (ev_op (ev_op (ev_var rfl rfl) (ev_var rfl rfl) (rv_ixn .l (getN (d := 0) (by omega)))) (ev_var rfl rfl) rv_eqI)) ?_
    by_cases e1 : (marks n S).1.getD e 0 = y
    · rw [e1]; simp
    · rw [decide_eq_false e1]; exact beq_eq_false_iff_ne.mpr (by omega)
end
end Z
end
section
namespace Z
open PySem PySem.Spec PyProof.Rows L2
theorem LpOk.least {A : List Arc} {n : Nat} (h : LpOk A n) : ∃ m, m < n + 1 ∧ (lrun A (ls0 n) (m + 1)).e = none ∧ ∀ i, i < m → (lrun A (ls0 n) (i + 1)).e ≠ none := by
  obtain ⟨m, h1, h2⟩ := h
  induction m using Nat.strongRecOn with
  | ind m ih =>
    by_cases hx : ∃ i, i < m ∧ (lrun A (ls0 n) (i + 1)).e = none
    · obtain ⟨i, h3, h4⟩ := hx
      exact ih i h3 (by omega) h4
    · exact ⟨m, h1, h2, fun i hi e => hx ⟨i, hi, e⟩⟩
theorem arcs_lt {B k : Int} {l n : Nat} {S : List Span} (hv : Val B n S) : ∀ r ∈ arcsOf B k l S, r.a < n ∧ r.b < n := by
  intro r hr
  unfold arcsOf at hr
  obtain ⟨q, hq, h⟩ := List.mem_flatMap.mp hr
  have hm : q.1 ∈ S := (List.mem_zipIdx' hq).2 ▸ List.getElem_mem _
  have := hv.sp _ hm
  simp only [arcs1, List.mem_cons, List.not_mem_nil, or_false] at h
  rcases h with rfl | rfl
  · exact ⟨this.1, this.2.1⟩
  · exact ⟨this.2.1, this.1⟩
theorem arcsOf_len (B k : Int) (l : Nat) (S : List Span) : (arcsOf B k l S).length = 2 * S.length := by
  unfold arcsOf
  rw [arcs_len, List.length_zipIdx]
theorem piece_lt {n : Nat} {S : List Span} {Q : List Nat} (h : Q ∈ piecesOf n S) : ∀ e ∈ Q, e < n := by
  unfold piecesOf at h
  obtain ⟨m, _, rfl⟩ := List.mem_map.mp h
  intro e he
  exact List.mem_range.mp (List.mem_filter.mp he).1
theorem piece_len {n : Nat} {S : List Span} {Q : List Nat} (h : Q ∈ piecesOf n S) : Q.length ≤ n := by
  unfold piecesOf at h
  obtain ⟨m, _, rfl⟩ := List.mem_map.mp h
  unfold pieceOf
  have := List.length_filter_le (fun e => decide ((marks n S).1.getD e 0 = m)) (List.range n)
  rw [List.length_range] at this
  exact this
theorem piece_ne {B : Int} {n : Nat} {S : List Span} (hv : Val B n S) {Q : List Nat} (h : Q ∈ piecesOf n S) : Q ≠ [] := by
  unfold piecesOf at h
  obtain ⟨m, hm, rfl⟩ := List.mem_map.mp h
  rw [mem_sortU (marks_lt hv)] at hm
  obtain ⟨i, hi⟩ := List.getElem?_of_mem hm
  have hil := (List.getElem?_eq_some_iff.mp hi).1
  rw [marks_len] at hil
  intro e
  have : i ∈ pieceOf n S m := by
    unfold pieceOf
    rw [List.mem_filter]
    refine ⟨List.mem_range.mpr hil, decide_eq_true ?_⟩
    rw [List.getD_eq_getElem?_getD, hi]
    rfl
  rw [e] at this
  cases this
theorem piece_all {B : Int} {n : Nat} {S : List Span} (hv : Val B n S) {e : Nat} (he : e < n) : ∃ Q ∈ piecesOf n S, e ∈ Q := by
  have hl := marks_len n S
  refine ⟨pieceOf n S ((marks n S).1.getD e 0), ?_, ?_⟩
  · unfold piecesOf
    refine List.mem_map.mpr ⟨_, (mem_sortU (marks_lt hv) _).mpr ?_, rfl⟩
    exact List.mem_of_getElem? (getD_get (d := 0) (by omega))
  · unfold pieceOf
    exact List.mem_filter.mpr ⟨List.mem_range.mpr he, decide_eq_true rfl⟩
theorem set_range2 (m j : Nat) (f : Nat → Int) (v : Int) (hj : j < m) : (((List.range m).map fun i => PyData.int (f i)).set j (.int v)) = (List.range m).map fun i => PyData.int (if i = j then v else f i) := by
  apply List.ext_getElem?
  intro i
  by_cases e : j = i
  · subst e
    rw [List.getElem?_set_self (by simp; exact hj), List.getElem?_map, List.getElem?_range hj]
    simp
  · rw [List.getElem?_set_ne e, List.getElem?_map, List.getElem?_map]
    by_cases hi : i < m
    · rw [List.getElem?_range hi]
      simp [Ne.symm e]
    · rw [List.getElem?_eq_none (by simp; omega)]
      rfl
/-- the places found so far -/
def partD (X : List Nat) (d : Nat → Int) (e : Nat) : Int := if e ∈ X then d e else 0
theorem partD_snoc (X : List Nat) (d : Nat → Int) (j : Nat) : (fun e => if e = j then d j else partD X d e) = partD (X ++ [j]) d := by
  funext e
  unfold partD
  by_cases h : e = j
  · subst h; simp
  · by_cases h2 : e ∈ X <;> simp [h, h2]
section
variable {P : Program} {w : World} {K : PySem.W.Frag} {mg : Str → Option Value} {base : Heap} {CN CR : Addr}
inductive pre_places_of (CN CR : Addr) : List Sl → Sl → Prop
  | ok (B : Int) (n : Nat) (S : List Span) (hv : Val B n S) (k : Int) (l : Nat) (he : loose n S = [l]) (hk : -(2 ^ 60) < k ∧ k < 2 ^ 60) (h : LpOk (arcsOf B k l S) n) (d d' : Nat → Int) (hd : Longs (arcsOf B k l S) n S d) (hd' : Longs ((arcsOf B k l S).map turnArc) n S d') :
    pre_places_of CN CR [netS CN B n S, .d (tupI [k])] (.d (.tuple [listI ((List.range n).map d), listI ((List.range n).map fun e => -d' e)]))
  | bad (B : Int) (n : Nat) (S : List Span) (hv : Val B n S) (k : Int) (l : Nat) (he : loose n S = [l]) (hk : -(2 ^ 60) < k ∧ k < 2 ^ 60) (t : List Arc) (h : LpBad (arcsOf B k l S) n t) :
    pre_places_of CN CR [netS CN B n S, .d (tupI [k])] (.d (.tuple [.none, encW (wayB t)]))
theorem lp_ok {B : Int} {n : Nat} {S : List Span} (hv : Val B n S) {A : List Arc} (hA : ∀ r ∈ A, r.a < n ∧ r.b < n) (h : LpOk A n) : ∃ f : List Int, pre_least_places CN CR [netS CN B n S, .d (listA A)] (.d (.tuple [listI f, .none])) := by
  obtain ⟨m, h1, h2, h3⟩ := h.least
  exact ⟨_, .ok B n S hv A hA m h1 h2 h3⟩
theorem lp_bad {B : Int} {n : Nat} {S : List Span} (hv : Val B n S) {A : List Arc} (hA : ∀ r ∈ A, r.a < n ∧ r.b < n) {t : List Arc} (h : LpBad A n t) : pre_least_places CN CR [netS CN B n S, .d (listA A)] (.d (.tuple [.none, encW (wayB t)])) := by
  obtain ⟨h1, ⟨x, y, h2, h3, h4⟩, h5⟩ := h
  exact .bad B n S hv A hA h1 x y t h2 h3 h4 h5
theorem zeros (n : Nat) (d : Nat → Int) : List.replicate n (PyData.int 0) = (List.range n).map fun e => PyData.int (partD [] d e) := by
  rw [← map_range_const]
  refine List.map_congr_left fun e _ => ?_
  unfold partD
  simp
theorem dget_long {A : List Arc} {b m : Nat} {e : Nat} {v : Int} (h : grun A (g0 b) m e = some v) : encG (grun A (g0 b) m) (e : Int) = some (.int v) := by rw [encG_nat, h]; rfl
theorem cal_places_of (T : Txt K mg CN CR) : C8.Cal P w K mg base 5 "places_of" (spP (pre_places_of CN CR)) [] := by
  have C_arcs_of := cal_arcs_of (P := P) (w := w) (base := base) T
  have C_least_places := cal_least_places (P := P) (w := w) (base := base) T
  have C_pieces := cal_pieces (P := P) (w := w) (base := base) T
  have C_longest := cal_longest (P := P) (w := w) (base := base) T
  refine calP 3 T.d_places_of sc_places_of (by intro ss r h; cases h <;> rfl) (fun f cdv A outer s H E hr => ⟨_, (pss_cons (ps_set (i := 2) sc_places_of.nd rfl (.inl rfl) (C8.pe_c C_arcs_of hr (by decide) (by rfl) (pa_cons (pv 0) (pa_cons (pv 1) pa_nil))))
      (pss_cons (ps_asg (C8.pe_c C_least_places hr (by decide) (by rfl) (pa_cons (pv 0) (pa_cons (pv 2) pa_nil))) (kpg_tup K (n := 2) rfl (pgs_cons (pg_name (i := 3) sc_places_of.nd rfl (.inl rfl)) (pgs_cons (pg_name (i := 4) sc_places_of.nd rfl (.inl rfl)) pgs_nil))))
      (pss_cons (ps_if (pt_cmpR op_isN (pv 3) pe_non (nomark _)) (pss_one (ps_ret (pe_tup (pa_cons pe_non (pa_cons (pv 4) pa_nil))))) pss_nil)
      (pss_cons (ps_set (i := 5) sc_places_of.nd rfl (.inl rfl) (pe_op (r := rMulX K) opx_mul (pe_lst (pa_cons pe_int pa_nil)) (kpe_fld K (pv 0) rfl)))
      (pss_cons (ps_set (i := 6) sc_places_of.nd rfl (.inl rfl) (pe_op (r := rMulX K) opx_mul (pe_lst (pa_cons pe_int pa_nil)) (kpe_fld K (pv 0) rfl)))
      (pss_cons (ps_setLc (i := 7) (own := [("pair", 12), ("one", 13), ("other", 14), ("least", 15)]) rfl sc_places_of.nd rfl rfl (sw_true rfl rfl rfl (by decide +kernel)) (kpi_list K (pv 2)) (blkOk_by (N := ["net", "island", "arcs", "told", "ring", "low", "high", "turned", "piece", "first", "last", "event", "pair", "one", "other", "least"]) (sc := defScope s_places_of) (by decide +kernel)) (fun _ _ _ _ _ => (kpg_tup K (n := 4) rfl (pgs_cons (pg_name (i := 12) sc_places_of.nd rfl (.inl rfl)) (pgs_cons (pg_name (i := 13) sc_places_of.nd rfl (.inl rfl)) (pgs_cons (pg_name (i := 14) sc_places_of.nd rfl (.inl rfl)) (pgs_cons (pg_name (i := 15) sc_places_of.nd rfl (.inl rfl)) pgs_nil)))))) (fun _ _ _ _ _ => pts_nil) (fun _ _ _ _ _ => (pe_tup (pa_cons (pv 12) (pa_cons (pv 14) (pa_cons (pv 13) (pa_cons (pv 15) pa_nil)))))))
      (pss_cons (ps_for PassesOwn.never rfl (kpi_list K (C8.pe_c C_pieces hr (by decide) (by rfl) (pa_cons (pv 0) pa_nil))) (pg_name (i := 8) sc_places_of.nd rfl (.inl rfl))
        (pss_cons (ps_set (i := 9) sc_places_of.nd rfl (.inl rfl) (C8.pe_c C_longest hr (by decide) (by rfl) (pa_cons (pv 0) (pa_cons (pv 2) (pa_cons (pv 8) (pa_cons (pe_ix (r := rIx K) ix_seq (pv 8) pe_int (fun _ _ => rfl)) pa_nil))))))
        (pss_cons (ps_set (i := 10) sc_places_of.nd rfl (.inl rfl) (C8.pe_c C_longest hr (by decide) (by rfl) (pa_cons (pv 0) (pa_cons (pv 7) (pa_cons (pv 8) (pa_cons (pe_ix (r := rIx K) ix_seq (pv 8) pe_int (fun _ _ => rfl)) pa_nil))))))
        (pss_one (ps_for PassesOwn.never rfl (kpi_list K (pv 8)) (pg_name (i := 11) sc_places_of.nd rfl (.inl rfl))
          (pss_cons (ps_asg (pe_dget (hu_of hr) (pv 9) (pv 11) (fun _ _ => rfl)) (pg_sub (pv 5) (pv 11) set_list))
          (pss_one (ps_asg (pe_un un_neg (pe_dget (hu_of hr) (pv 10) (pv 11) (fun _ _ => rfl))) (pg_sub (pv 6) (pv 11) set_list)))))))))
      (pss_one (ps_ret (pe_tup (pa_cons (pv 5) (pa_cons (pv 6) pa_nil)))))))))))), ?_⟩)
  intro ss r h; cases h <;> refine ⟨Nat.le_of_ble_eq_true rfl, rfl, ?_⟩
  · rename_i B n S hv k l he hk h d d' hd hd'
    have hnm := hv.nm
    have hsm := hv.sm
    obtain ⟨f0, hlp⟩ := lp_ok (CN := CN) (CR := CR) hv (arcs_lt (k := k) (l := l) hv) h
    refine sx_seq (sx_asg (ev_call (ea_cons (ev_var rfl rfl) (ea_cons (ev_var rfl rfl) ea_nil)) (pre_arcs_of.mk B n S hv k l he hk) rfl rfl) ?_)
    refine sx_seq (sx_asgG (ev_call (ea_cons (ev_var rfl rfl) (ea_cons (ev_var rfl rfl) ea_nil)) hlp rfl rfl) (gx_tup (gxl_cons gx_name (gxl_cons gx_name gxl_nil)) rfl) ?_)
    refine sx_seq (sx_if (b := false) (et_test (ev_op (ev_var rfl rfl) ev_non rv_isN)) (fun h => nomatch h) fun _ => sx_next ?_)
    refine sx_seq (sx_asgN 1 (en_is (en_rep1 (n := n) (en_lst (ed_cons ev_int ed_nil) lk) (evn_events T (ev_var rfl rfl)) (by omega)) (zeros n d)) rfl rfl ?_)
    refine sx_seq (sx_asgN 2 (en_is (en_rep1 (n := n) (en_lst (ed_cons ev_int ed_nil) lk) (evn_events T (ev_var rfl rfl)) (by omega)) (zeros n fun e => -d' e)) rfl rfl ?_)
    have hal : (arcsOf B k l S).length ≤ 120 := by rw [arcsOf_len]; omega
    refine sx_seq (sx_asg (s := .d (listA ((arcsOf B k l S).map turnArc))) (ea_en (en_is (en_map (arcsOf B k l S) encA (fun r => encA (turnArc r)) (ei_list (ev_var rfl rfl)) (by omega) fun i r hr => ⟨_, _, (gx_tup (gxl_cons gx_name (gxl_cons gx_name (gxl_cons gx_name (gxl_cons gx_name gxl_nil)))) rfl), by decide, ev_tup (ed_cons (ev_var rfl rfl) (ed_cons (ev_var rfl rfl) (ed_cons (ev_var rfl rfl) (ed_cons (ev_var rfl rfl) ed_nil)))) lk⟩) (by rw [List.map_map]; rfl))) ?_)
    refine sx_seq (sx_forL (piecesOf n S) listN (fun j ρ cs => ∃ (a8 a9 a10 a11 : Sl), ρ = [netS CN B n S, .d (tupI [k]), .d (listA (arcsOf B k l S)), .d (listI f0), .d .none, .c 1, .c 2, .d (listA ((arcsOf B k l S).map turnArc)), a8, a9, a10, a11, .un, .un, .un, .un] ∧
      cs = [none, some (.ls ((List.range n).map fun e => .int (partD ((piecesOf n S).take j).flatten d e))), some (.ls ((List.range n).map fun e => .int (partD ((piecesOf n S).take j).flatten (fun e => -d' e) e)))]) (ev_call (ea_cons (ev_var rfl rfl) ea_nil) (pre_pieces.mk B n S hv) rfl rfl) ⟨_, _, _, _, rfl, rfl⟩ ?_ ?_)
    · rintro j Q ρ cs hQ ⟨a8, a9, a10, a11, rfl, rfl⟩
      refine ⟨_, _, gx_name, ?_⟩
      have hQm := List.mem_of_getElem? hQ
      have hQl := piece_len hQm
      have hQ0 : (Q.map intN)[0]? = some (intN (Q.headD 0)) := by
        have := piece_ne hv hQm
        cases Q with
        | nil => exact absurd rfl this
        | cons q Q => rfl
      refine sx_seq (sx_asg (ev_call (ea_cons (ev_var rfl rfl) (ea_cons (ev_var rfl rfl) (ea_cons (ev_var rfl rfl) (ea_cons (ev_op (ev_var rfl rfl) ev_int (rv_ixn (j := 0) .l hQ0)) ea_nil)))) (pre_longest.mk B n S (arcsOf B k l S) (by omega) Q (by omega) _) rfl rfl) ?_)
      refine sx_seq (sx_asg (ev_call (ea_cons (ev_var rfl rfl) (ea_cons (ev_var rfl rfl) (ea_cons (ev_var rfl rfl) (ea_cons (ev_op (ev_var rfl rfl) ev_int (rv_ixn (j := 0) .l hQ0)) ea_nil)))) (pre_longest.mk B n S ((arcsOf B k l S).map turnArc) (by rw [List.length_map]; omega) Q (by omega) _) rfl rfl) ?_)
      refine sx_forL Q intN (fun i ρ cs => ∃ (a11 : Sl), ρ = [netS CN B n S, .d (tupI [k]), .d (listA (arcsOf B k l S)), .d (listI f0), .d .none, .c 1, .c 2, .d (listA ((arcsOf B k l S).map turnArc)), .d (listN Q), .dd (encG (grun (arcsOf B k l S) (g0 (Q.headD 0)) Q.length)), .dd (encG (grun ((arcsOf B k l S).map turnArc) (g0 (Q.headD 0)) Q.length)), a11, .un, .un, .un, .un] ∧
        cs = [none, some (.ls ((List.range n).map fun e => .int (partD (((piecesOf n S).take j).flatten ++ Q.take i) d e))), some (.ls ((List.range n).map fun e => .int (partD (((piecesOf n S).take j).flatten ++ Q.take i) (fun e => -d' e) e)))]) (ev_var rfl rfl) ⟨_, rfl, by rw [List.take_zero, List.append_nil]⟩ ?_ ?_
      · rintro i e ρ cs hie ⟨a11, rfl, rfl⟩
        refine ⟨_, _, gx_name, ?_⟩
        have hem := List.mem_of_getElem? hie
        have hen := piece_lt hQm e hem
        refine sx_seq (sx_set (ev_dget (ev_var rfl rfl) .d (ev_var rfl rfl) (dget_long (hd.g Q hQm e hem))) (ev_var rfl rfl) rfl (ev_var rfl rfl) (by simp; exact hen) ?_)
        refine sx_set (ev_un (ev_dget (ev_var rfl rfl) .d (ev_var rfl rfl) (dget_long (hd'.g Q hQm e hem))) ru_neg) (ev_var rfl rfl) rfl (ev_var rfl rfl) (by simp; exact hen) ⟨_, rfl, ?_⟩
        rw [List.take_add_one, hie, show (some e).toList = [e] from rfl, ← List.append_assoc, ← partD_snoc, ← partD_snoc]
        show [none, some (Cell.ls (List.set _ e _)), some (Cell.ls (List.set _ e _))] = _
        rw [set_range2 n e _ _ hen, set_range2 n e _ _ hen]
      · rintro ρ cs ⟨a11, rfl, rfl⟩
        refine ⟨_, _, _, _, rfl, ?_⟩
        rw [List.take_length, List.take_add_one, hQ, List.flatten_append]
        simp
    · rintro ρ cs ⟨a8, a9, a10, a11, rfl, rfl⟩
      have e1 : ∀ d : Nat → Int, ((List.range n).map fun e => PyData.int (partD ((piecesOf n S).take (piecesOf n S).length).flatten d e)) = ((List.range n).map d).map PyData.int := fun d => by
        rw [List.take_length, List.map_map]
        refine List.map_congr_left fun e he => ?_
        obtain ⟨Q, h1, h2⟩ := piece_all hv (List.mem_range.mp he)
        show PyData.int (partD _ d e) = PyData.int (d e)
        unfold partD
        rw [if_pos (List.mem_flatten.mpr ⟨Q, h1, h2⟩)]
      rw [e1, e1]
      refine sx_un 8 (sx_un 9 (sx_un 10 (sx_un 11 (sx_frz 1 rfl lk (sx_frz 2 rfl lk ?_)))))
      exact sx_ret (ev_tup (ed_cons (ev_var rfl rfl) (ed_cons (ev_var rfl rfl) ed_nil)) lk) (.d rfl)
  · rename_i B n S hv k l he hk t h
    have hlp := lp_bad (CN := CN) (CR := CR) hv (arcs_lt (k := k) (l := l) hv) h
    refine sx_seq (sx_asg (ev_call (ea_cons (ev_var rfl rfl) (ea_cons (ev_var rfl rfl) ea_nil)) (pre_arcs_of.mk B n S hv k l he hk) rfl rfl) ?_)
    refine sx_seq (sx_asgG (ev_call (ea_cons (ev_var rfl rfl) (ea_cons (ev_var rfl rfl) ea_nil)) hlp rfl rfl) (gx_tup (gxl_cons gx_name (gxl_cons gx_name gxl_nil)) rfl) ?_)
    refine sx_seq (sx_if (b := true) (et_test (ev_op (ev_var rfl rfl) ev_non rv_isN)) (fun _ => ?_) (fun h => nomatch h))
    exact sx_ret (ev_tup (ed_cons ev_non (ed_cons (ev_var rfl rfl) ed_nil)) lk) (.d rfl)
inductive pre_held (CN CR : Addr) : List Sl → Sl → Prop
  | ok (B : Int) (n : Nat) (S : List Span) (hv : Val B n S) (k : Int) (l : Nat) (he : loose n S = [l]) (hk : -(2 ^ 60) < k ∧ k < 2 ^ 60) (h : LpOk (arcsOf B k l S) n) (d d' : Nat → Int) (hd : Longs (arcsOf B k l S) n S d) (hd' : Longs ((arcsOf B k l S).map turnArc) n S d') :
    pre_held CN CR [netS CN B n S, .d (tupI [k])] (.d (.tuple [.str "timetable", tupI ((List.range n).map fun e => d e % B)]))
  | bad (B : Int) (n : Nat) (S : List Span) (hv : Val B n S) (k : Int) (l : Nat) (he : loose n S = [l]) (hk : -(2 ^ 60) < k ∧ k < 2 ^ 60) (t : List Arc) (h : LpBad (arcsOf B k l S) n t) :
    pre_held CN CR [netS CN B n S, .d (tupI [k])] (.d (.tuple [.str "ring", encW (wayB t)]))
theorem cal_held (T : Txt K mg CN CR) : C8.Cal P w K mg base 6 "held" (spP (pre_held CN CR)) [] := by
  have C_places_of := cal_places_of (P := P) (w := w) (base := base) T
  have C_check_row := cal_check_row (P := P) (w := w) (base := base) T
  have C_as_moments := cal_as_moments (P := P) (w := w) (base := base) T
  refine calP 0 T.d_held sc_held (by intro ss r h; cases h <;> rfl) (fun f cdv A outer s H E hr => ⟨_, (pss_cons (ps_asg (C8.pe_c C_places_of hr (by decide) (by rfl) (pa_cons (pv 0) (pa_cons (C8.pe_c C_check_row hr (by decide) (by rfl) (pa_cons (pv 0) (pa_cons (pv 1) pa_nil))) pa_nil))) (kpg_tup K (n := 2) rfl (pgs_cons (pg_name (i := 2) sc_held.nd rfl (.inl rfl)) (pgs_cons (pg_name (i := 3) sc_held.nd rfl (.inl rfl)) pgs_nil))))
      (pss_one (ps_ret (pe_ifExp (pt_cmpR op_isN (pv 2) pe_non (nomark _)) (pe_tup (pa_cons pe_str (pa_cons (pv 3) pa_nil))) (pe_tup (pa_cons pe_str (pa_cons (C8.pe_c C_as_moments hr (by decide) (by rfl) (pa_cons (pv 0) (pa_cons (pv 2) pa_nil))) pa_nil))))))), ?_⟩)
  intro ss r h; cases h <;> refine ⟨Nat.le_of_ble_eq_true rfl, rfl, ?_⟩
  · rename_i B n S hv k l he hk h d d' hd hd'
    have hnm := hv.nm
    refine sx_seq (sx_asgG (ev_call (ea_cons (ev_var rfl rfl) (ea_cons (ev_call (ea_cons (ev_var rfl rfl) (ea_cons (ev_var rfl rfl) ea_nil)) (pre_check_row.mk B n S hv [k] (by rw [he]; rfl)) rfl rfl) ea_nil)) (pre_places_of.ok B n S hv k l he hk h d d' hd hd') rfl rfl) (gx_tup (gxl_cons gx_name (gxl_cons gx_name gxl_nil)) rfl) ?_)
    refine sx_ret (ev_if (b := false) (et_test (ev_op (ev_var rfl rfl) ev_non rv_isN)) (fun h => nomatch h) fun _ => ?_) (.d rfl)
    refine ev_is (ev_tup (ed_cons ev_str (ed_cons (ev_call (ea_cons (ev_var rfl rfl) (ea_cons (ev_var rfl rfl) ea_nil)) (pre_as_moments.mk B n S hv _ (by rw [List.length_map, List.length_range]; omega)) rfl rfl) ed_nil)) lk) ?_
    rw [List.map_map]
    rfl
  · rename_i B n S hv k l he hk t h
    refine sx_seq (sx_asgG (ev_call (ea_cons (ev_var rfl rfl) (ea_cons (ev_call (ea_cons (ev_var rfl rfl) (ea_cons (ev_var rfl rfl) ea_nil)) (pre_check_row.mk B n S hv [k] (by rw [he]; rfl)) rfl rfl) ea_nil)) (pre_places_of.bad B n S hv k l he hk t h) rfl rfl) (gx_tup (gxl_cons gx_name (gxl_cons gx_name gxl_nil)) rfl) ?_)
    exact sx_ret (ev_if (b := true) (et_test (ev_op (ev_var rfl rfl) ev_non rv_isN)) (fun _ => ev_tup (ed_cons ev_str (ed_cons (ev_var rfl rfl) ed_nil)) lk) (fun h => nomatch h)) (.d rfl)
end
end Z
end
section
namespace Z
open PySem PySem.Spec PyProof.Rows L2
abbrev encT (q : Stp) : PyData := .tuple [encP q.1, intN q.2]
/-- what is changed by no cell may be written, where it is new -/
theorem Ok.wr0 {b : Bs} {as : List Addr} {H : Hp} {σ : L2.St} {ρ : List Sl} {cs : Cs} (k : Ok b as H σ ρ cs) {a : Addr} {o : HO} (hm : b.M0 a) (h0 : b.H0 a = none) : Ok b as (upd H a o) σ ρ cs ∧ b.G as cs (upd H a o) = b.G as cs H := by
  have ge : b.G as cs (upd H a o) = b.G as cs H := fz_upd (.inl hm)
  refine ⟨⟨⟨fun x u h n => ?_, fun x m => ?_, k.h.rl, k.h.nd, k.h.nw, k.h.nm, fun i c h1 => ?_, by rw [ge]; exact k.h.fl, k.h.al⟩, k.len, fun i s h => by rw [ge]; exact k.sl i s h⟩, ge⟩
  · have ne : x ≠ a := fun z => by
      subst z
      rw [h0] at h; cases h
    rw [upd_ne ne]; exact k.h.ext x u h n
  · by_cases e : x = a
    · exact ⟨o, by rw [e, upd_same]⟩
    · rw [upd_ne e]; exact k.h.m0 x m
  · obtain ⟨x, h2, h3⟩ := k.h.ce i c h1
    have ne : x ≠ a := fun z => k.h.nm i c x h1 h2 (z ▸ hm)
    exact ⟨x, h2, by rw [ge]; exact h3.mono (Same.refl _) (upd_ne ne)⟩
/-- a list of n new lists, at D: their addresses ns, what they hold -/
structure NstC (G H : Hp) (ns : List Addr) (st : Nat → List PyData) : Prop where
  c : ∀ (i : Nat) a, ns[i]? = some a → ∃ xs, H a = some (.lst xs) ∧ DqA G xs (st i)
theorem NstC.mono {G G' H H' : Hp} {ns : List Addr} {st : Nat → List PyData} (k : NstC G H ns st) (e : Same G G') (e' : Same H H') : NstC G' H' ns st := ⟨fun i a h => by
  obtain ⟨xs, h1, h2⟩ := k.c i a h
  exact ⟨xs, e' _ _ h1, h2.mono e⟩⟩
section
variable {K : PySem.W.Frag}
/-- ds[i].append(e) -/
theorem nst_app {b : Bs} {as : List Addr} {H : Hp} {σ : L2.St} {ρ : List Sl} {cs : Cs} {D : Addr} {ns : List Addr} {st : Nat → List PyData} {x : Nat} {d : PyData} {te : TE} {jD jx : Nat} {Q : L2.St → Hp → Prop} (ok : Ok b as H σ ρ cs) (nd : ns.Nodup) (hm : ∀ a ∈ ns, b.M0 a ∧ b.H0 a = none)
    (hD : (b.G as cs H) D = some (.lst (ns.map V.ref))) (c : NstC (b.G as cs H) H ns st) (h1 : ρ[jD]? = some (.w (.ref D))) (h2 : ρ[jx]? = some (.d (intN x))) (hx : x < ns.length) (hl : (st x).length < 100000) (he : EvA te ρ cs (.d d))
    (k : ∀ H', Same (b.G as cs H) (b.G as cs H') → Ok b as H' σ ρ cs → NstC (b.G as cs H') H' ns (fun i => if i = x then st i ++ [d] else st i) → Q σ H') :
    tBM K "list" rAppend (tOp (rIx K) (tVar jD) (tVar jx)) (tCons te tNil) σ H fun _ H1 => Q σ H1 := by
  rcases ok.sl jD _ h1 with e | ⟨v, s1, s2⟩
  · cases e
  rcases ok.sl jx _ h2 with e | ⟨u, s3, s4⟩
  · cases e
  have s2' : v = .ref D := s2
  subst s2'
  cases s4
  obtain ⟨xs0, q1, q2⟩ := c.c x ns[x] (List.getElem?_eq_getElem hx)
  refine ⟨_, s1, _, s3, .inl ⟨D, ns.map V.ref, x, .ref ns[x], rfl, rfl, SqL.of (ok.h.gle _ _ hD), atI_nat (by rw [List.getElem?_map, List.getElem?_eq_getElem hx]; rfl), .inl ⟨rfl, xs0, SqL.of q1⟩, ?_⟩⟩
  refine he b as H σ ok _ fun y H2 e2 r2 => ?_
  have ok2 := ok.mono e2
  have hmx := hm ns[x] (List.getElem_mem hx)
  obtain ⟨ok3, ge⟩ := ok2.wr0 (o := .lst (xs0 ++ [y])) hmx.1 hmx.2
  refine ⟨ns[x], xs0, y, rfl, rfl, e2 _ _ q1, by rw [q2.length]; exact Nat.lt_of_lt_of_le hl (by decide), k _ (by rw [ge]; exact fz_mono e2) ok3 ⟨fun i a hi => ?_⟩⟩
  rw [ge]
  by_cases e : i = x
  · subst e
    rw [List.getElem?_eq_getElem hx] at hi
    cases hi
    refine ⟨_, upd_same, ?_⟩
    rw [if_pos rfl]
    exact (q2.mono (fz_mono e2)).snoc r2
  · obtain ⟨ys, q3, q4⟩ := c.c i a hi
    have ne : a ≠ ns[x] := fun z => by
      subst z
      have hi' := (List.getElem?_eq_some_iff.mp hi)
      exact e ((List.getElem_inj nd).mp (hi'.2.trans rfl))
    refine ⟨ys, by rw [upd_ne ne]; exact e2 _ _ q3, ?_⟩
    rw [if_neg e]
    exact q4.mono (fz_mono e2)
theorem nst_drop {b : Bs} {as : List Addr} {H : Hp} {σ : L2.St} {ρ : List Sl} {cs : Cs} {D : Addr} {ns : List Addr} {st : Nat → List PyData} {x : Nat} {d : PyData} {te : TE} {jD jx : Nat} {E0 : Ends} (ok : Ok b as H σ ρ cs) (nd : ns.Nodup) (hm : ∀ a ∈ ns, b.M0 a ∧ b.H0 a = none)
    (hD : (b.G as cs H) D = some (.lst (ns.map V.ref))) (c : NstC (b.G as cs H) H ns st) (h1 : ρ[jD]? = some (.w (.ref D))) (h2 : ρ[jx]? = some (.d (intN x))) (hx : x < ns.length) (hl : (st x).length < 100000) (he : EvA te ρ cs (.d d))
    (k : ∀ H', Same (b.G as cs H) (b.G as cs H') → Ok b as H' σ ρ cs → NstC (b.G as cs H') H' ns (fun i => if i = x then st i ++ [d] else st i) → E0.nx σ H') :
    tDrop (tBM K "list" rAppend (tOp (rIx K) (tVar jD) (tVar jx)) (tCons te tNil)) E0 σ H := nst_app (Q := E0.nx) ok nd hm hD c h1 h2 hx hl he k
theorem raw_asg {te : TE} {g : TG} {us : TS} {D : Ends} {σ : L2.St} {H : Hp} (h : te σ H fun x H1 => g x σ H1 (us D)) : tSeq (tAsg te g) us D σ H := h
theorem raw_seq {ts us : TS} {D : Ends} {σ : L2.St} {H : Hp} (h : ts { D with nx := us D } σ H) : tSeq ts us D σ H := h
theorem raw_drop {te : TE} {D : Ends} {σ : L2.St} {H : Hp} (h : te σ H fun _ H1 => D.nx σ H1) : tDrop te D σ H := h
/-- [[] for _ in range(n)] -/
theorem nst_new {b : Bs} {as : List Addr} {H : Hp} {σ : L2.St} {ρ : List Sl} {cs : Cs} {wi : TI} {j n : Nat} {ds : List PyData} (ok : Ok b as H σ ρ cs) (h : EvI wi ρ cs ds) (hd : ds.length = n) (hn : n ≤ 1000) (Q : VK)
    (k : ∀ (D : Addr) (H1 : Hp) (ns : List Addr), Same H H1 → H D = none → (∀ a ∈ ns, H a = none ∧ a ≠ D) → ns.Nodup → ns.length = n → H1 D = some (.lst (ns.map V.ref)) → (∀ a ∈ ns, H1 a = some (.lst [])) → Q (.ref D) H1) :
    tLc wi (gName j) tYes (tLst tNil) [j] σ H Q := h b as H σ ok _ fun J H1 e1 it D hD => by
  have ok1 := ok.mono e1
  have s0 := same_upd (o := .lst []) hD
  refine ⟨fun i m H => m = n - i ∧ i ≤ n ∧ Same H1 (upd H D (.lst [])) ∧ ∃ ns : List Addr, ns.length = i ∧ ns.Nodup ∧ H D = some (.lst (ns.map V.ref)) ∧ ∀ a ∈ ns, H1 a = none ∧ a ≠ D ∧ H a = some (.lst []),
    ⟨n, by simp, Nat.zero_le _, by rw [upd_upd]; exact s0, [], rfl, by simp, upd_same, by simp⟩, ?_⟩
  rintro i m H2 ⟨rfl, hi, sm, ns, hl, nd, hacc, hns⟩
  have e12 : Same H1 H2 := fun a o h => by
    have := sm a o h
    have ne : a ≠ D := ne_of_none h hD
    rwa [upd_ne ne] at this
  have eG : Same (b.G as cs H1) H2 := fun a o h => e12 a o (fz_le a o h)
  obtain ⟨go, stop, yld⟩ := it H2 eG
  rw [hd] at go stop yld
  by_cases hlt : i < n
  · refine .inr ⟨go i hlt, fun H => i + 1 ≤ n ∧ Same H1 (upd H D (.lst [])) ∧ ∃ ns : List Addr, ns.length = i + 1 ∧ ns.Nodup ∧ H D = some (.lst (ns.map V.ref)) ∧ ∀ a ∈ ns, H1 a = none ∧ a ≠ D ∧ H a = some (.lst []), fun H' p' => ⟨n - (i + 1), by omega, rfl, p'⟩, fun x H3 y => ?_⟩
    obtain ⟨e3, _⟩ := yld i x H3 hlt y
    refine ⟨?_, ?_⟩
    · simp [wipe]
    · refine ⟨Nat.zero_le _, fun p hp => ?_⟩
      have h3D := e3 _ _ hacc
      have hpD : D ≠ p := ne_of_none h3D hp
      have s4 := same_upd (o := .lst []) hp
      refine ⟨_, s4 _ _ h3D, by rw [List.length_map, hl]; exact Nat.lt_of_lt_of_le hlt (Nat.le_trans hn (by decide)), hlt, ?_, ns ++ [p], by simp [hl], ?_, ?_, ?_⟩
      · rw [upd_upd]
        intro a o h
        have ne : a ≠ D := ne_of_none h hD
        rw [upd_ne ne]
        exact s4 _ _ (e3 _ _ (e12 _ _ h))
      · refine List.nodup_append.mpr ⟨nd, by simp, fun a ha c hc => ?_⟩
        rw [List.mem_singleton] at hc
        subst hc
        exact ne_of_none (e3 _ _ (hns a ha).2.2) hp
      · rw [upd_same, List.map_append]; rfl
      · intro a ha
        rcases List.mem_append.mp ha with ha | ha
        · obtain ⟨z1, z2, z3⟩ := hns a ha
          exact ⟨z1, z2, by rw [upd_ne z2]; exact s4 _ _ (e3 _ _ z3)⟩
        · rw [List.mem_singleton] at ha
          subst ha
          refine ⟨?_, Ne.symm hpD, by rw [upd_ne (Ne.symm hpD), upd_same]⟩
          cases q : H1 a with
          | none => rfl
          | some o =>
            have := e3 _ _ (e12 _ _ q)
            rw [hp] at this; cases this
  · have e : i = n := by omega
    subst e
    exact .inl ⟨stop, k D H2 ns (e1.trans e12) (e1.free hD) (fun a ha => ⟨e1.free (hns a ha).1, (hns a ha).2.1⟩) nd hl hacc fun a ha => (hns a ha).2.2⟩
end
section
variable {P : Program} {w : World} {K : PySem.W.Frag} {mg : Str → Option Value} {base : Heap} {CN CR : Addr}
abbrev stepsD (n : Nat) (S : List Span) : PyData := .list ((List.range n).map fun x => .list ((stepsAt S (kept n S) x).map encT))
inductive pre_tree_steps (CN CR : Addr) : List Sl → Sl → Prop
  | mk (B : Int) (n : Nat) (S : List Span) (hv : Val B n S) : pre_tree_steps CN CR [netS CN B n S] (.d (stepsD n S))
theorem cal_tree_steps (T : Txt K mg CN CR) : C8.Cal P w K mg base 3 "tree_steps" (spP (pre_tree_steps CN CR)) [] := by
  have C_tree := cal_tree (P := P) (w := w) (base := base) T
  refine calP 0 T.d_tree_steps sc_tree_steps (by intro ss r h; cases h <;> rfl) (fun f cdv A outer s H E hr => ⟨_, (pss_cons (ps_setLc (i := 1) (own := [("event", 5)]) rfl sc_tree_steps.nd rfl rfl (sw_true rfl rfl rfl (by decide +kernel)) (pi_range1 (by rfl) T.z_range (pa_cons (kpe_fld K (pv 0) rfl) pa_nil)) (blkOk_by (N := ["net", "found", "index", "one", "other", "event"]) (sc := defScope s_tree_steps) (by decide +kernel)) (fun _ _ _ _ _ => (pg_name (i := 5) sc_tree_steps.nd rfl (.inl rfl))) (fun _ _ _ _ _ => pts_nil) (fun _ _ _ _ _ => (pe_lst pa_nil)))
      (pss_cons (ps_for PassesOwn.never rfl (kpi_tup K (C8.pe_c C_tree hr (by decide) (by rfl) (pa_cons (pv 0) pa_nil))) (pg_name (i := 2) sc_tree_steps.nd rfl (.inl rfl))
        (pss_cons (ps_asg (pe_slice (r := rSlX K) (SlR.or sl_list sl_tupA) (pe_ix (r := rIx K) ix_seq (kpe_fld K (pv 0) rfl) (pv 2) (fun _ _ => rfl)) po_none (po_some pe_int)) (kpg_tup K (n := 2) rfl (pgs_cons (pg_name (i := 3) sc_tree_steps.nd rfl (.inl rfl)) (pgs_cons (pg_name (i := 4) sc_tree_steps.nd rfl (.inl rfl)) pgs_nil))))
        (pss_cons (ps_expr (kpe_bm K PySem.F.plainAttrs_list PySem.F.slot_list_append PySem.F.type_list_append mt_append (pe_ix (r := rIx K) ix_seq (pv 1) (pv 3) (fun _ _ => rfl)) (pa_cons (pe_tup (pa_cons (pe_tup (pa_cons (pv 2) (pa_cons pe_bl pa_nil))) (pa_cons (pv 4) pa_nil))) pa_nil)))
        (pss_one (ps_expr (kpe_bm K PySem.F.plainAttrs_list PySem.F.slot_list_append PySem.F.type_list_append mt_append (pe_ix (r := rIx K) ix_seq (pv 1) (pv 4) (fun _ _ => rfl)) (pa_cons (pe_tup (pa_cons (pe_tup (pa_cons (pv 2) (pa_cons pe_bl pa_nil))) (pa_cons (pv 3) pa_nil))) pa_nil)))))))
      (pss_one (ps_ret (pv 1))))), ?_⟩)
  intro ss r h; cases h <;> refine ⟨Nat.le_of_ble_eq_true rfl, rfl, ?_⟩
  rename_i B n S hv
  have hnm := hv.nm
  have hsm := hv.sm
  intro b as H σ ok E hnx hrt
  refine raw_asg ?_
  refine nst_new (n := n) ok (ei_rangeN (n := n) (evn_events T (ev_var (i := 0) rfl rfl)) (by omega)) (by simp) (by omega) _ fun D H1 ns e1 hD hns nd hlen hD1 hns1 => ?_
  have hM : ∀ a ∈ ns, ¬ b.M as (List.replicate 0 none) a := fun a ha => ok.h.fresh (hns a ha).1
  have ok1 := ok.mono e1
  let M' : Addr → Prop := fun a => b.M0 a ∨ a ∈ ns
  let b' : Bs := ⟨b.H0, M', b.R, fz M' H1, b.r1⟩
  have nolv : ∀ (as : List Addr) a, ¬ lv [] as a := fun as a ⟨k, c, h1, _⟩ => by simp at h1
  have me : ∀ as, b.M as [] = b.M0 := fun as => by
    funext a
    exact propext ⟨fun m => m.elim id fun l => (nolv _ _ l).elim, .inl⟩
  have me' : ∀ as, b'.M as [] = M' := fun as => by
    funext a
    exact propext ⟨fun m => m.elim id fun l => (nolv _ _ l).elim, .inl⟩
  have gs : ∀ (as as' : List Addr) (H : Hp), Same (b'.G as [] H) (b.G as' [] H) := fun as as' H => by
    unfold Bs.G
    rw [me, me']
    exact fz_anti fun a m => .inl m
  have ge' : b'.G as [] H1 = b'.F := by
    unfold Bs.G
    rw [me']
  have gs1 : Same (b.G as [] H) (b'.G as [] H1) := fun x u hx => by
    have hm := fz_not hx
    have hx' := fz_le x u hx
    unfold Bs.G
    rw [me', fz_out]
    · exact e1 x u hx'
    · rintro (m | m)
      · exact hm (.inl m)
      · rw [(hns x m).1] at hx'; cases hx'
  have hs1 : ∀ a ∈ ns, M' a := fun a ha => .inr ha
  have hm : ∀ a ∈ ns, b'.M0 a ∧ b'.H0 a = none := fun a ha => ⟨.inr ha, ok.h.fresh0 (hns a ha).1⟩
  have hDM : ¬ M' D := by
    rintro (m | m)
    · exact ok.h.fresh hD (.inl m)
    · exact (hns D m).2 rfl
  have hDF : b'.F D = some (.lst (ns.map V.ref)) := by
    show fz M' H1 D = _
    rw [fz_out hDM]
    exact hD1
  have hDG : ∀ {as : List Addr} {H : Hp} {σ : L2.St} {ρ : List Sl}, Ok b' as H σ ρ [] → (b'.G as [] H) D = some (.lst (ns.map V.ref)) := fun k => k.h.fl _ _ hDF
  have ok2 : Ok b' as H1 (σ.set 1 (some (.ref D))) [netS CN B n S, .w (.ref D), .un, .un, .un, .un] [] := by
    have z : Ok b' as H1 σ [netS CN B n S, .un, .un, .un, .un, .un] [] := by
      refine ⟨⟨ok1.h.ext, fun a m => ?_, ok1.h.rl, fun k k' c c' a h1 => by simp at h1, fun k c a h1 => by simp at h1, fun k c a h1 => by simp at h1, fun k c h1 => by simp at h1, by rw [ge']; exact Same.refl _, ok1.h.al⟩, ok1.len, fun i s h => (ok.sl i s h).imp id fun ⟨v, a, c⟩ => ⟨v, a, c.mono gs1⟩⟩
      rcases m with m | m
      · exact ok1.h.m0 a m
      · exact ⟨_, hns1 a m⟩
    exact z.store (s := .w (.ref D)) rfl
  have c0 : NstC (b'.G as [] H1) H1 ns fun i => (stepsAt S ((kept n S).take 0) i).map encT := ⟨fun i a hi => ⟨[], hns1 a (List.mem_of_getElem? hi), .nil⟩⟩
  -- the loop
  refine raw_seq ?_
  refine ei_tup (ev_call (ea_cons (ev_var rfl rfl) ea_nil) (pre_tree.mk B n S hv) rfl rfl) b' as H1 _ ok2 _ fun J H2 e2 it => ?_
  have hkl := kept_len (n := n) (S := S)
  let Inv : Nat → L2.St → Hp → Prop := fun i σ H => i ≤ (kept n S).length ∧ ∃ a2 a3 a4 : Sl, Ok b' as H σ [netS CN B n S, .w (.ref D), a2, a3, a4, .un] [] ∧ Same (b'.G as [] H2) (b'.G as [] H) ∧ NstC (b'.G as [] H) H ns fun x => (stepsAt S ((kept n S).take i) x).map encT
  refine ⟨fun i m σ H => m = (kept n S).length - i ∧ Inv i σ H, ⟨_, rfl, Nat.zero_le _, _, _, _, ok2.mono e2, Same.refl _, c0.mono (fz_mono e2) e2⟩, ?_⟩
  rintro i m σ3 H3 ⟨rfl, hi, a2, a3, a4, ok3, g3, c3⟩
  obtain ⟨go, stop, yld⟩ := it H3 (fun a o h => fz_le a o (g3 a o h))
  rw [List.length_map] at go stop yld
  by_cases hlt : i < (kept n S).length
  · refine .inr ⟨go i hlt, Inv (i + 1), fun σ' H' p' => ⟨_, by omega, rfl, p'⟩, fun x H4 y => ?_⟩
    obtain ⟨e4, yd⟩ := yld i x H4 hlt y
    have hx : (kept n S)[i]? = some (kept n S)[i] := List.getElem?_eq_getElem hlt
    have hxs : (kept n S)[i] < S.length := kept_lt _ (List.getElem_mem hlt)
    generalize hxe : (kept n S)[i] = x0 at hx hxs
    have ok4 := ok3.mono e4
    have dq : Dq (b'.G as [] H4) x (intN x0) := yd (b'.M as []) (fun a m => ok3.h.live m) g3 _ (by rw [List.getElem?_map, hx]; rfl)
    have ok5 := ok4.store (i := 2) (s := .d (intN x0)) (v := x) dq
    have c5 := c3.mono (fz_mono (M := b'.M as []) e4) e4
    have hsp := hv.sp (spanAt S x0) (by
      unfold spanAt
      rw [List.getD_eq_getElem?_getD, List.getElem?_eq_getElem hxs]
      exact List.getElem_mem _)
    have hstl : ∀ y, ((stepsAt S ((kept n S).take i) y).map encT).length < 50000 := fun y => by
      have : ∀ ks : List Nat, (stepsAt S ks y).length ≤ 2 * ks.length := by
        intro ks
        induction ks with
        | nil => exact Nat.le_refl _
        | cons k ks ih =>
          unfold stepsAt at ih ⊢
          rw [List.flatMap_cons, List.length_append, List.length_append, List.length_cons]
          have h1 : (if (spanAt S k).a = y then [((k, true), (spanAt S k).b)] else []).length ≤ 1 := by split <;> simp
          have h2 : (if (spanAt S k).b = y then [((k, false), (spanAt S k).a)] else []).length ≤ 1 := by split <;> simp
          omega
      rw [List.length_map]
      have := this ((kept n S).take i)
      rw [List.length_take] at this
      omega
    refine raw_asg ?_
    refine (ev_to (n := 2) (ev_op (evn_spans T (ev_var rfl rfl)) (ev_var rfl rfl) (rv_ixn .t (spanAt_get hxs))) eo_none (eo_some ev_int)) b' as H4 _ ok5 _ fun v H6 e6 r6 => ?_
    refine (gx_tup (gxl_cons gx_name (gxl_cons gx_name gxl_nil)) rfl) b' as H6 _ v (ok5.mono e6) r6 _ fun σ7 ok7 _ _ => ?_
    have c7 := c5.mono (fz_mono (M := b'.M as []) e6) e6
    refine raw_seq (nst_drop ok7 nd hm (hDG ok7) c7 rfl rfl (by rw [hlen]; exact hsp.1) (Nat.lt_trans (hstl _) (by decide)) (ev_tup (ed_cons (ev_tup (ed_cons (ev_var (i := 2) rfl rfl) (ed_cons (ev_bl (i := true)) ed_nil)) lk) (ed_cons (ev_var (i := 4) rfl rfl) ed_nil)) lk) fun H8 g8 ok8 c8 => ?_)
    have hstl2 : (if (spanAt S x0).b = (spanAt S x0).a then (stepsAt S ((kept n S).take i) (spanAt S x0).b).map encT ++ [PyData.tuple [.tuple [.int (x0 : Int), .bool true], .int ((spanAt S x0).b : Int)]] else (stepsAt S ((kept n S).take i) (spanAt S x0).b).map encT).length < 100000 := by
      have := hstl (spanAt S x0).b
      split
      · rw [List.length_append]; show _ + 1 < _; omega
      · omega
    refine nst_drop ok8 nd hm (hDG ok8) c8 rfl rfl (by rw [hlen]; exact hsp.2.1) hstl2 (ev_tup (ed_cons (ev_tup (ed_cons (ev_var (i := 2) rfl rfl) (ed_cons (ev_bl (i := false)) ed_nil)) lk) (ed_cons (ev_var (i := 3) rfl rfl) ed_nil)) lk) fun H9 g9 ok9 c9 => ?_
    refine ⟨hlt, _, _, _, ok9, ((g3.trans (fz_mono (e4.trans e6))).trans g8).trans g9, ⟨fun j a hj => ?_⟩⟩
    obtain ⟨xs, q1, q2⟩ := c9.c j a hj
    refine ⟨xs, q1, ?_⟩
    have tk : (kept n S).take (i + 1) = (kept n S).take i ++ [x0] := by rw [List.take_add_one, hx]; rfl
    rw [tk, stepsAt_snoc, List.map_append, List.map_append]
    have hne : (spanAt S x0).a ≠ (spanAt S x0).b := hsp.2.2.1
    by_cases h1 : (spanAt S x0).a = j
    · have h2 : ¬ (spanAt S x0).b = j := fun z => hne (h1.trans z.symm)
      rw [if_pos h1, if_neg h2]
      rw [if_neg (fun z => h2 z.symm), if_pos h1.symm] at q2
      rw [List.map_nil, List.append_nil]
      exact q2
    · rw [if_neg h1]
      by_cases h2 : (spanAt S x0).b = j
      · rw [if_pos h2]
        rw [if_pos h2.symm, if_neg (fun z => h1 z.symm)] at q2
        exact q2
      · rw [if_neg h2]
        rw [if_neg (fun z => h2 z.symm), if_neg (fun z => h1 z.symm)] at q2
        rw [List.map_nil, List.append_nil, List.append_nil]
        exact q2
  · have e : i = (kept n S).length := by omega
    subst e
    refine .inl ⟨stop, ?_⟩
    rw [List.take_length] at c3
    rcases ok3.sl 1 _ rfl with z | ⟨v, s1, s2⟩
    · cases z
    have s2' : v = .ref D := s2
    subst s2'
    refine ⟨.ref D, s1, hrt as H3 [] (.d (stepsD n S)) (.ref D) (.d rfl) ⟨ok3.h.ext, fun a m => ok3.h.m0 a (.inl m), ok3.h.rl, fun k k' c c' a h1 => by simp at h1, fun k c a h1 => by simp at h1, fun k c a h1 => by simp at h1, fun k c h1 => by simp at h1, ?_, ok3.h.al⟩ ?_⟩
    · exact ((ok.h.fl.trans gs1).trans (by rw [ge']; exact ok3.h.fl)).trans (gs as as H3)
    · have hG : (b.G as [] H3) D = some (.lst (ns.map V.ref)) := gs as as H3 _ _ (hDG ok3)
      refine .lst hG ?_
      have key : ∀ (xs : List Addr) (m : Nat), (∀ (j : Nat) a, xs[j]? = some a → ∃ ys, (b.G as [] H3) a = some (.lst ys) ∧ DqA (b.G as [] H3) ys ((stepsAt S (kept n S) (m + j)).map encT)) →
          DqA (b.G as [] H3) (xs.map V.ref) ((List.range' m xs.length).map fun x => PyData.list ((stepsAt S (kept n S) x).map encT)) := by
        intro xs
        induction xs with
        | nil => intro m _; exact .nil
        | cons a xs ih =>
          intro m h
          obtain ⟨ys, h1, h2⟩ := h 0 a rfl
          refine .cons (.lst h1 h2) (ih (m + 1) fun j a' hj => ?_)
          have := h (j + 1) a' (by simpa using hj)
          rw [show m + 1 + j = m + (j + 1) by omega]
          exact this
      have := key ns 0 fun j a hj => by
        obtain ⟨ys, h1, h2⟩ := c3.c j a hj
        rw [Nat.zero_add]
        refine ⟨ys, ?_, h2.mono (gs as as H3)⟩
        unfold Bs.G
        rw [fz_out]
        · exact h1
        · rw [me]
          exact fun m => hM a (List.mem_of_getElem? hj) (.inl m)
      rw [hlen, ← List.range_eq_range'] at this
      exact this
end
end Z
end
section
namespace Z
open PySem PySem.Spec PyProof.Rows L2
/-- ways by where they lead, as a dict -/
def encF (F : Nat → Option Way) : Int → Option PyData := fun k => if 0 ≤ k then (F k.toNat).map encW else none
theorem encF_nat (F : Nat → Option Way) (x : Nat) : encF F (x : Int) = (F x).map encW := by
  unfold encF
  rw [if_pos (by omega), Int.toNat_natCast]
theorem encF_put (F : Nat → Option Way) (x : Nat) (v : Way) : (fun m : Int => if m = (x : Int) then some (encW v) else encF F m) = encF (fun m => if m = x then some v else F m) := by
  funext m
  unfold encF
  by_cases h0 : 0 ≤ m
  · rw [if_pos h0, if_pos h0]
    by_cases e : m = (x : Int)
    · dsimp only
      rw [if_pos e, if_pos (by omega)]; rfl
    · dsimp only
      rw [if_neg e, if_neg (by omega)]
  · rw [if_neg h0, if_neg (by omega), if_neg h0]
def F0 (b : Nat) : Nat → Option Way := fun m => if m = b then some [] else none
theorem encF_0 (b : Nat) : (fun j : Int => if j = (b : Int) then some (PyData.tuple []) else none) = encF (F0 b) := by
  funext m
  unfold encF F0
  by_cases h0 : 0 ≤ m
  · rw [if_pos h0]
    by_cases e : m = (b : Int)
    · rw [if_pos e, if_pos (by omega)]; rfl
    · rw [if_neg e, if_neg (by omega)]; rfl
  · rw [if_neg h0, if_neg (by omega)]
/-- how many are not yet found -/
def unf (n : Nat) (F : Nat → Option Way) : Nat := ((List.range n).filter fun x => (F x).isNone).length
theorem unf_put {n : Nat} {F : Nat → Option Way} {x : Nat} {v : Way} (hx : x < n) (h : F x = none) : unf n (fun m => if m = x then some v else F m) + 1 = unf n F := by
  unfold unf
  have key : ∀ l : List Nat, l.Nodup → (l.filter fun m => (if m = x then some v else F m).isNone).length + (if x ∈ l then 1 else 0) = (l.filter fun m => (F m).isNone).length := by
    intro l
    induction l with
    | nil => intro _; simp
    | cons a l ih =>
      intro nd
      obtain ⟨n1, n2⟩ := List.nodup_cons.mp nd
      have := ih n2
      by_cases e : a = x
      · subst e
        rw [if_neg n1] at this
        rw [List.filter_cons, List.filter_cons, if_pos List.mem_cons_self]
        simp only [if_true, h, Option.isNone_some, Option.isNone_none, Bool.false_eq_true, if_false]
        rw [List.length_cons]
        omega
      · have e2 : (x ∈ a :: l) ↔ x ∈ l := by
          rw [List.mem_cons]
          exact ⟨fun z => z.resolve_left (Ne.symm e), .inr⟩
        rw [List.filter_cons, List.filter_cons, if_neg e]
        simp only [e2]
        split
        · rw [List.length_cons, List.length_cons]; omega
        · exact this
  have := key (List.range n) List.nodup_range
  rw [if_pos (List.mem_range.mpr hx)] at this
  exact this
theorem unf_0 {n b : Nat} (hb : b < n) : unf n (F0 b) + 1 = n := by
  have := unf_put (F := fun _ => none) (v := []) hb rfl
  have e : unf n (fun _ => none) = n := by
    unfold unf
    have e1 : (List.range n).filter (fun _ => ((none : Option Way)).isNone) = List.range n := List.filter_eq_self.mpr fun _ _ => rfl
    exact (congrArg List.length e1).trans List.length_range
  rw [e] at this
  exact this
/-- what holds of what is found from b: all are ways, closed but for what waits -/
structure Fnd (n : Nat) (S : List Span) (b : Nat) (F : Nat → Option Way) : Prop where
  ways : ∀ y w, F y = some w → KP n S b w y ∧ ∀ z ∈ nodesW S b w, (F z).isSome
  b0 : F b = some []
theorem Fnd.put {n : Nat} {S : List Span} {b : Nat} {F : Nat → Option Way} (h : Fnd n S b F) {x : Nat} {w : Way} {p : Nat × Bool} (hx : F x = some w) (hp : p.1 ∈ kept n S) (hs : src S p = x) (hn : F (dst S p) = none) : Fnd n S b fun m => if m = dst S p then some (w ++ [p]) else F m := by
  have mono : ∀ z, (F z).isSome → ((fun m => if m = dst S p then some (w ++ [p]) else F m) z).isSome := fun z hz => by
    show (if z = dst S p then some (w ++ [p]) else F z).isSome
    split
    · rfl
    · exact hz
  refine ⟨fun y v hv => ?_, ?_⟩
  · by_cases e : y = dst S p
    · subst e
      simp only [if_true, Option.some.injEq] at hv
      subst hv
      obtain ⟨h1, h2⟩ := h.ways x w hx
      have hnn : dst S p ∉ nodesW S b w := fun z => by
        have := h2 _ z
        rw [hn] at this
        cases this
      refine ⟨h1.snoc hp hs hnn, fun z hz => ?_⟩
      rw [nodesW_append] at hz
      rcases List.mem_append.mp hz with hz | hz
      · exact mono z (h2 z hz)
      · rw [List.map_singleton, List.mem_singleton] at hz
        subst hz
        simp
    · simp only [if_neg e] at hv
      obtain ⟨h1, h2⟩ := h.ways y v hv
      exact ⟨h1, fun z hz => mono z (h2 z hz)⟩
  · show (if b = dst S p then some (w ++ [p]) else F b) = some []
    rw [if_neg fun e => by rw [← e, h.b0] at hn; cases hn]
    exact h.b0
theorem Fnd.done {B : Int} {n : Nat} {S : List Span} (hv : Val B n S) {b : Nat} {F : Nat → Option Way} (h : Fnd n S b F) (cl : ∀ y, (F y).isSome → ∀ q ∈ stepsAt S (kept n S) y, (F q.2).isSome) : F = reachF n S b := by
  have all : ∀ {x y : Nat} {w : Way}, IsWalk S x w y → (∀ p ∈ w, p.1 ∈ kept n S) → (F x).isSome → (F y).isSome := fun hw => by
    induction hw with
    | nil => exact fun _ h => h
    | @cons p w y hp t ih =>
      intro hk hx
      exact ih (fun q hq => hk q (List.mem_cons_of_mem _ hq)) (cl _ hx (p, dst S p) (mem_stepsAt.mpr ⟨hk p List.mem_cons_self, rfl, rfl⟩))
  funext y
  cases e : F y with
  | some w => exact (reachF_some hv (h.ways y w e).1).symm
  | none =>
    refine (reachF_none fun ⟨w, hw⟩ => ?_).symm
    have := all hw.walk hw.kp (by rw [h.b0]; rfl)
    rw [e] at this
    cases this
theorem eqv_nilL (l : List Nat) : PyData.eqv (listN l) (.list []) = decide (l = []) := by
  cases l with
  | nil => simp [PyData.eqv, PyData.eqvAll]
  | cons p w => simp [PyData.eqv, PyData.eqvAll]
section
variable {P : Program} {w : World} {K : PySem.W.Frag} {mg : Str → Option Value} {base : Heap} {CN CR : Addr}
inductive pre_ways_from (CN CR : Addr) : List Sl → Sl → Prop
  | mk (B : Int) (n : Nat) (S : List Span) (hv : Val B n S) (b : Nat) (hb : b < n) : pre_ways_from CN CR [netS CN B n S, .d (intN b)] (.dd (encF (reachF n S b)))
theorem getSteps {n : Nat} {S : List Span} {x : Nat} (h : x < n) : ((List.range n).map fun x => PyData.list ((stepsAt S (kept n S) x).map encT))[x]? = some (.list ((stepsAt S (kept n S) x).map encT)) := by
  rw [List.getElem?_map, List.getElem?_range h]
  rfl
theorem cal_ways_from (T : Txt K mg CN CR) : C8.Cal P w K mg base 4 "ways_from" (spP (pre_ways_from CN CR)) [] := by
  have C_tree_steps := cal_tree_steps (P := P) (w := w) (base := base) T
  refine calP 2 T.d_ways_from sc_ways_from (by intro ss r h; cases h <;> rfl) (fun f cdv A outer s H E hr => ⟨_, (pss_cons (ps_set (i := 2) sc_ways_from.nd rfl (.inl rfl) (C8.pe_c C_tree_steps hr (by decide) (by rfl) (pa_cons (pv 0) pa_nil)))
      (pss_cons (ps_set (i := 3) sc_ways_from.nd rfl (.inl rfl) (pe_disp (pps_cons (pv 1) (pe_tup pa_nil) pps_nil) rfl rfl (by simp) (by decide)))
      (pss_cons (ps_set (i := 4) sc_ways_from.nd rfl (.inl rfl) (pe_lst (pa_cons (pv 1) pa_nil)))
      (pss_cons (ps_while PassesOwn.never (pt_cmpR (r := rNeD K) (op_neD (hu64 hr)) (pv 4) (pe_lst pa_nil) (nomark _))
        (pss_cons (ps_set (i := 5) sc_ways_from.nd rfl (.inl rfl) (kpe_bm0 K PySem.F.plainAttrs_list PySem.F.slot_list_pop PySem.F.type_list_pop mt_pop (pv 4)))
        (pss_one (ps_for PassesOwn.never rfl (kpi_list K (pe_ix (r := rIx K) ix_seq (pv 2) (pv 5) (fun _ _ => rfl))) (kpg_tup K (n := 2) rfl (pgs_cons (pg_name (i := 6) sc_ways_from.nd rfl (.inl rfl)) (pgs_cons (pg_name (i := 7) sc_ways_from.nd rfl (.inl rfl)) pgs_nil)))
          (pss_one (ps_if (pt_cmp (pc_dnotin (hu_of hr) (pv 7) (pv 3)) rfl) (pss_cons (ps_dput (hu_of hr) (pv 3) (pv 7) (pe_op (r := rAddX K) opx_add (pe_dget (hu_of hr) (pv 3) (pv 5) (fun _ _ => rfl)) (pe_tup (pa_cons (pv 6) pa_nil))) rfl)
            (pss_one (ps_expr (kpe_bm K PySem.F.plainAttrs_list PySem.F.slot_list_append PySem.F.type_list_append mt_append (pv 4) (pa_cons (pv 7) pa_nil))))) pss_nil))))))
      (pss_one (ps_ret (pv 3))))))), ?_⟩)
  intro ss r h; cases h <;> refine ⟨Nat.le_of_ble_eq_true rfl, rfl, ?_⟩
  rename_i B n S hv b hb
  have hnm := hv.nm
  refine sx_seq (sx_asg (ev_call (ea_cons (ev_var rfl rfl) ea_nil) (pre_tree_steps.mk B n S hv) rfl rfl) ?_)
  refine sx_seq (sx_asgM 0 (em_one (ev_var rfl rfl) (ev_tup ed_nil lk)) rfl rfl ?_)
  refine sx_seq (sx_asgN 1 (en_lst (ed_cons (ev_var rfl rfl) ed_nil) lk) rfl rfl ?_)
  refine sx_seq (sx_while (fun m ρ cs => ∃ (F : Nat → Option Way) (ws : List Nat) (c : Nat) (a5 a6 a7 : Sl), Fnd n S b F ∧ (∀ y ∈ ws, (F y).isSome ∧ y < n) ∧ (∀ y, (F y).isSome → y ∉ ws → ∀ q ∈ stepsAt S (kept n S) y, (F q.2).isSome) ∧ m = unf n F + ws.length ∧ m ≤ n ∧ c + unf n F ≤ n ∧
    ρ = [netS CN B n S, .d (intN b), .d (stepsD n S), .c 0, .c 1, a5, a6, a7] ∧ cs = [some (.di (encF F) c), some (.ls (ws.map intN))]) n ⟨F0 b, [b], 1, _, _, _, ⟨fun y w h => ?_, by simp [F0]⟩, fun y hy => ?_, fun y hy hn => ?_, by have := unf_0 hb; simp; omega, Nat.le_refl _, by have := unf_0 hb; omega, rfl, by rw [← encF_0]; rfl⟩ ?_)
  · unfold F0 at h
    split at h
    · rename_i e
      cases h
      subst e
      exact ⟨KP.nil n S y, fun z hz => by
        have : z = y := by simpa [nodesW] using hz
        subst this
        simp [F0]⟩
    · cases h
  · rw [List.mem_singleton] at hy
    subst hy
    exact ⟨by simp [F0], hb⟩
  · exfalso
    unfold F0 at hy
    split at hy
    · rename_i e
      exact hn (by rw [e]; exact List.mem_cons_self)
    · cases hy
  · rintro m ρ cs ⟨F, ws, c, a5, a6, a7, hF, hws, hcl, rfl, hmn, hc, rfl, rfl⟩
    refine ⟨!decide (ws = []), et_is (et_test (ev_op (ev_var rfl rfl) (ea_en (en_lst ed_nil lk)) (rv_ne (.c rfl) .d ((shp_lst (shp_intN _)).ok lk) ((shp_lst (n := 0) (ds := []) (fun d hd => nomatch hd)).ok lk)))) (by rw [eqv_nilL]), fun hne => ?_, fun he => ?_⟩
    · have hne' : ws ≠ [] := by
        intro e
        subst e
        exact absurd hne (by decide)
      obtain ⟨ws', x, rfl⟩ : ∃ ws' x, ws = ws' ++ [x] := ⟨ws.dropLast, ws.getLast hne', (List.dropLast_concat_getLast hne').symm⟩
      have hx := hws x (List.mem_append_right _ List.mem_cons_self)
      obtain ⟨wx, hwx⟩ := Option.isSome_iff_exists.mp hx.1
      have hwl := (hF.ways x wx hwx).1.len hv hb
      refine sx_seq (sx_pop (d := intN x) (ds := ws'.map intN) (ev_var rfl rfl) (by rw [List.map_append]; rfl) ?_)
      refine sx_forL (stepsAt S (kept n S) x) encT (fun i ρ cs => ∃ (F' : Nat → Option Way) (us : List Nat) (c : Nat) (a6 a7 : Sl), Fnd n S b F' ∧ F' x = some wx ∧ (∀ y ∈ us, (F' y).isSome ∧ y < n) ∧ (∀ y, (F' y).isSome → y ∉ us → y ≠ x → ∀ q ∈ stepsAt S (kept n S) y, (F' q.2).isSome) ∧
        (∀ q ∈ (stepsAt S (kept n S) x).take i, (F' q.2).isSome) ∧ unf n F' + us.length + 1 = unf n F + (ws' ++ [x]).length ∧ c + unf n F' ≤ n ∧
        ρ = [netS CN B n S, .d (intN b), .d (stepsD n S), .c 0, .c 1, .d (intN x), a6, a7] ∧ cs = [some (.di (encF F') c), some (.ls (us.map intN))]) (ev_op (ev_var rfl rfl) (ev_var rfl rfl) (rv_ixn .l (getSteps hx.2)))
        ⟨F, ws', c, _, _, hF, hwx, fun y hy => hws y (List.mem_append_left _ hy), fun y hy hn hyx => hcl y hy (fun z => by
          rcases List.mem_append.mp z with z | z
          · exact hn z
          · rw [List.mem_singleton] at z; exact hyx z), (fun q hq => by rw [List.take_zero] at hq; cases hq), by simp; omega, hc, rfl, rfl⟩ ?_ ?_
      · rintro i q ρ cs hq ⟨F', us, c, a6, a7, hF', hwx', hus, hcl', htk, hun, hc', rfl, rfl⟩
        refine ⟨_, _, (gx_tup (gxl_cons gx_name (gxl_cons gx_name gxl_nil)) rfl), ?_⟩
        have hqm := mem_stepsAt.mp (List.mem_of_getElem? hq)
        have hqn : q.2 < n := by rw [← hqm.2.2]; exact dst_lt hv (kept_lt _ hqm.1)
        have tk : (stepsAt S (kept n S) x).take (i + 1) = (stepsAt S (kept n S) x).take i ++ [q] := by rw [List.take_add_one, hq]; rfl
        have hen := encF_nat F' q.2
        refine sx_if (b := !(encF F' (q.2 : Int)).isSome) (et_test (ev_dnin (ev_var rfl rfl) (.c rfl) (ev_var rfl rfl))) (fun hno => ?_) (fun hno => ?_)
        · have hnone : F' q.2 = none := by
            rw [hen] at hno
            cases h : F' q.2 with
            | none => rfl
            | some v => rw [h] at hno; cases hno
          have hup := unf_put (v := wx ++ [q.1]) hqn hnone
          refine sx_seq (sx_dput (d := encW (wx ++ [q.1])) (ev_is (ev_op (ev_dget (d := encW wx) (ev_var rfl rfl) (.c rfl) (ev_var rfl rfl) (by rw [encF_nat, hwx']; rfl)) (ev_tup (ed_cons (ev_var rfl rfl) ed_nil) lk) (rv_or2 (rv_or1 (rv_catT (by rw [List.length_map]; show _ + 1 ≤ _; omega))))) (by rw [show encW (wx ++ [q.1]) = .tuple (wx.map encP ++ [encP q.1]) by show PyData.tuple _ = _; rw [List.map_append]; rfl])) (ev_var rfl rfl) rfl (ev_var rfl rfl) (by omega) ?_)
          have hput := hF'.put hwx' hqm.1 hqm.2.1 (by rw [hqm.2.2]; exact hnone)
          rw [hqm.2.2] at hput
          have mono : ∀ z, (F' z).isSome → ((fun m => if m = q.2 then some (wx ++ [q.1]) else F' m) z).isSome := fun z hz => by
            show (if z = q.2 then some (wx ++ [q.1]) else F' z).isSome
            split
            · rfl
            · exact hz
          refine sx_app (d := intN q.2) (ev_var rfl rfl) rfl (ev_var rfl rfl) (by
            rw [List.length_map]
            omega) ⟨fun m => if m = q.2 then some (wx ++ [q.1]) else F' m, us ++ [q.2], c + 1, _, _, hput, ?_, fun y hy => ?_, fun y hy hn hyx r hr => ?_, fun r hr => ?_, by rw [List.length_append, List.length_singleton]; omega, by omega, rfl, ?_⟩
          · show (if x = q.2 then some (wx ++ [q.1]) else F' x) = some wx
            rw [if_neg fun e => by rw [e, hnone] at hwx'; cases hwx']
            exact hwx'
          · rcases List.mem_append.mp hy with hy | hy
            · exact ⟨mono y (hus y hy).1, (hus y hy).2⟩
            · rw [List.mem_singleton] at hy
              subst hy
              exact ⟨by simp, hqn⟩
          · have hyq : y ≠ q.2 := fun e => hn (by rw [e]; exact List.mem_append_right _ List.mem_cons_self)
            have hy' : (F' y).isSome := by simpa [hyq] using hy
            exact mono _ (hcl' y hy' (fun z => hn (List.mem_append_left _ z)) hyx r hr)
          · rw [tk] at hr
            rcases List.mem_append.mp hr with hr | hr
            · exact mono _ (htk r hr)
            · rw [List.mem_singleton] at hr
              subst hr
              simp
          · rw [← encF_put, List.map_append]
            rfl
        · refine sx_next ⟨F', us, c, _, _, hF', hwx', hus, hcl', fun r hr => ?_, hun, hc', rfl, rfl⟩
          rw [tk] at hr
          rcases List.mem_append.mp hr with hr | hr
          · exact htk r hr
          · rw [List.mem_singleton] at hr
            subst hr
            rw [hen, Bool.not_eq_false'] at hno
            cases h : F' r.2 with
            | none => rw [h] at hno; cases hno
            | some v => rfl
      · rintro ρ cs ⟨F', us, c, a6, a7, hF', hwx', hus, hcl', htk, hun, hc', rfl, rfl⟩
        rw [List.take_length] at htk
        refine ⟨_, ?_, F', us, c, _, _, _, hF', hus, fun y hy hn q hq => ?_, rfl, by omega, hc', rfl, rfl⟩
        · omega
        · by_cases e : y = x
          · subst e; exact htk q hq
          · exact hcl' y hy hn e q hq
    · have he' : ws = [] := by simpa using he
      subst he'
      refine sx_ret (ev_var rfl rfl) ?_
      rw [← hF.done hv fun y hy q hq => hcl y hy (by simp) q hq]
      exact .di rfl
end
end Z
end
section
namespace Z
open PySem PySem.Spec PyProof.Rows L2
section
variable {ρ ρ' : List Sl} {cs : Cs} {ta tb te : TE} {N : List Sl → Cs → Prop} {T : Sl → Cs → Prop} {K : PySem.W.Frag}
theorem ei_enumL {ds : List PyData} (h : EvA te ρ cs (.d (.list ds))) : EvI (iEnumX K (tCons te tNil)) ρ cs (enumD 0 ds) := fun b as H σ ok R q =>
  h b as H σ ok _ fun v H1 e1 r1 => by
    cases r1 with
    | @lst a xs _ h1 h2 =>
      refine ⟨a, xs, rfl, .inl ⟨SqL.of ((ok.mono e1).h.gle _ _ h1), q _ H1 e1 fun H2 e2 => ?_⟩⟩
      have hs : SqL K H2 a xs := SqL.of (e2 _ _ h1)
      have w := walk_enum (K := K) (a := a) (xs := xs)
      have hl : (enumD 0 ds).length = xs.length := by rw [enumD_len, h2.length]
      rw [hl]
      refine ⟨fun i hi => w.goes i H2 hi hs, w.stops H2 hs, fun i x H3 hi y => ?_⟩
      obtain ⟨T, u0, u, rfl, hT, rfl, y1, y2⟩ := w.yields i H2 x H3 hi hs y
      cases y1
      refine ⟨same_upd hT, fun M hM eM d hd => ?_⟩
      have y2 : xs[i]? = some u := y2
      rw [enumD_get, Nat.zero_add] at hd
      obtain ⟨d', h3, rfl⟩ := Option.map_eq_some_iff.mp hd
      obtain ⟨u', h4, h5⟩ := h2.get h3
      rw [h4] at y2
      cases y2
      exact fz_pair hM hT (.int _) (h5.mono eM)
theorem rv_rep0 {ds : List PyData} (hne : ds ≠ []) (hl : ds.length ≤ 1000) : RvA (rMulX K) cs (.d (.tuple ds)) (.d (.int 0)) (.d (.tuple [])) := fun b as H k v w r1 r2 Q q => by
  cases r1 with
  | @tup a xs _ h1 h2 =>
    cases r2
    refine .inr (.inr ⟨a, 0, xs, rfl, rfl, SqT.of (k.gle _ _ h1), rfl, ?_, by rw [h2.length]; exact hl, fun p hp => ?_⟩)
    · rintro rfl
      cases h2
      exact hne rfl
    · have s := same_upd (o := .tup []) hp
      exact q _ _ s (.tup (k.laid hp) .nil)
end
noncomputable def baseOf (n : Nat) (S : List Span) : List Way := (loose n S).map (ringOf n S)
theorem loose_way {B : Int} {n : Nat} {S : List Span} (hv : Val B n S) {i : Nat} (hi : i ∈ loose n S) : ∃ w, KP n S (spanAt S i).b w (spanAt S i).a := by
  obtain ⟨h1, h2⟩ := mem_loose.mp hi
  have hs := sp_lt hv h1
  have h3 := mka_keeps (k := S.length - i) (by omega) hs.1 hs.2.1 h2
  rw [show i + (S.length - i) = S.length by omega] at h3
  exact KP.exists hv hs.2.1 hs.1 h3.symm
section
variable {P : Program} {w : World} {K : PySem.W.Frag} {mg : Str → Option Value} {base : Heap} {CN CR : Addr}
inductive pre_base (CN CR : Addr) : List Sl → Sl → Prop
  | mk (B : Int) (n : Nat) (S : List Span) (hv : Val B n S) : pre_base CN CR [netS CN B n S] (.d (.list ((baseOf n S).map encW)))
theorem cal_base (T : Txt K mg CN CR) : C8.Cal P w K mg base 5 "base" (spP (pre_base CN CR)) [] := by
  have C_loose_spans := cal_loose_spans (P := P) (w := w) (base := base) T
  have C_ways_from := cal_ways_from (P := P) (w := w) (base := base) T
  refine calP 1 T.d_base sc_base (by intro ss r h; cases h <;> rfl) (fun f cdv A outer s H E hr => ⟨_, (pss_cons (ps_set (i := 1) sc_base.nd rfl (.inl rfl) (pe_lst pa_nil))
      (pss_cons (ps_for PassesOwn.never rfl (kpi_list K (C8.pe_c C_loose_spans hr (by decide) (by rfl) (pa_cons (pv 0) pa_nil))) (pg_name (i := 2) sc_base.nd rfl (.inl rfl))
        (pss_cons (ps_asg (pe_slice (r := rSlX K) (SlR.or sl_list sl_tupA) (pe_ix (r := rIx K) ix_seq (kpe_fld K (pv 0) rfl) (pv 2) (fun _ _ => rfl)) po_none (po_some pe_int)) (kpg_tup K (n := 2) rfl (pgs_cons (pg_name (i := 3) sc_base.nd rfl (.inl rfl)) (pgs_cons (pg_name (i := 4) sc_base.nd rfl (.inl rfl)) pgs_nil))))
        (pss_one (ps_expr (kpe_bm K PySem.F.plainAttrs_list PySem.F.slot_list_append PySem.F.type_list_append mt_append (pv 1) (pa_cons (pe_op (r := rAddX K) opx_add (pe_tup (pa_cons (pe_tup (pa_cons (pv 2) (pa_cons pe_bl pa_nil))) pa_nil)) (pe_dget (hu_of hr) (C8.pe_c C_ways_from hr (by decide) (by rfl) (pa_cons (pv 0) (pa_cons (pv 4) pa_nil))) (pv 3) (fun _ _ => rfl))) pa_nil))))))
      (pss_one (ps_ret (pv 1))))), ?_⟩)
  intro ss r h; cases h <;> refine ⟨Nat.le_of_ble_eq_true rfl, rfl, ?_⟩
  rename_i B n S hv
  have hnm := hv.nm
  have hll := loose_len hv
  refine sx_seq (sx_asgN 0 (en_lst ed_nil lk) rfl rfl ?_)
  refine sx_seq (sx_forL (loose n S) intN (fun j ρ cs => ∃ (a2 a3 a4 : Sl), ρ = [netS CN B n S, .c 0, a2, a3, a4] ∧ cs = [some (.ls (((loose n S).take j).map fun i => encW (ringOf n S i)))]) (ev_call (ea_cons (ev_var rfl rfl) ea_nil) (pre_loose_spans.mk B n S hv) rfl rfl) ⟨_, _, _, rfl, rfl⟩ ?_ ?_)
  · rintro j i ρ cs hj ⟨a2, a3, a4, rfl, rfl⟩
    refine ⟨_, _, gx_name, ?_⟩
    have him := List.mem_of_getElem? hj
    have hil := (mem_loose.mp him).1
    have hs := sp_lt hv hil
    obtain ⟨wi, hwi⟩ := loose_way hv him
    have hr := reachF_some hv hwi
    have hlen := hwi.len hv hs.2.1
    refine sx_seq (sx_asgG (ev_to (n := 2) (ev_op (evn_spans T (ev_var rfl rfl)) (ev_var rfl rfl) (rv_ixn .t (spanAt_get hil))) eo_none (eo_some ev_int)) (gx_tup (gxl_cons gx_name (gxl_cons gx_name gxl_nil)) rfl) ?_)
    refine sx_app (d := encW (ringOf n S i)) (ev_var rfl rfl) rfl (ev_is (ev_op (ev_tup (ed_cons (ev_tup (ed_cons (ev_var rfl rfl) (ed_cons ev_bl ed_nil)) lk) ed_nil) lk) (ev_dget (d := encW wi) (ev_call (ea_cons (ev_var rfl rfl) (ea_cons (ev_var rfl rfl) ea_nil)) (pre_ways_from.mk B n S hv (spanAt S i).b hs.2.1) rfl rfl) .d (ev_var rfl rfl) (by rw [encF_nat, hr]; rfl)) (rv_or2 (rv_or1 (rv_catT (by rw [List.length_map]; show 1 + _ ≤ _; omega))))) (by unfold ringOf; rw [hr]; rfl))
      (by rw [List.length_map, List.length_take]; omega) ⟨_, _, _, rfl, ?_⟩
    rw [List.take_add_one, hj, List.map_append]
    rfl
  · rintro ρ cs ⟨a2, a3, a4, rfl, rfl⟩
    refine sx_ret (ev_var rfl rfl) ?_
    rw [List.take_length, show (loose n S).map (fun i => encW (ringOf n S i)) = (baseOf n S).map encW by unfold baseOf; rw [List.map_map]; rfl]
    exact .ls rfl
inductive pre_islands (CN CR : Addr) : List Sl → Sl → Prop
  | mk (B : Int) (n : Nat) (S : List Span) (hv : Val B n S) (l : Nat) (he : loose n S = [l]) (R : Way) (hR : ringOf n S l = R) (hRl : R.length ≤ 900) (hRi : ∀ p ∈ R, p.1 < S.length) (hlo : -80000 < loW S R ∧ loW S R < 80000) (hhi : -80000 < hiW S R ∧ hiW S R < 80000) (hk : ∀ k ∈ runOf (-(-loW S R / B)) (hiW S R / B), LpOk (arcsOf B k l S) n) :
    pre_islands CN CR [netS CN B n S] (.d (.list ((runOf (-(-loW S R / B)) (hiW S R / B)).map fun k => tupI [k])))
theorem cal_islands (T : Txt K mg CN CR) : C8.Cal P w K mg base 6 "islands" (spP (pre_islands CN CR)) [] := by
  have C_base := cal_base (P := P) (w := w) (base := base) T
  have C_bounds_along := cal_bounds_along (P := P) (w := w) (base := base) T
  have C_arcs_of := cal_arcs_of (P := P) (w := w) (base := base) T
  have C_least_places := cal_least_places (P := P) (w := w) (base := base) T
  refine calP 2 T.d_islands sc_islands (by intro ss r h; cases h <;> rfl) (fun f cdv A outer s H E hr => ⟨_, (pss_cons (ps_set (i := 1) sc_islands.nd rfl (.inl rfl) (C8.pe_c C_base hr (by decide) (by rfl) (pa_cons (pv 0) pa_nil)))
      (pss_cons (ps_set (i := 2) sc_islands.nd rfl (.inl rfl) (pe_lst (pa_cons (pe_tup pa_nil) pa_nil)))
      (pss_cons (ps_for PassesOwn.never rfl (kpi_enum K (by rfl) T.z_enumerate (pa_cons (pv 1) pa_nil)) (kpg_tup K (n := 2) rfl (pgs_cons (pg_name (i := 3) sc_islands.nd rfl (.inl rfl)) (pgs_cons (pg_name (i := 4) sc_islands.nd rfl (.inl rfl)) pgs_nil)))
        (pss_cons (ps_asg (C8.pe_c C_bounds_along hr (by decide) (by rfl) (pa_cons (pv 0) (pa_cons (pv 4) pa_nil))) (kpg_tup K (n := 2) rfl (pgs_cons (pg_name (i := 5) sc_islands.nd rfl (.inl rfl)) (pgs_cons (pg_name (i := 6) sc_islands.nd rfl (.inl rfl)) pgs_nil))))
        (pss_cons (ps_set (i := 7) sc_islands.nd rfl (.inl rfl) (pe_lst pa_nil))
        (pss_cons (ps_for PassesOwn.never rfl (kpi_list K (pv 2)) (pg_name (i := 8) sc_islands.nd rfl (.inl rfl))
          (pss_one (ps_for PassesOwn.never rfl (pi_range2 (by rfl) T.z_range (pa_cons (pe_un un_neg (pe_op op_fdiv (pe_un un_neg (pv 5)) (kpe_fld K (pv 0) rfl))) (pa_cons (pe_op (r := rAddX K) opx_add (pe_op op_fdiv (pv 6) (kpe_fld K (pv 0) rfl)) pe_int) pa_nil))) (pg_name (i := 9) sc_islands.nd rfl (.inl rfl))
            (pss_cons (ps_set (i := 10) sc_islands.nd rfl (.inl rfl) (pe_op (r := rAddX K) opx_add (pv 8) (pe_tup (pa_cons (pv 9) pa_nil))))
            (pss_cons (ps_set (i := 11) sc_islands.nd rfl (.inl rfl) (C8.pe_c C_arcs_of hr (by decide) (by rfl) (pa_cons (pv 0) (pa_cons (pe_op (r := rAddX K) opx_add (pv 10) (pe_op (r := rMulX K) opx_mul (pe_tup (pa_cons pe_non pa_nil)) (pe_op op_sub (pe_op op_sub (pe_callB (r := rLenX K) call_len_seq (by rfl) T.z_len boot_len (pa_cons (pv 1) pa_nil)) (pv 3)) pe_int))) pa_nil))))
            (pss_one (ps_if (pt_cmpR op_notN (pe_ix (r := rIx K) ix_seq (C8.pe_c C_least_places hr (by decide) (by rfl) (pa_cons (pv 0) (pa_cons (pv 11) pa_nil))) pe_int (fun _ _ => rfl)) pe_non (nomark _)) (pss_one (ps_expr (kpe_bm K PySem.F.plainAttrs_list PySem.F.slot_list_append PySem.F.type_list_append mt_append (pv 7) (pa_cons (pv 10) pa_nil)))) pss_nil)))))))
        (pss_one (ps_set (i := 2) sc_islands.nd rfl (.inl rfl) (pv 7)))))))
      (pss_one (ps_ret (pv 2)))))), ?_⟩)
  intro ss r h; cases h <;> refine ⟨Nat.le_of_ble_eq_true rfl, rfl, ?_⟩
  rename_i B n S hv l he R hR hRl hRi hlo hhi hk
  have h3 := hv.b3
  have hbm := hv.bm
  have eb : (baseOf n S).map encW = [R].map encW := by unfold baseOf; rw [he]; show [encW (ringOf n S l)] = _; rw [hR]; rfl
  have q1 : -loW S R / B ≤ 26667 := by
    have : -loW S R / B < 26668 := Int.ediv_lt_of_lt_mul (by omega) (by omega)
    omega
  have q2 : -26668 ≤ -loW S R / B := Int.le_ediv_of_mul_le (by omega) (by omega)
  have q3 : hiW S R / B ≤ 26667 := by
    have : hiW S R / B < 26668 := Int.ediv_lt_of_lt_mul (by omega) (by omega)
    omega
  have q4 : -26668 ≤ hiW S R / B := Int.le_ediv_of_mul_le (by omega) (by omega)
  generalize hlb : -(-loW S R / B) = lb at hk ⊢
  generalize hub : hiW S R / B = ub at hk q3 q4 ⊢
  refine sx_seq (sx_asg (ev_is (ev_call (ea_cons (ev_var rfl rfl) ea_nil) (pre_base.mk B n S hv) rfl rfl) (congrArg (fun x => Sl.d (.list x)) eb)) ?_)
  refine sx_seq (sx_asg (s := .d (.list [.tuple []])) (ea_en (en_lst (ed_cons (ev_tup ed_nil lk) ed_nil) lk)) ?_)
  refine sx_seq (sx_for (fun j ρ cs => ∃ (a3 a4 a5 a6 a7 a8 a9 a10 a11 : Sl) (fd : List PyData), (j = 0 → fd = [.tuple []]) ∧ (j = 1 → fd = (runOf lb ub).map fun k => tupI [k]) ∧ ρ = [netS CN B n S, .d (.list [encW R]), .d (.list fd), a3, a4, a5, a6, a7, a8, a9, a10, a11] ∧ cs = [none, none])
    (ei_enumL (ev_var rfl rfl)) ⟨_, _, _, _, _, _, _, _, _, _, fun _ => rfl, fun h => (by cases h), rfl, rfl⟩ ?_ ?_)
  · rintro j d ρ cs hd ⟨a3, a4, a5, a6, a7, a8, a9, a10, a11, fd, hf0, hf1, rfl, rfl⟩
    have hj : j = 0 := by
      have := (List.getElem?_eq_some_iff.mp hd).1
      rw [enumD_len] at this
      have : j < 1 := this
      omega
    subst hj
    have hd' : PyData.tuple [intN 0, encW R] = d := Option.some.inj hd
    subst hd'
    have hf := hf0 rfl
    subst hf
    refine ⟨_, _, (gx_tup (gxl_cons gx_name (gxl_cons gx_name gxl_nil)) rfl), ?_⟩
    refine sx_seq (sx_asgG (ev_call (ea_cons (ev_var rfl rfl) (ea_cons (ev_var rfl rfl) ea_nil)) (pre_bounds_along.mk B n S hv R hRi (by omega)) rfl rfl) (gx_tup (gxl_cons gx_name (gxl_cons gx_name gxl_nil)) rfl) ?_)
    refine sx_un 8 (sx_un 9 (sx_un 10 (sx_un 11 (sx_seq (sx_asgN 1 (en_lst ed_nil lk) rfl rfl ?_)))))
    refine sx_seq (sx_for (fun i ρ cs => ∃ (a8 a9 a10 a11 : Sl) (fd : List PyData), (i = 0 → fd = []) ∧ (i = 1 → fd = (runOf lb ub).map fun k => tupI [k]) ∧ ρ = [netS CN B n S, .d (.list [encW R]), .d (.list [.tuple []]), .d (intN 0), .d (encW R), .d (.int (loW S R)), .d (.int (hiW S R)), .c 1, a8, a9, a10, a11] ∧ cs = [none, some (.ls fd)])
      (ei_list (ev_var rfl rfl)) ⟨_, _, _, _, _, fun _ => rfl, fun h => (by cases h), rfl, rfl⟩ ?_ ?_)
    · rintro i d ρ cs hd ⟨a8, a9, a10, a11, fd, hf0, hf1, rfl, rfl⟩
      have hi : i = 0 := by
        have := (List.getElem?_eq_some_iff.mp hd).1
        have : i < 1 := this
        omega
      subst hi
      have hd' : PyData.tuple [] = d := Option.some.inj hd
      subst hd'
      have hf := hf0 rfl
      subst hf
      refine ⟨_, _, gx_name, ?_⟩
      have e1 : EvA (tUn (rU fun i => .int (-i)) (tOp (rI CDiv fun i j => .int (i / j)) (tUn (rU fun i => .int (-i)) (tVar 5)) (tFld K (tVar 0) "beat"))) [netS CN B n S, .d (.list [encW R]), .d (.list [.tuple []]), .d (intN 0), .d (encW R), .d (.int (loW S R)), .d (.int (hiW S R)), .c 1, .d (.tuple []), a9, a10, a11] [none, some (.ls [])] (.d (.int lb)) :=
        ev_is (ev_un (ev_op (ev_un (ev_var rfl rfl) ru_neg) (evn_beat T (ev_var rfl rfl)) (rv_i ⟨by omega, by omega⟩)) ru_neg) (by rw [hlb])
      have e2 : EvA (tOp (rAddX K) (tOp (rI CDiv fun i j => .int (i / j)) (tVar 6) (tFld K (tVar 0) "beat")) (tC (.int 1))) [netS CN B n S, .d (.list [encW R]), .d (.list [.tuple []]), .d (intN 0), .d (encW R), .d (.int (loW S R)), .d (.int (hiW S R)), .c 1, .d (.tuple []), a9, a10, a11] [none, some (.ls [])] (.d (.int (ub + 1))) :=
        ev_op (ev_is (ev_op (ev_var rfl rfl) (evn_beat T (ev_var rfl rfl)) (rv_i ⟨by omega, by omega⟩)) (by rw [hub])) ev_int (rv_or1 rv_i0)
      refine sx_for (fun m ρ cs => m ≤ (runOf lb ub).length ∧ ∃ (a9 a10 a11 : Sl), ρ = [netS CN B n S, .d (.list [encW R]), .d (.list [.tuple []]), .d (intN 0), .d (encW R), .d (.int (loW S R)), .d (.int (hiW S R)), .c 1, .d (.tuple []), a9, a10, a11] ∧ cs = [none, some (.ls (((runOf lb ub).take m).map fun k => tupI [k]))])
        (ei_range2 e1 e2 (by omega) (by omega) (by omega) (by omega)) ⟨Nat.zero_le _, _, _, _, rfl, rfl⟩ ?_ ?_
      · rintro m d ρ cs hd ⟨hm, a9, a10, a11, rfl, rfl⟩
        have hd2 : (runOf lb ub).map PyData.int = (List.range (ub + 1 - lb).toNat).map fun (n : Nat) => PyData.int (lb + (n : Int)) := by unfold runOf; rw [List.map_map]; rfl
        rw [← hd2, List.getElem?_map] at hd
        obtain ⟨k, hkm, rfl⟩ := Option.map_eq_some_iff.mp hd
        have hk2 := List.mem_of_getElem? hkm
        have hrl : (runOf lb ub).length = (ub + 1 - lb).toNat := by unfold runOf; rw [List.length_map, List.length_range]
        have hml := (List.getElem?_eq_some_iff.mp hkm).1
        have hkb : -(2 ^ 60) < k ∧ k < 2 ^ 60 := by
          unfold runOf at hk2
          obtain ⟨u, hu, rfl⟩ := List.mem_map.mp hk2
          rw [List.mem_range] at hu
          omega
        obtain ⟨f, hlp⟩ := lp_ok (CN := CN) (CR := CR) hv (arcs_lt (k := k) (l := l) hv) (hk k hk2)
        refine ⟨_, _, gx_name, ?_⟩
        refine sx_seq (sx_asg (s := .d (tupI [k])) (ev_op (ev_var rfl rfl) (ev_tup (ed_cons (ev_var rfl rfl) ed_nil) lk) (rv_or2 (rv_or1 (rv_catT (ds := []) lk)))) ?_)
        refine sx_seq (sx_asg (ev_call (ea_cons (ev_var rfl rfl) (ea_cons (ev_op (ev_var rfl rfl) (ev_op (ev_tup (ed_cons ev_non ed_nil) lk) (ev_is (ev_op (ev_op (ev_len (ev_var rfl rfl) .l) (ev_var rfl rfl) rv_i0) ev_int rv_i0) (show _ = Sl.d (.int 0) by rfl)) (rv_rep0 (by simp) lk)) (rv_or2 (rv_or1 (rv_catT (ds := [.int k]) (es := []) lk)))) ea_nil)) (pre_arcs_of.mk B n S hv k l he hkb) rfl rfl) ?_)
        refine sx_if (b := true) (et_test (ev_op (ev_op (ev_call (ea_cons (ev_var rfl rfl) (ea_cons (ev_var rfl rfl) ea_nil)) hlp rfl rfl) ev_int (rv_ixn (j := 0) .t rfl)) ev_non rv_notN)) (fun _ => ?_) (fun h => nomatch h)
        refine sx_app (d := tupI [k]) (ev_var rfl rfl) rfl (ev_var rfl rfl) (by rw [List.length_map, List.length_take]; omega) ⟨by omega, _, _, _, rfl, ?_⟩
        rw [List.take_add_one, hkm, List.map_append]
        rfl
      · rintro ρ cs ⟨hm, a9, a10, a11, rfl, rfl⟩
        refine ⟨_, _, _, _, _, fun h => (by cases h), fun _ => ?_, rfl, rfl⟩
        have hrl : (runOf lb ub).length = (ub + 1 - lb).toNat := by unfold runOf; rw [List.length_map, List.length_range]
        rw [List.length_map, List.length_range, ← hrl, List.take_length]
    · rintro ρ cs ⟨a8, a9, a10, a11, fd, hf0, hf1, rfl, rfl⟩
      have hf := hf1 rfl
      refine sx_un 8 (sx_un 9 (sx_un 10 (sx_un 11 (sx_frz 1 rfl lk ?_))))
      exact sx_asg (ev_var rfl rfl) ⟨_, _, _, _, _, _, _, _, _, _, fun h => (by cases h), fun _ => hf, rfl, rfl⟩
  · rintro ρ cs ⟨a3, a4, a5, a6, a7, a8, a9, a10, a11, fd, hf0, hf1, rfl, rfl⟩
    have hf := hf1 rfl
    subst hf
    exact sx_ret (ev_var rfl rfl) (.d rfl)
end
end Z
end
section
/-! ZN: a source of numbers, handed on to be changed: a cell of four ints. -/
namespace Z
open PySem PySem.Spec PyProof.Rows L2
def Src4 (H : Hp) (p : Addr) : Prop := ∃ i j k l : Int, H p = some (.lst [.int i, .int j, .int k, .int l])
/-- a value that is not known but for R; the cells stay what they are -/
def EvX (te : TE) (ρ : List Sl) (cs : Cs) (R : Sl → Prop) : Prop := ∀ (b : Bs) (as : List Addr) (H : Hp) (σ : L2.St), Ok b as H σ ρ cs → ∀ Q : VK,
  (∀ s v H', R s → Ok b as H' σ ρ cs → Same (b.G as cs H) (b.G as cs H') → SlR as (b.G as cs H') s v → Q v H') → te σ H Q
def EvXs (ta : TA) (ρ : List Sl) (cs : Cs) (R : List Sl → Prop) : Prop := ∀ (b : Bs) (as : List Addr) (H : Hp) (σ : L2.St), Ok b as H σ ρ cs → ∀ Q : List V → Hp → Prop,
  (∀ ss vs H', R ss → Ok b as H' σ ρ cs → Same (b.G as cs H) (b.G as cs H') → Paired (SlR as (b.G as cs H')) ss vs → Q vs H') → ta σ H Q
def EtX (t : L2.TT) (ρ : List Sl) (cs : Cs) (R : Bool → Prop) : Prop := ∀ (b : Bs) (as : List Addr) (H : Hp) (σ : L2.St), Ok b as H σ ρ cs → ∀ Q : Bool → Hp → Prop,
  (∀ r H', R r → Ok b as H' σ ρ cs → Same (b.G as cs H) (b.G as cs H') → Q r H') → t σ H Q
/-- a new source -/
def EvS (te : TE) (ρ : List Sl) (cs : Cs) : Prop := ∀ (b : Bs) (as : List Addr) (H : Hp) (σ : L2.St), Ok b as H σ ρ cs → ∀ Q : VK, (∀ p H', Same H H' → H p = none → Src4 H' p → Q (.ref p) H') → te σ H Q
section
variable {ρ ρ' : List Sl} {cs : Cs} {ta tb te tc : TE} {t u : L2.TT} {ts us : TS} {N : List Sl → Cs → Prop} {T : Sl → Cs → Prop} {K : PySem.W.Frag} {R R' P1 P2 : Sl → Prop} {s : Sl}
theorem ex_of (h : EvA te ρ cs s) : EvX te ρ cs (· = s) := fun b as H σ ok Q q => h b as H σ ok Q fun v H1 e1 r1 => q s v H1 rfl (ok.mono e1) (fz_mono e1) r1
theorem ex_imp (h : EvX te ρ cs R) (i : ∀ s, R s → R' s) : EvX te ρ cs R' := fun b as H σ ok Q q => h b as H σ ok Q fun s v H1 r => q s v H1 (i s r)
theorem ex_op {r : R2} (ha : EvX ta ρ cs P1) (hb : EvX tb ρ cs P2) (hr : ∀ x y, P1 x → P2 y → ∃ z, R z ∧ RvA r cs x y z) : EvX (tOp r ta tb) ρ cs R := fun b as H σ ok Q q =>
  ha b as H σ ok _ fun x v H1 p1 ok1 g1 r1 => hb b as H1 σ ok1 _ fun y w H2 p2 ok2 g2 r2 => by
    obtain ⟨z, hz, h⟩ := hr x y p1 p2
    exact h b as H2 ok2.h v w (r1.mono g2) r2 Q fun u H3 e3 r3 => q z u H3 hz (ok2.mono e3) ((g1.trans g2).trans (fz_mono e3)) r3
theorem ex_nil : EvXs tNil ρ cs (· = []) := fun b as H σ ok Q q => q [] [] H rfl ok (Same.refl _) .nil
theorem ex_cons {ta' : TA} {P : Sl → Prop} {A : List Sl → Prop} (h : EvX ta ρ cs P) (ht : EvXs ta' ρ cs A) : EvXs (tCons ta ta') ρ cs (fun l => ∃ s ss, l = s :: ss ∧ P s ∧ A ss) := fun b as H σ ok Q q =>
  h b as H σ ok _ fun s v H1 p1 ok1 g1 r1 => ht b as H1 σ ok1 _ fun ss vs H2 p2 ok2 g2 r2 => q (s :: ss) (v :: vs) H2 ⟨s, ss, rfl, p1, p2⟩ ok2 (g1.trans g2) (.cons (r1.mono g2) r2)
theorem ex_of_as {ta' : TA} {ss : List Sl} (h : EvAs ta' ρ cs ss) : EvXs ta' ρ cs (· = ss) := fun b as H σ ok Q q => h b as H σ ok Q fun vs H1 e1 r1 => q ss vs H1 rfl (ok.mono e1) (fz_mono e1) r1
theorem ex_test {r : Bool → Prop} (h : EvX te ρ cs fun s => ∃ b, s = .d (.bool b) ∧ r b) : EtX (tTest te) ρ cs r := fun B as H σ ok Q q => h B as H σ ok _ fun s v H1 ⟨b, e, p⟩ ok1 g1 r1 => by
  subst e
  cases r1
  exact ⟨b, rfl, q b H1 p ok1 g1⟩
theorem sx_asgX {i : Nat} (h : EvX te ρ cs R) (k : ∀ s, R s → N (ρ.set i s) cs) : Sx (tAsg te (gName i)) ρ cs N T := fun b as H σ ok D hn ht =>
  h b as H σ ok _ fun s v H1 p1 ok1 g1 r1 => hn as H1 _ _ cs (k s p1) (ok1.store r1)
theorem sx_retX (h : EvX te ρ cs R) (k : ∀ s, R s → T s cs) : Sx (tRet te) ρ cs N T := fun b as H σ ok D hn ht => h b as H σ ok _ fun s v H1 p1 ok1 g1 r1 => ht as H1 cs s v (k s p1) ok1.h r1
theorem sx_ifX {r : Bool → Prop} (h : EtX t ρ cs r) (h1 : r true → Sx ts ρ cs N T) (h2 : r false → Sx us ρ cs N T) : Sx (tIfS t ts us) ρ cs N T := fun B as H σ ok D hn ht => h B as H σ ok _ fun b H1 p1 ok1 g1 => by
  cases b with
  | true =>
    show ts D σ H1
    exact h1 p1 B as H1 σ ok1 D hn ht
  | false =>
    show us D σ H1
    exact h2 p1 B as H1 σ ok1 D hn ht
abbrev rInsert : V → List V → Hp → VK → Prop := fun x vs H Q => ∃ (l : Addr) (xs : List V) (i : Int) (y : V), x = .ref l ∧ vs = [.int i, y] ∧ H l = some (.lst xs) ∧ xs.length < sizeLine ∧ 0 ≤ i ∧ i < 2 ^ 63 ∧
    Q .non (upd H l (.lst (xs.take i.toNat ++ [y] ++ xs.drop i.toNat)))
/-- x.insert(e, d), e not known -/
theorem sx_insX {j : Nat} {ds : List PyData} {d : PyData} {P : Nat → Prop} (ho : EvA ta ρ cs (.c j)) (hj : cs[j]? = some (some (.ls ds))) (hx : EvX tb ρ cs fun s => ∃ i : Nat, s = .d (.int i) ∧ i < 100000 ∧ P i) (h : EvA te ρ cs (.d d)) (hl : ds.length < 100000)
    (k : ∀ i, P i → N ρ (cs.set j (some (.ls (ds.take i ++ [d] ++ ds.drop i))))) : Sx (tDrop (tBM K "list" rInsert ta (tCons tb (tCons te tNil)))) ρ cs N T := fun b as H σ ok D hn ht =>
  ho b as H σ ok _ fun v H1 e1 r1 => by
    obtain ⟨a, h1, rfl, xs, h3, h4⟩ := (ok.mono e1).h.cell hj r1
    refine ⟨.inl ⟨rfl, xs, SqL.of h3⟩, hx b as H1 σ (ok.mono e1) _ fun s y H2 ⟨i, hs, hi, hP⟩ ok2 g2 r2 => h b as H2 σ ok2 _ fun w H3 e3 r3 => ?_⟩
    subst hs
    cases r2
    have ok3 := ok2.mono e3
    obtain ⟨a', z1, z2⟩ := ok3.h.ce j _ hj
    rw [h1] at z1
    cases z1
    obtain ⟨ys, z3, z4⟩ := z2
    refine ⟨a, ys, i, w, rfl, rfl, z3, by rw [z4.length]; exact Nat.lt_of_lt_of_le hl (by decide), by omega, by omega, ?_⟩
    rw [Int.toNat_natCast]
    exact hn as _ σ ρ _ (k i hP) (ok3.write (c' := .ls (ds.take i ++ [d] ++ ds.drop i)) hj h1 ⟨_, upd_same, ((z4.take i).append (.cons r3 .nil)).append (z4.drop i)⟩)
end
/-- a source is touched -/
theorem Ok.touch {b : Bs} {as : List Addr} {H H' : Hp} {σ : L2.St} {ρ : List Sl} {cs : Cs} (k : Ok b as H σ ρ cs) {j : Nat} {p : Addr} (hj : cs[j]? = some (some .sr)) (hp : as[j]? = some p) (h : ∀ x o, x ≠ p → H x = some o → H' x = some o) (h4 : Src4 H' p) :
    Ok b as H' σ ρ cs ∧ Same (b.G as cs H) (b.G as cs H') := by
  have gs : Same (b.G as cs H) (b.G as cs H') := fun x u hx => by
    have hm := fz_not hx
    have hx' := fz_le x u hx
    unfold Bs.G
    rw [fz_out hm]
    exact h x u (fun e => hm (e ▸ .inr ⟨j, _, hj, hp⟩)) hx'
  refine ⟨⟨⟨fun x u hx n => ?_, fun x m => ?_, k.h.rl, k.h.nd, k.h.nw, k.h.nm, fun i c hc => ?_, k.h.fl.trans gs, k.h.al⟩, k.len, fun i s hs => (k.sl i s hs).imp id fun ⟨v, a, c⟩ => ⟨v, a, c.mono gs⟩⟩, gs⟩
  · have hx' := k.h.ext x u hx n
    refine h x u (fun e => ?_) hx'
    subst e
    rcases k.h.nw j _ x hj hp with z | z
    · rw [hx] at z; cases z
    · exact n z
  · obtain ⟨o, ho⟩ := k.h.m0 x m
    exact ⟨o, h x o (fun e => k.h.nm j _ p hj hp (e ▸ m)) ho⟩
  · obtain ⟨a, h1, h2⟩ := k.h.ce i c hc
    refine ⟨a, h1, ?_⟩
    by_cases e : i = j
    · subst e
      rw [hj] at hc
      cases hc
      rw [hp] at h1
      cases h1
      exact h4
    · obtain ⟨o, ho⟩ := h2.some
      have ne : a ≠ p := fun z => by
        subst z
        exact e (k.h.nd i j c _ a hc hj h1 hp)
      exact h2.mono gs ((h a o ne ho).trans ho.symm)
/-- the promise of a def that draws from the source it is handed first -/
def spS (pre : List Sl → (Sl → Prop) → Prop) : Sp := fun vs H Q _ => ∃ (M : Addr → Prop) (p : Addr) (ws : List V) (ss : List Sl) (R : Sl → Prop), vs = .ref p :: ws ∧ Src4 H p ∧ ¬ M p ∧ (∀ x, M x → ∃ o, H x = some o) ∧
  Paired (SlR [] (fz (fun x => M x ∨ x = p) H)) ss ws ∧ pre ss R ∧ ∀ r v H', (∀ x o, x ≠ p → H x = some o → H' x = some o) → Src4 H' p → R r → SlR [] (fz (fun x => M x ∨ x = p) H') r v → Q v H'
section
variable {ρ ρ' : List Sl} {cs : Cs} {ta tb te tc : TE} {N : List Sl → Cs → Prop} {T : Sl → Cs → Prop} {R : Sl → Prop} {pre : List Sl → (Sl → Prop) → Prop} {E : XK} {t' : TA} {A : List Sl → Prop}
theorem ex_callS {j : Nat} (hj : cs[j]? = some (some .sr)) (ho : EvA ta ρ cs (.c j)) (h : EvXs t' ρ cs A) (hp : ∀ ss, A ss → frs ss = true ∧ ∃ R', pre ss R' ∧ ∀ s, R' s → R s ∧ frs [s] = true) : EvX (tCall (spS pre) [] E (tCons ta t')) ρ cs R := fun b as H σ ok Q q =>
  ho b as H σ ok _ fun v H1 e1 r1 => h b as H1 σ (ok.mono e1) _ fun ss vs H2 hA ok2 g2 r2 => by
    obtain ⟨p, h1, rfl⟩ := r1
    obtain ⟨hf, R', hpre, hR⟩ := hp ss hA
    obtain ⟨p', z1, z2⟩ := ok2.h.ce j _ hj
    rw [h1] at z1
    cases z1
    show spS pre ((.ref p :: vs) ++ []) H2 Q E
    rw [List.append_nil]
    have me : (fun x => (b.M as cs x ∧ x ≠ p) ∨ x = p) = b.M as cs := by
      funext x
      refine propext ⟨fun m => ?_, fun m => ?_⟩
      · rcases m with m | rfl
        · exact m.1
        · exact .inr ⟨j, _, hj, h1⟩
      · by_cases e : x = p
        · exact .inr e
        · exact .inl ⟨m, e⟩
    refine ⟨fun x => b.M as cs x ∧ x ≠ p, p, vs, ss, R', rfl, z2, fun m => m.2 rfl, fun x m => ok2.h.live m.1, ?_, hpre, fun r v H' hk h4 hr hv => ?_⟩
    · rw [me]
      exact paired_fr (frs_ok hf) r2
    · obtain ⟨ok3, g3⟩ := ok2.touch hj h1 hk h4
      rw [me] at hv
      exact q r v H' (hR r hr).1 ok3 (((fz_mono e1 : Same (b.G as cs H) (b.G as cs H1)).trans g2).trans g3) (hv.fr (frs_ok (hR r hr).2 _ List.mem_cons_self))
/-- the source is new -/
theorem ex_callS0 {ss : List Sl} {R' : Sl → Prop} (h0 : EvS te ρ cs) (h : EvAs t' ρ cs ss) (hf : frs ss = true) (hpre : pre ss R') (hR : ∀ s, R' s → R s ∧ frs [s] = true) : EvX (tCall (spS pre) [] E (tCons te t')) ρ cs R := fun b as H σ k Q q =>
  h0 b as H σ k _ fun p H1 e1 hp h4 => by
    let B' : Bs := ⟨b.H0, fun a => b.M0 a ∨ a = p, b.R, b.F, b.r1⟩
    have hpm := k.h.fresh hp
    have me : B'.M as cs = fun a => b.M as cs a ∨ a = p := by
      funext a
      refine propext ⟨fun m => ?_, fun m => ?_⟩
      · rcases m with (m | m) | m
        · exact .inl (.inl m)
        · exact .inr m
        · exact .inl (.inr m)
      · rcases m with (m | m) | m
        · exact .inl (.inl m)
        · exact .inr m
        · exact .inl (.inr m)
    have gs : Same (b.G as cs H) (B'.G as cs H1) := fun x u h => by
      have hm := fz_not h
      have hx := fz_le x u h
      unfold Bs.G
      rw [me, fz_out]
      · exact e1 x u hx
      · rintro (m | rfl)
        · exact hm m
        · rw [hp] at hx; cases hx
    have k' : Ok B' as H1 σ ρ cs := by
      have k0 := k.mono e1
      obtain ⟨i0, j0, l0, m0, h5⟩ := id h4
      refine ⟨⟨k0.h.ext, fun a m => ?_, k.h.rl, k.h.nd, k.h.nw, fun i c a h1 h2 m => ?_, fun i c h1 => ?_, k.h.fl.trans gs, k.h.al⟩, k.len, fun i s h => (k.sl i s h).imp id fun ⟨v, a, c⟩ => ⟨v, a, c.mono gs⟩⟩
      · rcases m with m | rfl
        · exact k0.h.m0 a m
        · exact ⟨_, h5⟩
      · rcases m with m | rfl
        · exact k.h.nm i c a h1 h2 m
        · exact hpm (.inr ⟨i, c, h1, h2⟩)
      · obtain ⟨a, h2, h3⟩ := k.h.ce i c h1
        obtain ⟨o, ho⟩ := h3.some
        exact ⟨a, h2, h3.mono gs ((e1 a o ho).trans ho.symm)⟩
    refine h B' as H1 σ k' _ fun vs H2 e2 r2 => ?_
    have ok2 := k.mono (e1.trans e2)
    have h42 : Src4 H2 p := by
      obtain ⟨i0, j0, l0, m0, h5⟩ := id h4
      exact ⟨i0, j0, l0, m0, e2 _ _ h5⟩
    show spS pre ((.ref p :: vs) ++ []) H2 Q E
    rw [List.append_nil]
    refine ⟨b.M as cs, p, vs, ss, R', rfl, h42, hpm, fun x m => ok2.h.live m, ?_, hpre, fun r v H' hk h4' hr hv => ?_⟩
    · rw [← me]
      exact paired_fr (frs_ok hf) r2
    · have e3 : Same H H' := fun x o hx => hk x o (ne_of_none hx hp) (e2 _ _ (e1 _ _ hx))
      exact q r v H' (hR r hr).1 (k.mono e3) (fz_mono e3) ((hv.mono (fz_anti fun a m => .inl m)).fr (frs_ok (hR r hr).2 _ List.mem_cons_self))
/-- x = a new source, in the j-th cell -/
theorem sx_asgS {i : Nat} (j : Nat) (h : EvS te ρ cs) (hj : cs[j]? = some none) (hc : noC j (ρ.set i .un) = true) (k : N (ρ.set i (.c j)) (cs.set j (some .sr))) : Sx (tAsg te (gName i)) ρ cs N T := fun b as H σ ok D hn ht =>
  h b as H σ ok _ fun p H1 e1 hp h4 => by
    have okw : Ok b as H σ (ρ.set i .un) cs := ok.weak (by rw [List.length_set]) fun m w hm => by
      by_cases e : i = m
      · subst e
        have hi : i < ρ.length := by
          have := (List.getElem?_eq_some_iff.mp hm).1
          rwa [List.length_set] at this
        rw [List.getElem?_set_self hi] at hm
        exact .inl (Option.some.inj hm).symm
      · rw [List.getElem?_set_ne e] at hm; exact .inr hm
    obtain ⟨x1, x2, x3, x4, hx⟩ := id h4
    obtain ⟨ok2, _⟩ := okw.alloc e1 (c := .sr) hj hp ⟨_, hx⟩ h4 hc
    have hja : j < as.length := by rw [ok.h.al]; exact (List.getElem?_eq_some_iff.mp hj).1
    have ok3 := ok2.store (i := i) (s := .c j) (v := .ref p) ⟨p, by rw [List.getElem?_set_self hja], rfl⟩
    rw [List.set_set] at ok3
    exact hn _ H1 _ _ _ k ok3
/-- return a new list of four ints -/
theorem sx_retS (j : Nat) {x y z w : Int} (h : EvN te ρ cs [.int x, .int y, .int z, .int w]) (hj : cs[j]? = some none) (k : T (.c j) (cs.set j (some .sr))) (hc : noC j ρ = true) : Sx (tRet te) ρ cs N T := fun b as H σ ok D hn ht =>
  h b as H σ ok _ fun p xs H1 e1 hp hx r1 => by
    have hxs : xs = [.int x, .int y, .int z, .int w] := DqA.ints (ns := [x, y, z, w]) r1
    subst hxs
    obtain ⟨ok2, _⟩ := ok.alloc e1 (c := .sr) hj hp ⟨_, hx⟩ ⟨x, y, z, w, hx⟩ hc
    have hja : j < as.length := by rw [ok.h.al]; exact (List.getElem?_eq_some_iff.mp hj).1
    exact ht _ H1 _ _ _ k ok2.h ⟨p, by rw [List.getElem?_set_self hja], rfl⟩
end
end Z
end
section
/-! ZO: the promises of the defs that make a source, or draw from one. -/
namespace Z
open PySem PySem.Spec PyProof.Rows L2
def spSrc (pre : List Sl → Prop) : Sp := fun vs H Q _ => ∃ (M : Addr → Prop) (ss : List Sl), (∀ a, M a → ∃ o, H a = some o) ∧ Paired (SlR [] (fz M H)) ss vs ∧ pre ss ∧ ∀ p H', Same H H' → H p = none → Src4 H' p → Q (.ref p) H'
theorem ev_src {ρ : List Sl} {cs : Cs} {pre : List Sl → Prop} {E : XK} {t : TA} {ss : List Sl} (h : EvAs t ρ cs ss) (hp : pre ss) (hf : frs ss = true) : EvS (tCall (spSrc pre) [] E t) ρ cs := fun B as H σ k Q q =>
  h B as H σ k _ fun vs H1 e1 r1 => by
    have k1 := k.mono e1
    rw [List.append_nil]
    exact ⟨B.M as cs, ss, fun a m => k1.h.live m, paired_fr (frs_ok hf) r1, hp, fun p H' e' hn h4 => q p H' (e1.trans e') (e1.free hn) h4⟩
def BodySrc (t : TS) (N : List Str) (m : Nat) (ss : List Sl) : Prop := Sx t (st0 N ss) (List.replicate m none) (fun _ _ => False) (fun s cs => ∃ k, s = .c k ∧ cs[k]? = some (some .sr))
theorem bodySrc_run {t : TS} {N : List Str} (m : Nat) {pre : List Sl → Prop} (h : ∀ ss, pre ss → ss.length ≤ N.length ∧ frs ss = true ∧ BodySrc t N m ss) {vs : List V} {H : Hp} {Q : VK} {E : XK} (sp : spSrc pre vs H Q E) :
    t { nx := fun _ H' => Q .non H', rt := Q } (L2.start N vs) H := by
  obtain ⟨M, ss, hM, hp, hpre, q⟩ := sp
  obtain ⟨hl, hf, hb⟩ := h ss hpre
  have hlen : ss.length = vs.length := Paired.length hp
  have nolv : ∀ a, ¬ lv (List.replicate m none) (List.replicate m 0) a := fun a ⟨k, c, h1, _⟩ => by
    rw [List.getElem?_replicate] at h1
    split at h1 <;> cases h1
  let b : Bs := ⟨H, M, [], fz M H, Nat.zero_le _⟩
  have me : b.M (List.replicate m 0) (List.replicate m none) = M := by
    funext a
    exact propext ⟨fun m => m.elim id fun l => (nolv a l).elim, fun m => .inl m⟩
  have nc : ∀ (k : Nat) (c : Cell), (List.replicate m (none : Option Cell))[k]? = some (some c) → False := fun k c h1 => by
    rw [List.getElem?_replicate] at h1
    split at h1 <;> cases h1
  have ge : b.G (List.replicate m 0) (List.replicate m none) H = fz M H := by unfold Bs.G; rw [me]
  have ok : Ok b (List.replicate m 0) H (L2.start N vs) (st0 N ss) (List.replicate m none) := by
    refine ⟨⟨fun a o h _ => h, hM, fun i a h => by simp [b] at h, fun k k' c c' a h1 => (nc k c h1).elim, fun k c a h1 => (nc k c h1).elim, fun k c a h1 => (nc k c h1).elim, fun k c h1 => (nc k c h1).elim, by rw [ge]; exact Same.refl _, by simp⟩, ?_, fun i s h => ?_⟩
    · unfold L2.start st0
      simp [hlen]
    · unfold st0 at h
      by_cases hi : i < ss.length
      · rw [List.getElem?_append_left hi] at h
        obtain ⟨v, h1, h2⟩ := paired_get hp h
        refine .inr ⟨v, ?_, ?_⟩
        · unfold L2.start
          rw [List.getElem?_append_left (by rw [List.length_map, ← hlen]; exact hi), List.getElem?_map, h1]
          rfl
        · rw [ge]
          exact h2.fr (frs_ok hf _ (List.mem_of_getElem? h))
      · rw [List.getElem?_append_right (by omega), List.getElem?_replicate] at h
        split at h
        · exact .inl (Option.some.inj h).symm
        · cases h
  refine hb b (List.replicate m 0) H _ ok _ (fun as' H' σ' ρ' cs' hr k => hr.elim) fun as' H' cs' s v hT k hv => ?_
  obtain ⟨x, rfl, hc⟩ := hT
  obtain ⟨a, h1, rfl, h3⟩ := k.cell hc hv
  refine q a H' (fun a o h => k.ext a o h (by simp [b])) ?_ h3
  rcases k.nw x _ a hc h1 with z | z
  · exact z
  · simp [b] at z
def BodyS (t : TS) (N : List Str) (m : Nat) (ss : List Sl) (R : Sl → Prop) : Prop := Sx t (st0 N (.c 0 :: ss)) (some .sr :: List.replicate m none) (fun _ cs => cs[0]? = some (some .sr) ∧ R (.d .none)) (fun s cs => cs[0]? = some (some .sr) ∧ ∃ r, R r ∧ Fin cs s r)
theorem bodyS_run {t : TS} {N : List Str} (m : Nat) {pre : List Sl → (Sl → Prop) → Prop} (h : ∀ ss R, pre ss R → ss.length < N.length ∧ frs ss = true ∧ BodyS t N m ss R) {vs : List V} {H : Hp} {Q : VK} {E : XK} (sp : spS pre vs H Q E) :
    t { nx := fun _ H' => Q .non H', rt := Q } (L2.start N vs) H := by
  obtain ⟨M, a, ws, ss, R, rfl, ha, hMa, hM, hp, hpre, q⟩ := sp
  obtain ⟨hl, hf, hb⟩ := h ss R hpre
  have hlen : ss.length = ws.length := Paired.length hp
  let b : Bs := ⟨H, M, [a], fz (fun x => M x ∨ x = a) H, Nat.le_refl _⟩
  have nc : ∀ (k : Nat) (c : Cell), (some (.sr) :: List.replicate m (none : Option Cell))[k]? = some (some c) → k = 0 ∧ c = .sr := fun k c h1 => by
    cases k with
    | zero =>
      simp at h1
      exact ⟨rfl, h1.symm⟩
    | succ k =>
      rw [List.getElem?_cons_succ, List.getElem?_replicate] at h1
      split at h1 <;> cases h1
  have lva : ∀ x, lv (some (.sr) :: List.replicate m none) (a :: List.replicate m 0) x ↔ x = a := fun x => by
    constructor
    · rintro ⟨k, c, h1, h2⟩
      obtain ⟨rfl, _⟩ := nc k c h1
      simp at h2
      exact h2.symm
    · rintro rfl
      exact ⟨0, .sr, rfl, rfl⟩
  have me : b.M (a :: List.replicate m 0) (some (.sr) :: List.replicate m none) = fun x => M x ∨ x = a := by
    funext x
    exact propext ⟨fun h => h.imp id (lva x).mp, fun h => h.imp id (lva x).mpr⟩
  have ge : b.G (a :: List.replicate m 0) (some (.sr) :: List.replicate m none) H = fz (fun x => M x ∨ x = a) H := by unfold Bs.G; rw [me]
  have ok : Ok b (a :: List.replicate m 0) H (L2.start N (.ref a :: ws)) (st0 N (.c 0 :: ss)) (some (.sr) :: List.replicate m none) := by
    refine ⟨⟨fun x o h _ => h, hM, fun i x h => ?_, fun k k' c c' x h1 h2 _ _ => (nc k c h1).1.trans (nc k' c' h2).1.symm, fun k c x h1 h2 => ?_, fun k c x h1 h2 => ?_, fun k c h1 => ?_, by rw [ge]; exact Same.refl _, by simp⟩, ?_, fun i s h => ?_⟩
    · cases i with
      | zero =>
        simp [b] at h
        subst h
        exact ⟨rfl, .sr, rfl⟩
      | succ i => simp [b] at h
    · obtain ⟨rfl, _⟩ := nc k c h1
      simp at h2
      subst h2
      exact .inr (by simp [b])
    · obtain ⟨rfl, _⟩ := nc k c h1
      simp at h2
      subst h2
      exact hMa
    · obtain ⟨rfl, rfl⟩ := nc k c h1
      exact ⟨a, rfl, ha⟩
    · unfold L2.start st0
      simp [hlen]
    · unfold st0 at h
      by_cases hi : i < (Sl.c 0 :: ss).length
      · rw [List.getElem?_append_left hi] at h
        cases i with
        | zero =>
          simp at h
          subst h
          exact .inr ⟨.ref a, rfl, a, rfl, rfl⟩
        | succ i =>
          rw [List.getElem?_cons_succ] at h
          obtain ⟨v, h1, h2⟩ := paired_get hp h
          refine .inr ⟨v, ?_, ?_⟩
          · unfold L2.start
            rw [List.getElem?_append_left (by rw [List.length_map, List.length_cons, ← hlen]; simpa using hi), List.getElem?_map, List.getElem?_cons_succ, h1]
            rfl
          · rw [ge]
            exact h2.fr (frs_ok hf _ (List.mem_of_getElem? h))
      · rw [List.getElem?_append_right (by omega), List.getElem?_replicate] at h
        split at h
        · exact .inl (Option.some.inj h).symm
        · cases h
  have fin : ∀ {as' : List Addr} {H' : Hp} {cs' : Cs}, OkH b as' H' cs' → cs'[0]? = some (some .sr) → (∀ x o, x ≠ a → H x = some o → H' x = some o) ∧ Src4 H' a ∧ as'[0]? = some a := fun k h1 => by
    obtain ⟨x, h3, h4⟩ := k.ce 0 _ h1
    have h5 := (k.rl 0 a rfl).1
    rw [h3] at h5
    cases h5
    exact ⟨fun y o ne hy => k.ext y o hy (by simpa [b] using ne), h4, h3⟩
  refine hb b _ H _ ok _ (fun as' H' σ' ρ' cs' hr k => ?_) fun as' H' cs' s v hT k hv => ?_
  · obtain ⟨z1, z2, _⟩ := fin k.h hr.1
    exact q _ _ H' z1 z2 hr.2 .non
  · obtain ⟨hc, r, hr, hfin⟩ := hT
    obtain ⟨z1, z2, z3⟩ := fin k hc
    have up : Same (b.G as' cs' H') (fz (fun x => M x ∨ x = a) H') := fz_anti fun y m => by
      rcases m with m | rfl
      · exact .inl m
      · exact .inr ⟨0, _, hc, z3⟩
    refine q r v H' z1 z2 hr ?_
    cases hfin with
    | d hf => exact (hv.mono up).fr (frs_ok hf _ List.mem_cons_self)
    | @ls i ds hi =>
      obtain ⟨x, h1, rfl, xs, h3, h4⟩ := k.cell hi hv
      refine .lst ?_ (h4.mono up)
      rw [fz_out]
      · exact h3
      · rintro (m | rfl)
        · exact k.nm _ _ _ hi h1 m
        · have := k.nd _ _ _ _ _ hi hc h1 z3
          subst this
          rw [hi] at hc
          cases hc
    | @di i n f hi =>
      obtain ⟨x, h1, rfl, xs, h3, h4⟩ := k.cell hi hv
      refine ⟨x, xs, _, rfl, ?_, h4.mono up⟩
      rw [fz_out]
      · exact h3
      · rintro (m | rfl)
        · exact k.nm _ _ _ hi h1 m
        · have := k.nd _ _ _ _ _ hi hc h1 z3
          subst this
          rw [hi] at hc
          cases hc
theorem spSrc_len {pre : List Sl → Prop} {n : Nat} (h : ∀ ss, pre ss → ss.length = n) (vs : List V) (H : Hp) (Q : VK) (E : XK) (sp : spSrc pre vs H Q E) : vs.length = n := by
  obtain ⟨M, ss, hM, hp, hpre, q⟩ := sp
  rw [← Paired.length hp, h ss hpre]
theorem spS_len {pre : List Sl → (Sl → Prop) → Prop} {n : Nat} (h : ∀ ss R, pre ss R → ss.length + 1 = n) (vs : List V) (H : Hp) (Q : VK) (E : XK) (sp : spS pre vs H Q E) : vs.length = n := by
  obtain ⟨M, a, ws, ss, R, rfl, ha, hMa, hM, hp, hpre, q⟩ := sp
  rw [List.length_cons, ← Paired.length hp, h ss R hpre]
section
variable {P : Program} {w : World} {K : PySem.W.Frag} {mg : Str → Option Value} {base : Heap}
theorem calS {x : Str} {st : Stmt} {N ps : List Str} {k : Nat} {pre : List Sl → (Sl → Prop) → Prop} (m : Nat) (F : DefAt K mg x st ps) (S : FnScope N ps (defScope st)) (hl : ∀ ss R, pre ss R → ss.length + 1 = ps.length)
    (h : ∀ (f : Addr) (cdv : Value) (A : Around) (outer : List Env) (s : Shared) (H : Hp) (E : XK), Room k (A.deeper (envOfC x (defScope st) s.heap.objs.size f cdv)) →
      ∃ t, PSs (cxOf CX0 P w K mg base N x (defScope st) f cdv A outer s H E).nox (defBody st) t ∧ ∀ ss R, pre ss R → ss.length < N.length ∧ frs ss = true ∧ BodyS t N m ss R) : C8.Cal P w K mg base (k + 1) x (spS pre) [] := by
  obtain ⟨f, fd, F, hm, hb⟩ := F
  exact ⟨f, fd, ps, [], F.ok S (spS_len hl) (fun cdv A outer s H vs Q E hr sp => by
    obtain ⟨t, h1, h2⟩ := h f cdv A outer s H E hr
    exact ⟨t, h1, bodyS_run m h2 sp⟩), hm, F.kp, hb, .nil⟩
theorem calSrc {x : Str} {st : Stmt} {N ps : List Str} {k : Nat} {pre : List Sl → Prop} (m : Nat) (F : DefAt K mg x st ps) (S : FnScope N ps (defScope st)) (hl : ∀ ss, pre ss → ss.length = ps.length)
    (h : ∀ (f : Addr) (cdv : Value) (A : Around) (outer : List Env) (s : Shared) (H : Hp) (E : XK), Room k (A.deeper (envOfC x (defScope st) s.heap.objs.size f cdv)) →
      ∃ t, PSs (cxOf CX0 P w K mg base N x (defScope st) f cdv A outer s H E).nox (defBody st) t ∧ ∀ ss, pre ss → ss.length ≤ N.length ∧ frs ss = true ∧ BodySrc t N m ss) : C8.Cal P w K mg base (k + 1) x (spSrc pre) [] := by
  obtain ⟨f, fd, F, hm, hb⟩ := F
  exact ⟨f, fd, ps, [], F.ok S (spSrc_len hl) (fun cdv A outer s H vs Q E hr sp => by
    obtain ⟨t, h1, h2⟩ := h f cdv A outer s H E hr
    exact ⟨t, h1, bodySrc_run m h2 sp⟩), hm, F.kp, hb, .nil⟩
end
end Z
end
section
namespace Z
open PySem PySem.Spec PyProof.Rows L2
def Iz : Sl → Prop := fun s => ∃ z : Int, s = .d (.int z)
section
variable {ρ ρ' : List Sl} {cs : Cs} {ta tb te tc : TE} {t u : L2.TT} {N : List Sl → Cs → Prop} {T : Sl → Cs → Prop} {K : PySem.W.Frag} {R : Sl → Prop}
theorem ex_src {i k j : Nat} (h1 : ρ[i]? = some (.c k)) (hk : cs[k]? = some (some .sr)) (hj : j < 4) : EvX (tOp (rIx K) (tVar i) (tC (.int (j : Int)))) ρ cs Iz := fun b as H σ ok Q q => by
  rcases ok.sl i _ h1 with e | ⟨v, s1, s2⟩
  · cases e
  obtain ⟨a, z1, rfl, x0, x1, x2, x3, hx⟩ := ok.h.cell hk s2
  have key : ∃ z : Int, [V.int x0, .int x1, .int x2, .int x3][j]? = some (V.int z) := by
    match j, hj with
    | 0, _ => exact ⟨_, rfl⟩
    | 1, _ => exact ⟨_, rfl⟩
    | 2, _ => exact ⟨_, rfl⟩
    | 3, _ => exact ⟨_, rfl⟩
  obtain ⟨z, hz⟩ := key
  exact ⟨_, s1, .inl ⟨a, _, j, .int z, rfl, rfl, SqL.of hx, atI_nat hz, q _ _ H ⟨z, rfl⟩ ok (Same.refl _) (.int z)⟩⟩
theorem sx_setS {i k j : Nat} (h : EvX te ρ cs Iz) (h1 : ρ[i]? = some (.c k)) (hk : cs[k]? = some (some .sr)) (hj : j < 4) (hN : N ρ cs) : Sx (tAsg te (gSub (tVar i) (tC (.int (j : Int))) rSetL)) ρ cs N T := fun b as H σ ok D hn ht =>
  h b as H σ ok _ fun s v H1 ⟨z, e⟩ ok1 g1 r1 => by
    subst e
    cases r1
    rcases ok1.sl i _ h1 with e | ⟨v, s1, s2⟩
    · cases e
    obtain ⟨a, z1, rfl, x0, x1, x2, x3, hx⟩ := ok1.h.cell hk s2
    refine ⟨_, s1, a, _, j, j, rfl, rfl, hx, ixN_nat hj, ?_⟩
    have h4 : Src4 (upd H1 a (.lst ([V.int x0, .int x1, .int x2, .int x3].set j (.int z)))) a := by
      match j, hj with
      | 0, _ => exact ⟨z, x1, x2, x3, upd_same⟩
      | 1, _ => exact ⟨x0, z, x2, x3, upd_same⟩
      | 2, _ => exact ⟨x0, x1, z, x3, upd_same⟩
      | 3, _ => exact ⟨x0, x1, x2, z, upd_same⟩
    exact hn as _ σ ρ cs hN (ok1.touch hk z1 (fun x o ne hx => by rw [upd_ne ne]; exact hx) h4).1
theorem ex_int1 (h : EvX te ρ cs Iz) : EvX (tCB (fun xs H Q => (∃ i, xs = [.int i] ∧ Q (.int i) H) ∨ ∃ k, xs = [.bl k] ∧ Q (.int (if k then 1 else 0)) H) (tCons te tNil)) ρ cs Iz := fun b as H σ ok Q q =>
  h b as H σ ok _ fun s v H1 ⟨z, e⟩ ok1 g1 r1 => by
    subst e
    cases r1
    exact .inl ⟨z, rfl, q _ _ H1 ⟨z, rfl⟩ ok1 g1 (.int z)⟩
theorem ex_min2 {i : Int} {P : Int → Prop} (h : EvA ta ρ cs (.d (.int i))) (h' : EvX tb ρ cs fun s => ∃ z : Int, s = .d (.int z) ∧ P z) : EvX (tCB (fun xs H Q => ∃ i j, xs = [.int i, .int j] ∧ Q (.int (if j < i then j else i)) H) (tCons ta (tCons tb tNil))) ρ cs fun s => ∃ z : Int, s = .d (.int (min i z)) ∧ P z := fun b as H σ k Q q =>
  h b as H σ k _ fun v H1 e1 r1 => h' b as H1 σ (k.mono e1) _ fun s w H2 ⟨z, e, p⟩ ok2 g2 r2 => by
    subst e
    cases r1; cases r2
    have e : (if z < i then z else i) = min i z := by split <;> omega
    exact ⟨i, z, rfl, by rw [e]; exact q _ _ H2 ⟨z, rfl, p⟩ ok2 ((fz_mono e1 : Same (b.G as cs H) (b.G as cs H1)).trans g2) (.int _)⟩
theorem et_andX {r1 r2 : Bool → Prop} (h : EtX t ρ cs r1) (h2 : EtX u ρ cs r2) : EtX (tAnd t u) ρ cs fun _ => True := fun B as H σ ok Q q => h B as H σ ok _ fun a H1 p1 ok1 g1 => by
  cases a with
  | true =>
    show u σ H1 Q
    exact h2 B as H1 σ ok1 Q fun b H2 p2 ok2 g2 => q b H2 True.intro ok2 (g1.trans g2)
  | false =>
    show Q false H1
    exact q false H1 True.intro ok1 g1
theorem ex_add : ∀ x y, Iz x → Iz y → ∃ z, Iz z ∧ RvA (rAddX K) cs x y z := by
  rintro _ _ ⟨x, rfl⟩ ⟨y, rfl⟩
  exact ⟨_, ⟨_, rfl⟩, rv_or1 rv_i0⟩
theorem ex_mul {x y : Sl} {i j : Int} (hx : x = .d (.int i)) (hy : y = .d (.int j)) (h : CMul i j) : ∃ z, Iz z ∧ RvA (rMulX K) cs x y z := by
  subst hx hy
  exact ⟨_, ⟨_, rfl⟩, rv_or1 (rv_i h)⟩
theorem ex_iz {i : Int} (h : EvA te ρ cs (.d (.int i))) : EvX te ρ cs Iz := ex_imp (ex_of h) fun s e => ⟨i, e⟩
theorem ex_mod {B : Int} (hB : 0 < B) : ∀ x y, Iz x → y = .d (.int B) → ∃ z, (∃ r : Int, z = .d (.int r) ∧ 0 ≤ r ∧ r < B) ∧ RvA (rI (fun _ j => 0 < j) fun i j => .int (i % j)) cs x y z := by
  rintro _ _ ⟨x, rfl⟩ rfl
  exact ⟨_, ⟨_, rfl, Int.emod_nonneg _ (by omega), Int.emod_lt_of_pos _ hB⟩, rv_i hB⟩
end
section
variable {P : Program} {w : World} {K : PySem.W.Frag} {mg : Str → Option Value} {base : Heap} {CN CR : Addr}
theorem rv_ixF {K : PySem.W.Frag} {cs : Cs} {sc : List Int} {j : Nat} {x : Int} (h : sc[j]? = some x) : RvA (rIx K) cs (.fl K sc) (.d (.int (j : Int))) (.d (.int x)) := fun b as H k v u r1 r2 Q q => by
  obtain ⟨a, rfl, hs⟩ := r1
  cases r2
  exact .inl ⟨a, sc.map V.int, (j : Int), .int x, rfl, rfl, k.gle.seq hs, atI_nat (by rw [List.getElem?_map, h]; rfl), q _ H (Same.refl _) (.int _)⟩
theorem ev_lenF {K : PySem.W.Frag} {ρ : List Sl} {cs : Cs} {te : TE} {sc : List Int} (h : EvA te ρ cs (.fl K sc)) : EvA (tCB (fun xs H Q => ∃ p ys, xs = [.ref p] ∧ (SqL K H p ys ∨ SqT K H p ys) ∧ Q (.int ys.length) H) (tCons te tNil)) ρ cs (.d (.int (sc.length : Int))) := fun b as H σ k Q q =>
  h b as H σ k _ fun v H1 e1 r1 => by
    obtain ⟨a, rfl, hs⟩ := r1
    refine ⟨a, sc.map V.int, rfl, .inl ((k.mono e1).h.gle.seq hs), ?_⟩
    rw [List.length_map]
    exact q _ H1 e1 (.int _)
inductive pre__law_source (K : PySem.W.Frag) (CN CR : Addr) : List Sl → Prop
  | mk (sc : List Int) (k : Nat) (hk : k < 100) : pre__law_source K CN CR [.fl K sc, .d (intN k)]
theorem cal__law_source (T : Txt K mg CN CR) : C8.Cal P w K mg base 1 "_law_source" (spSrc (pre__law_source K CN CR)) [] := by
  refine calSrc 1 T.d__law_source sc__law_source (by intro ss h; cases h <;> rfl) (fun f cdv A outer s H E hr => ⟨_, (pss_cons (ps_if (pt_cmpR op_lt (pv 1) (pe_callB (r := rLenX K) call_len_seq (by rfl) T.z_len boot_len (pa_cons (pv 0) pa_nil)) (nomark _)) (pss_one (ps_ret (pe_lst (pa_cons (pe_ix (r := rIx K) ix_seq (pv 0) (pv 1) (fun _ _ => rfl)) (pa_cons (pe_callTy call_int1 (by rfl) T.z_int boot_int (pa_cons (pe_cmpR op_ge (pe_ix (r := rIx K) ix_seq (pv 0) (pv 1) (fun _ _ => rfl)) (pe_op op_pow pe_int pe_int) (nomark _)) pa_nil)) (pa_cons pe_int (pa_cons (pe_op op_mod (pe_callTy call_int1 (by rfl) T.z_int boot_int (pa_cons (pe_ix (r := rIx K) ix_seq (pv 0) (pv 1) (fun _ _ => rfl)) pa_nil)) pe_int) pa_nil))))))) pss_nil)
      (pss_cons (ps_set (i := 2) sc__law_source.nd rfl (.inl rfl) pe_int)
      (pss_cons (ps_if (pt_cmpR op_gt (pe_callB (r := rLenX K) call_len_seq (by rfl) T.z_len boot_len (pa_cons (pv 0) pa_nil)) pe_int (nomark _)) (pss_one (ps_set (i := 2) sc__law_source.nd rfl (.inl rfl) (pe_op op_mod (pe_callTy call_int1 (by rfl) T.z_int boot_int (pa_cons (pe_ix (r := rIx K) ix_seq (pv 0) pe_int (fun _ _ => rfl)) pa_nil)) pe_int))) pss_nil)
      (pss_one (ps_ret (pe_lst (pa_cons pe_int (pa_cons pe_int (pa_cons pe_int (pa_cons (pe_op (r := rAddX K) opx_add (pe_op (r := rAddX K) opx_add (pv 2) (pe_op (r := rMulX K) opx_mul pe_int (pv 1))) (pe_callB (r := rLenX K) call_len_seq (by rfl) T.z_len boot_len (pa_cons (pv 0) pa_nil))) pa_nil)))))))))), ?_⟩)
  intro ss h; cases h <;> refine ⟨Nat.le_of_ble_eq_true rfl, rfl, ?_⟩
  rename_i sc k hk
  refine sx_seq (sx_if (et_test (ev_op (ev_var rfl rfl) (ev_lenF (ev_var rfl rfl)) rv_b0)) (fun hb => ?_) (fun hb => sx_next ?_))
  · have hk2 : k < sc.length := by have := of_decide_eq_true hb; omega
    have g : sc[k]? = some sc[k] := List.getElem?_eq_getElem hk2
    exact sx_retS 0 (en_lst (ed_cons (ev_op (ev_var rfl rfl) (ev_var rfl rfl) (rv_ixF g)) (ed_cons (ev_intB (ev_op (ev_op (ev_var rfl rfl) (ev_var rfl rfl) (rv_ixF g)) (ev_op ev_int ev_int (rv_i ⟨by decide, by decide, by decide⟩)) rv_b0)) (ed_cons ev_int (ed_cons (ev_op (ev_int1 (ev_op (ev_var rfl rfl) (ev_var rfl rfl) (rv_ixF g))) ev_int (rv_i (by decide))) ed_nil)))) lk) rfl ⟨0, rfl, rfl⟩ rfl
  · refine sx_seq (sx_asg (ev_int (i := 0)) ?_)
    have fin : ∀ z : Int, Sx (tRet (tLst (tCons (tC (.int 0)) (tCons (tC (.int 0)) (tCons (tC (.int 0)) (tCons (tOp (rAddX K) (tOp (rAddX K) (tVar 2) (tOp (rMulX K) (tC (.int 104729)) (tVar 1))) (tCB (rLenX K) (tCons (tVar 0) tNil))) tNil)))))) [.fl K sc, .d (intN k), .d (.int z)] [none] (fun _ _ => False) (fun s cs => ∃ k, s = .c k ∧ cs[k]? = some (some .sr)) := fun z =>
      sx_retS 0 (en_lst (ed_cons ev_int (ed_cons ev_int (ed_cons ev_int (ed_cons (ev_op (ev_op (ev_var rfl rfl) (ev_op ev_int (ev_var rfl rfl) (rv_or1 (rv_i (.inl ⟨by decide, by decide⟩)))) (rv_or1 rv_i0)) (ev_lenF (ev_var rfl rfl)) (rv_or1 rv_i0)) ed_nil)))) lk) rfl ⟨0, rfl, rfl⟩ rfl
    refine sx_seq (sx_if (et_test (ev_op (ev_lenF (ev_var rfl rfl)) ev_int rv_b0)) (fun hb => ?_) (fun hb => sx_next (fin 0)))
    have h0 : 0 < sc.length := by have := of_decide_eq_true hb; omega
    exact sx_asg (ev_op (ev_int1 (ev_op (ev_var rfl rfl) ev_int (rv_ixF (j := 0) (List.getElem?_eq_getElem h0)))) ev_int (rv_i (by decide))) (fin _)
def Drawn (m : Nat) : Sl → Prop := fun s => ∃ i : Nat, s = .d (intN i) ∧ i < m
inductive pre__law_draw (CN CR : Addr) : List Sl → (Sl → Prop) → Prop
  | mk (m : Nat) (h0 : 0 < m) (hm : m < 100000) : pre__law_draw CN CR [.d (intN m)] (Drawn m)
theorem drawn_mod {m : Nat} (h0 : 0 < m) (z : Int) : ∃ i : Nat, (Sl.d (.int (z % (m : Int)))) = .d (intN i) ∧ i < m := by
  have h1 := Int.emod_nonneg z (show (m : Int) ≠ 0 by omega)
  have h2 := Int.emod_lt_of_pos z (show 0 < (m : Int) by omega)
  exact ⟨(z % (m : Int)).toNat, by rw [show intN (z % (m : Int)).toNat = .int (z % (m : Int)) by show PyData.int _ = _; rw [Int.toNat_of_nonneg h1]], by omega⟩
theorem cal__law_draw (T : Txt K mg CN CR) : C8.Cal P w K mg base 1 "_law_draw" (spS (pre__law_draw CN CR)) [] := by
  refine calS 0 T.d__law_draw sc__law_draw (by intro ss r h; cases h <;> rfl) (fun f cdv A outer s H E hr => ⟨_, (pss_cons (ps_set (i := 2) sc__law_draw.nd rfl (.inl rfl) (pe_ix (r := rIx K) ix_seq (pv 0) pe_int (fun _ _ => rfl)))
      (pss_cons (ps_if (PW.pt (pw_and (pt_cmpR (r := rEqD K) (op_eqD (hu64 hr)) (pe_ix (r := rIx K) ix_seq (pv 0) pe_int (fun _ _ => rfl)) pe_int (nomark _)) (pw_and1 (pt_cmpR op_gt (pv 2) pe_int (nomark _))))) (pss_cons (ps_asg (pe_op op_fdiv (pv 2) (pv 1)) (pg_sub (pv 0) pe_int set_list))
        (pss_one (ps_ret (pe_op op_mod (pe_callTy call_int1 (by rfl) T.z_int boot_int (pa_cons (pv 2) pa_nil)) (pv 1))))) pss_nil)
      (pss_cons (ps_asg (pe_op (r := rAddX K) opx_add (pe_ix (r := rIx K) ix_seq (pv 0) pe_int (fun _ _ => rfl)) pe_int) (pg_sub (pv 0) pe_int set_list))
      (pss_cons (ps_set (i := 3) sc__law_draw.nd rfl (.inl rfl) (pe_op op_mod (pe_callTy call_int1 (by rfl) T.z_int boot_int (pa_cons (pe_op (r := rMulX K) opx_mul (pe_op (r := rAddX K) opx_add (pe_op (r := rAddX K) opx_add (pe_ix (r := rIx K) ix_seq (pv 0) pe_int (fun _ _ => rfl)) (pe_op (r := rMulX K) opx_mul pe_int (pe_ix (r := rIx K) ix_seq (pv 0) pe_int (fun _ _ => rfl)))) pe_int) pe_int) pa_nil)) pe_int))
      (pss_cons (ps_set (i := 3) sc__law_draw.nd rfl (.inl rfl) (pe_op op_mod (pe_callTy call_int1 (by rfl) T.z_int boot_int (pa_cons (pe_op (r := rMulX K) opx_mul (pv 3) (pe_op (r := rAddX K) opx_add (pe_op op_fdiv (pv 3) pe_int) pe_int)) pa_nil)) pe_int))
      (pss_cons (ps_set (i := 3) sc__law_draw.nd rfl (.inl rfl) (pe_op op_mod (pe_callTy call_int1 (by rfl) T.z_int boot_int (pa_cons (pe_op (r := rMulX K) opx_mul (pv 3) (pe_op (r := rAddX K) opx_add (pe_op op_fdiv (pv 3) pe_int) pe_int)) pa_nil)) pe_int))
      (pss_one (ps_ret (pe_op op_mod (pe_callTy call_int1 (by rfl) T.z_int boot_int (pa_cons (pv 3) pa_nil)) (pv 1)))))))))), ?_⟩)
  intro ss r h; cases h <;> refine ⟨Nat.le_of_ble_eq_true rfl, rfl, ?_⟩
  rename_i m h0 hm
  refine sx_seq (sx_asgX (ex_src (j := 0) rfl rfl lk) ?_)
  rintro _ ⟨z, rfl⟩
  refine sx_seq (sx_ifX (et_andX (ex_test (r := fun _ => True) (ex_op (ex_src (j := 1) rfl rfl lk) (ex_of ev_int) ?_)) (ex_test (r := fun _ => True) (ex_imp (ex_of (ev_op (ev_var rfl rfl) ev_int rv_b0)) fun s e => ⟨_, e, True.intro⟩))) (fun _ => ?_) (fun _ => sx_next ?_))
  · rintro _ _ ⟨x, rfl⟩ rfl
    exact ⟨_, ⟨_, rfl, True.intro⟩, rv_eqI⟩
  · refine sx_seq (sx_setS (j := 0) (ex_iz (ev_op (ev_var rfl rfl) (ev_var rfl rfl) (rv_i ⟨by omega, by omega⟩))) rfl rfl lk ?_)
    exact sx_ret (ev_op (ev_int1 (ev_var rfl rfl)) (ev_var rfl rfl) (rv_i (by omega))) ⟨rfl, _, drawn_mod h0 z, .d rfl⟩
  refine sx_seq (sx_setS (j := 2) (ex_op (ex_src (j := 2) rfl rfl lk) (ex_iz ev_int) ex_add) rfl rfl lk ?_)
  refine sx_seq (sx_asgX (ex_op (ex_int1 (ex_op (ex_op (ex_op (ex_src (j := 3) rfl rfl lk) (ex_op (ex_of ev_int) (ex_src (j := 2) rfl rfl lk) (fun x y hx ⟨z, hy⟩ => ex_mul hx hy (.inl ⟨by decide, by decide⟩))) ex_add) (ex_iz ev_int) ex_add) (ex_of ev_int) (fun x y ⟨z, hx⟩ hy => ex_mul hx hy (.inr ⟨by decide, by decide⟩)))) (ex_of ev_int) (ex_mod (by decide))) ?_)
  rintro _ ⟨z1, rfl, hz1, hz2⟩
  refine sx_seq (sx_asg (ev_op (ev_int1 (ev_op (ev_var rfl rfl) (ev_op (ev_op (ev_var rfl rfl) ev_int (rv_i ⟨by decide, by decide⟩)) ev_int (rv_or1 rv_i0)) (rv_or1 (rv_i (.inl ⟨by omega, by omega⟩))))) ev_int (rv_i (by decide))) ?_)
  generalize hz3 : z1 * (z1 / 1009 + 69621) % 2147483647 = z3
  have hb3 : 0 ≤ z3 ∧ z3 < 2147483647 := by rw [← hz3]; exact ⟨Int.emod_nonneg _ (by decide), Int.emod_lt_of_pos _ (by decide)⟩
  refine sx_seq (sx_asg (ev_op (ev_int1 (ev_op (ev_var rfl rfl) (ev_op (ev_op (ev_var rfl rfl) ev_int (rv_i ⟨by decide, by decide⟩)) ev_int (rv_or1 rv_i0)) (rv_or1 (rv_i (.inl ⟨by omega, by omega⟩))))) ev_int (rv_i (by decide))) ?_)
  exact sx_ret (ev_op (ev_int1 (ev_var rfl rfl)) (ev_var rfl rfl) (rv_i (by omega))) ⟨rfl, _, drawn_mod h0 _, .d rfl⟩
inductive pre__law_order (CN CR : Addr) : List Sl → (Sl → Prop) → Prop
  | mk (m : Nat) (hm : m < 1000) : pre__law_order CN CR [.d (intN m)] (fun s => ∃ o : List Nat, s = .d (listN o) ∧ o.Perm (List.range m))
/-- a number drawn from the source in slot i -/
theorem ex_draw {ρ : List Sl} {cs : Cs} {te : TE} {i j m : Nat} {E : XK} (h1 : ρ[i]? = some (.c j)) (hj : cs[j]? = some (some .sr)) (h : EvA te ρ cs (.d (intN m))) (h0 : 0 < m) (hm : m < 100000) : EvX (tCall (spS (pre__law_draw CN CR)) [] E (tCons (tVar i) (tCons te tNil))) ρ cs (Drawn m) :=
  ex_callS hj (ev_var h1 rfl) (ex_of_as (ea_cons h ea_nil)) fun ss e => by
    subst e
    exact ⟨rfl, _, .mk m h0 hm, fun s ⟨i, e, hi⟩ => by subst e; exact ⟨⟨i, rfl, hi⟩, rfl⟩⟩
theorem cast1 (i : Nat) : PyData.int ((i : Int) + 1) = intN (i + 1) := by show PyData.int _ = PyData.int _; norm_cast
theorem cal__law_order (T : Txt K mg CN CR) : C8.Cal P w K mg base 2 "_law_order" (spS (pre__law_order CN CR)) [] := by
  have C__law_draw := cal__law_draw (P := P) (w := w) (base := base) T
  refine calS 1 T.d__law_order sc__law_order (by intro ss r h; cases h <;> rfl) (fun f cdv A outer s H E hr => ⟨_, (pss_cons (ps_set (i := 2) sc__law_order.nd rfl (.inl rfl) (pe_lst pa_nil))
      (pss_cons (ps_for PassesOwn.never rfl (pi_range1 (by rfl) T.z_range (pa_cons (pv 1) pa_nil)) (pg_name (i := 3) sc__law_order.nd rfl (.inl rfl))
        (pss_one (ps_expr (kpe_bm K PySem.F.plainAttrs_list PySem.F.slot_list_insert PySem.F.type_list_insert mt_insert (pv 2) (pa_cons (C8.pe_c C__law_draw hr (by decide) (by rfl) (pa_cons (pv 0) (pa_cons (pe_op (r := rAddX K) opx_add (pv 3) pe_int) pa_nil))) (pa_cons (pv 3) pa_nil))))))
      (pss_one (ps_ret (pv 2))))), ?_⟩)
  intro ss r h; cases h <;> refine ⟨Nat.le_of_ble_eq_true rfl, rfl, ?_⟩
  rename_i m hm
  refine sx_seq (sx_asgN 1 (en_lst ed_nil lk) rfl rfl ?_)
  refine sx_seq (sx_forR m (by omega) (fun i ρ cs => ∃ (o : List Nat) (a3 : Sl), o.Perm (List.range i) ∧ ρ = [.c 0, .d (intN m), .c 1, a3] ∧ cs = [some .sr, some (.ls (o.map intN))]) (ev_var rfl rfl) ⟨[], _, .nil, rfl, rfl⟩ ?_ ?_)
  · rintro i ρ cs hi ⟨o, a3, hp, rfl, rfl⟩
    refine ⟨_, _, gx_name, ?_⟩
    have hl : o.length = i := by rw [hp.length_eq, List.length_range]
    refine sx_insX (P := fun _ => True) (ev_var rfl rfl) rfl (ex_imp (ex_draw (m := i + 1) rfl rfl (ev_is (ev_op (ev_var rfl rfl) ev_int (rv_or1 rv_i0)) (congrArg Sl.d (cast1 i))) (by omega) (by omega)) fun s ⟨z, e, hz⟩ => ⟨z, e, by omega, True.intro⟩) (ev_var rfl rfl) (by rw [List.length_map]; omega) fun z _ => ⟨ins o z i, _, ?_, rfl, ?_⟩
    · refine (ins_perm o z i).trans ?_
      rw [List.range_succ]
      exact (List.perm_append_comm (l₁ := [i])).symm.symm.trans (List.Perm.append_right _ hp)
    · rw [ins_map]; rfl
  · rintro ρ cs ⟨o, a3, hp, rfl, rfl⟩
    exact sx_ret (ev_var rfl rfl) ⟨rfl, _, ⟨o, rfl, hp⟩, .ls rfl⟩
inductive pre__law_beat (CN CR : Addr) : List Sl → (Sl → Prop) → Prop
  | mk : pre__law_beat CN CR [] (fun s => ∃ B : Int, s = .d (.int B) ∧ 3 ≤ B ∧ B ≤ 1440)
theorem cal__law_beat (T : Txt K mg CN CR) : C8.Cal P w K mg base 2 "_law_beat" (spS (pre__law_beat CN CR)) [] := by
  have C__law_draw := cal__law_draw (P := P) (w := w) (base := base) T
  refine calS 0 T.d__law_beat sc__law_beat (by intro ss r h; cases h <;> rfl) (fun f cdv A outer s H E hr => ⟨_, (pss_cons (ps_set (i := 1) sc__law_beat.nd rfl (.inl rfl) (C8.pe_c C__law_draw hr (by decide) (by rfl) (pa_cons (pv 0) (pa_cons pe_int pa_nil))))
      (pss_cons (ps_if (pt_cmpR (r := rEqD K) (op_eqD (hu64 hr)) (pv 1) pe_int (nomark _)) (pss_one (ps_ret (pe_op (r := rAddX K) opx_add pe_int (C8.pe_c C__law_draw hr (by decide) (by rfl) (pa_cons (pv 0) (pa_cons pe_int pa_nil)))))) pss_nil)
      (pss_cons (ps_if (pt_cmpR (r := rEqD K) (op_eqD (hu64 hr)) (pv 1) pe_int (nomark _)) (pss_one (ps_ret (pe_ix (r := rIx K) ix_seq (pe_lst (pa_cons pe_int (pa_cons pe_int (pa_cons pe_int (pa_cons pe_int pa_nil))))) (C8.pe_c C__law_draw hr (by decide) (by rfl) (pa_cons (pv 0) (pa_cons pe_int pa_nil))) (fun _ _ => rfl)))) pss_nil)
      (pss_one (ps_ret (pe_op (r := rAddX K) opx_add pe_int (C8.pe_c C__law_draw hr (by decide) (by rfl) (pa_cons (pv 0) (pa_cons pe_int pa_nil))))))))), ?_⟩)
  intro ss r h; cases h <;> refine ⟨Nat.le_of_ble_eq_true rfl, rfl, ?_⟩
  refine sx_seq (sx_asgX (ex_draw (m := 5) rfl rfl ev_int (by decide) (by decide)) ?_)
  rintro _ ⟨k, rfl, hk⟩
  have plus : ∀ (N : List Sl → Cs → Prop) (c : Int) (m : Nat) (hc : (m : Int) = c) (h0 : 0 < m) (hm : m ≤ 1438), Sx (tRet (tOp (rAddX K) (tC (.int 3)) (tCall (spS (pre__law_draw CN CR)) [] C8.E0 (tCons (tVar 0) (tCons (tC (.int c)) tNil))))) [.c 0, .d (intN k)] [some .sr] N (fun s cs => cs[0]? = some (some .sr) ∧ ∃ r, (∃ B : Int, r = .d (.int B) ∧ 3 ≤ B ∧ B ≤ 1440) ∧ Fin cs s r) := fun N c m hc h0 hm =>
    sx_retX (R := fun s => ∃ B : Int, s = .d (.int B) ∧ 3 ≤ B ∧ B ≤ 1440) (ex_op (ex_of ev_int) (ex_draw (m := m) rfl rfl (ev_is ev_int (by rw [← hc])) h0 (by omega)) fun x y hx ⟨i, hy, hi⟩ => by
      subst hx hy
      exact ⟨_, ⟨_, rfl, by omega, by omega⟩, rv_or1 rv_i0⟩) fun s ⟨B, e, h⟩ => by subst e; exact ⟨rfl, _, ⟨B, rfl, h⟩, .d rfl⟩
  refine sx_seq (sx_if (et_test (ev_op (ev_var rfl rfl) ev_int rv_eqI)) (fun _ => plus _ 1438 1438 rfl (by decide) (by decide)) fun _ => sx_next ?_)
  refine sx_seq (sx_if (et_test (ev_op (ev_var rfl rfl) ev_int rv_eqI)) (fun _ => ?_) fun _ => sx_next (plus _ 10 10 rfl (by decide) (by decide)))
  refine sx_retX (R := fun s => ∃ B : Int, s = .d (.int B) ∧ 3 ≤ B ∧ B ≤ 1440) (ex_op (ex_of (ea_en (en_lst (ed_cons ev_int (ed_cons ev_int (ed_cons ev_int (ed_cons ev_int ed_nil)))) lk))) (ex_draw (m := 4) rfl rfl ev_int (by decide) (by decide)) fun x y hx ⟨i, hy, hi⟩ => ?_) fun s ⟨B, e, h⟩ => by subst e; exact ⟨rfl, _, ⟨B, rfl, h⟩, .d rfl⟩
  subst hx hy
  match i, hi with
  | 0, _ => exact ⟨_, ⟨3, rfl, by decide, by decide⟩, rv_ixn (j := 0) .l rfl⟩
  | 1, _ => exact ⟨_, ⟨4, rfl, by decide, by decide⟩, rv_ixn (j := 1) .l rfl⟩
  | 2, _ => exact ⟨_, ⟨60, rfl, by decide, by decide⟩, rv_ixn (j := 2) .l rfl⟩
  | 3, _ => exact ⟨_, ⟨1440, rfl, by decide, by decide⟩, rv_ixn (j := 3) .l rfl⟩
inductive pre__law_any_span (CN CR : Addr) : List Sl → (Sl → Prop) → Prop
  | mk (B : Int) (hB : 3 ≤ B) (hB2 : B ≤ 1440) (x y : Nat) (wd : Int) (hw : 0 ≤ wd) (hw2 : wd ≤ 1440) : pre__law_any_span CN CR [.d (.int B), .d (intN x), .d (intN y), .d (.int wd)] (fun s => ∃ sp : Span, s = .d (encS sp) ∧ joins sp x y ∧ Rng B sp)
theorem cal__law_any_span (T : Txt K mg CN CR) : C8.Cal P w K mg base 2 "_law_any_span" (spS (pre__law_any_span CN CR)) [] := by
  have C__law_draw := cal__law_draw (P := P) (w := w) (base := base) T
  refine calS 0 T.d__law_any_span sc__law_any_span (by intro ss r h; cases h <;> rfl) (fun f cdv A outer s H E hr => ⟨_, (pss_cons (ps_set (i := 5) sc__law_any_span.nd rfl (.inl rfl) (C8.pe_c C__law_draw hr (by decide) (by rfl) (pa_cons (pv 0) (pa_cons (pe_op (r := rAddX K) opx_add (pe_callB (call_min2 rfl) (by rfl) T.z_min boot_min (pa_cons pe_int (pa_cons (pe_op (r := rMulX K) opx_mul pe_int (pv 1)) pa_nil))) pe_int) pa_nil))))
      (pss_cons (ps_set (i := 6) sc__law_any_span.nd rfl (.inl rfl) (pe_callB (call_min2 rfl) (by rfl) T.z_min boot_min (pa_cons pe_int (pa_cons (pe_op (r := rAddX K) opx_add (pv 5) (C8.pe_c C__law_draw hr (by decide) (by rfl) (pa_cons (pv 0) (pa_cons (pe_op (r := rAddX K) opx_add (pe_callB (call_min2 rfl) (by rfl) T.z_min boot_min (pa_cons (pe_op op_sub (pv 1) pe_int) (pa_cons (pv 4) pa_nil))) pe_int) pa_nil)))) pa_nil))))
      (pss_cons (ps_if (pt_cmpR (r := rEqD K) (op_eqD (hu64 hr)) (C8.pe_c C__law_draw hr (by decide) (by rfl) (pa_cons (pv 0) (pa_cons pe_int pa_nil))) pe_int (nomark _)) (pss_one (ps_ret (pe_tup (pa_cons (pv 2) (pa_cons (pv 3) (pa_cons (pv 5) (pa_cons (pv 6) pa_nil))))))) pss_nil)
      (pss_one (ps_ret (pe_tup (pa_cons (pv 3) (pa_cons (pv 2) (pa_cons (pv 5) (pa_cons (pv 6) pa_nil)))))))))), ?_⟩)
  intro ss r h; cases h <;> refine ⟨Nat.le_of_ble_eq_true rfl, rfl, ?_⟩
  rename_i B hB hB2 x y wd hw hw2
  have n1 : ∃ m : Nat, (m : Int) = min 2880 (2 * B) + 1 ∧ m < 100000 := ⟨(min 2880 (2 * B) + 1).toNat, by omega, by omega⟩
  obtain ⟨m1, hm1, hm1'⟩ := n1
  refine sx_seq (sx_asgX (ex_draw (m := m1) rfl rfl (ev_is (ev_op (ev_min2 ev_int (ev_op ev_int (ev_var rfl rfl) (rv_or1 (rv_i (.inl ⟨by decide, by decide⟩))))) ev_int (rv_or1 rv_i0)) (by rw [← hm1])) (by omega) hm1') ?_)
  rintro _ ⟨lo, rfl, hlo⟩
  have n2 : ∃ m : Nat, (m : Int) = min (B - 2) wd + 1 ∧ m < 100000 := ⟨(min (B - 2) wd + 1).toNat, by omega, by omega⟩
  obtain ⟨m2, hm2, hm2'⟩ := n2
  refine sx_seq (sx_asgX (ex_min2 (i := 2880) (P := fun z => (lo : Int) ≤ z ∧ z < lo + m2) ev_int (ex_op (ex_of (ev_var rfl rfl)) (ex_draw (m := m2) rfl rfl (ev_is (ev_op (ev_min2 (ev_op (ev_var rfl rfl) ev_int rv_i0) (ev_var rfl rfl)) ev_int (rv_or1 rv_i0)) (by rw [← hm2])) (by omega) hm2') fun a c ha ⟨i, hc, hi⟩ => by
    subst ha hc
    exact ⟨_, ⟨_, rfl, by omega, by omega⟩, rv_or1 rv_i0⟩)) ?_)
  rintro _ ⟨z, rfl, hz1, hz2⟩
  have rg : ∀ u v : Nat, Rng B ⟨u, v, (lo : Int), min 2880 z⟩ := fun u v => ⟨by show (0 : Int) ≤ (lo : Int); omega, by show (lo : Int) ≤ min 2880 z; omega, by show min 2880 z ≤ 2880; omega, by show min 2880 z - (lo : Int) ≤ B - 2; omega⟩
  refine sx_seq (sx_ifX (ex_test (r := fun _ => True) (ex_op (ex_draw (m := 2) rfl rfl ev_int (by decide) (by decide)) (ex_of ev_int) ?_)) (fun _ => ?_) fun _ => sx_next ?_)
  · rintro _ _ ⟨i, rfl, _⟩ rfl
    exact ⟨_, ⟨_, rfl, True.intro⟩, rv_eqI⟩
  · exact sx_ret (ev_tup (ed_cons (ev_var rfl rfl) (ed_cons (ev_var rfl rfl) (ed_cons (ev_var rfl rfl) (ed_cons (ev_var rfl rfl) ed_nil)))) lk) ⟨rfl, _, ⟨⟨x, y, lo, min 2880 z⟩, rfl, .inl ⟨rfl, rfl⟩, rg x y⟩, .d rfl⟩
  · exact sx_ret (ev_tup (ed_cons (ev_var rfl rfl) (ed_cons (ev_var rfl rfl) (ed_cons (ev_var rfl rfl) (ed_cons (ev_var rfl rfl) ed_nil)))) lk) ⟨rfl, _, ⟨⟨y, x, lo, min 2880 z⟩, rfl, .inr ⟨rfl, rfl⟩, rg y x⟩, .d rfl⟩
end
end Z
end
section
namespace Z
open PySem PySem.Spec PyProof.Rows L2
theorem in_encS (S : List Span) (s : Span) : ((S.map encS).any fun z => PyData.eqv z (encS s)) = true ↔ s ∈ S := by
  rw [List.any_eq_true]
  constructor
  · rintro ⟨z, h1, h2⟩
    obtain ⟨t, h3, rfl⟩ := List.mem_map.mp h1
    rw [← (eqv_encS t s).mp h2]
    exact h3
  · intro h
    exact ⟨encS s, List.mem_map.mpr ⟨s, h, rfl⟩, (eqv_encS s s).mpr rfl⟩
theorem shp_encSs (S : List Span) : ∀ e ∈ S.map encS, Shp 1 e := fun e he => by
  obtain ⟨s, _, rfl⟩ := List.mem_map.mp he
  exact shp_encS s
/-- the second of two alike, made another -/
def adj (s : Span) : Span := if 0 < s.lo then ⟨s.a, s.b, s.lo - 1, s.hi - 1⟩ else ⟨s.a, s.b, s.lo, s.hi + 1 - 2 * (if 0 < s.hi then 1 else 0)⟩
theorem adj_rng {B : Int} (hB : 3 ≤ B) {s : Span} (h : Rng B s) : Rng B (adj s) := by
  obtain ⟨h1, h2, h3, h4⟩ := h
  unfold adj
  by_cases e1 : 0 < s.lo
  · rw [if_pos e1]
    exact ⟨by show 0 ≤ s.lo - 1; omega, by show s.lo - 1 ≤ s.hi - 1; omega, by show s.hi - 1 ≤ 2880; omega, by show s.hi - 1 - (s.lo - 1) ≤ B - 2; omega⟩
  · rw [if_neg e1]
    by_cases e2 : 0 < s.hi
    · rw [if_pos e2]
      exact ⟨h1, by show s.lo ≤ s.hi + 1 - 2 * 1; omega, by show s.hi + 1 - 2 * 1 ≤ 2880; omega, by show s.hi + 1 - 2 * 1 - s.lo ≤ B - 2; omega⟩
    · rw [if_neg e2]
      exact ⟨h1, by show s.lo ≤ s.hi + 1 - 2 * 0; omega, by show s.hi + 1 - 2 * 0 ≤ 2880; omega, by show s.hi + 1 - 2 * 0 - s.lo ≤ B - 2; omega⟩
theorem adj_ne (s : Span) : adj s ≠ s := by
  obtain ⟨a, b, lo, hi⟩ := s
  unfold adj
  simp only
  split
  · intro e
    have := congrArg Span.lo e
    simp only at this
    omega
  · intro e
    have := congrArg Span.hi e
    simp only at this
    split at this <;> omega
theorem adj_joins {s : Span} {x y : Nat} (h : joins s x y) : joins (adj s) x y := by
  unfold adj
  split <;> exact h
section
variable {P : Program} {w : World} {K : PySem.W.Frag} {mg : Str → Option Value} {base : Heap} {CN CR : Addr}
inductive pre__law_net_spans (CN CR : Addr) : List Sl → (Sl → Prop) → Prop
  | mk (B : Int) (hB : 3 ≤ B) (hB2 : B ≤ 1440) (size more : Nat) (hs : 2 ≤ size) (hn : size + more ≤ 24) (wd : Int) (hw : 0 ≤ wd) (hw2 : wd ≤ 1440) : pre__law_net_spans CN CR [.d (.int B), .d (intN size), .d (intN more), .d (.int wd)] (fun s => ∃ S : List Span, s = .d (.list (S.map encS)) ∧ NetS B size more S)
abbrev encL (L : List (Span × Nat)) : List PyData := (L.map (·.1)).map encS
theorem ex_order {ρ : List Sl} {cs : Cs} {te : TE} {i j m : Nat} {E : XK} (h1 : ρ[i]? = some (.c j)) (hj : cs[j]? = some (some .sr)) (h : EvA te ρ cs (.d (intN m))) (hm : m < 1000) : EvX (tCall (spS (pre__law_order CN CR)) [] E (tCons (tVar i) (tCons te tNil))) ρ cs fun s => ∃ o : List Nat, s = .d (listN o) ∧ o.Perm (List.range m) :=
  ex_callS hj (ev_var h1 rfl) (ex_of_as (ea_cons h ea_nil)) fun ss e => by
    subst e
    exact ⟨rfl, _, .mk m hm, fun s ⟨o, e, ho⟩ => by subst e; exact ⟨⟨o, rfl, ho⟩, rfl⟩⟩
theorem ex_any {ρ : List Sl} {cs : Cs} {t : TA} {i j : Nat} {E : XK} {B wd : Int} {A : List Sl → Prop} {Pxy : Nat → Nat → Prop} (h1 : ρ[i]? = some (.c j)) (hj : cs[j]? = some (some .sr)) (hB : 3 ≤ B) (hB2 : B ≤ 1440) (hw : 0 ≤ wd) (hw2 : wd ≤ 1440) (h : EvXs t ρ cs A)
    (hA : ∀ ss, A ss → ∃ x y : Nat, Pxy x y ∧ ss = [.d (.int B), .d (intN x), .d (intN y), .d (.int wd)]) : EvX (tCall (spS (pre__law_any_span CN CR)) [] E (tCons (tVar i) t)) ρ cs fun s => ∃ sp : Span, s = .d (encS sp) ∧ (∃ x y, Pxy x y ∧ joins sp x y) ∧ Rng B sp :=
  ex_callS hj (ev_var h1 rfl) h fun ss e => by
    obtain ⟨x, y, hxy, rfl⟩ := hA ss e
    exact ⟨rfl, _, .mk B hB hB2 x y wd hw hw2, fun s ⟨sp, e, h2, h3⟩ => by subst e; exact ⟨⟨sp, rfl, ⟨x, y, hxy, h2⟩, h3⟩, rfl⟩⟩
theorem encL_ins (L : List (Span × Nat)) (i : Nat) (q : Span × Nat) : encL (ins L i q) = (encL L).take i ++ [encS q.1] ++ (encL L).drop i := by
  unfold encL
  rw [ins_map, ins_map]
  rfl
theorem cal__law_net_spans (T : Txt K mg CN CR) : C8.Cal P w K mg base 3 "_law_net_spans" (spS (pre__law_net_spans CN CR)) [] := by
  have C__law_order := cal__law_order (P := P) (w := w) (base := base) T
  have C__law_any_span := cal__law_any_span (P := P) (w := w) (base := base) T
  have C__law_draw := cal__law_draw (P := P) (w := w) (base := base) T
  refine calS 1 T.d__law_net_spans sc__law_net_spans (by intro ss r h; cases h <;> rfl) (fun f cdv A outer s H E hr => ⟨_, (pss_cons (ps_set (i := 5) sc__law_net_spans.nd rfl (.inl rfl) (C8.pe_c C__law_order hr (by decide) (by rfl) (pa_cons (pv 0) (pa_cons (pe_op (r := rAddX K) opx_add (pv 2) (pv 3)) pa_nil))))
      (pss_cons (ps_set (i := 6) sc__law_net_spans.nd rfl (.inl rfl) (pe_lst pa_nil))
      (pss_cons (ps_for PassesOwn.never rfl (pi_range1 (by rfl) T.z_range (pa_cons (pv 2) pa_nil)) (pg_name (i := 7) sc__law_net_spans.nd rfl (.inl rfl))
        (pss_cons (ps_set (i := 8) sc__law_net_spans.nd rfl (.inl rfl) (C8.pe_c C__law_any_span hr (by decide) (by rfl) (pa_cons (pv 0) (pa_cons (pv 1) (pa_cons (pe_ix (r := rIx K) ix_seq (pv 5) (pv 7) (fun _ _ => rfl)) (pa_cons (pe_ix (r := rIx K) ix_seq (pv 5) (pe_op op_mod (pe_callTy call_int1 (by rfl) T.z_int boot_int (pa_cons (pe_op (r := rAddX K) opx_add (pv 7) pe_int) pa_nil)) (pv 2)) (fun _ _ => rfl)) (pa_cons (pv 4) pa_nil)))))))
        (pss_cons (ps_if (pt_cmpR (r := rInX K false) (opx_in (hu65 hr)) (pv 8) (pv 6) rfl) (pss_one (ps_set (i := 8) sc__law_net_spans.nd rfl (.inl rfl) (pe_ifExp (pt_cmpR op_gt (pe_ix (r := rIx K) ix_seq (pv 8) pe_int (fun _ _ => rfl)) pe_int (nomark _)) (pe_op (r := rAddX K) opx_add (pe_slice (r := rSlX K) (SlR.or sl_list sl_tupA) (pv 8) po_none (po_some pe_int)) (pe_tup (pa_cons (pe_op op_sub (pe_ix (r := rIx K) ix_seq (pv 8) pe_int (fun _ _ => rfl)) pe_int) (pa_cons (pe_op op_sub (pe_ix (r := rIx K) ix_seq (pv 8) pe_int (fun _ _ => rfl)) pe_int) pa_nil)))) (pe_op (r := rAddX K) opx_add (pe_slice (r := rSlX K) (SlR.or sl_list sl_tupA) (pv 8) po_none (po_some pe_int)) (pe_tup (pa_cons (pe_op op_sub (pe_op (r := rAddX K) opx_add (pe_ix (r := rIx K) ix_seq (pv 8) pe_int (fun _ _ => rfl)) pe_int) (pe_op (r := rMulX K) opx_mul pe_int (pe_callTy call_int1 (by rfl) T.z_int boot_int (pa_cons (pe_cmpR op_gt (pe_ix (r := rIx K) ix_seq (pv 8) pe_int (fun _ _ => rfl)) pe_int (nomark _)) pa_nil)))) pa_nil)))))) pss_nil)
        (pss_one (ps_expr (kpe_bm K PySem.F.plainAttrs_list PySem.F.slot_list_insert PySem.F.type_list_insert mt_insert (pv 6) (pa_cons (C8.pe_c C__law_draw hr (by decide) (by rfl) (pa_cons (pv 0) (pa_cons (pe_op (r := rAddX K) opx_add (pe_callB (r := rLenX K) call_len_seq (by rfl) T.z_len boot_len (pa_cons (pv 6) pa_nil)) pe_int) pa_nil))) (pa_cons (pv 8) pa_nil))))))))
      (pss_cons (ps_for PassesOwn.never rfl (pi_range2 (by rfl) T.z_range (pa_cons (pv 2) (pa_cons (pe_op (r := rAddX K) opx_add (pv 2) (pv 3)) pa_nil))) (pg_name (i := 7) sc__law_net_spans.nd rfl (.inl rfl))
        (pss_one (ps_if (pt_cmpR op_gt (C8.pe_c C__law_draw hr (by decide) (by rfl) (pa_cons (pv 0) (pa_cons pe_int pa_nil))) pe_int (nomark _)) (pss_cons (ps_set (i := 8) sc__law_net_spans.nd rfl (.inl rfl) (C8.pe_c C__law_any_span hr (by decide) (by rfl) (pa_cons (pv 0) (pa_cons (pv 1) (pa_cons (pe_ix (r := rIx K) ix_seq (pv 5) (pv 7) (fun _ _ => rfl)) (pa_cons (pe_ix (r := rIx K) ix_seq (pv 5) (C8.pe_c C__law_draw hr (by decide) (by rfl) (pa_cons (pv 0) (pa_cons (pv 7) pa_nil))) (fun _ _ => rfl)) (pa_cons (pv 4) pa_nil)))))))
          (pss_one (ps_expr (kpe_bm K PySem.F.plainAttrs_list PySem.F.slot_list_insert PySem.F.type_list_insert mt_insert (pv 6) (pa_cons (C8.pe_c C__law_draw hr (by decide) (by rfl) (pa_cons (pv 0) (pa_cons (pe_op (r := rAddX K) opx_add (pe_callB (r := rLenX K) call_len_seq (by rfl) T.z_len boot_len (pa_cons (pv 6) pa_nil)) pe_int) pa_nil))) (pa_cons (pv 8) pa_nil)))))) pss_nil)))
      (pss_one (ps_ret (pv 6))))))), ?_⟩)
  intro ss r h; cases h <;> refine ⟨Nat.le_of_ble_eq_true rfl, rfl, ?_⟩
  rename_i B hB hB2 size more hs hn wd hw hw2
  refine sx_seq (sx_asgX (ex_order (m := size + more) rfl rfl (ev_is (ev_op (ev_var rfl rfl) (ev_var rfl rfl) (rv_or1 rv_i0)) (by norm_cast)) (by omega)) ?_)
  rintro _ ⟨o, rfl, ho⟩
  have hol : o.length = size + more := by rw [ho.length_eq, List.length_range]
  refine sx_seq (sx_asgN 1 (en_lst ed_nil lk) rfl rfl ?_)
  have bnd : ∀ {k : Nat} {L : List (Span × Nat)}, LabS B o size k L → k ≤ 24 → (encL L).length ≤ 24 := fun {k L} h hk => by
    have := nodup_len h.ln (n := k) fun x hx => by
      obtain ⟨q, hq, rfl⟩ := List.mem_map.mp hx
      exact h.lt q hq
    rw [List.length_map] at this
    rw [List.length_map, List.length_map]
    omega
  refine sx_seq (sx_forR size (by omega) (fun k ρ cs => k ≤ size ∧ ∃ (L : List (Span × Nat)) (a7 a8 : Sl), LabS B o size k L ∧ ρ = [.c 0, .d (.int B), .d (intN size), .d (intN more), .d (.int wd), .d (listN o), .c 1, a7, a8] ∧ cs = [some .sr, some (.ls (encL L))]) (ev_var rfl rfl) ⟨Nat.zero_le _, [], _, _, LabS.nil B o size, rfl, rfl⟩ ?_ ?_)
  · rintro k ρ cs hk ⟨_, L, a7, a8, hL, rfl, rfl⟩
    refine ⟨_, _, gx_name, ?_⟩
    have m1 : (k + 1) % size < size := Nat.mod_lt _ (by omega)
    refine sx_seq (sx_asgX (ex_any (B := B) (wd := wd) (Pxy := fun x y => x = o.getD k 0 ∧ y = o.getD ((k + 1) % size) 0) rfl rfl hB hB2 hw hw2 (ex_of_as (ea_cons (ev_var rfl rfl) (ea_cons (ev_op (ev_var rfl rfl) (ev_var rfl rfl) (rv_ixn .l (getN (d := 0) (by omega)))) (ea_cons (ev_op (ev_var rfl rfl) (ev_is (z := .d (intN ((k + 1) % size))) (ev_op (ev_int1 (ev_op (ev_var rfl rfl) ev_int (rv_or1 rv_i0))) (ev_var rfl rfl) (rv_i (by omega))) (by norm_cast)) (rv_ixn .l (getN (d := 0) (by omega)))) (ea_cons (ev_var rfl rfl) ea_nil))))) fun ss e => ⟨_, _, ⟨rfl, rfl⟩, e⟩) ?_)
    rintro _ ⟨sp, rfl, ⟨_, _, ⟨rfl, rfl⟩, hj⟩, hr⟩
    have hb := bnd hL (by omega)
    have go : ∀ s' : Span, s' ∉ L.map (·.1) → joins s' (o.getD k 0) (o.getD ((k + 1) % size) 0) → Rng B s' → Sx (tDrop (tBM K "list" rInsert (tVar 6) (tCons (tCall (spS (pre__law_draw CN CR)) [] C8.E0 (tCons (tVar 0) (tCons (tOp (rAddX K) (tCB (rLenX K) (tCons (tVar 6) tNil)) (tC (.int 1))) tNil))) (tCons (tVar 8) tNil))))
        [.c 0, .d (.int B), .d (intN size), .d (intN more), .d (.int wd), .d (listN o), .c 1, .d (intN k), .d (encS s')] [some .sr, some (.ls (encL L))]
        (fun ρ cs => k + 1 ≤ size ∧ ∃ (L : List (Span × Nat)) (a7 a8 : Sl), LabS B o size (k + 1) L ∧ ρ = [.c 0, .d (.int B), .d (intN size), .d (intN more), .d (.int wd), .d (listN o), .c 1, a7, a8] ∧ cs = [some .sr, some (.ls (encL L))])
        (fun s cs => cs[0]? = some (some .sr) ∧ ∃ r, (∃ S : List Span, r = .d (.list (S.map encS)) ∧ NetS B size more S) ∧ Fin cs s r) := fun s' h1 h2 h3 =>
      sx_insX (P := fun _ => True) (ev_var rfl rfl) rfl (ex_imp (ex_draw (m := (encL L).length + 1) rfl rfl (ev_is (ev_op (ev_len (ev_var rfl rfl) (.c rfl)) ev_int (rv_or1 rv_i0)) (congrArg Sl.d (cast1 _))) (by omega) (by omega)) fun s ⟨z, e, hz⟩ => ⟨z, e, by omega, True.intro⟩) (ev_var rfl rfl) (by omega) fun z _ =>
        ⟨hk, ins L z (s', k), _, _, hL.step h1 h3 (by unfold REnds; rw [if_pos hk]; exact h2) z, rfl, by rw [encL_ins]; rfl⟩
    refine sx_seq (sx_if (et_test (ev_op (ev_var rfl rfl) (ev_var rfl rfl) (rv_in (n := 1) .d (.c rfl) (shp_encS _) (shp_encSs _) lk))) (fun hin => ?_) (fun hin => sx_next (go sp ?_ hj hr)))
    · have hin' := (in_encS _ _).mp hin
      obtain ⟨t, rfl, rfl, rfl⟩ := ring_new ho hL hk hj hin'
      refine sx_asg (s := .d (encS (adj t))) (ev_if (et_test (ev_op (ev_op (ev_var rfl rfl) ev_int (rv_ixn (j := 2) .t rfl)) ev_int rv_b0)) (fun hc => ?_) (fun hc => ?_)) (go (adj t) ?_ (adj_joins hj) (adj_rng hB hr))
      · have hc' : 0 < t.lo := of_decide_eq_true hc
        have e : adj t = ⟨t.a, t.b, t.lo - 1, t.hi - 1⟩ := if_pos hc'
        rw [e]
        exact ev_op (ev_to (n := 2) (ev_var rfl rfl) eo_none (eo_some ev_int)) (ev_tup (ed_cons (ev_op (ev_op (ev_var rfl rfl) ev_int (rv_ixn (j := 2) .t rfl)) ev_int rv_i0) (ed_cons (ev_op (ev_op (ev_var rfl rfl) ev_int (rv_ixn (j := 3) .t rfl)) ev_int rv_i0) ed_nil)) lk) (rv_or2 (rv_or1 (rv_catT lk)))
      · have hc' : ¬ 0 < t.lo := of_decide_eq_false hc
        have e : adj t = ⟨t.a, t.b, t.lo, t.hi + 1 - 2 * (if 0 < t.hi then 1 else 0)⟩ := if_neg hc'
        rw [e]
        refine ev_op (ev_to (n := 3) (ev_var rfl rfl) eo_none (eo_some ev_int)) (ev_tup (ed_cons (d := .int (t.hi + 1 - 2 * (if 0 < t.hi then 1 else 0))) (ev_op (ev_op (ev_op (ev_var rfl rfl) ev_int (rv_ixn (j := 3) .t rfl)) ev_int (rv_or1 rv_i0)) (ev_op ev_int (ev_is (ev_intB (ev_op (ev_op (ev_var rfl rfl) ev_int (rv_ixn (j := 3) .t rfl)) ev_int rv_b0)) ?_) (rv_or1 (rv_i (.inl ⟨by decide, by decide⟩)))) rv_i0) ed_nil) lk) (rv_or2 (rv_or1 (rv_catT lk)))
        by_cases hz : 0 < t.hi
        · rw [if_pos (decide_eq_true hz), if_pos hz]
        · rw [if_neg (by rw [decide_eq_false hz]; exact Bool.false_ne_true), if_neg hz]
      · intro hm
        rw [List.map_singleton, List.mem_singleton] at hm
        exact adj_ne t hm
    · intro hm
      rw [(in_encS _ _).mpr hm] at hin
      cases hin
  · rintro ρ cs ⟨_, L, a7, a8, hL, rfl, rfl⟩
    refine sx_seq (sx_for (fun i ρ cs => i ≤ more ∧ ∃ (L : List (Span × Nat)) (a7 a8 : Sl), LabS B o size (size + i) L ∧ ρ = [.c 0, .d (.int B), .d (intN size), .d (intN more), .d (.int wd), .d (listN o), .c 1, a7, a8] ∧ cs = [some .sr, some (.ls (encL L))])
      (ei_range2 (ev_var rfl rfl) (ev_op (ev_var rfl rfl) (ev_var rfl rfl) (rv_or1 rv_i0)) (by omega) (by omega) (by omega) (by omega)) ⟨Nat.zero_le _, L, _, _, hL, rfl, rfl⟩ ?_ ?_)
    · rintro i d ρ cs hd ⟨_, L, a7, a8, hL, rfl, rfl⟩
      have hlen := (List.getElem?_eq_some_iff.mp hd).1
      rw [List.length_map, List.length_range] at hlen
      have hi : i < more := by omega
      rw [List.getElem?_map, List.getElem?_range hlen] at hd
      have hd' : PyData.int ((size : Int) + (i : Int)) = d := Option.some.inj hd
      have hd2 : d = intN (size + i) := by rw [← hd']; show PyData.int _ = PyData.int _; norm_cast
      subst hd2
      refine ⟨_, _, gx_name, ?_⟩
      have hb := bnd hL (by omega)
      refine sx_ifX (ex_test (r := fun _ => True) (ex_op (ex_draw (m := 4) rfl rfl ev_int (by decide) (by decide)) (ex_of ev_int) ?_)) (fun _ => ?_) fun _ => sx_next ⟨hi, L, _, _, hL.skip (by omega), rfl, rfl⟩
      · rintro _ _ ⟨j, rfl, _⟩ rfl
        exact ⟨_, ⟨_, rfl, True.intro⟩, rv_b0⟩
      refine sx_seq (sx_asgX (ex_any (B := B) (wd := wd) (Pxy := fun x y => x = o.getD (size + i) 0 ∧ ∃ j, j < size + i ∧ y = o.getD j 0) rfl rfl hB hB2 hw hw2 (ex_cons (ex_of (ev_var rfl rfl)) (ex_cons (ex_of (ev_op (ev_var rfl rfl) (ev_var rfl rfl) (rv_ixn .l (getN (d := 0) (by omega))))) (ex_cons (P := fun s => ∃ j, j < size + i ∧ s = .d (intN (o.getD j 0))) (ex_op (ex_of (ev_var rfl rfl)) (ex_draw (m := size + i) rfl rfl (ev_var rfl rfl) (by omega) (by omega)) fun x y hx ⟨j, hy, hj⟩ => ?_) (ex_cons (ex_of (ev_var rfl rfl)) ex_nil)))) fun ss e => ?_) ?_)
      · subst hx hy
        exact ⟨_, ⟨j, hj, rfl⟩, rv_ixn .l (getN (d := 0) (by omega))⟩
      · obtain ⟨_, _, rfl, rfl, _, _, rfl, rfl, _, _, rfl, ⟨j, hj, rfl⟩, _, _, rfl, rfl, rfl⟩ := e
        exact ⟨_, _, ⟨rfl, j, hj, rfl⟩, rfl⟩
      · rintro _ ⟨sp, rfl, ⟨_, _, ⟨rfl, j, hj, rfl⟩, hjo⟩, hr⟩
        exact sx_insX (P := fun _ => True) (ev_var rfl rfl) rfl (ex_imp (ex_draw (m := (encL L).length + 1) rfl rfl (ev_is (ev_op (ev_len (ev_var rfl rfl) (.c rfl)) ev_int (rv_or1 rv_i0)) (congrArg Sl.d (cast1 _))) (by omega) (by omega)) fun s ⟨z, e, hz⟩ => ⟨z, e, by omega, True.intro⟩) (ev_var rfl rfl) (by omega) fun z _ =>
          ⟨hi, ins L z (sp, size + i), _, _, hL.step (hang_new ho hL (by omega) (by omega) (by omega) hjo hj) hr (by unfold REnds; rw [if_neg (by omega)]; exact ⟨j, hj, hjo⟩) z, rfl, by rw [encL_ins]; rfl⟩
    · rintro ρ cs ⟨_, L, a7, a8, hL, rfl, rfl⟩
      rw [List.length_map, List.length_range, show ((size : Int) + (more : Int) - (size : Int)).toNat = more by omega] at hL
      exact sx_ret (ev_var rfl rfl) ⟨rfl, _, ⟨L.map (·.1), rfl, o, L, ho, rfl, hL⟩, .ls rfl⟩
end
end Z
end
section
namespace Z
open PySem PySem.Spec PyProof.Rows L2
abbrev listS (S : List Span) : PyData := .list (S.map encS)
abbrev listP (w : Way) : PyData := .list (w.map encP)
section
variable {ρ ρ' : List Sl} {cs : Cs} {ta tb te : TE} {K : PySem.W.Frag}
theorem ev_cnt {ns : List Int} {k : Int} (ho : EvA ta ρ cs (.d (.list (ns.map PyData.int)))) (h : EvA te ρ cs (.d (.int k))) : EvA (tBM K "list" (rCntI K) ta (tCons te tNil)) ρ cs (.d (.int (ns.count k : Nat))) := fun b as H σ ok Q q =>
  ho b as H σ ok _ fun v H1 e1 r1 => by
    cases r1 with
    | @lst a xs _ h1 h2 =>
      have := h2.ints
      subst this
      have hq := (ok.mono e1).h.gle _ _ h1
      refine ⟨.inl ⟨rfl, _, SqL.of hq⟩, h b as H1 σ (ok.mono e1) _ fun w H2 e2 r2 => ?_⟩
      cases r2
      exact ⟨a, ns, k, rfl, rfl, SqL.of (e2 _ _ hq), q _ H2 (e1.trans e2) (.int _)⟩
end
theorem walk_cons_inv {S : List Span} {x y : Nat} {q : Nat × Bool} {w : Way} (h : IsWalk S x (q :: w) y) : src S q = x ∧ q.1 < S.length ∧ IsWalk S (dst S q) w y := by
  cases h with
  | cons hq t => exact ⟨rfl, hq, t⟩
theorem walk_nil_inv {S : List Span} {x y : Nat} (h : IsWalk S x [] y) : x = y := by
  cases h
  rfl
theorem walk_next {S : List Span} {x y : Nat} {w : Way} (h : IsWalk S x w y) : ∀ {k : Nat} {p q : Nat × Bool}, w[k]? = some p → w[k + 1]? = some q → dst S p = src S q := by
  induction h with
  | nil => intro k p q h1; simp at h1
  | @cons r w y hr t ih =>
    intro k p q h1 h2
    cases k with
    | zero =>
      simp at h1 h2
      subst h1
      cases w with
      | nil => simp at h2
      | cons q' w =>
        simp at h2
        subst h2
        exact (walk_cons_inv t).1.symm
    | succ k => exact ih (by simpa using h1) (by simpa using h2)
theorem walk_first {S : List Span} {x y : Nat} {w : Way} (h : IsWalk S x w y) {p : Nat × Bool} (h1 : w[0]? = some p) : src S p = x := by
  cases h with
  | nil => simp at h1
  | cons hq t => simp at h1; subst h1; rfl
theorem walk_last {S : List Span} {x y : Nat} {w : Way} (h : IsWalk S x w y) : ∀ {p : Nat × Bool}, w[w.length - 1]? = some p → dst S p = y := by
  induction h with
  | nil => intro p h1; simp at h1
  | @cons r w y hr t ih =>
    intro p h1
    cases w with
    | nil =>
      simp at h1
      subst h1
      exact walk_nil_inv t
    | cons q w => exact ih (by simpa using h1)
theorem ixN_m1 {n : Nat} (h : 0 < n) : ixN n (-1) = some (n - 1) := by
  unfold ixN
  rw [if_neg (by omega), if_pos (by omega)]
  congr 1
  omega
section
variable {P : Program} {w : World} {K : PySem.W.Frag} {mg : Str → Option Value} {base : Heap} {CN CR : Addr}
inductive pre__law_integer (CN CR : Addr) : List Sl → Sl → Prop
  | mk (i : Int) : pre__law_integer CN CR [.d (.int i)] (.d (.bool true))
theorem cal__law_integer (T : Txt K mg CN CR) : C8.Cal P w K mg base 1 "_law_integer" (spP (pre__law_integer CN CR)) [] := by
  refine calP 0 T.d__law_integer sc__law_integer (by intro ss r h; cases h <;> rfl) (fun f cdv A outer s H E hr => ⟨_, (pss_one (ps_ret (pe_and (pe_callB (r := rIsi K) call_isi (by rfl) T.z_isinstance boot_isinstance (pa_cons (pv 0) (pa_cons (pe_bltn (v := V.ty "int") (by rfl) T.z_int boot_int rfl) pa_nil))) (pe_one (pe_not (pe_callB (r := rIsi K) call_isi (by rfl) T.z_isinstance boot_isinstance (pa_cons (pv 0) (pa_cons (pe_bltn (v := V.ty "bool") (by rfl) T.z_bool boot_bool rfl) pa_nil)))))))), ?_⟩)
  intro ss r h; cases h <;> refine ⟨Nat.le_of_ble_eq_true rfl, rfl, ?_⟩
  refine sx_ret (s := .d (.bool true)) (ev_andV (a := true) (b := true) (ev_isi (ev_var rfl rfl) ev_w (.ty _) rfl (kit_ty (by decide +kernel))) fun _ => ev_notV (a := false) (ev_isi (ev_var rfl rfl) ev_w (.ty _) rfl (kit_ty (by decide +kernel)))) (.d rfl)
inductive pre__law_sum (CN CR : Addr) : List Sl → Sl → Prop
  | mk (v : Way) (ls : List Int) (h : ∀ p ∈ v, p.1 < ls.length) (hl : v.length ≤ 1000) : pre__law_sum CN CR [.d (encW v), .d (listI ls)] (.d (.int (sumW (fun i => ls.getD i 0) v)))
theorem cal__law_sum (T : Txt K mg CN CR) : C8.Cal P w K mg base 1 "_law_sum" (spP (pre__law_sum CN CR)) [] := by
  refine calP 0 T.d__law_sum sc__law_sum (by intro ss r h; cases h <;> rfl) (fun f cdv A outer s H E hr => ⟨_, (pss_one (ps_ret (pe_callB (r := rSum K) (cr_sum rfl) (by rfl) T.z_sum boot_sum (pa_cons (pe_lc (own := [("_law_index", 2), ("_law_forth", 3)]) rfl sc__law_sum.nd (kpi_tup K (pv 0)) (blkOk_by (N := ["_law_way", "_law_row_here", "_law_index", "_law_forth"]) (sc := defScope s__law_sum) (by decide +kernel)) (fun _ _ _ _ _ => (kpg_tup K (n := 2) rfl (pgs_cons (pg_name (i := 2) sc__law_sum.nd rfl (.inl rfl)) (pgs_cons (pg_name (i := 3) sc__law_sum.nd rfl (.inl rfl)) pgs_nil)))) (fun _ _ _ _ _ => pts_nil) (fun _ _ _ _ _ => (pe_ifExp (pt_val (pv 3)) (pe_ix (r := rIx K) ix_seq (pv 1) (pv 2) (fun _ _ => rfl)) (pe_un un_neg (pe_ix (r := rIx K) ix_seq (pv 1) (pv 2) (fun _ _ => rfl)))))) pa_nil)))), ?_⟩)
  intro ss r h; cases h <;> refine ⟨Nat.le_of_ble_eq_true rfl, rfl, ?_⟩
  rename_i v ls h hl
  refine sx_ret (ev_is (ev_sum (ns := v.map fun p => if p.2 then ls.getD p.1 0 else -ls.getD p.1 0) (ea_en (en_is (en_map v encP (fun p => PyData.int (if p.2 then ls.getD p.1 0 else -ls.getD p.1 0)) (ei_tup (ev_var rfl rfl)) (by omega) fun i p hp => ⟨_, _, (gx_tup (gxl_cons gx_name (gxl_cons gx_name gxl_nil)) rfl), by decide, ?_⟩) (mapI _ _)))) rfl) (.d rfl)
  have hp1 := h p (List.mem_of_getElem? hp)
  refine ev_if (et_test (ev_var rfl rfl)) (fun hb => ?_) (fun hb => ?_)
  · rw [if_pos hb]
    exact ev_op (ev_var rfl rfl) (ev_var rfl rfl) (rv_ixn .l (getI hp1))
  · rw [if_neg (by rw [hb]; exact Bool.false_ne_true)]
    exact ev_un (ev_op (ev_var rfl rfl) (ev_var rfl rfl) (rv_ixn .l (getI hp1))) ru_neg
inductive pre__law_bounds (CN CR : Addr) : List Sl → Sl → Prop
  | mk (S : List Span) (v : Way) (h : ∀ p ∈ v, p.1 < S.length) (hl : v.length ≤ 1000) : pre__law_bounds CN CR [.d (listS S), .d (encW v)] (.d (.tuple [.int (loW S v), .int (hiW S v)]))
theorem cal__law_bounds (T : Txt K mg CN CR) : C8.Cal P w K mg base 1 "_law_bounds" (spP (pre__law_bounds CN CR)) [] := by
  refine calP 0 T.d__law_bounds sc__law_bounds (by intro ss r h; cases h <;> rfl) (fun f cdv A outer s H E hr => ⟨_, (pss_cons (ps_set (i := 2) sc__law_bounds.nd rfl (.inl rfl) (pe_callB (r := rSum K) (cr_sum rfl) (by rfl) T.z_sum boot_sum (pa_cons (pe_lc (own := [("_law_index", 4), ("_law_forth", 5)]) rfl sc__law_bounds.nd (kpi_tup K (pv 1)) (blkOk_by (N := ["_law_spans", "_law_way", "_law_least", "_law_most", "_law_index", "_law_forth"]) (sc := defScope s__law_bounds) (by decide +kernel)) (fun _ _ _ _ _ => (kpg_tup K (n := 2) rfl (pgs_cons (pg_name (i := 4) sc__law_bounds.nd rfl (.inl rfl)) (pgs_cons (pg_name (i := 5) sc__law_bounds.nd rfl (.inl rfl)) pgs_nil)))) (fun _ _ _ _ _ => pts_nil) (fun _ _ _ _ _ => (pe_ifExp (pt_val (pv 5)) (pe_ix (r := rIx K) ix_seq (pe_ix (r := rIx K) ix_seq (pv 0) (pv 4) (fun _ _ => rfl)) pe_int (fun _ _ => rfl)) (pe_un un_neg (pe_ix (r := rIx K) ix_seq (pe_ix (r := rIx K) ix_seq (pv 0) (pv 4) (fun _ _ => rfl)) pe_int (fun _ _ => rfl)))))) pa_nil)))
      (pss_cons (ps_set (i := 3) sc__law_bounds.nd rfl (.inl rfl) (pe_callB (r := rSum K) (cr_sum rfl) (by rfl) T.z_sum boot_sum (pa_cons (pe_lc (own := [("_law_index", 4), ("_law_forth", 5)]) rfl sc__law_bounds.nd (kpi_tup K (pv 1)) (blkOk_by (N := ["_law_spans", "_law_way", "_law_least", "_law_most", "_law_index", "_law_forth"]) (sc := defScope s__law_bounds) (by decide +kernel)) (fun _ _ _ _ _ => (kpg_tup K (n := 2) rfl (pgs_cons (pg_name (i := 4) sc__law_bounds.nd rfl (.inl rfl)) (pgs_cons (pg_name (i := 5) sc__law_bounds.nd rfl (.inl rfl)) pgs_nil)))) (fun _ _ _ _ _ => pts_nil) (fun _ _ _ _ _ => (pe_ifExp (pt_val (pv 5)) (pe_ix (r := rIx K) ix_seq (pe_ix (r := rIx K) ix_seq (pv 0) (pv 4) (fun _ _ => rfl)) pe_int (fun _ _ => rfl)) (pe_un un_neg (pe_ix (r := rIx K) ix_seq (pe_ix (r := rIx K) ix_seq (pv 0) (pv 4) (fun _ _ => rfl)) pe_int (fun _ _ => rfl)))))) pa_nil)))
      (pss_one (ps_ret (pe_tup (pa_cons (pv 2) (pa_cons (pv 3) pa_nil))))))), ?_⟩)
  intro ss r h; cases h <;> refine ⟨Nat.le_of_ble_eq_true rfl, rfl, ?_⟩
  rename_i S v h hl
  refine sx_seq (sx_asg (ev_sum (ns := v.map fun p => if p.2 then (spanAt S p.1).lo else -(spanAt S p.1).hi) (ea_en (en_is (en_map v encP (fun p => PyData.int (if p.2 then (spanAt S p.1).lo else -(spanAt S p.1).hi)) (ei_tup (ev_var rfl rfl)) (by omega) fun i p hp => ⟨_, _, (gx_tup (gxl_cons gx_name (gxl_cons gx_name gxl_nil)) rfl), by decide, ?_⟩) (mapI _ _)))) ?_)
  · have hp1 := h p (List.mem_of_getElem? hp)
    refine ev_if (et_test (ev_var rfl rfl)) (fun hb => ?_) (fun hb => ?_)
    · rw [if_pos hb]
      exact ev_op (ev_op (ev_var rfl rfl) (ev_var rfl rfl) (rv_ixn .l (spanAt_get hp1))) ev_int (rv_ixn (j := 2) .t rfl)
    · rw [if_neg (by rw [hb]; exact Bool.false_ne_true)]
      exact ev_un (ev_op (ev_op (ev_var rfl rfl) (ev_var rfl rfl) (rv_ixn .l (spanAt_get hp1))) ev_int (rv_ixn (j := 3) .t rfl)) ru_neg
  refine sx_seq (sx_asg (ev_sum (ns := v.map fun p => if p.2 then (spanAt S p.1).hi else -(spanAt S p.1).lo) (ea_en (en_is (en_map v encP (fun p => PyData.int (if p.2 then (spanAt S p.1).hi else -(spanAt S p.1).lo)) (ei_tup (ev_var rfl rfl)) (by omega) fun i p hp => ⟨_, _, (gx_tup (gxl_cons gx_name (gxl_cons gx_name gxl_nil)) rfl), by decide, ?_⟩) (mapI _ _)))) ?_)
  · have hp1 := h p (List.mem_of_getElem? hp)
    refine ev_if (et_test (ev_var rfl rfl)) (fun hb => ?_) (fun hb => ?_)
    · rw [if_pos hb]
      exact ev_op (ev_op (ev_var rfl rfl) (ev_var rfl rfl) (rv_ixn .l (spanAt_get hp1))) ev_int (rv_ixn (j := 3) .t rfl)
    · rw [if_neg (by rw [hb]; exact Bool.false_ne_true)]
      exact ev_un (ev_op (ev_op (ev_var rfl rfl) (ev_var rfl rfl) (rv_ixn .l (spanAt_get hp1))) ev_int (rv_ixn (j := 2) .t rfl)) ru_neg
  exact sx_ret (ev_tup (ed_cons (ev_var rfl rfl) (ed_cons (ev_var rfl rfl) ed_nil)) lk) (.d rfl)
inductive pre__law_row (CN CR : Addr) : List Sl → Sl → Prop
  | mk (B : Int) (n : Nat) (S : List Span) (hv : Val B n S) (ts : List Int) (h : TT B n S ts) : pre__law_row CN CR [.d (.int B), .d (.int 1), .d (listS S), .d (tupI ts)] (.d (listI (S.map (lenS B ts))))
theorem cal__law_row (T : Txt K mg CN CR) : C8.Cal P w K mg base 1 "_law_row" (spP (pre__law_row CN CR)) [] := by
  refine calP 1 T.d__law_row sc__law_row (by intro ss r h; cases h <;> rfl) (fun f cdv A outer s H E hr => ⟨_, (pss_cons (ps_set (i := 4) sc__law_row.nd rfl (.inl rfl) (pe_lst pa_nil))
      (pss_cons (ps_for PassesOwn.never rfl (kpi_list K (pv 2)) (kpg_tup K (n := 4) rfl (pgs_cons (pg_name (i := 5) sc__law_row.nd rfl (.inl rfl)) (pgs_cons (pg_name (i := 6) sc__law_row.nd rfl (.inl rfl)) (pgs_cons (pg_name (i := 7) sc__law_row.nd rfl (.inl rfl)) (pgs_cons (pg_name (i := 8) sc__law_row.nd rfl (.inl rfl)) pgs_nil)))))
        (pss_cons (ps_set (i := 9) sc__law_row.nd rfl (.inl rfl) (pe_op (r := rAddX K) opx_add (pe_op op_mod (pe_callTy call_int1 (by rfl) T.z_int boot_int (pa_cons (pe_op op_sub (pe_op op_sub (pe_ix (r := rIx K) ix_seq (pv 3) (pv 6) (fun _ _ => rfl)) (pe_ix (r := rIx K) ix_seq (pv 3) (pv 5) (fun _ _ => rfl))) (pe_op (r := rMulX K) opx_mul (pv 7) (pv 1))) pa_nil)) (pe_op (r := rMulX K) opx_mul (pv 0) (pv 1))) (pe_op (r := rMulX K) opx_mul (pv 7) (pv 1))))
        (pss_cons (ps_if (pt_cmpR op_gt (pv 9) (pe_op (r := rMulX K) opx_mul (pv 8) (pv 1)) (nomark _)) (pss_one (ps_ret pe_non)) pss_nil)
        (pss_one (ps_expr (kpe_bm K PySem.F.plainAttrs_list PySem.F.slot_list_append PySem.F.type_list_append mt_append (pv 4) (pa_cons (pv 9) pa_nil)))))))
      (pss_one (ps_ret (pv 4))))), ?_⟩)
  intro ss r h; cases h <;> refine ⟨Nat.le_of_ble_eq_true rfl, rfl, ?_⟩
  rename_i B n S hv ts h
  have hB := hv.b3
  have hBm := hv.bm
  have hsm := hv.sm
  have hl := h.len
  refine sx_seq (sx_asgN 0 (en_lst ed_nil lk) rfl rfl ?_)
  refine sx_seq (sx_forL S encS (fun i ρ cs => ∃ (a5 a6 a7 a8 a9 : Sl), ρ = [.d (.int B), .d (.int 1), .d (listS S), .d (tupI ts), .c 0, a5, a6, a7, a8, a9] ∧ cs = [some (.ls ((S.take i).map fun s => .int (lenS B ts s)))]) (ev_var rfl rfl) ⟨_, _, _, _, _, rfl, rfl⟩ ?_ ?_)
  · rintro i s ρ cs hs ⟨a5, a6, a7, a8, a9, rfl, rfl⟩
    refine ⟨_, _, (gx_tup (gxl_cons gx_name (gxl_cons gx_name (gxl_cons gx_name (gxl_cons gx_name gxl_nil)))) rfl), ?_⟩
    have hm := List.mem_of_getElem? hs
    have hp := hv.sp s hm
    have hok := h.ok s hm
    have one : ∀ {cs : Cs} {i : Int}, RvA (rMulX K) cs (.d (.int i)) (.d (.int 1)) (.d (.int (i * 1))) := rv_or1 (rv_i (.inr ⟨by decide, by decide⟩))
    have eq1 : (ts.getD s.b 0 - ts.getD s.a 0 - s.lo * 1) % (B * 1) + s.lo * 1 = lenS B ts s := by unfold lenS; rw [Int.mul_one, Int.mul_one]
    refine sx_seq (sx_asg (s := .d (.int (lenS B ts s))) (ev_is (ev_op (ev_op (ev_int1 (ev_op (ev_op (ev_op (ev_var rfl rfl) (ev_var rfl rfl) (rv_ixn .t (getI (d := 0) (by omega)))) (ev_op (ev_var rfl rfl) (ev_var rfl rfl) (rv_ixn .t (getI (d := 0) (by omega)))) rv_i0) (ev_op (ev_var rfl rfl) (ev_var rfl rfl) one) rv_i0)) (ev_op (ev_var rfl rfl) (ev_var rfl rfl) one) (rv_i (by omega))) (ev_op (ev_var rfl rfl) (ev_var rfl rfl) one) (rv_or1 rv_i0)) (by rw [eq1])) ?_)
    refine sx_seq (sx_if (b := false) (et_is (et_test (ev_op (ev_var rfl rfl) (ev_op (ev_var rfl rfl) (ev_var rfl rfl) one) rv_b0)) (decide_eq_false (by omega))) (fun h => nomatch h) fun _ => sx_next ?_)
    refine sx_app (ev_var rfl rfl) rfl (ev_var rfl rfl) (by rw [List.length_map, List.length_take]; omega) ⟨_, _, _, _, _, rfl, ?_⟩
    rw [List.take_add_one, hs, List.map_append]
    rfl
  · rintro ρ cs ⟨a5, a6, a7, a8, a9, rfl, rfl⟩
    rw [List.take_length, mapI]
    exact sx_ret (ev_var rfl rfl) (.ls rfl)
inductive pre__law_is_ring (CN CR : Addr) : List Sl → Sl → Prop
  | mk (S : List Span) (x : Nat) (v : Way) (h : IsWalk S x v x) (hv : v ≠ []) (hl : v.length ≤ 900) : pre__law_is_ring CN CR [.d (listS S), .d (encW v)] (.d (.bool true))
def encE (S : List Span) (p : Nat × Bool) : PyData := .tuple [intN (src S p), intN (dst S p)]
theorem cal__law_is_ring (T : Txt K mg CN CR) : C8.Cal P w K mg base 2 "_law_is_ring" (spP (pre__law_is_ring CN CR)) [] := by
  have C__law_integer := cal__law_integer (P := P) (w := w) (base := base) T
  refine calP 1 T.d__law_is_ring sc__law_is_ring (by intro ss r h; cases h <;> rfl) (fun f cdv A outer s H E hr => ⟨_, (pss_cons (ps_if (PW.pt (pw_or (pt_not (pt_val (pe_callB (r := rIsi K) call_isi (by rfl) T.z_isinstance boot_isinstance (pa_cons (pv 1) (pa_cons (pe_bltn (v := V.ty "tuple") (by rfl) T.z_tuple boot_tuple rfl) pa_nil))))) (pw_or1 (pt_cmpR (r := rEqD K) (op_eqD (hu64 hr)) (pe_callB (r := rLenX K) call_len_seq (by rfl) T.z_len boot_len (pa_cons (pv 1) pa_nil)) pe_int (nomark _))))) (pss_one (ps_ret pe_bl)) pss_nil)
      (pss_cons (ps_set (i := 2) sc__law_is_ring.nd rfl (.inr rfl) (pe_lst pa_nil))
      (pss_cons (ps_for PassesOwn.never rfl (kpi_tup K (pv 1)) (pg_name (i := 3) sc__law_is_ring.nd rfl (.inl rfl))
        (pss_cons (ps_if (PW.pt (pw_or (pt_not (pt_val (pe_callB (r := rIsi K) call_isi (by rfl) T.z_isinstance boot_isinstance (pa_cons (pv 3) (pa_cons (pe_bltn (v := V.ty "tuple") (by rfl) T.z_tuple boot_tuple rfl) pa_nil))))) (pw_or (pt_cmpR (r := rNeD K) (op_neD (hu64 hr)) (pe_callB (r := rLenX K) call_len_seq (by rfl) T.z_len boot_len (pa_cons (pv 3) pa_nil)) pe_int (nomark _)) (pw_or (pt_not (pt_val (C8.pe_c C__law_integer hr (by decide) (by rfl) (pa_cons (pe_ix (r := rIx K) ix_seq (pv 3) pe_int (fun _ _ => rfl)) pa_nil)))) (pw_or1 (pt_not (pt_val (pe_callB (r := rIsi K) call_isi (by rfl) T.z_isinstance boot_isinstance (pa_cons (pe_ix (r := rIx K) ix_seq (pv 3) pe_int (fun _ _ => rfl)) (pa_cons (pe_bltn (v := V.ty "bool") (by rfl) T.z_bool boot_bool rfl) pa_nil)))))))))) (pss_one (ps_ret pe_bl)) pss_nil)
        (pss_cons (ps_if (PW.pt (pw_or (pt_cmpR op_lt (pe_ix (r := rIx K) ix_seq (pv 3) pe_int (fun _ _ => rfl)) pe_int (nomark _)) (pw_or1 (pt_cmpR op_ge (pe_ix (r := rIx K) ix_seq (pv 3) pe_int (fun _ _ => rfl)) (pe_callB (r := rLenX K) call_len_seq (by rfl) T.z_len boot_len (pa_cons (pv 0) pa_nil)) (nomark _))))) (pss_one (ps_ret pe_bl)) pss_nil)
        (pss_cons (ps_asg (pe_slice (r := rSlX K) (SlR.or sl_list sl_tupA) (pe_ix (r := rIx K) ix_seq (pv 0) (pe_ix (r := rIx K) ix_seq (pv 3) pe_int (fun _ _ => rfl)) (fun _ _ => rfl)) po_none (po_some pe_int)) (kpg_tup K (n := 2) rfl (pgs_cons (pg_name (i := 4) sc__law_is_ring.nd rfl (.inl rfl)) (pgs_cons (pg_name (i := 5) sc__law_is_ring.nd rfl (.inl rfl)) pgs_nil))))
        (pss_one (ps_expr (kpe_bm K PySem.F.plainAttrs_list PySem.F.slot_list_append PySem.F.type_list_append mt_append (pv 2) (pa_cons (pe_ifExp (pt_val (pe_ix (r := rIx K) ix_seq (pv 3) pe_int (fun _ _ => rfl))) (pe_tup (pa_cons (pv 4) (pa_cons (pv 5) pa_nil))) (pe_tup (pa_cons (pv 5) (pa_cons (pv 4) pa_nil)))) pa_nil))))))))
      (pss_one (ps_ret (pe_callB (r := rAll K) (cr_all rfl) (by rfl) T.z_all boot_all (pa_cons (pe_lc (own := [("_law_k", 6)]) rfl sc__law_is_ring.nd (pi_range1 (by rfl) T.z_range (pa_cons (pe_callB (r := rLenX K) call_len_seq (by rfl) T.z_len boot_len (pa_cons (pv 2) pa_nil)) pa_nil)) (blkOk_by (N := ["_law_spans", "_law_thing", "_law_ends", "_law_pair", "_law_one", "_law_other", "_law_k"]) (sc := defScope s__law_is_ring) (by decide +kernel)) (fun _ _ _ _ _ => (pg_name (i := 6) sc__law_is_ring.nd rfl (.inl rfl))) (fun _ _ _ _ _ => pts_nil) (fun _ _ _ _ _ => (pe_cmpR (r := rEqD K) (op_eqD (hu64 hr)) (pe_ix (r := rIx K) ix_seq (pe_ix (r := rIx K) ix_seq (pv 2) (pe_op op_sub (pv 6) pe_int) (fun _ _ => rfl)) pe_int (fun _ _ => rfl)) (pe_ix (r := rIx K) ix_seq (pe_ix (r := rIx K) ix_seq (pv 2) (pv 6) (fun _ _ => rfl)) pe_int (fun _ _ => rfl)) (nomark _)))) pa_nil))))))), ?_⟩)
  intro ss r h; cases h <;> refine ⟨Nat.le_of_ble_eq_true rfl, rfl, ?_⟩
  rename_i S x v h hv hl
  have hlt := walk_lt h
  have hpos : 0 < v.length := List.length_pos_iff.mpr hv
  refine sx_seq (sx_if (b := false) (et_is (et_or (et_not (et_B (ev_isi (r := true) (ev_var rfl rfl) ev_w (.ty _) rfl (kit_ty (by decide +kernel))))) fun _ => et_test (ev_op (ev_len (ev_var rfl rfl) .t) ev_int rv_eqI)) ?_) (fun h => nomatch h) fun _ => sx_next ?_)
  · rw [List.length_map, beq_eq_false_iff_ne.mpr (by omega)]
    rfl
  refine sx_seq (sx_asgN 0 (en_lst ed_nil lk) rfl rfl ?_)
  refine sx_seq (sx_forT v encP (fun i ρ cs => ∃ (a3 a4 a5 : Sl), ρ = [.d (listS S), .d (encW v), .c 0, a3, a4, a5, .un] ∧ cs = [some (.ls ((v.take i).map (encE S)))]) (ev_var rfl rfl) ⟨_, _, _, rfl, rfl⟩ ?_ ?_)
  · rintro i p ρ cs hp ⟨a3, a4, a5, rfl, rfl⟩
    refine ⟨_, _, gx_name, ?_⟩
    have hp1 := hlt p (List.mem_of_getElem? hp)
    refine sx_seq (sx_if (b := false) (et_is (et_or (et_not (et_B (ev_isi (r := true) (ev_var rfl rfl) ev_w (.ty _) rfl (kit_ty (by decide +kernel))))) fun _ => et_or (et_test (ev_op (ev_len (ev_var rfl rfl) .t) ev_int rv_neI)) fun _ =>
      et_or (et_not (et_B (ev_call (ea_cons (ev_op (ev_var rfl rfl) ev_int (rv_ixn (j := 0) .t rfl)) ea_nil) (pre__law_integer.mk (p.1 : Int)) rfl rfl))) fun _ => et_not (et_B (ev_isi (r := true) (ev_op (ev_var rfl rfl) ev_int (rv_ixn (j := 1) .t rfl)) ev_w (.ty _) rfl (kit_ty (by decide +kernel))))) rfl) (fun h => nomatch h) fun _ => sx_next ?_)
    refine sx_seq (sx_if (b := false) (et_is (et_or (et_test (ev_op (ev_op (ev_var rfl rfl) ev_int (rv_ixn (j := 0) .t rfl)) ev_int rv_b0)) fun _ => et_test (ev_op (ev_op (ev_var rfl rfl) ev_int (rv_ixn (j := 0) .t rfl)) (ev_len (ev_var rfl rfl) .l) rv_b0)) ?_) (fun h => nomatch h) fun _ => sx_next ?_)
    · rw [List.length_map, decide_eq_false (show ¬ (p.1 : Int) < 0 by omega), decide_eq_false (show ¬ (p.1 : Int) ≥ (S.length : Int) by omega)]
      rfl
    refine sx_seq (sx_asgG (ev_to (n := 2) (ev_op (ev_var rfl rfl) (ev_op (ev_var rfl rfl) ev_int (rv_ixn (j := 0) .t rfl)) (rv_ixn .l (spanAt_get hp1))) eo_none (eo_some ev_int)) (gx_tup (gxl_cons gx_name (gxl_cons gx_name gxl_nil)) rfl) ?_)
    refine sx_app (d := encE S p) (ev_var rfl rfl) rfl (ev_if (et_B (ev_op (ev_var rfl rfl) ev_int (rv_ixn (j := 1) .t rfl))) (fun hb => ?_) (fun hb => ?_)) (by rw [List.length_map, List.length_take]; omega) ⟨_, _, _, rfl, ?_⟩
    · unfold encE src dst
      rw [hb]
      exact ev_tup (ed_cons (ev_var rfl rfl) (ed_cons (ev_var rfl rfl) ed_nil)) lk
    · unfold encE src dst
      rw [hb]
      exact ev_tup (ed_cons (ev_var rfl rfl) (ed_cons (ev_var rfl rfl) ed_nil)) lk
    · rw [List.take_add_one, hp, List.map_append]
      rfl
  · rintro ρ cs ⟨a3, a4, a5, rfl, rfl⟩
    rw [List.take_length]
    refine sx_ret (ev_is (ev_all (ns := List.replicate v.length true) (ea_en (en_is (en_map (List.range v.length) intN (fun _ => PyData.bool true) (ei_rangeN (ev_is (ev_len (ev_var rfl rfl) (.c rfl)) (by rw [List.length_map])) (by omega)) (by rw [List.length_range]; omega) fun i k hk => ⟨_, _, gx_name, by decide, ?_⟩) ((map_yes _).trans (by rw [List.length_range]))))) (by rw [all_yes])) (.d rfl)
    have hk1 : k < v.length := List.mem_range.mp (List.mem_of_getElem? hk)
    have key : ∀ p q : Nat × Bool, atI (v.map (encE S)) ((k : Int) - 1) = some (encE S p) → v[k]? = some q → dst S p = src S q → EvA (tOp (rEqD K) (tOp (rIx K) (tOp (rIx K) (tVar 2) (tOp (rI0 fun i j => .int (i - j)) (tVar 6) (tC (.int 1)))) (tC (.int 1))) (tOp (rIx K) (tOp (rIx K) (tVar 2) (tVar 6)) (tC (.int 0))))
        [.d (listS S), .d (encW v), .c 0, a3, a4, a5, .d (intN k)] [some (.ls (v.map (encE S)))] (.d (.bool true)) := fun p q h1 h2 h3 =>
      ev_is (ev_op (ev_op (ev_op (ev_var rfl rfl) (ev_op (ev_var rfl rfl) ev_int rv_i0) (rv_ix (.c rfl) h1)) ev_int (rv_ixn (j := 1) .t rfl)) (ev_op (ev_op (ev_var rfl rfl) (ev_var rfl rfl) (rv_ixn (d := encE S q) (.c rfl) (by rw [List.getElem?_map, h2]; rfl))) ev_int (rv_ixn (j := 0) .t rfl)) rv_eqI) (by rw [h3]; simp)
    cases k with
    | zero =>
      refine key v[v.length - 1] v[0] ?_ (List.getElem?_eq_getElem hpos) ?_
      · refine atI_mk (j := v.length - 1) ?_ (by rw [List.getElem?_map, List.getElem?_eq_getElem (by omega)]; rfl)
        rw [List.length_map]
        exact ixN_m1 hpos
      · rw [walk_first h (List.getElem?_eq_getElem hpos), walk_last h (List.getElem?_eq_getElem (by omega))]
    | succ k =>
      refine key v[k] v[k + 1] ?_ (List.getElem?_eq_getElem hk1) (walk_next h (List.getElem?_eq_getElem (by omega)) (List.getElem?_eq_getElem hk1))
      rw [show ((k + 1 : Nat) : Int) - 1 = (k : Int) by omega]
      exact atI_nat (by rw [List.getElem?_map, List.getElem?_eq_getElem (by omega)]; rfl)
inductive pre__law_beats (CN CR : Addr) : List Sl → Sl → Prop
  | mk (l : Nat) (b : Bool) (R v : Way) (k : Int) (hk : -(2 ^ 60) < k ∧ k < 2 ^ 60) (hl : v.length ≤ 1000) : pre__law_beats CN CR [.d (.list [encW ((l, b) :: R)]), .d (tupI [k]), .d (encW v)] (.d (.int (cntW l v * k)))
theorem cal__law_beats (T : Txt K mg CN CR) : C8.Cal P w K mg base 1 "_law_beats" (spP (pre__law_beats CN CR)) [] := by
  refine calP 0 T.d__law_beats sc__law_beats (by intro ss r h; cases h <;> rfl) (fun f cdv A outer s H E hr => ⟨_, (pss_cons (ps_set (i := 3) sc__law_beats.nd rfl (.inl rfl) pe_int)
      (pss_cons (ps_for PassesOwn.never rfl (pi_range1 (by rfl) T.z_range (pa_cons (pe_callB (r := rLenX K) call_len_seq (by rfl) T.z_len boot_len (pa_cons (pv 0) pa_nil)) pa_nil)) (pg_name (i := 4) sc__law_beats.nd rfl (.inr rfl))
        (pss_cons (ps_set (i := 5) sc__law_beats.nd rfl (.inl rfl) (pe_callB (r := rSum K) (cr_sum rfl) (by rfl) T.z_sum boot_sum (pa_cons (pe_lc (own := [("_law_index", 6), ("_law_forth", 7)]) rfl sc__law_beats.nd (kpi_tup K (pv 2)) (blkOk_by (N := ["_law_rings", "_law_island", "_law_ring", "_law_total", "_law_k", "_law_share", "_law_index", "_law_forth"]) (sc := defScope s__law_beats) (by decide +kernel)) (fun _ _ _ _ _ => (kpg_tup K (n := 2) rfl (pgs_cons (pg_name (i := 6) sc__law_beats.nd rfl (.inl rfl)) (pgs_cons (pg_name (i := 7) sc__law_beats.nd rfl (.inl rfl)) pgs_nil)))) (fun _ _ _ _ _ => (pts_one (pt_cmpR (r := rEqD K) (op_eqD (hu64 hr)) (pv 6) (pe_ix (r := rIx K) ix_seq (pe_ix (r := rIx K) ix_seq (pe_ix (r := rIx K) ix_seq (pv 0) (pv 4) (fun _ _ => rfl)) pe_int (fun _ _ => rfl)) pe_int (fun _ _ => rfl)) (nomark _)))) (fun _ _ _ _ _ => (pe_ifExp (pt_val (pv 7)) pe_int (pe_un un_neg pe_int)))) pa_nil)))
        (pss_one (ps_set (i := 3) sc__law_beats.nd rfl (.inl rfl) (pe_op (r := rAddX K) opx_add (pv 3) (pe_op (r := rMulX K) opx_mul (pv 5) (pe_ix (r := rIx K) ix_seq (pv 1) (pv 4) (fun _ _ => rfl))))))))
      (pss_one (ps_ret (pv 3))))), ?_⟩)
  intro ss r h; cases h <;> refine ⟨Nat.le_of_ble_eq_true rfl, rfl, ?_⟩
  rename_i l b R v k hk hl
  refine sx_seq (sx_asg ev_int ?_)
  refine sx_seq (sx_forR 1 (by decide) (fun i ρ cs => ∃ (a4 a5 a6 a7 : Sl), ρ = [.d (.list [encW ((l, b) :: R)]), .d (tupI [k]), .d (encW v), .d (.int (if i = 0 then 0 else cntW l v * k)), a4, a5, a6, a7] ∧ cs = []) (ev_is (ev_len (ds := [encW ((l, b) :: R)]) (ev_var rfl rfl) .l) rfl) ⟨_, _, _, _, rfl, rfl⟩ ?_ ?_)
  · rintro i ρ cs hi ⟨a4, a5, a6, a7, rfl, rfl⟩
    have : i = 0 := by omega
    subst this
    refine ⟨_, _, gx_name, ?_⟩
    refine sx_seq (sx_asg (s := .d (.int (cntW l v))) (ev_is (ev_sum (ns := (v.filter fun p => decide (p.1 = l)).map fun p => if p.2 then (1 : Int) else -1) (ea_en (en_is (en_flt v encP (fun p => decide (p.1 = l)) (fun p => PyData.int (if p.2 then (1 : Int) else -1)) (ei_tup (ev_var rfl rfl)) (by omega) fun i p hp => ⟨_, _, (gx_tup (gxl_cons gx_name (gxl_cons gx_name gxl_nil)) rfl), by decide, ?_, fun _ => ?_⟩) (mapI _ _)))) rfl) ?_)
    · exact et_is (et_test (ev_op (ev_var rfl rfl) (ev_op (ev_op (ev_op (ev_var rfl rfl) (ev_var rfl rfl) (rv_ixn (j := 0) .l rfl)) ev_int (rv_ixn (j := 0) .t rfl)) ev_int (rv_ixn (j := 0) .t rfl)) rv_eqI)) (by
        by_cases e : p.1 = l
        · rw [e]; simp
        · rw [decide_eq_false e]; exact beq_eq_false_iff_ne.mpr (by show ¬ (p.1 : Int) = (l : Int); omega))
    · refine ev_if (et_test (ev_var rfl rfl)) (fun hb => ?_) (fun hb => ?_)
      · have e : (if p.2 = true then (1 : Int) else -1) = 1 := if_pos hb
        rw [e]
        exact ev_int
      · have e : (if p.2 = true then (1 : Int) else -1) = -1 := if_neg (by rw [hb]; exact Bool.false_ne_true)
        rw [e]
        exact ev_un ev_int ru_neg
    · exact sx_asg (s := .d (.int (cntW l v * k))) (ev_is (ev_op (ev_var rfl rfl) (ev_op (ev_var rfl rfl) (ev_op (ev_var rfl rfl) (ev_var rfl rfl) (rv_ixn (j := 0) .t rfl)) (rv_or1 (rv_i (.inr ⟨by omega, by omega⟩)))) (rv_or1 rv_i0)) (by simp)) ⟨_, _, _, _, rfl, rfl⟩
  · rintro ρ cs ⟨a4, a5, a6, a7, rfl, rfl⟩
    exact sx_ret (ev_var rfl rfl) (.d rfl)
inductive pre__law_bars (CN CR : Addr) : List Sl → Sl → Prop
  | mk (B : Int) (hB : 3 ≤ B ∧ B ≤ 1440) (S : List Span) (l : Nat) (b : Bool) (R v : Way) (k : Int) (hk : -(2 ^ 60) < k ∧ k < 2 ^ 60) (x : Nat) (h : IsWalk S x v x) (hv : v ≠ []) (hl : v.length ≤ 900) (nd : (v.map (·.1)).Nodup) :
    pre__law_bars CN CR [.d (.int B), .d (listS S), .d (.list [encW ((l, b) :: R)]), .d (tupI [k]), .d (encW v)] (.d (.bool (decide (cntW l v * k * B < loW S v) || decide (hiW S v < cntW l v * k * B))))
theorem map_no {α : Type} (l : List α) : l.map (fun _ => PyData.bool false) = (List.replicate l.length false).map PyData.bool := by
  induction l with
  | nil => rfl
  | cons x l ih => rw [List.map_cons, ih, List.length_cons, List.replicate_succ, List.map_cons]
theorem any_no (m : Nat) : (List.replicate m false).any id = false := by
  induction m with
  | zero => rfl
  | succ m ih => rw [List.replicate_succ, List.any_cons, ih]; rfl
theorem cal__law_bars (T : Txt K mg CN CR) : C8.Cal P w K mg base 3 "_law_bars" (spP (pre__law_bars CN CR)) [] := by
  have C__law_is_ring := cal__law_is_ring (P := P) (w := w) (base := base) T
  have C__law_bounds := cal__law_bounds (P := P) (w := w) (base := base) T
  have C__law_beats := cal__law_beats (P := P) (w := w) (base := base) T
  refine calP 0 T.d__law_bars sc__law_bars (by intro ss r h; cases h <;> rfl) (fun f cdv A outer s H E hr => ⟨_, (pss_cons (ps_if (pt_not (pt_val (C8.pe_c C__law_is_ring hr (by decide) (by rfl) (pa_cons (pv 1) (pa_cons (pv 4) pa_nil))))) (pss_one (ps_ret pe_bl)) pss_nil)
      (pss_cons (ps_set (i := 5) sc__law_bars.nd rfl (.inr rfl) (pe_lc (own := [("_law_index", 9), ("_law_forth", 10)]) rfl sc__law_bars.nd (kpi_tup K (pv 4)) (blkOk_by (N := ["_law_beat_here", "_law_spans", "_law_rings", "_law_island", "_law_ring", "_law_used", "_law_least", "_law_most", "_law_number", "_law_index", "_law_forth"]) (sc := defScope s__law_bars) (by decide +kernel)) (fun _ _ _ _ _ => (kpg_tup K (n := 2) rfl (pgs_cons (pg_name (i := 9) sc__law_bars.nd rfl (.inl rfl)) (pgs_cons (pg_name (i := 10) sc__law_bars.nd rfl (.inl rfl)) pgs_nil)))) (fun _ _ _ _ _ => pts_nil) (fun _ _ _ _ _ => (pv 9))))
      (pss_cons (ps_if (pt_val (pe_callB (r := rAny K) (cr_any rfl) (by rfl) T.z_any boot_any (pa_cons (pe_lc (own := [("_law_index", 9)]) rfl sc__law_bars.nd (kpi_list K (pv 5)) (blkOk_by (N := ["_law_beat_here", "_law_spans", "_law_rings", "_law_island", "_law_ring", "_law_used", "_law_least", "_law_most", "_law_number", "_law_index", "_law_forth"]) (sc := defScope s__law_bars) (by decide +kernel)) (fun _ _ _ _ _ => (pg_name (i := 9) sc__law_bars.nd rfl (.inl rfl))) (fun _ _ _ _ _ => pts_nil) (fun _ _ _ _ _ => (pe_cmpR op_gt (kpe_bm K PySem.F.plainAttrs_list PySem.F.slot_list_count PySem.F.type_list_count (r := rCntI K) mt_lcount (pv 5) (pa_cons (pv 9) pa_nil)) pe_int (nomark _)))) pa_nil))) (pss_one (ps_ret pe_bl)) pss_nil)
      (pss_cons (ps_asg (C8.pe_c C__law_bounds hr (by decide) (by rfl) (pa_cons (pv 1) (pa_cons (pv 4) pa_nil))) (kpg_tup K (n := 2) rfl (pgs_cons (pg_name (i := 6) sc__law_bars.nd rfl (.inl rfl)) (pgs_cons (pg_name (i := 7) sc__law_bars.nd rfl (.inl rfl)) pgs_nil))))
      (pss_cons (ps_set (i := 8) sc__law_bars.nd rfl (.inl rfl) (pe_op (r := rMulX K) opx_mul (C8.pe_c C__law_beats hr (by decide) (by rfl) (pa_cons (pv 2) (pa_cons (pv 3) (pa_cons (pv 4) pa_nil)))) (pv 0)))
      (pss_one (ps_ret (pe_or (pe_cmpR op_lt (pv 8) (pv 6) (nomark _)) (pe_one (pe_cmpR op_gt (pv 8) (pv 7) (nomark _))))))))))), ?_⟩)
  intro ss r h; cases h <;> refine ⟨Nat.le_of_ble_eq_true rfl, rfl, ?_⟩
  rename_i B hB S l b R v k hk x h hv hl nd
  refine sx_seq (sx_if (b := !true) (et_not (et_B (ev_call (ea_cons (ev_var rfl rfl) (ea_cons (ev_var rfl rfl) ea_nil)) (pre__law_is_ring.mk S x v h hv hl) rfl rfl))) (fun h => nomatch h) fun _ => sx_next ?_)
  refine sx_seq (sx_asg (s := .d (.list ((v.map fun p => (p.1 : Int)).map PyData.int))) (ea_en (en_is (en_map v encP (fun p => PyData.int (p.1 : Int)) (ei_tup (ev_var rfl rfl)) (by omega) fun i p hp => ⟨_, _, (gx_tup (gxl_cons gx_name (gxl_cons gx_name gxl_nil)) rfl), by decide, ev_var rfl rfl⟩) (by rw [List.map_map]; rfl))) ?_)
  have nd2 : (v.map fun p => (p.1 : Int)).Nodup := by
    have e : (v.map fun p => (p.1 : Int)) = (v.map (·.1)).map fun n : Nat => (n : Int) := by rw [List.map_map]; rfl
    rw [e]
    exact List.Pairwise.map _ (fun a b hab => by omega) nd
  refine sx_seq (sx_if (b := false) (et_is (et_B (ev_any (ns := List.replicate v.length false) (ea_en (en_is (en_map (v.map fun p => (p.1 : Int)) PyData.int (fun _ => PyData.bool false) (ei_list (ev_var rfl rfl)) (by rw [List.length_map]; omega) fun i z hz => ⟨_, _, gx_name, by decide, ev_is (ev_op (ev_cnt (ev_var rfl rfl) (ev_var rfl rfl)) ev_int rv_b0) ?_⟩) ((map_no _).trans (by rw [List.length_map])))))) (by rw [any_no])) (fun h => nomatch h) fun _ => sx_next ?_)
  · have := List.nodup_iff_count.mp nd2 z
    rw [decide_eq_false (by omega)]
  refine sx_seq (sx_asgG (ev_call (ea_cons (ev_var rfl rfl) (ea_cons (ev_var rfl rfl) ea_nil)) (pre__law_bounds.mk S v (walk_lt h) (by omega)) rfl rfl) (gx_tup (gxl_cons gx_name (gxl_cons gx_name gxl_nil)) rfl) ?_)
  refine sx_seq (sx_asg (ev_op (ev_call (ea_cons (ev_var rfl rfl) (ea_cons (ev_var rfl rfl) (ea_cons (ev_var rfl rfl) ea_nil))) (pre__law_beats.mk l b R v k hk (by omega)) rfl rfl) (ev_var rfl rfl) (rv_or1 (rv_i (.inr ⟨by omega, by omega⟩)))) ?_)
  exact sx_ret (ev_orV (ev_op (ev_var rfl rfl) (ev_var rfl rfl) rv_b0) fun _ => ev_op (ev_var rfl rfl) (ev_var rfl rfl) rv_b0) (.d rfl)
inductive pre__law_marks (CN CR : Addr) : List Sl → Sl → Prop
  | mk (B : Int) (n : Nat) (S : List Span) (hv : Val B n S) : pre__law_marks CN CR [.d (listS S), .d (intN n)] (.d (.tuple [listN (marks n S).1, listN (marks n S).2]))
theorem cal__law_marks (T : Txt K mg CN CR) : C8.Cal P w K mg base 1 "_law_marks" (spP (pre__law_marks CN CR)) [] := by
  refine calP 2 T.d__law_marks sc__law_marks (by intro ss r h; cases h <;> rfl) (fun f cdv A outer s H E hr => ⟨_, (pss_cons (ps_set (i := 2) sc__law_marks.nd rfl (.inl rfl) (pe_listRg rfl (by rfl) T.z_list (prg_1 (by rfl) T.z_range (pv 1))))
      (pss_cons (ps_set (i := 3) sc__law_marks.nd rfl (.inl rfl) (pe_lst pa_nil))
      (pss_cons (ps_for PassesOwn.never rfl (pi_range1 (by rfl) T.z_range (pa_cons (pe_callB (r := rLenX K) call_len_seq (by rfl) T.z_len boot_len (pa_cons (pv 0) pa_nil)) pa_nil)) (pg_name (i := 4) sc__law_marks.nd rfl (.inl rfl))
        (pss_cons (ps_set (i := 5) sc__law_marks.nd rfl (.inr rfl) (pe_ix (r := rIx K) ix_seq (pv 2) (pe_ix (r := rIx K) ix_seq (pe_ix (r := rIx K) ix_seq (pv 0) (pv 4) (fun _ _ => rfl)) pe_int (fun _ _ => rfl)) (fun _ _ => rfl)))
        (pss_cons (ps_set (i := 6) sc__law_marks.nd rfl (.inr rfl) (pe_ix (r := rIx K) ix_seq (pv 2) (pe_ix (r := rIx K) ix_seq (pe_ix (r := rIx K) ix_seq (pv 0) (pv 4) (fun _ _ => rfl)) pe_int (fun _ _ => rfl)) (fun _ _ => rfl)))
        (pss_one (ps_if (pt_cmpR (r := rNeD K) (op_neD (hu64 hr)) (pv 5) (pv 6) (nomark _)) (pss_cons (ps_expr (kpe_bm K PySem.F.plainAttrs_list PySem.F.slot_list_append PySem.F.type_list_append mt_append (pv 3) (pa_cons (pv 4) pa_nil)))
          (pss_one (ps_setLc (i := 2) (own := [("_law_mark", 7)]) rfl sc__law_marks.nd rfl rfl (sw_true rfl rfl rfl (by decide +kernel)) (kpi_list K (pv 2)) (blkOk_by (N := ["_law_spans", "_law_events", "_law_marks_here", "_law_kept", "_law_index", "_law_one", "_law_other", "_law_mark"]) (sc := defScope s__law_marks) (by decide +kernel)) (fun _ _ _ _ _ => (pg_name (i := 7) sc__law_marks.nd rfl (.inl rfl))) (fun _ _ _ _ _ => pts_nil) (fun _ _ _ _ _ => (pe_ifExp (pt_cmpR (r := rInX K false) (opx_in (hu65 hr)) (pv 7) (pe_tup (pa_cons (pv 5) (pa_cons (pv 6) pa_nil))) rfl) (pe_callB (call_min2 rfl) (by rfl) T.z_min boot_min (pa_cons (pv 5) (pa_cons (pv 6) pa_nil))) (pv 7)))))) pss_nil)))))
      (pss_one (ps_ret (pe_tup (pa_cons (pv 2) (pa_cons (pv 3) pa_nil)))))))), ?_⟩)
  intro ss r h; cases h <;> refine ⟨Nat.le_of_ble_eq_true rfl, rfl, ?_⟩
  rename_i B n S hv
  have hn := hv.nm
  have hsm := hv.sm
  refine sx_seq (sx_asg (s := .d (listN (List.range n))) (ea_en (en_is (en_range1 (ev_var rfl rfl) (by omega) (by omega)) (range_intN n))) ?_)
  refine sx_seq (sx_asgN 1 (en_lst ed_nil lk) rfl rfl ?_)
  refine sx_seq (sx_forR S.length (by omega) (fun i ρ cs => ∃ (st : List Nat × List Nat) (a4 a5 a6 a7 : Sl), (S.zipIdx.drop i).foldl mstep st = marks n S ∧ st.1.length = n ∧ st.2.length ≤ i ∧
      ρ = [.d (listS S), .d (intN n), .d (listN st.1), .c 1, a4, a5, a6, a7] ∧ cs = [none, some (.ls (st.2.map intN))]) (ev_is (ev_len (ev_var rfl rfl) .l) (by rw [List.length_map]))
      ⟨(List.range n, []), _, _, _, _, rfl, by simp, Nat.le_refl _, rfl, rfl⟩ ?_ ?_)
  · rintro i ρ cs hi ⟨st, a4, a5, a6, a7, hf, hl, hk, rfl, rfl⟩
    have hm := sp_lt hv hi
    have hs : S[i]? = some (spanAt S i) := by
      unfold spanAt
      rw [List.getD_eq_getElem?_getD, List.getElem?_eq_getElem hi]
      rfl
    rw [drop_get (zipIdx_get hs), List.foldl_cons, mstep_eq] at hf
    refine ⟨_, _, gx_name, ?_⟩
    generalize hse : spanAt S i = s at hf hm hs
    have hg := spanAt_get hi
    rw [hse] at hg
    refine sx_seq (sx_asg (s := .d (intN (st.1.getD s.a 0))) (ev_op (ev_var rfl rfl) (ev_op (ev_op (ev_var rfl rfl) (ev_var rfl rfl) (rv_ixn .l hg)) ev_int (rv_ixn (j := 0) .t rfl)) (rv_ixn .l (getN (by omega)))) ?_)
    refine sx_seq (sx_asg (s := .d (intN (st.1.getD s.b 0))) (ev_op (ev_var rfl rfl) (ev_op (ev_op (ev_var rfl rfl) (ev_var rfl rfl) (rv_ixn .l hg)) ev_int (rv_ixn (j := 1) .t rfl)) (rv_ixn .l (getN (by omega)))) ?_)
    refine sx_if (et_test (ev_op (ev_var rfl rfl) (ev_var rfl rfl) rv_neI)) (fun hc => ?_) (fun hc => ?_)
    · have hne := neN_t hc
      rw [if_neg hne] at hf
      refine sx_seq (sx_app (ev_var rfl rfl) rfl (ev_var rfl rfl) (by rw [List.length_map]; omega) ?_)
      refine sx_asg (s := .d (listN (st.1.map fun m => if m = st.1.getD s.a 0 ∨ m = st.1.getD s.b 0 then min (st.1.getD s.a 0) (st.1.getD s.b 0) else m))) (ea_en (en_is (en_map st.1 intN (fun m => intN (if m = st.1.getD s.a 0 ∨ m = st.1.getD s.b 0 then min (st.1.getD s.a 0) (st.1.getD s.b 0) else m)) (ei_list (ev_var rfl rfl)) (by omega) fun j m hj => ⟨_, _, gx_name, by decide, ?_⟩) (by rw [List.map_map]; rfl)))
        ⟨_, _, _, _, _, hf, by rw [List.length_map]; exact hl, by rw [List.length_append]; exact Nat.succ_le_succ hk, rfl, by rw [List.map_append]; rfl⟩
      refine ev_if (et_test (ev_op (ev_var rfl rfl) (ev_tup (ed_cons (ev_var rfl rfl) (ed_cons (ev_var rfl rfl) ed_nil)) lk) (rv_in (n := 0) .d .t (shp_int _) (shp_intN [st.1.getD s.a 0, st.1.getD s.b 0]) lk))) (fun h => ?_) (fun h => ?_)
      · rw [in_intN2] at h
        rw [if_pos (of_decide_eq_true h)]
        exact ev_is (ev_min2 (ev_var rfl rfl) (ev_var rfl rfl)) (by rw [min_natCast])
      · rw [in_intN2] at h
        rw [if_neg (of_decide_eq_false h)]
        exact ev_var rfl rfl
    · have hne := neN_f hc
      rw [if_pos hne] at hf
      exact sx_next ⟨st, _, _, _, _, hf, hl, by omega, rfl, rfl⟩
  · rintro ρ cs ⟨st, a4, a5, a6, a7, hf, hl, hk, rfl, rfl⟩
    have hz : S.zipIdx.drop S.length = [] := by simp
    rw [hz, List.foldl_nil] at hf
    subst hf
    refine sx_un 4 (sx_un 5 (sx_un 6 (sx_un 7 (sx_frz 1 rfl lk ?_))))
    exact sx_ret (ev_tup (ed_cons (ev_var rfl rfl) (ed_cons (ev_var rfl rfl) ed_nil)) lk) (.d rfl)
end
end Z
end
section
namespace Z
open PySem PySem.Spec PyProof.Rows L2
abbrev encQ (q : Nat × Way) : PyData := .tuple [intN q.1, listP q.2]
/-- what holds of the ways found so far, the first k of them gone through -/
structure PathI (n : Nat) (S : List Span) (b e : Nat) (W : List (Nat × Way)) (k : Nat) : Prop where
  kp : ∀ q ∈ W, KP n S b q.2 q.1 ∧ ∀ z ∈ nodesW S b q.2, z ∈ W.map (·.1)
  nd : (W.map (·.1)).Nodup
  lt : ∀ q ∈ W, q.1 < n
  dn : ∀ (j : Nat) q, j < k → W[j]? = some q → q.1 ≠ e ∧ ∀ t ∈ stepsAt S (kept n S) q.1, t.2 ∈ W.map (·.1)
  b0 : b ∈ W.map (·.1)
theorem PathI.more {n : Nat} {S : List Span} {b e : Nat} {W : List (Nat × Way)} {k : Nat} (h : PathI n S b e W k) {w : Way} (hw : KP n S b w e) : k < W.length := by
  by_cases hk : k < W.length
  · exact hk
  · exfalso
    have all : ∀ {x y : Nat} {w : Way}, IsWalk S x w y → (∀ p ∈ w, p.1 ∈ kept n S) → x ∈ W.map (·.1) → y ∈ W.map (·.1) := fun hw => by
      induction hw with
      | nil => exact fun _ h => h
      | @cons p w y hp t ih =>
        intro hkp hx
        refine ih (fun q hq => hkp q (List.mem_cons_of_mem _ hq)) ?_
        obtain ⟨q, hq, e1⟩ := List.mem_map.mp hx
        obtain ⟨j, hj⟩ := List.getElem?_of_mem hq
        have hjl := (List.getElem?_eq_some_iff.mp hj).1
        exact (h.dn j q (by omega) hj).2 (p, dst S p) (mem_stepsAt.mpr ⟨hkp p List.mem_cons_self, e1.symm, rfl⟩)
    obtain ⟨q, hq, e1⟩ := List.mem_map.mp (all hw.walk hw.kp h.b0)
    obtain ⟨j, hj⟩ := List.getElem?_of_mem hq
    have hjl := (List.getElem?_eq_some_iff.mp hj).1
    exact (h.dn j q (by omega) hj).1 e1
theorem PathI.len {n : Nat} {S : List Span} {b e : Nat} {W : List (Nat × Way)} {k : Nat} (h : PathI n S b e W k) : W.length ≤ n := by
  have := nodup_len h.nd fun x hx => by
    obtain ⟨q, hq, rfl⟩ := List.mem_map.mp hx
    exact h.lt q hq
  rw [List.length_map] at this
  exact this
theorem PathI.push {B : Int} {n : Nat} {S : List Span} (hv : Val B n S) {b e : Nat} {W : List (Nat × Way)} {k : Nat} (h : PathI n S b e W k) {x : Nat} {w : Way} {p : Nat × Bool} (hx : (x, w) ∈ W) (hp : p.1 ∈ kept n S) (hs : src S p = x) (hn : dst S p ∉ W.map (·.1)) (hkl : k ≤ W.length) :
    PathI n S b e (W ++ [(dst S p, w ++ [p])]) k := by
  obtain ⟨h1, h2⟩ := h.kp _ hx
  have mono : ∀ z, z ∈ W.map (·.1) → z ∈ (W ++ [(dst S p, w ++ [p])]).map (·.1) := fun z hz => by rw [List.map_append]; exact List.mem_append_left _ hz
  refine ⟨fun q hq => ?_, ?_, fun q hq => ?_, fun j q hj hq => ?_, mono b h.b0⟩
  · rcases List.mem_append.mp hq with hq | hq
    · exact ⟨(h.kp q hq).1, fun z hz => mono z ((h.kp q hq).2 z hz)⟩
    · rw [List.mem_singleton] at hq
      subst hq
      refine ⟨h1.snoc hp hs fun z => hn (h2 _ z), fun z hz => ?_⟩
      rw [nodesW_append] at hz
      rcases List.mem_append.mp hz with hz | hz
      · exact mono z (h2 z hz)
      · rw [List.map_singleton, List.mem_singleton] at hz
        subst hz
        rw [List.map_append]
        exact List.mem_append_right _ List.mem_cons_self
  · rw [List.map_append]
    refine List.nodup_append.mpr ⟨h.nd, by simp, fun a ha c hc => ?_⟩
    rw [List.map_singleton, List.mem_singleton] at hc
    subst hc
    intro z
    have z' : a = dst S p := z
    exact hn (z' ▸ ha)
  · rcases List.mem_append.mp hq with hq | hq
    · exact h.lt q hq
    · rw [List.mem_singleton] at hq
      subst hq
      exact dst_lt hv (kept_lt _ hp)
  · rw [List.getElem?_append_left (by omega)] at hq
    obtain ⟨z1, z2⟩ := h.dn j q hj hq
    exact ⟨z1, fun t ht => mono _ (z2 t ht)⟩
theorem PathI.turn {n : Nat} {S : List Span} {b e : Nat} {W : List (Nat × Way)} {k : Nat} (h : PathI n S b e W k) {q : Nat × Way} (hq : W[k]? = some q) (hne : q.1 ≠ e) (ht : ∀ t ∈ stepsAt S (kept n S) q.1, t.2 ∈ W.map (·.1)) : PathI n S b e W (k + 1) :=
  ⟨h.kp, h.nd, h.lt, fun j r hj hr => by
    by_cases z : j = k
    · subst z
      rw [hq] at hr
      cases hr
      exact ⟨hne, ht⟩
    · exact h.dn j r (by omega) hr, h.b0⟩
theorem PathI.init {n : Nat} {S : List Span} {b e : Nat} (hb : b < n) : PathI n S b e [(b, [])] 0 :=
  ⟨fun q hq => by
    rw [List.mem_singleton] at hq
    subst hq
    exact ⟨KP.nil n S b, fun z hz => by
      have : z = b := by simpa [nodesW] using hz
      simp [this]⟩, by simp, fun q hq => by
    rw [List.mem_singleton] at hq
    subst hq
    exact hb, fun j q hj => by omega, by simp⟩
section
variable {P : Program} {w : World} {K : PySem.W.Frag} {mg : Str → Option Value} {base : Heap} {CN CR : Addr}
inductive pre__law_path (CN CR : Addr) : List Sl → Sl → Prop
  | mk (B : Int) (n : Nat) (S : List Span) (hv : Val B n S) (b e : Nat) (hb : b < n) (he : e < n) (w : Way) (hw : KP n S b w e) : pre__law_path CN CR [.d (listS S), .d (listN (kept n S)), .d (intN b), .d (intN e)] (.d (listP w))
theorem cal__law_path (T : Txt K mg CN CR) : C8.Cal P w K mg base 1 "_law_path" (spP (pre__law_path CN CR)) [] := by
  refine calP 2 T.d__law_path sc__law_path (by intro ss r h; cases h <;> rfl) (fun f cdv A outer s H E hr => ⟨_, (pss_cons (ps_set (i := 4) sc__law_path.nd rfl (.inl rfl) (pe_lst (pa_cons (pe_tup (pa_cons (pv 2) (pa_cons (pe_lst pa_nil) pa_nil))) pa_nil)))
      (pss_cons (ps_set (i := 5) sc__law_path.nd rfl (.inl rfl) (pe_lst (pa_cons (pv 2) pa_nil)))
      (pss_cons (ps_for PassesOwn.never rfl (pi_range1 (by rfl) T.z_range (pa_cons pe_int pa_nil)) (pg_name (i := 6) sc__law_path.nd rfl (.inl rfl))
        (pss_cons (ps_if (pt_cmpR op_ge (pv 6) (pe_callB (r := rLenX K) call_len_seq (by rfl) T.z_len boot_len (pa_cons (pv 4) pa_nil)) (nomark _)) (pss_one (ps_ret pe_non)) pss_nil)
        (pss_cons (ps_set (i := 7) sc__law_path.nd rfl (.inl rfl) (pe_ix (r := rIx K) ix_seq (pe_ix (r := rIx K) ix_seq (pv 4) (pv 6) (fun _ _ => rfl)) pe_int (fun _ _ => rfl)))
        (pss_cons (ps_if (pt_cmpR (r := rEqD K) (op_eqD (hu64 hr)) (pv 7) (pv 3) (nomark _)) (pss_one (ps_ret (pe_ix (r := rIx K) ix_seq (pe_ix (r := rIx K) ix_seq (pv 4) (pv 6) (fun _ _ => rfl)) pe_int (fun _ _ => rfl)))) pss_nil)
        (pss_one (ps_for PassesOwn.never rfl (kpi_list K (pv 1)) (pg_name (i := 8) sc__law_path.nd rfl (.inl rfl))
          (pss_cons (ps_set (i := 9) sc__law_path.nd rfl (.inl rfl) (pe_ix (r := rIx K) ix_seq (pe_ix (r := rIx K) ix_seq (pv 0) (pv 8) (fun _ _ => rfl)) pe_int (fun _ _ => rfl)))
          (pss_cons (ps_set (i := 10) sc__law_path.nd rfl (.inl rfl) (pe_op op_sub (pe_op (r := rAddX K) opx_add (pv 9) (pe_ix (r := rIx K) ix_seq (pe_ix (r := rIx K) ix_seq (pv 0) (pv 8) (fun _ _ => rfl)) pe_int (fun _ _ => rfl))) (pv 7)))
          (pss_one (ps_if (PW.pt (pw_and (pt_cmpR (r := rInX K false) (opx_in (hu65 hr)) (pv 7) (pe_slice (r := rSlX K) (SlR.or sl_list sl_tupA) (pe_ix (r := rIx K) ix_seq (pv 0) (pv 8) (fun _ _ => rfl)) po_none (po_some pe_int)) rfl) (pw_and1 (pt_cmpR (r := rInX K true) (opx_nin (hu65 hr)) (pv 10) (pv 5) rfl)))) (pss_cons (ps_expr (kpe_bm K PySem.F.plainAttrs_list PySem.F.slot_list_append PySem.F.type_list_append mt_append (pv 5) (pa_cons (pv 10) pa_nil)))
            (pss_one (ps_expr (kpe_bm K PySem.F.plainAttrs_list PySem.F.slot_list_append PySem.F.type_list_append mt_append (pv 4) (pa_cons (pe_tup (pa_cons (pv 10) (pa_cons (pe_op (r := rAddX K) opx_add (pe_ix (r := rIx K) ix_seq (pe_ix (r := rIx K) ix_seq (pv 4) (pv 6) (fun _ _ => rfl)) pe_int (fun _ _ => rfl)) (pe_lst (pa_cons (pe_tup (pa_cons (pv 8) (pa_cons (pe_cmpR (r := rEqD K) (op_eqD (hu64 hr)) (pv 7) (pv 9) (nomark _)) pa_nil))) pa_nil))) pa_nil))) pa_nil))))) pss_nil))))))))))
      (pss_one (ps_ret pe_non))))), ?_⟩)
  intro ss r h; cases h <;> refine ⟨Nat.le_of_ble_eq_true rfl, rfl, ?_⟩
  rename_i B n S hv b e hb he w hw
  have hnm := hv.nm
  refine sx_seq (sx_asgN 0 (ds := [(b, [])].map encQ) (en_lst (ed_cons (ev_tup (ed_cons (ev_var rfl rfl) (ed_cons (ea_en (en_lst ed_nil lk)) ed_nil)) lk) ed_nil) lk) rfl rfl ?_)
  refine sx_seq (sx_asgN 1 (ds := [b].map intN) (en_lst (ed_cons (ev_var rfl rfl) ed_nil) lk) rfl rfl ?_)
  refine sx_seq (sx_forR 30 (by decide) (fun k ρ cs => ∃ (W : List (Nat × Way)) (a6 a7 a8 a9 a10 : Sl), PathI n S b e W k ∧ k ≤ W.length ∧ ρ = [.d (listS S), .d (listN (kept n S)), .d (intN b), .d (intN e), .c 0, .c 1, a6, a7, a8, a9, a10] ∧ cs = [some (.ls (W.map encQ)), some (.ls ((W.map (·.1)).map intN))])
    ev_int ⟨[(b, [])], _, _, _, _, _, PathI.init hb, Nat.zero_le _, rfl, rfl⟩ ?_ ?_)
  · rintro k ρ cs hk ⟨W, a6, a7, a8, a9, a10, hW, hkl, rfl, rfl⟩
    refine ⟨_, _, gx_name, ?_⟩
    have hkW := hW.more hw
    have hWn := hW.len
    obtain ⟨⟨x, u⟩, hg⟩ : ∃ q, W[k]? = some q := ⟨W[k], List.getElem?_eq_getElem hkW⟩
    have hge : (W.map encQ)[k]? = some (encQ (x, u)) := by rw [List.getElem?_map, hg]; rfl
    have hmem := List.mem_of_getElem? hg
    have hxn := hW.lt _ hmem
    refine sx_seq (sx_if (b := false) (et_is (et_test (ev_op (ev_var rfl rfl) (ev_len (ev_var rfl rfl) (.c rfl)) rv_b0)) (decide_eq_false (by rw [List.length_map]; omega))) (fun h => nomatch h) fun _ => sx_next ?_)
    refine sx_seq (sx_asg (ev_op (ev_op (ev_var rfl rfl) (ev_var rfl rfl) (rv_ixn (.c rfl) hge)) ev_int (rv_ixn (j := 0) .t rfl)) ?_)
    refine sx_seq (sx_if (et_test (ev_op (ev_var rfl rfl) (ev_var rfl rfl) rv_eqI)) (fun hc => ?_) (fun hc => sx_next ?_))
    · have hxe : x = e := eqN_t hc
      subst hxe
      have := (hW.kp _ hmem).1.unique hv hw
      have hu : u = w := this
      subst hu
      exact sx_ret (ev_op (ev_op (ev_var rfl rfl) (ev_var rfl rfl) (rv_ixn (.c rfl) hge)) ev_int (rv_ixn (j := 1) .t rfl)) (.d rfl)
    · have hxe : ¬ x = e := eqN_f hc
      refine sx_forL (kept n S) intN (fun j ρ cs => ∃ (W : List (Nat × Way)) (a8 a9 a10 : Sl), PathI n S b e W k ∧ W[k]? = some (x, u) ∧ (∀ t ∈ stepsAt S ((kept n S).take j) x, t.2 ∈ W.map (·.1)) ∧
        ρ = [.d (listS S), .d (listN (kept n S)), .d (intN b), .d (intN e), .c 0, .c 1, .d (intN k), .d (intN x), a8, a9, a10] ∧ cs = [some (.ls (W.map encQ)), some (.ls ((W.map (·.1)).map intN))]) (ev_var rfl rfl) ⟨W, _, _, _, hW, hg, (fun t ht => by rw [List.take_zero] at ht; cases ht), rfl, rfl⟩ ?_ ?_
      · clear hge hkW hmem hg hW hkl hWn
        rintro j i ρ cs hj ⟨W, a8, a9, a10, hW, hg, htk, rfl, rfl⟩
        refine ⟨_, _, gx_name, ?_⟩
        have him := List.mem_of_getElem? hj
        have hil := kept_lt _ him
        have hs := sp_lt hv hil
        have hkW := (List.getElem?_eq_some_iff.mp hg).1
        have hWn := hW.len
        have hmem := List.mem_of_getElem? hg
        have hge : (W.map encQ)[k]? = some (encQ (x, u)) := by rw [List.getElem?_map, hg]; rfl
        have hul := (hW.kp _ hmem).1.len hv hb
        have hul' : u.length < n := hul
        have tk : (kept n S).take (j + 1) = (kept n S).take j ++ [i] := by rw [List.take_add_one, hj]; rfl
        refine sx_seq (sx_asg (ev_op (ev_op (ev_var rfl rfl) (ev_var rfl rfl) (rv_ixn .l (spanAt_get hil))) ev_int (rv_ixn (j := 0) .t rfl)) ?_)
        -- the test, and what it is followed by
        have hin : ∀ (z : Sl) (cs : Cs), EvT (tTest (tOp (rInX K false) (tVar 7) (tSl (rSlX K) (tOp (rIx K) (tVar 0) (tVar 8)) tNoPart (tPart (tC (.int 2)))))) [.d (listS S), .d (listN (kept n S)), .d (intN b), .d (intN e), .c 0, .c 1, .d (intN k), .d (intN x), .d (intN i), .d (intN (spanAt S i).a), z] cs (decide (x = (spanAt S i).a ∨ x = (spanAt S i).b)) := fun z cs =>
          et_is (et_test (ev_op (ev_var rfl rfl) (ev_to (n := 2) (ev_op (ev_var rfl rfl) (ev_var rfl rfl) (rv_ixn .l (spanAt_get hil))) eo_none (eo_some ev_int)) (rv_in (n := 0) .d .t (shp_int _) (shp_intN [(spanAt S i).a, (spanAt S i).b]) lk))) (in_intN2 _ _ _)
        have go : ∀ p : Nat × Bool, p.1 = i → src S p = x → (decide ((x : Int) = ((spanAt S i).a : Int))) = p.2 → Sx (tIfS (tAnd (tTest (tOp (rInX K false) (tVar 7) (tSl (rSlX K) (tOp (rIx K) (tVar 0) (tVar 8)) tNoPart (tPart (tC (.int 2)))))) (tTest (tOp (rInX K true) (tVar 10) (tVar 5))))
            (tSeq (tDrop (tBM K "list" rAppend (tVar 5) (tCons (tVar 10) tNil))) (tDrop (tBM K "list" rAppend (tVar 4) (tCons (tTup (tCons (tVar 10) (tCons (tOp (rAddX K) (tOp (rIx K) (tOp (rIx K) (tVar 4) (tVar 6)) (tC (.int 1))) (tLst (tCons (tTup (tCons (tVar 8) (tCons (tOp (rEqD K) (tVar 7) (tVar 9)) tNil))) tNil))) tNil))) tNil)))) tNext)
            [.d (listS S), .d (listN (kept n S)), .d (intN b), .d (intN e), .c 0, .c 1, .d (intN k), .d (intN x), .d (intN i), .d (intN (spanAt S i).a), .d (intN (dst S p))] [some (.ls (W.map encQ)), some (.ls ((W.map (·.1)).map intN))]
            (fun ρ cs => ∃ (W : List (Nat × Way)) (a8 a9 a10 : Sl), PathI n S b e W k ∧ W[k]? = some (x, u) ∧ (∀ t ∈ stepsAt S ((kept n S).take (j + 1)) x, t.2 ∈ W.map (·.1)) ∧
              ρ = [.d (listS S), .d (listN (kept n S)), .d (intN b), .d (intN e), .c 0, .c 1, .d (intN k), .d (intN x), a8, a9, a10] ∧ cs = [some (.ls (W.map encQ)), some (.ls ((W.map (·.1)).map intN))])
            (fun s cs => Fin cs s (.d (listP w))) := fun p hpi hps hpd => by
          subst hpi
          have hx2 : x = (spanAt S p.1).a ∨ x = (spanAt S p.1).b := by
            rw [← hps]
            unfold src
            split
            · exact .inl rfl
            · exact .inr rfl
          have tnew : ∀ {W' : List (Nat × Way)}, (∀ z, z ∈ W.map (·.1) → z ∈ W'.map (·.1)) → dst S p ∈ W'.map (·.1) → ∀ t ∈ stepsAt S ((kept n S).take (j + 1)) x, t.2 ∈ W'.map (·.1) := fun {W'} mono hd t ht => by
            obtain ⟨t1, t2, t3⟩ := mem_stepsAt.mp ht
            rw [tk] at t1
            rcases List.mem_append.mp t1 with t1 | t1
            · exact mono _ (htk t (mem_stepsAt.mpr ⟨t1, t2, t3⟩))
            · rw [List.mem_singleton] at t1
              have : t.1.2 = p.2 := by
                have hne := hs.2.2.1
                rw [← hps] at t2
                unfold src at t2
                rw [t1] at t2
                cases h1 : t.1.2 <;> cases h2 : p.2 <;> rw [h1, h2] at t2 <;> simp at t2
                · exact absurd t2.symm hne
                · exact absurd t2 hne
              have e1 : t.1 = p := Prod.ext t1 this
              rw [← t3, e1]
              exact hd
          refine sx_if (b := !decide (dst S p ∈ W.map (·.1))) (et_is (et_and (b := !decide (dst S p ∈ W.map (·.1))) (hin _ _) fun _ => et_is (et_test (ev_op (ev_var rfl rfl) (ev_var rfl rfl) (rv_nin (n := 0) .d (.c rfl) (shp_int _) (shp_intN _) lk))) (by rw [in_intN])) (by rw [decide_eq_true hx2]; rfl)) (fun hno => ?_) (fun hno => ?_)
          · have hnm' : dst S p ∉ W.map (·.1) := by simpa using hno
            have hpush := hW.push hv hmem him hps hnm' (by omega)
            refine sx_seq (sx_app (d := intN (dst S p)) (ev_var rfl rfl) rfl (ev_var rfl rfl) (by rw [List.length_map, List.length_map]; omega) ?_)
            refine sx_app (d := encQ (dst S p, u ++ [p])) (ev_var rfl rfl) rfl (ev_tup (ed_cons (ev_var rfl rfl) (ed_cons (d := listP (u ++ [p])) (ev_is (ev_op (ev_op (ev_op (ev_var rfl rfl) (ev_var rfl rfl) (rv_ixn (.c rfl) hge)) ev_int (rv_ixn (j := 1) .t rfl)) (ea_en (en_lst (ed_cons (d := encP p) (ev_tup (ed_cons (ev_var rfl rfl) (ed_cons (ev_is (ev_op (ev_var rfl rfl) (ev_var rfl rfl) rv_eqI) ?_) ed_nil)) lk) ed_nil) lk)) (rv_or2 (rv_or2 (rv_catL .l .l (by rw [List.length_map]; show _ + 1 ≤ _; omega))))) ?_) ed_nil)) lk) (by rw [List.length_map]; omega)
              ⟨_, _, _, _, hpush, by rw [List.getElem?_append_left hkW]; exact hg, tnew (fun z hz => by rw [List.map_append]; exact List.mem_append_left _ hz) (by rw [List.map_append]; exact List.mem_append_right _ List.mem_cons_self), rfl, ?_⟩
            · rw [Bool.beq_eq_decide_eq, hpd]
            · rw [show listP (u ++ [p]) = .list (u.map encP ++ [encP p]) by show PyData.list _ = _; rw [List.map_append]; rfl]
            · rw [List.map_append, List.map_append, List.map_append]
              rfl
          · have hmm : dst S p ∈ W.map (·.1) := by simpa using hno
            exact sx_next ⟨W, _, _, _, hW, hg, tnew (fun z hz => hz) hmm, rfl, rfl⟩
        have hthere : ∀ (y : Nat), ((spanAt S i).a : Int) + ((spanAt S i).b : Int) - (x : Int) = (y : Int) → EvA (tOp (rI0 fun i j => .int (i - j)) (tOp (rAddX K) (tVar 9) (tOp (rIx K) (tOp (rIx K) (tVar 0) (tVar 8)) (tC (.int 1)))) (tVar 7)) [.d (listS S), .d (listN (kept n S)), .d (intN b), .d (intN e), .c 0, .c 1, .d (intN k), .d (intN x), .d (intN i), .d (intN (spanAt S i).a), a10] [some (.ls (W.map encQ)), some (.ls ((W.map (·.1)).map intN))] (.d (intN y)) := fun y hy =>
          ev_is (ev_op (ev_op (ev_var rfl rfl) (ev_op (ev_op (ev_var rfl rfl) (ev_var rfl rfl) (rv_ixn .l (spanAt_get hil))) ev_int (rv_ixn (j := 1) .t rfl)) (rv_or1 rv_i0)) (ev_var rfl rfl) rv_i0) (by rw [hy])
        by_cases h1 : x = (spanAt S i).a
        · refine sx_seq (sx_asg (hthere (spanAt S i).b (by omega)) ?_)
          exact go (i, true) rfl h1.symm (decide_eq_true (by omega))
        · by_cases h2 : x = (spanAt S i).b
          · refine sx_seq (sx_asg (hthere (spanAt S i).a (by omega)) ?_)
            exact go (i, false) rfl h2.symm (decide_eq_false (by omega))
          · refine sx_seq (sx_asg (ev_op (ev_op (ev_var rfl rfl) (ev_op (ev_op (ev_var rfl rfl) (ev_var rfl rfl) (rv_ixn .l (spanAt_get hil))) ev_int (rv_ixn (j := 1) .t rfl)) (rv_or1 rv_i0)) (ev_var rfl rfl) rv_i0) ?_)
            refine sx_if (b := false) (et_is (et_and (b := false) (hin _ _) (fun h => absurd (of_decide_eq_true h) (by rintro (z | z); exact h1 z; exact h2 z))) (by rw [Bool.and_false])) (fun h => nomatch h) fun _ => sx_next ⟨W, _, _, _, hW, hg, fun t ht => ?_, rfl, rfl⟩
            obtain ⟨t1, t2, t3⟩ := mem_stepsAt.mp ht
            rw [tk] at t1
            rcases List.mem_append.mp t1 with t1 | t1
            · exact htk t (mem_stepsAt.mpr ⟨t1, t2, t3⟩)
            · exfalso
              rw [List.mem_singleton] at t1
              unfold src at t2
              rw [t1] at t2
              split at t2
              · exact h1 t2.symm
              · exact h2 t2.symm
      · rintro ρ cs ⟨W, a8, a9, a10, hW, hg, htk, rfl, rfl⟩
        rw [List.take_length] at htk
        have hkW := (List.getElem?_eq_some_iff.mp hg).1
        exact ⟨W, _, _, _, _, _, hW.turn hg hxe htk, hkW, rfl, rfl⟩
  · rintro ρ cs ⟨W, a6, a7, a8, a9, a10, hW, hkl, rfl, rfl⟩
    have := hW.len
    omega
inductive pre__law_base (CN CR : Addr) : List Sl → Sl → Prop
  | mk (B : Int) (n : Nat) (S : List Span) (hv : Val B n S) : pre__law_base CN CR [.d (listS S), .d (listN (kept n S))] (.d (.list ((baseOf n S).map encW)))
theorem cal__law_base (T : Txt K mg CN CR) : C8.Cal P w K mg base 2 "_law_base" (spP (pre__law_base CN CR)) [] := by
  have C__law_path := cal__law_path (P := P) (w := w) (base := base) T
  refine calP 1 T.d__law_base sc__law_base (by intro ss r h; cases h <;> rfl) (fun f cdv A outer s H E hr => ⟨_, (pss_cons (ps_set (i := 2) sc__law_base.nd rfl (.inl rfl) (pe_lst pa_nil))
      (pss_cons (ps_for PassesOwn.never rfl (pi_range1 (by rfl) T.z_range (pa_cons (pe_callB (r := rLenX K) call_len_seq (by rfl) T.z_len boot_len (pa_cons (pv 0) pa_nil)) pa_nil)) (pg_name (i := 3) sc__law_base.nd rfl (.inl rfl))
        (pss_one (ps_if (pt_cmpR (r := rInX K true) (opx_nin (hu65 hr)) (pv 3) (pv 1) rfl) (pss_cons (ps_set (i := 4) sc__law_base.nd rfl (.inl rfl) (C8.pe_c C__law_path hr (by decide) (by rfl) (pa_cons (pv 0) (pa_cons (pv 1) (pa_cons (pe_ix (r := rIx K) ix_seq (pe_ix (r := rIx K) ix_seq (pv 0) (pv 3) (fun _ _ => rfl)) pe_int (fun _ _ => rfl)) (pa_cons (pe_ix (r := rIx K) ix_seq (pe_ix (r := rIx K) ix_seq (pv 0) (pv 3) (fun _ _ => rfl)) pe_int (fun _ _ => rfl)) pa_nil))))))
          (pss_one (ps_expr (kpe_bm K PySem.F.plainAttrs_list PySem.F.slot_list_append PySem.F.type_list_append mt_append (pv 2) (pa_cons (kpe_tupleOf K (by rfl) T.z_tuple (pe_op (r := rAddX K) opx_add (pe_lst (pa_cons (pe_tup (pa_cons (pv 3) (pa_cons pe_bl pa_nil))) pa_nil)) (pv 4))) pa_nil))))) pss_nil)))
      (pss_one (ps_ret (pv 2))))), ?_⟩)
  intro ss r h; cases h <;> refine ⟨Nat.le_of_ble_eq_true rfl, rfl, ?_⟩
  rename_i B n S hv
  have hnm := hv.nm
  have hsm := hv.sm
  refine sx_seq (sx_asgN 0 (en_lst ed_nil lk) rfl rfl ?_)
  refine sx_seq (sx_forR S.length (by omega) (fun j ρ cs => ∃ (a3 a4 : Sl), ρ = [.d (listS S), .d (listN (kept n S)), .c 0, a3, a4] ∧ cs = [some (.ls ((((List.range j).filter fun i => decide (i ∉ kept n S)).map (ringOf n S)).map encW))])
    (ev_is (ev_len (ev_var rfl rfl) .l) (by rw [List.length_map])) ⟨_, _, rfl, rfl⟩ ?_ ?_)
  · rintro i ρ cs hi ⟨a3, a4, rfl, rfl⟩
    refine ⟨_, _, gx_name, ?_⟩
    have hs := sp_lt hv hi
    have hgt := spanAt_get hi
    refine sx_if (b := decide (i ∉ kept n S)) (et_is (et_test (ev_op (ev_var rfl rfl) (ev_var rfl rfl) (rv_nin (n := 0) .d .l (shp_int _) (shp_intN _) lk))) (by rw [in_intN, decide_not])) (fun hno => ?_) (fun hno => ?_)
    · have him : i ∈ loose n S := List.mem_filter.mpr ⟨List.mem_range.mpr hi, hno⟩
      obtain ⟨wi, hwi⟩ := loose_way hv him
      have hr := reachF_some hv hwi
      have hlen := hwi.len hv hs.2.1
      refine sx_seq (sx_asg (ev_call (ea_cons (ev_var rfl rfl) (ea_cons (ev_var rfl rfl) (ea_cons (ev_op (ev_op (ev_var rfl rfl) (ev_var rfl rfl) (rv_ixn .l hgt)) ev_int (rv_ixn (j := 1) .t rfl)) (ea_cons (ev_op (ev_op (ev_var rfl rfl) (ev_var rfl rfl) (rv_ixn .l hgt)) ev_int (rv_ixn (j := 0) .t rfl)) ea_nil)))) (pre__law_path.mk B n S hv _ _ hs.2.1 hs.1 wi hwi) rfl rfl) ?_)
      refine sx_app (d := encW (ringOf n S i)) (ev_var rfl rfl) rfl (ev_is (ev_tuple (ev_op (ea_en (en_lst (ed_cons (ev_tup (ed_cons (ev_var rfl rfl) (ed_cons ev_bl ed_nil)) lk) ed_nil) lk)) (ev_var rfl rfl) (rv_or2 (rv_or2 (rv_catL .l .l (by rw [List.length_map]; show 1 + _ ≤ _; omega))))) .l) (by unfold ringOf; rw [hr]; rfl))
        (by
          rw [List.length_map, List.length_map]
          have := List.length_filter_le (fun i => decide (i ∉ kept n S)) (List.range i)
          rw [List.length_range] at this
          omega) ⟨_, _, rfl, ?_⟩
      rw [List.range_succ, List.filter_append, List.filter_cons, if_pos hno, List.filter_nil, List.map_append, List.map_append]
      rfl
    · refine sx_next ⟨_, _, rfl, ?_⟩
      rw [List.range_succ, List.filter_append, List.filter_cons, if_neg (by rw [hno]; exact Bool.false_ne_true), List.filter_nil, List.append_nil]
  · rintro ρ cs ⟨a3, a4, rfl, rfl⟩
    exact sx_ret (ev_var rfl rfl) (.ls rfl)
end
end Z
end
section
namespace Z
open PySem PySem.Spec PyProof.Rows L2
theorem fix1_spec {v : Nat} : ∀ {l : List Nat}, v ∈ l → l[fix1 v l]? = some v ∧ ∀ (m z : Nat), m < fix1 v l → l[m]? = some z → z ≠ v
  | x :: l, h => by
    unfold fix1
    by_cases e : x = v
    · subst e
      rw [if_pos rfl]
      exact ⟨rfl, fun m z h => by omega⟩
    · rw [if_neg e]
      have hm : v ∈ l := by
        rcases List.mem_cons.mp h with h | h
        · exact absurd h.symm e
        · exact h
      obtain ⟨h1, h2⟩ := fix1_spec hm
      refine ⟨by simpa using h1, fun m z hlt hz => ?_⟩
      cases m with
      | zero =>
        simp at hz
        subst hz
        exact e
      | succ m => exact h2 m z (by omega) (by simpa using hz)
section
variable {ρ ρ' : List Sl} {cs : Cs} {ta tb te : TE} {K : PySem.W.Frag}
theorem ev_index {l : List Nat} {v : Nat} (hm : v ∈ l) (ho : EvA ta ρ cs (.d (listN l))) (h : EvA te ρ cs (.d (intN v))) : EvA (tBM K "list" (rIndex K) ta (tCons te tNil)) ρ cs (.d (intN (fix1 v l))) := fun b as H σ ok Q q =>
  ho b as H σ ok _ fun u H1 e1 r1 => by
    cases r1 with
    | @lst a xs _ h1 h2 =>
      have h2' : DqA (b.G as cs H1) xs ((l.map fun n : Nat => (n : Int)).map PyData.int) := by rw [List.map_map]; exact h2
      have := h2'.ints
      subst this
      have hq := (ok.mono e1).h.gle _ _ h1
      refine ⟨.inl ⟨rfl, _, SqL.of hq⟩, h b as H1 σ (ok.mono e1) _ fun w H2 e2 r2 => ?_⟩
      cases r2
      obtain ⟨s1, s2⟩ := fix1_spec hm
      refine ⟨a, _, _, fix1 v l, .int v, rfl, rfl, SqL.of (e2 _ _ hq), rfl, ?_, ?_, ?_, fun m z' hlt hz => ?_, q _ H2 (e1.trans e2) (.int _)⟩
      · rw [List.all_eq_true]
        intro x hx
        obtain ⟨y, _, rfl⟩ := List.mem_map.mp hx
        rfl
      · rw [List.map_map, List.getElem?_map, s1]
        rfl
      · exact beq_self_eq_true _
      · rw [List.map_map, List.getElem?_map] at hz
        obtain ⟨y, hy, rfl⟩ := Option.map_eq_some_iff.mp hz
        have := s2 m y hlt hy
        exact beq_eq_false_iff_ne.mpr fun e => this (by have e' : (y : Int) = (v : Int) := e; omega)
end
theorem getTT {n : Nat} {f : Nat → Int} {e : Nat} (h : e < n) : (((List.range n).map f).map PyData.int)[e]? = some (.int (((List.range n).map f).getD e 0)) := getI (by rw [List.length_map, List.length_range]; exact h)
section
variable {P : Program} {w : World} {K : PySem.W.Frag} {mg : Str → Option Value} {base : Heap} {CN CR : Addr}
inductive pre__law_fits (CN CR : Addr) : List Sl → Sl → Prop
  | mk (B : Int) (n : Nat) (S : List Span) (hv : Val B n S) (R : Way) (hRl : R.length ≤ 900) (hRi : ∀ p ∈ R, p.1 < S.length) (k : Int) (ts : List Int) (h : TT B n S ts) (h0 : ∀ e, e < n → fix1 ((marks n S).1.getD e 0) (marks n S).1 = e → ts.getD e 0 = 0) (hk : sumW (fun i => (S.map (lenS B ts)).getD i 0) R / B = k) :
    pre__law_fits CN CR [.d (.int B), .d (listS S), .d (intN n), .d (.list [encW R]), .d (tupI [k]), .d (tupI ts)] (.d (.bool true))
theorem cal__law_fits (T : Txt K mg CN CR) : C8.Cal P w K mg base 2 "_law_fits" (spP (pre__law_fits CN CR)) [] := by
  have C__law_integer := cal__law_integer (P := P) (w := w) (base := base) T
  have C__law_marks := cal__law_marks (P := P) (w := w) (base := base) T
  have C__law_row := cal__law_row (P := P) (w := w) (base := base) T
  have C__law_sum := cal__law_sum (P := P) (w := w) (base := base) T
  refine calP 0 T.d__law_fits sc__law_fits (by intro ss r h; cases h <;> rfl) (fun f cdv A outer s H E hr => ⟨_, (pss_cons (ps_if (PW.pt (pw_or (pt_not (pt_val (pe_callB (r := rIsi K) call_isi (by rfl) T.z_isinstance boot_isinstance (pa_cons (pv 5) (pa_cons (pe_bltn (v := V.ty "tuple") (by rfl) T.z_tuple boot_tuple rfl) pa_nil))))) (pw_or1 (pt_cmpR (r := rNeD K) (op_neD (hu64 hr)) (pe_callB (r := rLenX K) call_len_seq (by rfl) T.z_len boot_len (pa_cons (pv 5) pa_nil)) (pv 2) (nomark _))))) (pss_one (ps_ret pe_bl)) pss_nil)
      (pss_cons (ps_if (pt_not (pt_val (pe_callB (r := rAll K) (cr_all rfl) (by rfl) T.z_all boot_all (pa_cons (pe_lc (own := [("_law_moment", 8)]) rfl sc__law_fits.nd (kpi_tup K (pv 5)) (blkOk_by (N := ["_law_beat_here", "_law_spans", "_law_events", "_law_rings", "_law_island", "_law_told", "_law_marks_here", "_law_row_here", "_law_moment", "_law_event", "_law_ring"]) (sc := defScope s__law_fits) (by decide +kernel)) (fun _ _ _ _ _ => (pg_name (i := 8) sc__law_fits.nd rfl (.inl rfl))) (fun _ _ _ _ _ => pts_nil) (fun _ _ _ _ _ => (pe_and (C8.pe_c C__law_integer hr (by decide) (by rfl) (pa_cons (pv 8) pa_nil)) (pe_and (pe_cmpR op_le pe_int (pv 8) (nomark _)) (pe_one (pe_cmpR op_lt (pv 8) (pv 0) (nomark _))))))) pa_nil)))) (pss_one (ps_ret pe_bl)) pss_nil)
      (pss_cons (ps_set (i := 6) sc__law_fits.nd rfl (.inr rfl) (pe_ix (r := rIx K) ix_seq (C8.pe_c C__law_marks hr (by decide) (by rfl) (pa_cons (pv 1) (pa_cons (pv 2) pa_nil))) pe_int (fun _ _ => rfl)))
      (pss_cons (ps_if (pt_not (pt_val (pe_callB (r := rAll K) (cr_all rfl) (by rfl) T.z_all boot_all (pa_cons (pe_lc (own := [("_law_event", 9)]) rfl sc__law_fits.nd (pi_range1 (by rfl) T.z_range (pa_cons (pv 2) pa_nil)) (blkOk_by (N := ["_law_beat_here", "_law_spans", "_law_events", "_law_rings", "_law_island", "_law_told", "_law_marks_here", "_law_row_here", "_law_moment", "_law_event", "_law_ring"]) (sc := defScope s__law_fits) (by decide +kernel)) (fun _ _ _ _ _ => (pg_name (i := 9) sc__law_fits.nd rfl (.inl rfl))) (fun _ _ _ _ _ => (pts_one (pt_cmpR (r := rEqD K) (op_eqD (hu64 hr)) (kpe_bm K PySem.F.plainAttrs_list PySem.F.slot_list_index PySem.F.type_list_index (r := rIndex K) mt_index (pv 6) (pa_cons (pe_ix (r := rIx K) ix_seq (pv 6) (pv 9) (fun _ _ => rfl)) pa_nil)) (pv 9) (nomark _)))) (fun _ _ _ _ _ => (pe_cmpR (r := rEqD K) (op_eqD (hu64 hr)) (pe_ix (r := rIx K) ix_seq (pv 5) (pv 9) (fun _ _ => rfl)) pe_int (nomark _)))) pa_nil)))) (pss_one (ps_ret pe_bl)) pss_nil)
      (pss_cons (ps_set (i := 7) sc__law_fits.nd rfl (.inr rfl) (C8.pe_c C__law_row hr (by decide) (by rfl) (pa_cons (pv 0) (pa_cons pe_int (pa_cons (pv 1) (pa_cons (pv 5) pa_nil))))))
      (pss_one (ps_ret (pe_and (pe_cmpR op_notN (pv 7) pe_non (nomark _)) (pe_one (pe_cmpR (r := rEqD K) (op_eqD (hu64 hr)) (kpe_tupleOf K (by rfl) T.z_tuple (pe_lc (own := [("_law_ring", 10)]) rfl sc__law_fits.nd (kpi_list K (pv 3)) (blkOk_by (N := ["_law_beat_here", "_law_spans", "_law_events", "_law_rings", "_law_island", "_law_told", "_law_marks_here", "_law_row_here", "_law_moment", "_law_event", "_law_ring"]) (sc := defScope s__law_fits) (by decide +kernel)) (fun _ _ _ _ _ => (pg_name (i := 10) sc__law_fits.nd rfl (.inl rfl))) (fun _ _ _ _ _ => pts_nil) (fun _ _ _ _ _ => (pe_op op_fdiv (C8.pe_c C__law_sum hr (by decide) (by rfl) (pa_cons (pv 10) (pa_cons (pv 7) pa_nil))) (pv 0))))) (pv 4) (nomark _))))))))))), ?_⟩)
  intro ss r h; cases h <;> refine ⟨Nat.le_of_ble_eq_true rfl, rfl, ?_⟩
  rename_i B n S hv R hRl hRi k ts h h0 hk
  have hnm := hv.nm
  have h3 := hv.b3
  have hbm := hv.bm
  have hml := marks_len n S
  have hl := h.len
  refine sx_seq (sx_if (b := false) (et_is (et_or (et_not (et_B (ev_isi (r := true) (ev_var rfl rfl) ev_w (.ty _) rfl (kit_ty (by decide +kernel))))) fun _ => et_test (ev_op (ev_len (ev_var rfl rfl) .t) (ev_var rfl rfl) rv_neI)) ?_) (fun h => nomatch h) fun _ => sx_next ?_)
  · rw [List.length_map, hl]
    simp
  refine sx_seq (sx_if (b := false) (et_is (et_not (et_B (ev_all (ns := List.replicate ts.length true) (ea_en (en_is (en_map ts PyData.int (fun _ => PyData.bool true) (ei_tup (ev_var rfl rfl)) (by omega) fun i t ht => ⟨_, _, gx_name, by decide, ?_⟩) (map_yes _)))))) (by rw [all_yes]; rfl)) (fun h => nomatch h) fun _ => sx_next ?_)
  · have hr := h.rg t (List.mem_of_getElem? ht)
    refine ev_is (ev_andV (ev_call (ea_cons (ev_var rfl rfl) ea_nil) (pre__law_integer.mk t) rfl rfl) fun _ => ev_andV (ev_op ev_int (ev_var rfl rfl) rv_b0) fun _ => ev_op (ev_var rfl rfl) (ev_var rfl rfl) rv_b0) ?_
    rw [decide_eq_true hr.1, decide_eq_true hr.2]
    rfl
  refine sx_seq (sx_asg (ev_op (ev_call (ea_cons (ev_var rfl rfl) (ea_cons (ev_var rfl rfl) ea_nil)) (pre__law_marks.mk B n S hv) rfl rfl) ev_int (rv_ixn (j := 0) .t rfl)) ?_)
  refine sx_seq (sx_if (b := false) (et_is (et_not (et_B (ev_all (ns := List.replicate ((List.range n).filter fun e => decide (fix1 ((marks n S).1.getD e 0) (marks n S).1 = e)).length true) (ea_en (en_is (en_flt (List.range n) intN (fun e => decide (fix1 ((marks n S).1.getD e 0) (marks n S).1 = e)) (fun _ => PyData.bool true) (ei_rangeN (ev_var rfl rfl) (by omega)) (by rw [List.length_range]; omega) fun i e he => ⟨_, _, gx_name, by decide, ?_, fun hf => ?_⟩) (map_yes _)))))) (by rw [all_yes]; rfl)) (fun h => nomatch h) fun _ => sx_next ?_)
  · have hen : e < n := List.mem_range.mp (List.mem_of_getElem? he)
    have hg := getN (d := 0) (l := (marks n S).1) (i := e) (by omega)
    have hmm : (marks n S).1.getD e 0 ∈ (marks n S).1 := List.mem_of_getElem? (getD_get (by omega))
    refine et_is (et_test (ev_op (ev_index hmm (ev_var rfl rfl) (ev_op (ev_var rfl rfl) (ev_var rfl rfl) (rv_ixn .l hg))) (ev_var rfl rfl) rv_eqI)) ?_
    by_cases e1 : fix1 ((marks n S).1.getD e 0) (marks n S).1 = e
    · rw [e1]; simp
    · rw [decide_eq_false e1]; exact beq_eq_false_iff_ne.mpr (by omega)
  · have hen : e < n := List.mem_range.mp (List.mem_of_getElem? he)
    refine ev_is (ev_op (ev_op (ev_var rfl rfl) (ev_var rfl rfl) (rv_ixn .t (getI (d := 0) (by omega)))) ev_int rv_eqI) ?_
    rw [h0 e hen (of_decide_eq_true hf)]
    rfl
  refine sx_seq (sx_asg (ev_call (ea_cons (ev_var rfl rfl) (ea_cons ev_int (ea_cons (ev_var rfl rfl) (ea_cons (ev_var rfl rfl) ea_nil)))) (pre__law_row.mk B n S hv ts h) rfl rfl) ?_)
  refine sx_ret (ev_is (ev_andV (ev_op (ev_var rfl rfl) ev_non rv_notN) fun _ => ev_op (ev_tuple (ea_en (en_is (en_map [R] encW (fun _ => PyData.int k) (ei_list (ev_var rfl rfl)) lk fun i v hv' => ⟨_, _, gx_name, by decide, ?_⟩) (es := [k].map PyData.int) rfl)) .l) (ev_var rfl rfl) (rv_eq .d .d ((shp_tup (shp_ints [k])).ok lk) ((shp_tup (shp_ints [k])).ok lk))) ?_) (.d rfl)
  · have hv2 := List.mem_of_getElem? hv'
    rw [List.mem_singleton] at hv2
    subst hv2
    exact ev_is (ev_op (ev_call (ea_cons (ev_var rfl rfl) (ea_cons (ev_var rfl rfl) ea_nil)) (pre__law_sum.mk v _ (fun p hp => by rw [List.length_map]; exact hRi p hp) (by omega)) rfl rfl) (ev_var rfl rfl) (rv_i ⟨by omega, by omega⟩)) (by rw [hk])
  · rw [SeqAt.eqv_refl _ (shp_tup (shp_ints [k])).1]
    rfl
inductive pre__law_barred_right (CN CR : Addr) : List Sl → Sl → Prop
  | mk (B : Int) (n : Nat) (S : List Span) (hv : Val B n S) (l : Nat) (he : loose n S = [l]) (R : Way) (hR : ∃ R', R = (l, true) :: R') (hRl : R.length ≤ 900) (k : Int) (hk : -(2 ^ 60) < k ∧ k < 2 ^ 60) (h : BarK B n S l R k) :
    pre__law_barred_right CN CR [netS CN B n S, .d (listS S), .d (.list [encW R]), .d (.int k)] (.d (.bool true))
theorem shp_str (x : Str) (h : PyData.strOk x = true := by decide +kernel) : Shp 0 (.str x) := ⟨by simp [PyData.canLay0, h], by simp [PyData.depth]⟩
theorem idx_ints (v : Way) : (v.map fun p => PyData.int (p.1 : Int)) = ((v.map (·.1)).map fun n : Nat => (n : Int)).map PyData.int := by rw [List.map_map, List.map_map]; rfl
theorem cal__law_barred_right (T : Txt K mg CN CR) : C8.Cal P w K mg base 7 "_law_barred_right" (spP (pre__law_barred_right CN CR)) [] := by
  have C_held := cal_held (P := P) (w := w) (base := base) T
  have C_is_barring := cal_is_barring (P := P) (w := w) (base := base) T
  have C__law_bars := cal__law_bars (P := P) (w := w) (base := base) T
  refine calP 0 T.d__law_barred_right sc__law_barred_right (by intro ss r h; cases h <;> rfl) (fun f cdv A outer s H E hr => ⟨_, (pss_cons (ps_set (i := 4) sc__law_barred_right.nd rfl (.inl rfl) (C8.pe_c C_held hr (by decide) (by rfl) (pa_cons (pv 0) (pa_cons (pe_tup (pa_cons (pv 3) pa_nil)) pa_nil))))
      (pss_cons (ps_if (PW.pt (pw_or (pt_not (pt_val (pe_callB (r := rIsi K) call_isi (by rfl) T.z_isinstance boot_isinstance (pa_cons (pv 4) (pa_cons (pe_bltn (v := V.ty "tuple") (by rfl) T.z_tuple boot_tuple rfl) pa_nil))))) (pw_or (pt_cmpR (r := rNeD K) (op_neD (hu64 hr)) (pe_callB (r := rLenX K) call_len_seq (by rfl) T.z_len boot_len (pa_cons (pv 4) pa_nil)) pe_int (nomark _)) (pw_or1 (pt_cmpR (r := rNeD K) (op_neD (hu64 hr)) (pe_ix (r := rIx K) ix_seq (pv 4) pe_int (fun _ _ => rfl)) pe_str (nomark _)))))) (pss_one (ps_ret pe_bl)) pss_nil)
      (pss_cons (ps_if (PW.pt (pw_or (pt_not (pt_val (C8.pe_c C__law_bars hr (by decide) (by rfl) (pa_cons (kpe_fld K (pv 0) rfl) (pa_cons (pv 1) (pa_cons (pv 2) (pa_cons (pe_tup (pa_cons (pv 3) pa_nil)) (pa_cons (pe_ix (r := rIx K) ix_seq (pv 4) pe_int (fun _ _ => rfl)) pa_nil)))))))) (pw_or1 (pt_cmpR op_notBl (C8.pe_c C_is_barring hr (by decide) (by rfl) (pa_cons (pv 0) (pa_cons (pe_tup (pa_cons (pv 3) pa_nil)) (pa_cons (pe_ix (r := rIx K) ix_seq (pv 4) pe_int (fun _ _ => rfl)) pa_nil)))) pe_bl (nomark _))))) (pss_one (ps_ret pe_bl)) pss_nil)
      (pss_one (ps_ret (pe_cmpR (r := rEqD K) (op_eqD (hu64 hr)) (pe_callB (r := rSortedI K) cr_sortedI (by rfl) T.z_sorted boot_sorted (pa_cons (pe_lc (own := [("_law_index", 5), ("_law_forth", 6)]) rfl sc__law_barred_right.nd (kpi_tup K (pe_ix (r := rIx K) ix_seq (pv 4) pe_int (fun _ _ => rfl))) (blkOk_by (N := ["_law_net", "_law_spans", "_law_rings", "_law_number", "_law_told", "_law_index", "_law_forth"]) (sc := defScope s__law_barred_right) (by decide +kernel)) (fun _ _ _ _ _ => (kpg_tup K (n := 2) rfl (pgs_cons (pg_name (i := 5) sc__law_barred_right.nd rfl (.inl rfl)) (pgs_cons (pg_name (i := 6) sc__law_barred_right.nd rfl (.inl rfl)) pgs_nil)))) (fun _ _ _ _ _ => pts_nil) (fun _ _ _ _ _ => (pv 5))) pa_nil)) (pe_callB (r := rSortedI K) cr_sortedI (by rfl) T.z_sorted boot_sorted (pa_cons (pe_lc (own := [("_law_index", 5), ("_law_forth", 6)]) rfl sc__law_barred_right.nd (kpi_tup K (pe_ix (r := rIx K) ix_seq (pv 2) pe_int (fun _ _ => rfl))) (blkOk_by (N := ["_law_net", "_law_spans", "_law_rings", "_law_number", "_law_told", "_law_index", "_law_forth"]) (sc := defScope s__law_barred_right) (by decide +kernel)) (fun _ _ _ _ _ => (kpg_tup K (n := 2) rfl (pgs_cons (pg_name (i := 5) sc__law_barred_right.nd rfl (.inl rfl)) (pgs_cons (pg_name (i := 6) sc__law_barred_right.nd rfl (.inl rfl)) pgs_nil)))) (fun _ _ _ _ _ => pts_nil) (fun _ _ _ _ _ => (pv 5))) pa_nil)) (nomark _))))))), ?_⟩)
  intro ss r h; cases h <;> refine ⟨Nat.le_of_ble_eq_true rfl, rfl, ?_⟩
  rename_i B n S hv l he R hR hRl k hk h
  obtain ⟨R', rfl⟩ := hR
  obtain ⟨t, x, hb, hw, hne, hnd, hbar, hbar2, hperm⟩ := h
  have hbm := hv.bm
  have h3 := hv.b3
  have htl : (wayB t).length ≤ 900 := by unfold wayB; rw [List.length_reverse, List.length_map]; exact hb.len
  generalize hwe : wayB t = v at *
  have hheld := pre_held.bad (CN := CN) (CR := CR) B n S hv k l he hk t hb
  rw [hwe] at hheld
  refine sx_seq (sx_asg (ev_call (ea_cons (ev_var rfl rfl) (ea_cons (ev_tup (ed_cons (ev_var rfl rfl) ed_nil) lk) ea_nil)) hheld rfl rfl) ?_)
  refine sx_seq (sx_if (b := false) (et_is (et_or (et_not (et_B (ev_isi (r := true) (ev_var rfl rfl) ev_w (.ty _) rfl (kit_ty (by decide +kernel))))) fun _ => et_or (et_test (ev_op (ev_len (ev_var rfl rfl) .t) ev_int rv_neI)) fun _ => et_test (ev_op (ev_op (ev_var rfl rfl) ev_int (rv_ixn (j := 0) .t rfl)) ev_str (rv_ne .d .d ((shp_str _).ok lk) ((shp_str _).ok lk)))) ?_) (fun h => nomatch h) fun _ => sx_next ?_)
  · rw [SeqAt.eqv_refl _ (shp_str _).1]
    rfl
  refine sx_seq (sx_if (b := false) (et_is (et_or (et_not (et_B (ev_call (ea_cons (evn_beat T (ev_var rfl rfl)) (ea_cons (ev_var rfl rfl) (ea_cons (ev_var rfl rfl) (ea_cons (ev_tup (ed_cons (ev_var rfl rfl) ed_nil) lk) (ea_cons (ev_op (ev_var rfl rfl) ev_int (rv_ixn (j := 1) .t rfl)) ea_nil))))) (pre__law_bars.mk B ⟨h3, hbm⟩ S l true R' v k hk x hw hne htl hnd) rfl rfl))) fun _ =>
    et_test (ev_op (ev_call (ea_cons (ev_var rfl rfl) (ea_cons (ev_tup (ed_cons (ev_var rfl rfl) ed_nil) lk) (ea_cons (ev_op (ev_var rfl rfl) ev_int (rv_ixn (j := 1) .t rfl)) ea_nil))) (pre_is_barring.mk B n S hv k l he hk x v hw hne (by omega)) rfl rfl) ev_bl rv_notB)) ?_) (fun h => nomatch h) fun _ => sx_next ?_)
  · have e1 : (decide (cntW l v * k * B < loW S v) || decide (hiW S v < cntW l v * k * B)) = true := by simpa using hbar
    have e2 : (decide (k * cntW l v * B < barLo S v) || decide (barHi S v < k * cntW l v * B)) = true := by simpa using hbar2
    rw [e1, e2]
    rfl
  have srt : ∀ (u : Way), (u.map (·.1)).Perm (((l, true) :: R').map (·.1)) → ∀ ns' : List Int, ns'.Perm ((u.map (·.1)).map fun n : Nat => (n : Int)) → ns'.Pairwise (· ≤ ·) → ns' = W.sortI ((((l, true) :: R').map (·.1)).map fun n : Nat => (n : Int)) := fun u hu ns' hp hs =>
    List.Perm.eq_of_pairwise (fun _ _ _ _ a b => Int.le_antisymm a b) hs (W.sortI_rises _) (hp.trans ((hu.map _).trans (W.sortI_perm _).symm))
  refine sx_ret (ev_is (ev_op (ev_sorted (ea_en (en_is (en_map v encP (fun p => PyData.int (p.1 : Int)) (ei_tup (ev_op (ev_var rfl rfl) ev_int (rv_ixn (j := 1) .t rfl))) (by omega) fun i p hp => ⟨_, _, (gx_tup (gxl_cons gx_name (gxl_cons gx_name gxl_nil)) rfl), by decide, ev_var rfl rfl⟩) (idx_ints v))) (srt v hperm))
    (ev_sorted (ea_en (en_is (en_map ((l, true) :: R') encP (fun p => PyData.int (p.1 : Int)) (ei_tup (ev_op (ev_var rfl rfl) ev_int (rv_ixn (j := 0) .l rfl))) (by omega) fun i p hp => ⟨_, _, (gx_tup (gxl_cons gx_name (gxl_cons gx_name gxl_nil)) rfl), by decide, ev_var rfl rfl⟩) (idx_ints _))) (srt _ (List.Perm.refl _))) (rv_eq .d .d ((shp_lst (shp_ints _)).ok lk) ((shp_lst (shp_ints _)).ok lk))) ?_) (.d rfl)
  rw [SeqAt.eqv_refl _ (shp_lst (shp_ints _)).1]
end
end Z
end
section
namespace Z
open PySem PySem.Spec PyProof.Rows L2
section
variable {ρ ρ' : List Sl} {cs : Cs} {ta tb te : TE} {K : PySem.W.Frag}
theorem ev_rev {ds : List PyData} (h : EvA te ρ cs (.d (.tuple ds))) : EvA (tRevT K te) ρ cs (.d (.tuple ds.reverse)) := fun b as H σ ok Q q =>
  h b as H σ ok _ fun v H1 e1 r1 => by
    cases r1 with
    | @tup a xs _ h1 h2 =>
      have ok1 := ok.mono e1
      refine ⟨a, xs, rfl, SqT.of (ok1.h.gle _ _ h1), fun p hp => ?_⟩
      have s := same_upd (o := .tup xs.reverse) hp
      exact q _ _ (e1.trans s) (.tup (ok1.h.laid hp) (h2.reverse.mono (fz_mono s)))
end
section
variable {P : Program} {w : World} {K : PySem.W.Frag} {mg : Str → Option Value} {base : Heap} {CN CR : Addr}
theorem ex_drawX {ρ : List Sl} {cs : Cs} {te : TE} {i j : Nat} {E : XK} {A : Sl → Prop} (h1 : ρ[i]? = some (.c j)) (hj : cs[j]? = some (some .sr)) (h : EvX te ρ cs A) (hA : ∀ s, A s → ∃ m : Nat, s = .d (intN m) ∧ 0 < m ∧ m ≤ 11) : EvX (tCall (spS (pre__law_draw CN CR)) [] E (tCons (tVar i) (tCons te tNil))) ρ cs (Drawn 11) :=
  ex_callS hj (ev_var h1 rfl) (ex_cons h ex_nil) fun ss ⟨s, ss', e, hs, e'⟩ => by
    subst e e'
    obtain ⟨m, rfl, h0, hm⟩ := hA s hs
    exact ⟨rfl, _, .mk m h0 (by omega), fun s ⟨i, e, hi⟩ => by subst e; exact ⟨⟨i, rfl, by omega⟩, rfl⟩⟩
theorem shp_tup1 (k : Int) : Shp 1 (tupI [k]) := shp_tup (shp_ints [k])
theorem shp_rows (ks : List Int) : Shp 2 (.list (ks.map fun k => tupI [k])) := shp_lst fun d hd => by
  obtain ⟨k, _, rfl⟩ := List.mem_map.mp hd
  exact shp_tup1 k
theorem shp_encWs (rs : List Way) : Shp 3 (.list (rs.map encW)) := shp_lst fun d hd => by
  obtain ⟨v, _, rfl⟩ := List.mem_map.mp hd
  exact shp_encW v
theorem fnP {x : Str} {st : Stmt} {N ps : List Str} {k : Nat} {pre : List Sl → Sl → Prop} (m : Nat) {f : Addr} {fd : FuncData} (F : Fun K x x st f fd) (S : FnScope N ps (defScope st)) (hl : ∀ ss r, pre ss r → ss.length = ps.length)
    (h : ∀ (f : Addr) (cdv : Value) (A : Around) (outer : List Env) (s : Shared) (H : Hp) (E : XK), Room k (A.deeper (envOfC x (defScope st) s.heap.objs.size f cdv)) →
      ∃ t, PSs (cxOf CX0 P w K mg base N x (defScope st) f cdv A outer s H E).nox (defBody st) t ∧ ∀ ss r, pre ss r → ss.length ≤ N.length ∧ frs ss = true ∧ Body t N m ss r) : FnOk P w K mg base CX0 (k + 1) f fd ps (spP pre) :=
  F.ok S (sp_len hl) fun cdv A outer s H vs Q E hr sp => by
    obtain ⟨t, h1, h2⟩ := h f cdv A outer s H E hr
    exact ⟨t, h1, body_run m h2 sp⟩
inductive pre_law (K : PySem.W.Frag) (CN CR : Addr) : List Sl → Sl → Prop
  | mk (hp : Plain) (sc : List Int) : pre_law K CN CR [.fl K sc] (.d (.bool true))
theorem fn_law (T : Txt K mg CN CR) {f0 : Addr} {fd0 : FuncData} (F0 : Fun K "law" "law" s_law f0 fd0) : FnOk P w K mg base CX0 12 f0 fd0 ["_law_script"] (spP (pre_law K CN CR)) := by
  have C__law_source := cal__law_source (P := P) (w := w) (base := base) T
  have C__law_beat := cal__law_beat (P := P) (w := w) (base := base) T
  have C__law_draw := cal__law_draw (P := P) (w := w) (base := base) T
  have C__law_net_spans := cal__law_net_spans (P := P) (w := w) (base := base) T
  have C_Net := cal_Net___init__ (P := P) (w := w) (base := base) T
  have C__law_base := cal__law_base (P := P) (w := w) (base := base) T
  have C__law_marks := cal__law_marks (P := P) (w := w) (base := base) T
  have C_base := cal_base (P := P) (w := w) (base := base) T
  have C__law_bounds := cal__law_bounds (P := P) (w := w) (base := base) T
  have C_islands := cal_islands (P := P) (w := w) (base := base) T
  have C_held := cal_held (P := P) (w := w) (base := base) T
  have C__law_fits := cal__law_fits (P := P) (w := w) (base := base) T
  have C_rounds := cal_rounds (P := P) (w := w) (base := base) T
  have C__law_integer := cal__law_integer (P := P) (w := w) (base := base) T
  have C__law_barred_right := cal__law_barred_right (P := P) (w := w) (base := base) T
  refine fnP 1 F0 sc_law (by intro ss r h; cases h <;> rfl) (fun f cdv A outer s H E hr => ⟨_, (pss_cons (ps_set (i := 1) sc_law.nd rfl (.inl rfl) (C8.pe_c C__law_source hr (by decide) (by rfl) (pa_cons (pv 0) (pa_cons pe_int pa_nil))))
      (pss_cons (ps_set (i := 2) sc_law.nd rfl (.inl rfl) (C8.pe_c C__law_beat hr (by decide) (by rfl) (pa_cons (pv 1) pa_nil)))
      (pss_cons (ps_set (i := 3) sc_law.nd rfl (.inl rfl) (pe_op (r := rAddX K) opx_add pe_int (C8.pe_c C__law_draw hr (by decide) (by rfl) (pa_cons (pv 1) (pa_cons (pe_ix (r := rIx K) ix_seq (pe_lst (pa_cons pe_int (pa_cons pe_int pa_nil))) (C8.pe_c C__law_draw hr (by decide) (by rfl) (pa_cons (pv 1) (pa_cons pe_int pa_nil))) (fun _ _ => rfl)) pa_nil)))))
      (pss_cons (ps_set (i := 4) sc_law.nd rfl (.inl rfl) (C8.pe_c C__law_draw hr (by decide) (by rfl) (pa_cons (pv 1) (pa_cons pe_int pa_nil))))
      (pss_cons (ps_set (i := 5) sc_law.nd rfl (.inl rfl) (pe_ix (r := rIx K) ix_seq (pe_lst (pa_cons pe_int (pa_cons pe_int (pa_cons (pv 2) pa_nil)))) (C8.pe_c C__law_draw hr (by decide) (by rfl) (pa_cons (pv 1) (pa_cons pe_int pa_nil))) (fun _ _ => rfl)))
      (pss_cons (ps_set (i := 6) sc_law.nd rfl (.inl rfl) (C8.pe_c C__law_net_spans hr (by decide) (by rfl) (pa_cons (C8.pe_c C__law_source hr (by decide) (by rfl) (pa_cons (pv 0) (pa_cons pe_int pa_nil))) (pa_cons (pv 2) (pa_cons (pv 3) (pa_cons (pv 4) (pa_cons (pv 5) pa_nil)))))))
      (pss_cons (ps_set (i := 7) sc_law.nd rfl (.inl rfl) (pe_op (r := rAddX K) opx_add (pv 3) (pv 4)))
      (pss_cons (ps_set (i := 8) sc_law.nd rfl (.inl rfl) (C8.pe_mk C_Net hr (by decide) (by rfl) (pa_cons (pv 2) (pa_cons (pv 7) (pa_cons (kpe_tupleOf K (by rfl) T.z_tuple (pv 6)) pa_nil)))))
      (pss_cons (ps_set (i := 9) sc_law.nd rfl (.inl rfl) (C8.pe_c C__law_base hr (by decide) (by rfl) (pa_cons (pv 6) (pa_cons (pe_ix (r := rIx K) ix_seq (C8.pe_c C__law_marks hr (by decide) (by rfl) (pa_cons (pv 6) (pa_cons (pv 7) pa_nil))) pe_int (fun _ _ => rfl)) pa_nil))))
      (pss_cons (ps_if (pt_cmpR (r := rNeD K) (op_neD (hu64 hr)) (C8.pe_c C_base hr (by decide) (by rfl) (pa_cons (pv 8) pa_nil)) (pv 9) (nomark _)) (pss_one (ps_ret pe_bl)) pss_nil)
      (pss_cons (ps_asg (C8.pe_c C__law_bounds hr (by decide) (by rfl) (pa_cons (pv 6) (pa_cons (pe_ix (r := rIx K) ix_seq (pv 9) pe_int (fun _ _ => rfl)) pa_nil))) (kpg_tup K (n := 2) rfl (pgs_cons (pg_name (i := 10) sc_law.nd rfl (.inl rfl)) (pgs_cons (pg_name (i := 11) sc_law.nd rfl (.inl rfl)) pgs_nil))))
      (pss_cons (ps_set (i := 12) sc_law.nd rfl (.inl rfl) (pe_listRg rfl (by rfl) T.z_list (prg_2 (by rfl) T.z_range (pe_un un_neg (pe_op op_fdiv (pe_un un_neg (pv 10)) (pv 2))) (pe_op (r := rAddX K) opx_add (pe_op op_fdiv (pv 11) (pv 2)) pe_int))))
      (pss_cons (ps_if (pt_cmpR (r := rNeD K) (op_neD (hu64 hr)) (C8.pe_c C_islands hr (by decide) (by rfl) (pa_cons (pv 8) pa_nil)) (pe_lc (own := [("_law_number", 14)]) rfl sc_law.nd (kpi_list K (pv 12)) (blkOk_by (N := ["_law_script", "_law_source_here", "_law_beat_here", "_law_size", "_law_more", "_law_width", "_law_spans", "_law_events", "_law_net", "_law_rings", "_law_least", "_law_most", "_law_run", "_law_back", "_law_number", "_law_told", "_law_beats_here", "_law_below", "_law_above", "_law_index", "_law_forth"]) (sc := defScope s_law) (by decide +kernel)) (fun _ _ _ _ _ => (pg_name (i := 14) sc_law.nd rfl (.inl rfl))) (fun _ _ _ _ _ => pts_nil) (fun _ _ _ _ _ => (pe_tup (pa_cons (pv 14) pa_nil)))) (nomark _)) (pss_one (ps_ret pe_bl)) pss_nil)
      (pss_cons (ps_set (i := 13) sc_law.nd rfl (.inl rfl) (kpe_tupleOf K (by rfl) T.z_tuple (pe_lc (own := [("_law_index", 19), ("_law_forth", 20)]) rfl sc_law.nd (kpi_tup K (pe_revT (pe_ix (r := rIx K) ix_seq (pv 9) pe_int (fun _ _ => rfl)))) (blkOk_by (N := ["_law_script", "_law_source_here", "_law_beat_here", "_law_size", "_law_more", "_law_width", "_law_spans", "_law_events", "_law_net", "_law_rings", "_law_least", "_law_most", "_law_run", "_law_back", "_law_number", "_law_told", "_law_beats_here", "_law_below", "_law_above", "_law_index", "_law_forth"]) (sc := defScope s_law) (by decide +kernel)) (fun _ _ _ _ _ => (kpg_tup K (n := 2) rfl (pgs_cons (pg_name (i := 19) sc_law.nd rfl (.inl rfl)) (pgs_cons (pg_name (i := 20) sc_law.nd rfl (.inl rfl)) pgs_nil)))) (fun _ _ _ _ _ => pts_nil) (fun _ _ _ _ _ => (pe_tup (pa_cons (pv 19) (pa_cons (pe_not (pv 20)) pa_nil)))))))
      (pss_cons (ps_for PassesOwn.never rfl (kpi_list K (pv 12)) (pg_name (i := 14) sc_law.nd rfl (.inl rfl))
        (pss_cons (ps_set (i := 15) sc_law.nd rfl (.inl rfl) (C8.pe_c C_held hr (by decide) (by rfl) (pa_cons (pv 8) (pa_cons (pe_tup (pa_cons (pv 14) pa_nil)) pa_nil))))
        (pss_cons (ps_if (PW.pt (pw_or (pt_not (pt_val (pe_callB (r := rIsi K) call_isi (by rfl) T.z_isinstance boot_isinstance (pa_cons (pv 15) (pa_cons (pe_bltn (v := V.ty "tuple") (by rfl) T.z_tuple boot_tuple rfl) pa_nil))))) (pw_or (pt_cmpR (r := rNeD K) (op_neD (hu64 hr)) (pe_callB (r := rLenX K) call_len_seq (by rfl) T.z_len boot_len (pa_cons (pv 15) pa_nil)) pe_int (nomark _)) (pw_or1 (pt_cmpR (r := rNeD K) (op_neD (hu64 hr)) (pe_ix (r := rIx K) ix_seq (pv 15) pe_int (fun _ _ => rfl)) pe_str (nomark _)))))) (pss_one (ps_ret pe_bl)) pss_nil)
        (pss_cons (ps_if (pt_not (pt_val (C8.pe_c C__law_fits hr (by decide) (by rfl) (pa_cons (pv 2) (pa_cons (pv 6) (pa_cons (pv 7) (pa_cons (pv 9) (pa_cons (pe_tup (pa_cons (pv 14) pa_nil)) (pa_cons (pe_ix (r := rIx K) ix_seq (pv 15) pe_int (fun _ _ => rfl)) pa_nil))))))))) (pss_one (ps_ret pe_bl)) pss_nil)
        (pss_cons (ps_set (i := 16) sc_law.nd rfl (.inl rfl) (pe_tup (pa_cons (C8.pe_c C_rounds hr (by decide) (by rfl) (pa_cons (pv 8) (pa_cons (pe_ix (r := rIx K) ix_seq (pv 15) pe_int (fun _ _ => rfl)) (pa_cons (pe_ix (r := rIx K) ix_seq (pv 9) pe_int (fun _ _ => rfl)) pa_nil)))) (pa_cons (C8.pe_c C_rounds hr (by decide) (by rfl) (pa_cons (pv 8) (pa_cons (pe_ix (r := rIx K) ix_seq (pv 15) pe_int (fun _ _ => rfl)) (pa_cons (pv 13) pa_nil)))) pa_nil))))
        (pss_one (ps_if (PW.pt (pw_or (pt_not (pt_val (C8.pe_c C__law_integer hr (by decide) (by rfl) (pa_cons (pe_ix (r := rIx K) ix_seq (pv 16) pe_int (fun _ _ => rfl)) pa_nil)))) (pw_or (pt_not (pt_val (C8.pe_c C__law_integer hr (by decide) (by rfl) (pa_cons (pe_ix (r := rIx K) ix_seq (pv 16) pe_int (fun _ _ => rfl)) pa_nil)))) (pw_or1 (pt_cmpR (r := rNeD K) (op_neD (hu64 hr)) (pv 16) (pe_tup (pa_cons (pv 14) (pa_cons (pe_un un_neg (pv 14)) pa_nil))) (nomark _)))))) (pss_one (ps_ret pe_bl)) pss_nil)))))))
      (pss_cons (ps_set (i := 17) sc_law.nd rfl (.inl rfl) (pe_op op_sub (pe_un un_neg (pe_op op_fdiv (pe_un un_neg (pv 10)) (pv 2))) pe_int))
      (pss_cons (ps_set (i := 18) sc_law.nd rfl (.inl rfl) (pe_op (r := rAddX K) opx_add (pe_op op_fdiv (pv 11) (pv 2)) pe_int))
      (pss_one (ps_ret (pe_and (C8.pe_c C__law_barred_right hr (by decide) (by rfl) (pa_cons (pv 8) (pa_cons (pv 6) (pa_cons (pv 9) (pa_cons (pv 17) pa_nil))))) (pe_one (C8.pe_c C__law_barred_right hr (by decide) (by rfl) (pa_cons (pv 8) (pa_cons (pv 6) (pa_cons (pv 9) (pa_cons (pv 18) pa_nil)))))))))))))))))))))))))), ?_⟩)
  intro ss r h; cases h <;> refine ⟨Nat.le_of_ble_eq_true rfl, rfl, ?_⟩
  rename_i hp sc
  refine sx_seq (sx_asgS 0 (ev_src (ea_cons (ev_var rfl rfl) (ea_cons ev_int ea_nil)) (pre__law_source.mk sc 0 (by decide)) rfl) rfl rfl ?_)
  refine sx_seq (sx_asgX (R := fun s => ∃ B : Int, s = .d (.int B) ∧ 3 ≤ B ∧ B ≤ 1440) (ex_callS (j := 0) rfl (ev_var rfl rfl) ex_nil fun ss e => by
    subst e
    exact ⟨rfl, _, .mk, fun s ⟨B, e, h⟩ => by subst e; exact ⟨⟨B, rfl, h⟩, rfl⟩⟩) ?_)
  rintro _ ⟨B, rfl, hB3, hB4⟩
  refine sx_seq (sx_asgX (R := fun s => ∃ z : Nat, s = .d (intN z) ∧ 2 ≤ z ∧ z ≤ 12) (ex_op (ex_of ev_int) (ex_drawX rfl rfl (A := fun s => s = .d (intN 11) ∨ s = .d (intN 3)) (ex_op (ex_of (ea_en (en_lst (ed_cons ev_int (ed_cons ev_int ed_nil)) lk))) (ex_draw (m := 2) rfl rfl ev_int (by decide) (by decide)) fun x y hx ⟨i, hy, hi⟩ => ?_) fun s hs => ?_) fun x y hx ⟨i, hy, hi⟩ => ?_) ?_)
  · subst hx hy
    match i, hi with
    | 0, _ => exact ⟨_, .inl rfl, rv_ixn (j := 0) .l rfl⟩
    | 1, _ => exact ⟨_, .inr rfl, rv_ixn (j := 1) .l rfl⟩
  · rcases hs with rfl | rfl
    · exact ⟨11, rfl, by decide, by decide⟩
    · exact ⟨3, rfl, by decide, by decide⟩
  · subst hx hy
    exact ⟨_, ⟨2 + i, by show Sl.d (.int _) = Sl.d (.int _); norm_cast, by omega, by omega⟩, rv_or1 (rv_i0 (g := fun i j => i + j))⟩
  rintro _ ⟨size, rfl, hs1, hs2⟩
  refine sx_seq (sx_asgX (ex_draw (m := 9) rfl rfl ev_int (by decide) (by decide)) ?_)
  rintro _ ⟨more, rfl, hmo⟩
  refine sx_seq (sx_asgX (R := fun s => ∃ z : Int, s = .d (.int z) ∧ 0 ≤ z ∧ z ≤ 1440) (ex_op (ex_of (ea_en (en_lst (ed_cons ev_int (ed_cons ev_int (ed_cons (ev_var rfl rfl) ed_nil))) lk))) (ex_draw (m := 3) rfl rfl ev_int (by decide) (by decide)) fun x y hx ⟨i, hy, hi⟩ => ?_) ?_)
  · subst hx hy
    match i, hi with
    | 0, _ => exact ⟨_, ⟨0, rfl, by decide, by decide⟩, rv_ixn (j := 0) .l rfl⟩
    | 1, _ => exact ⟨_, ⟨2, rfl, by decide, by decide⟩, rv_ixn (j := 1) .l rfl⟩
    | 2, _ => exact ⟨_, ⟨B, rfl, by omega, by omega⟩, rv_ixn (j := 2) .l rfl⟩
  rintro _ ⟨wd, rfl, hw1, hw2⟩
  refine sx_seq (sx_asgX (R := fun s => ∃ S : List Span, s = .d (listS S) ∧ NetS B size more S) (ex_callS0 (ev_src (ea_cons (ev_var rfl rfl) (ea_cons ev_int ea_nil)) (pre__law_source.mk sc 1 (by decide)) rfl) (ea_cons (ev_var rfl rfl) (ea_cons (ev_var rfl rfl) (ea_cons (ev_var rfl rfl) (ea_cons (ev_var rfl rfl) ea_nil)))) rfl (pre__law_net_spans.mk B hB3 hB4 size more hs1 (by omega) wd hw1 hw2) fun s ⟨S, e, h⟩ => by subst e; exact ⟨⟨S, rfl, h⟩, rfl⟩) ?_)
  rintro _ ⟨S, rfl, hS⟩
  obtain ⟨l, R, F⟩ := hp B size more S hB3 hB4 hs1 (by omega) hS
  generalize hne : size + more = n at F
  obtain ⟨hv, nd, he, hR, hRl, ⟨x, hwalk⟩, ⟨xb, hback⟩, hlo, hhi, hhold, hbel, habo⟩ := F
  have hRc : ∃ R', R = (l, true) :: R' := by rw [← hR]; exact ⟨_, rfl⟩
  have hRi := walk_lt hwalk
  have hbase : (baseOf n S).map encW = [encW R] := by unfold baseOf; rw [he]; show [encW (ringOf n S l)] = _; rw [hR]
  refine sx_seq (sx_asg (s := .d (intN n)) (ev_is (ev_op (ev_var rfl rfl) (ev_var rfl rfl) (rv_or1 rv_i0)) (by rw [← hne]; show Sl.d (.int _) = Sl.d (.int _); norm_cast)) ?_)
  refine sx_seq (sx_asg (ev_make (ea_cons (ev_var rfl rfl) (ea_cons (ev_var rfl rfl) (ea_cons (ev_tuple (ev_var rfl rfl) .l) ea_nil))) (pre_Net___init__.mk B n S hv nd) rfl) ?_)
  refine sx_seq (sx_asg (ev_is (ev_call (ea_cons (ev_var rfl rfl) (ea_cons (ev_op (ev_call (ea_cons (ev_var rfl rfl) (ea_cons (ev_var rfl rfl) ea_nil)) (pre__law_marks.mk B n S hv) rfl rfl) ev_int (rv_ixn (j := 1) .t rfl)) ea_nil)) (pre__law_base.mk B n S hv) rfl rfl) (congrArg (fun z => Sl.d (.list z)) hbase)) ?_)
  refine sx_seq (sx_if (b := false) (et_is (et_test (ev_op (ev_is (ev_call (ea_cons (ev_var rfl rfl) ea_nil) (pre_base.mk B n S hv) rfl rfl) (congrArg (fun z => Sl.d (.list z)) hbase)) (ev_var rfl rfl) (rv_ne .d .d ((shp_encWs [R]).ok lk) ((shp_encWs [R]).ok lk)))) ?_) (fun h => nomatch h) fun _ => sx_next ?_)
  · have := SeqAt.eqv_refl _ (shp_encWs [R]).1
    show (!PyData.eqv (.list ([R].map encW)) (.list ([R].map encW))) = false
    rw [this]
    rfl
  refine sx_seq (sx_asgG (ev_call (ea_cons (ev_var rfl rfl) (ea_cons (ev_op (ev_var rfl rfl) ev_int (rv_ixn (j := 0) .l rfl)) ea_nil)) (pre__law_bounds.mk S R hRi (by omega)) rfl rfl) (gx_tup (gxl_cons gx_name (gxl_cons gx_name gxl_nil)) rfl) ?_)
  have q1 : -loW S R / B ≤ 26667 := by
    have : -loW S R / B < 26668 := Int.ediv_lt_of_lt_mul (by omega) (by omega)
    omega
  have q2 : -26668 ≤ -loW S R / B := Int.le_ediv_of_mul_le (by omega) (by omega)
  have q3 : hiW S R / B ≤ 26667 := by
    have : hiW S R / B < 26668 := Int.ediv_lt_of_lt_mul (by omega) (by omega)
    omega
  have q4 : -26668 ≤ hiW S R / B := Int.le_ediv_of_mul_le (by omega) (by omega)
  have hisl := pre_islands.mk (CN := CN) (CR := CR) B n S hv l he R hR hRl hRi hlo hhi fun k hk => by
    obtain ⟨d, hd⟩ := hhold k hk
    exact hd.1
  generalize hlb : -(-loW S R / B) = lb at *
  generalize hub : hiW S R / B = ub at *
  have hrb : ∀ k ∈ runOf lb ub, -(2 ^ 60) < k ∧ k < 2 ^ 60 := fun k hk => by
    unfold runOf at hk
    obtain ⟨u, hu, rfl⟩ := List.mem_map.mp hk
    rw [List.mem_range] at hu
    omega
  have hrl : (runOf lb ub).length ≤ 100000 := by unfold runOf; rw [List.length_map, List.length_range]; omega
  refine sx_seq (sx_asg (s := .d (listI (runOf lb ub))) (ea_en (en_is (en_range2 (i := lb) (j := ub + 1) (ev_is (ev_un (ev_op (ev_un (ev_var rfl rfl) ru_neg) (ev_var rfl rfl) (rv_i ⟨by omega, by omega⟩)) ru_neg) (by rw [hlb])) (ev_op (ev_is (ev_op (ev_var rfl rfl) (ev_var rfl rfl) (rv_i ⟨by omega, by omega⟩)) (by rw [hub])) ev_int (rv_or1 rv_i0)) (by omega) (by omega) (by omega) (by omega)) (by unfold runOf; rw [List.map_map]; rfl))) ?_)
  refine sx_seq (sx_if (b := false) (et_is (et_test (ev_op (ev_call (ea_cons (ev_var rfl rfl) ea_nil) hisl rfl rfl) (ea_en (en_map (runOf lb ub) PyData.int (fun k => tupI [k]) (ei_list (ev_var rfl rfl)) (by omega) fun i k hk => ⟨_, _, gx_name, by decide, ev_tup (ed_cons (ev_var rfl rfl) ed_nil) lk⟩)) (rv_ne .d .d ((shp_rows _).ok lk) ((shp_rows _).ok lk)))) (by rw [SeqAt.eqv_refl _ (shp_rows _).1]; rfl)) (fun h => nomatch h) fun _ => sx_next ?_)
  refine sx_seq (sx_asg (s := .d (encW (backW R))) (ev_tuple (ea_en (en_is (en_map R.reverse encP (fun p => encP (p.1, !p.2)) (ei_tup (ev_is (ev_rev (ev_op (ev_var rfl rfl) ev_int (rv_ixn (j := 0) .l rfl))) (by rw [← List.map_reverse]))) (by rw [List.length_reverse]; omega) fun i p hp => ⟨_, _, (gx_tup (gxl_cons gx_name (gxl_cons gx_name gxl_nil)) rfl), by decide, ev_tup (ed_cons (ev_var rfl rfl) (ed_cons (ev_notV (ev_var rfl rfl)) ed_nil)) lk⟩) (by unfold backW; rw [List.map_map]; rfl))) .l) ?_)
  refine sx_seq (sx_forL (runOf lb ub) PyData.int (fun i ρ cs => ∃ (a14 a15 a16 a19 a20 : Sl), ρ = [.fl K sc, .c 0, .d (.int B), .d (intN size), .d (intN more), .d (.int wd), .d (listS S), .d (intN n), netS CN B n S, .d (.list [encW R]), .d (.int (loW S R)), .d (.int (hiW S R)), .d (listI (runOf lb ub)), .d (encW (backW R)), a14, a15, a16, .un, .un, a19, a20] ∧ cs = [some .sr]) (ev_var rfl rfl) ⟨_, _, _, _, _, rfl, rfl⟩ ?_ ?_)
  · rintro i k ρ cs hk ⟨a14, a15, a16, a19, a20, rfl, rfl⟩
    have hkm := List.mem_of_getElem? hk
    have hkb := hrb k hkm
    obtain ⟨d, hlp, ⟨d', hd, hd'⟩, htt, h0, hr1, hr2⟩ := hhold k hkm
    refine ⟨_, _, gx_name, ?_⟩
    have hbl : (backW R).length ≤ 900 := by unfold backW; rw [List.length_map, List.length_reverse]; exact hRl
    have hbne : backW R ≠ [] := by
      obtain ⟨R', rfl⟩ := hRc
      unfold backW
      simp
    have hRne : R ≠ [] := by
      obtain ⟨R', rfl⟩ := hRc
      simp
    generalize htse : ((List.range n).map fun e => d e % B) = ts at *
    have hheld := pre_held.ok (CN := CN) (CR := CR) B n S hv k l he hkb hlp d d' hd hd'
    rw [htse] at hheld
    refine sx_seq (sx_asg (ev_call (ea_cons (ev_var rfl rfl) (ea_cons (ev_tup (ed_cons (ev_var rfl rfl) ed_nil) lk) ea_nil)) hheld rfl rfl) ?_)
    refine sx_seq (sx_if (b := false) (et_is (et_or (et_not (et_B (ev_isi (r := true) (ev_var rfl rfl) ev_w (.ty _) rfl (kit_ty (by decide +kernel))))) fun _ => et_or (et_test (ev_op (ev_len (ev_var rfl rfl) .t) ev_int rv_neI)) fun _ => et_test (ev_op (ev_op (ev_var rfl rfl) ev_int (rv_ixn (j := 0) .t rfl)) ev_str (rv_ne .d .d ((shp_str _).ok lk) ((shp_str _).ok lk)))) ?_) (fun h => nomatch h) fun _ => sx_next ?_)
    · rw [SeqAt.eqv_refl _ (shp_str _).1]
      rfl
    refine sx_seq (sx_if (b := !true) (et_not (et_B (ev_call (ea_cons (ev_var rfl rfl) (ea_cons (ev_var rfl rfl) (ea_cons (ev_var rfl rfl) (ea_cons (ev_var rfl rfl) (ea_cons (ev_tup (ed_cons (ev_var rfl rfl) ed_nil) lk) (ea_cons (ev_op (ev_var rfl rfl) ev_int (rv_ixn (j := 1) .t rfl)) ea_nil)))))) (pre__law_fits.mk B n S hv R hRl hRi k ts htt h0 hr1) rfl rfl))) (fun h => nomatch h) fun _ => sx_next ?_)
    refine sx_seq (sx_asg (s := .d (.tuple [.int k, .int (-k)])) (ev_tup (ed_cons (ev_is (ev_call (ea_cons (ev_var rfl rfl) (ea_cons (ev_op (ev_var rfl rfl) ev_int (rv_ixn (j := 1) .t rfl)) (ea_cons (ev_op (ev_var rfl rfl) ev_int (rv_ixn (j := 0) .l rfl)) ea_nil))) (pre_rounds.mk B n S hv ts htt x R hwalk hRne (by omega)) rfl rfl) (by rw [hr1]))
      (ed_cons (ev_is (ev_call (ea_cons (ev_var rfl rfl) (ea_cons (ev_op (ev_var rfl rfl) ev_int (rv_ixn (j := 1) .t rfl)) (ea_cons (ev_var rfl rfl) ea_nil))) (pre_rounds.mk B n S hv ts htt xb (backW R) hback hbne (by omega)) rfl rfl) (by rw [hr2])) ed_nil)) lk) ?_)
    refine sx_if (b := false) (et_is (et_or (et_not (et_B (ev_call (ea_cons (ev_op (ev_var rfl rfl) ev_int (rv_ixn (j := 0) .t rfl)) ea_nil) (pre__law_integer.mk k) rfl rfl))) fun _ => et_or (et_not (et_B (ev_call (ea_cons (ev_op (ev_var rfl rfl) ev_int (rv_ixn (j := 1) .t rfl)) ea_nil) (pre__law_integer.mk (-k)) rfl rfl))) fun _ =>
      et_test (ev_op (ev_var rfl rfl) (ev_tup (ed_cons (ev_var rfl rfl) (ed_cons (ev_un (ev_var rfl rfl) ru_neg) ed_nil)) lk) (rv_ne .d .d ((shp_tup (shp_ints [k, -k])).ok lk) ((shp_tup (shp_ints [k, -k])).ok lk)))) ?_) (fun h => nomatch h) fun _ => sx_next ⟨_, _, _, _, _, rfl, rfl⟩
    have := SeqAt.eqv_refl _ (shp_tup (shp_ints [k, -k])).1
    have e : PyData.eqv (.tuple [.int k, .int (-k)]) (.tuple [.int k, .int (-k)]) = true := this
    rw [e]
    rfl
  · rintro ρ cs ⟨a14, a15, a16, a19, a20, rfl, rfl⟩
    refine sx_seq (sx_asg (s := .d (.int (lb - 1))) (ev_op (ev_is (ev_un (ev_op (ev_un (ev_var rfl rfl) ru_neg) (ev_var rfl rfl) (rv_i ⟨by omega, by omega⟩)) ru_neg) (by rw [hlb])) ev_int rv_i0) ?_)
    refine sx_seq (sx_asg (s := .d (.int (ub + 1))) (ev_op (ev_is (ev_op (ev_var rfl rfl) (ev_var rfl rfl) (rv_i ⟨by omega, by omega⟩)) (by rw [hub])) ev_int (rv_or1 rv_i0)) ?_)
    exact sx_ret (ev_andV (ev_call (ea_cons (ev_var rfl rfl) (ea_cons (ev_var rfl rfl) (ea_cons (ev_var rfl rfl) (ea_cons (ev_var rfl rfl) ea_nil)))) (pre__law_barred_right.mk B n S hv l he R hRc hRl (lb - 1) (by omega) hbel) rfl rfl) fun _ => ev_call (ea_cons (ev_var rfl rfl) (ea_cons (ev_var rfl rfl) (ea_cons (ev_var rfl rfl) (ea_cons (ev_var rfl rfl) ea_nil)))) (pre__law_barred_right.mk B n S hv l he R hRc hRl (ub + 1) (by omega) habo) rfl rfl) (.d rfl)
end
end Z
end
section
/-! M6: a ring and what hangs on it has one loose span. -/
namespace Z
/-- two terms -/
theorem sm_two {f : Nat → Int} {n i j : Nat} (hi : i < n) (hj : j < n) (hij : i ≠ j) (h : ∀ t, t < n → t ≠ i → t ≠ j → f t = 0) : sm n f = f i + f j := by
  have e : sm n f = sm n (fun t => (if t = i then f t else 0) + (if t = i then 0 else f t)) := sm_congr n fun t _ => by split <;> omega
  rw [e, sm_add, sm_one hi fun t _ ht => if_neg ht, sm_one hj fun t h1 h2 => ?_, if_pos rfl, if_neg (Ne.symm hij)]
  by_cases e : t = i
  · exact if_pos e
  · rw [if_neg e]
    exact h t h1 e h2
theorem nodup_sub : ∀ {l Q : List Nat}, l.Nodup → (∀ x ∈ l, x ∈ Q) → l.length ≤ Q.length
  | [], _, _, _ => Nat.zero_le _
  | x :: l, Q, nd, h => by
    have h1 := h x List.mem_cons_self
    have := nodup_sub (l := l) (Q := Q.erase x) (List.nodup_cons.mp nd).2 fun y hy => (List.mem_erase_of_ne (fun (e : y = x) => (List.nodup_cons.mp nd).1 (e ▸ hy))).mpr (h y (List.mem_cons_of_mem _ hy))
    rw [List.length_erase_of_mem h1] at this
    have := List.length_pos_of_mem h1
    rw [List.length_cons]
    omega
/-- what is given: the order, the labels -/
structure RN (B : Int) (size n : Nat) (o : List Nat) (L : List (Span × Nat)) (S : List Span) : Prop where
  s2 : 2 ≤ size
  sn : size ≤ n
  p : o.Perm (List.range n)
  hS : S = L.map (·.1)
  lab : LabS B o size n L
def labOf (L : List (Span × Nat)) (i : Nat) : Nat := (L.map (·.2)).getD i 0
section
variable {B : Int} {size n : Nat} {o : List Nat} {L : List (Span × Nat)} {S : List Span}
theorem RN.len (h : RN B size n o L S) : S.length = L.length := by rw [h.hS, List.length_map]
theorem RN.at (h : RN B size n o L S) {i : Nat} (hi : i < S.length) : (spanAt S i, labOf L i) ∈ L := by
  have hl : i < L.length := by rw [← h.len]; exact hi
  have : (spanAt S i, labOf L i) = L[i] := by
    unfold spanAt labOf
    rw [h.hS, List.getD_eq_getElem?_getD, List.getD_eq_getElem?_getD, List.getElem?_map, List.getElem?_map, List.getElem?_eq_getElem hl]
    rfl
  rw [this]
  exact List.getElem_mem _
theorem RN.inj (h : RN B size n o L S) {i j : Nat} (hi : i < S.length) (hj : j < S.length) (e : labOf L i = labOf L j) : i = j := by
  have hl := h.len
  have nd := h.lab.ln
  unfold labOf at e
  rw [List.getD_eq_getElem?_getD, List.getD_eq_getElem?_getD, List.getElem?_eq_getElem (by rw [List.length_map]; omega), List.getElem?_eq_getElem (by rw [List.length_map]; omega)] at e
  exact (List.getElem_inj nd).mp e
theorem RN.lt (h : RN B size n o L S) {i : Nat} (hi : i < S.length) : labOf L i < n := h.lab.lt _ (h.at hi)
theorem RN.en (h : RN B size n o L S) {i : Nat} (hi : i < S.length) : REnds o size (spanAt S i) (labOf L i) := h.lab.en _ (h.at hi)
theorem RN.idx (h : RN B size n o L S) {k : Nat} (hk : k < size) : ∃ i, i < S.length ∧ labOf L i = k := by
  have := h.lab.all k hk (by have := h.sn; omega)
  obtain ⟨i, hi, e⟩ := List.mem_iff_getElem.mp this
  rw [List.length_map] at hi
  refine ⟨i, by rw [h.len]; exact hi, ?_⟩
  unfold labOf
  rw [List.getD_eq_getElem?_getD, List.getElem?_eq_getElem (by rw [List.length_map]; exact hi)]
  exact e
theorem RN.slen (h : RN B size n o L S) : S.length ≤ n := by
  rw [h.len]
  have := nodup_len (n := n) h.lab.ln fun x hx => by
    obtain ⟨q, hq, rfl⟩ := List.mem_map.mp hx
    exact h.lab.lt q hq
  rwa [List.length_map] at this
theorem nxt (h : RN B size n o L S) {k : Nat} (hk : k < size) : (k + 1) % size < size ∧ (k + 1) % size ≠ k ∧ (k + 1 < size → (k + 1) % size = k + 1) ∧ (k + 1 = size → (k + 1) % size = 0) := by
  have := h.s2
  refine ⟨Nat.mod_lt _ (by omega), ?_, fun q => Nat.mod_eq_of_lt q, fun q => by rw [q, Nat.mod_self]⟩
  by_cases e : k + 1 < size
  · rw [Nat.mod_eq_of_lt e]; omega
  · rw [show k + 1 = size by omega, Nat.mod_self]; omega
theorem RN.val (h : RN B size n o L S) (b3 : 3 ≤ B) (bm : B ≤ 1440) (nm : n ≤ 20) : Val B n S := by
  have hs := h.slen
  have h2 := h.s2
  have hsn := h.sn
  refine ⟨b3, bm, by omega, by omega, by omega, fun s hs' => ?_⟩
  rw [h.hS] at hs'
  obtain ⟨q, hq, rfl⟩ := List.mem_map.mp hs'
  have hr := h.lab.rg q hq
  have he := h.lab.en q hq
  have hl := h.lab.lt q hq
  refine ⟨?_, ?_, ?_, hr⟩
  all_goals
    unfold REnds at he
    split at he
    · rename_i c
      have z := nxt h c
      have i1 := ord_lt h.p (i := q.2) (by omega)
      have i2 := ord_lt h.p (i := (q.2 + 1) % size) (by omega)
      have i3 : o.getD q.2 0 ≠ o.getD ((q.2 + 1) % size) 0 := fun e => z.2.1 (ord_inj h.p (by omega) (by omega) e).symm
      unfold joins at he
      omega
    · obtain ⟨j, hj, he⟩ := he
      have i1 := ord_lt h.p (i := q.2) (by omega)
      have i2 := ord_lt h.p (i := j) (by omega)
      have i3 : o.getD q.2 0 ≠ o.getD j 0 := fun e => by have := ord_inj h.p (by omega) (by omega) e; omega
      unfold joins at he
      omega
/-- what hangs carries nothing -/
theorem RN.hang (h : RN B size n o L S) {c : Nat → Int} (hf : Flow S c) : ∀ i, i < S.length → size ≤ labOf L i → c i = 0 := by
  have key : ∀ d i, i < S.length → size ≤ labOf L i → labOf L i + d + 1 = n → c i = 0 := by
    intro d
    induction d using Nat.strongRecOn with
    | ind d ih =>
      intro i hi hs hd
      have f := hf fun x => if x = o.getD (labOf L i) 0 then 1 else 0
      unfold fs at f
      have hE := h.en hi
      unfold REnds at hE
      rw [if_neg (by omega)] at hE
      obtain ⟨j, hj, hE⟩ := hE
      have hne : o.getD j 0 ≠ o.getD (labOf L i) 0 := fun e => by have := ord_inj h.p (by omega) (by omega) e; omega
      rw [sm_one (j := i) hi] at f
      · dsimp only at f
        rcases hE with ⟨e1, e2⟩ | ⟨e1, e2⟩
        · rw [e1, e2, if_pos rfl, if_neg hne] at f
          omega
        · rw [e1, e2, if_pos rfl, if_neg hne] at f
          omega
      · intro t ht hti
        have hlt := h.lt ht
        by_cases hgt : labOf L i < labOf L t
        · rw [ih (n - 1 - labOf L t) (by omega) t ht (by omega) (by omega), Int.zero_mul]
        · have hlt' : labOf L t < labOf L i := by
            have : labOf L t ≠ labOf L i := fun e => hti (h.inj ht hi e)
            omega
          have hT := h.en ht
          have no : ∀ u, u < labOf L i → o.getD u 0 ≠ o.getD (labOf L i) 0 := fun u hu e => by
            have := ord_inj h.p (by omega) (by omega) e; omega
          unfold REnds at hT
          split at hT
          · rename_i cc
            have z := nxt h cc
            have n1 := no _ hlt'
            have n2 := no ((labOf L t + 1) % size) (by omega)
            dsimp only
            rcases hT with ⟨e1, e2⟩ | ⟨e1, e2⟩
            · rw [e1, e2, if_neg n1, if_neg n2]; simp
            · rw [e1, e2, if_neg n1, if_neg n2]; simp
          · obtain ⟨u, hu, hT⟩ := hT
            have n1 := no _ hlt'
            have n2 := no u (by omega)
            dsimp only
            rcases hT with ⟨e1, e2⟩ | ⟨e1, e2⟩
            · rw [e1, e2, if_neg n1, if_neg n2]; simp
            · rw [e1, e2, if_neg n1, if_neg n2]; simp
  intro i hi hs
  have := h.lt hi
  exact key (n - 1 - labOf L i) i hi hs (by omega)
/-- which way a span of the ring stands -/
def stand (o : List Nat) (L : List (Span × Nat)) (S : List Span) (i : Nat) : Int := if (spanAt S i).a = o.getD (labOf L i) 0 then 1 else -1
theorem RN.turn (h : RN B size n o L S) {i : Nat} (hi : i < S.length) (hl : labOf L i < size) (φ : Nat → Int) : φ (spanAt S i).b - φ (spanAt S i).a = stand o L S i * (φ (o.getD ((labOf L i + 1) % size) 0) - φ (o.getD (labOf L i) 0)) := by
  have hE := h.en hi
  unfold REnds at hE
  rw [if_pos hl] at hE
  have z := nxt h hl
  have hne : o.getD ((labOf L i + 1) % size) 0 ≠ o.getD (labOf L i) 0 := fun e => z.2.1 (ord_inj h.p (by have := h.sn; omega) (by have := h.sn; omega) e)
  unfold stand
  rcases hE with ⟨e1, e2⟩ | ⟨e1, e2⟩
  · rw [e1, e2, if_pos rfl]; omega
  · rw [e1, e2, if_neg hne]; omega
theorem stand_sq (i : Nat) : stand o L S i = 1 ∨ stand o L S i = -1 := by
  unfold stand
  split
  · exact .inl rfl
  · exact .inr rfl
/-- the ring carries alike all along -/
theorem RN.ring (h : RN B size n o L S) {c : Nat → Int} (hf : Flow S c) {i0 i : Nat} (h0 : i0 < S.length) (hi : i < S.length) (e0 : labOf L i0 = 0) (hl : labOf L i < size) : stand o L S i * c i = stand o L S i0 * c i0 := by
  classical
  by_cases e : i = i0
  · rw [e]
  · have hk : 1 ≤ labOf L i := by
      by_cases z : labOf L i = 0
      · exact absurd (h.inj hi h0 (by omega)) e
      · omega
    have f := hf fun x => if ∃ u, 1 ≤ u ∧ u ≤ labOf L i ∧ x = o.getD u 0 then 1 else 0
    have hsn := h.sn
    have h2 := h.s2
    have inn : ∀ {u : Nat}, u < n → ((∃ v, 1 ≤ v ∧ v ≤ labOf L i ∧ o.getD u 0 = o.getD v 0) ↔ 1 ≤ u ∧ u ≤ labOf L i) := fun {u} hu =>
      ⟨fun ⟨v, v1, v2, q⟩ => by have := ord_inj h.p hu (by omega) q; omega, fun ⟨u1, u2⟩ => ⟨u, u1, u2, rfl⟩⟩
    unfold fs at f
    rw [sm_two hi h0 e] at f
    · dsimp only at f
      rw [h.turn hi hl (fun x => if ∃ u, 1 ≤ u ∧ u ≤ labOf L i ∧ x = o.getD u 0 then 1 else 0), h.turn h0 (by omega) (fun x => if ∃ u, 1 ≤ u ∧ u ≤ labOf L i ∧ x = o.getD u 0 then 1 else 0)] at f
      have z := nxt h hl
      have z0 := nxt h (k := 0) (by omega)
      rw [e0, if_neg (fun q => by have := (inn (by omega)).mp q; omega), if_pos ((inn (by omega)).mpr ⟨hk, Nat.le_refl _⟩), if_pos ((inn (u := (0 + 1) % size) (by omega)).mpr (by have := z0.2.2.1 (by omega); omega)), if_neg (fun q => by have := (inn (by omega)).mp q; omega)] at f
      rcases stand_sq (o := o) (L := L) (S := S) i with q | q <;> rcases stand_sq (o := o) (L := L) (S := S) i0 with q0 | q0 <;> rw [q, q0] at f ⊢ <;> omega
    · intro t ht h1 h2'
      have hlt := h.lt ht
      by_cases hr : labOf L t < size
      · dsimp only
        rw [h.turn ht hr (fun x => if ∃ u, 1 ≤ u ∧ u ≤ labOf L i ∧ x = o.getD u 0 then 1 else 0)]
        have z := nxt h hr
        have n1 : labOf L t ≠ labOf L i := fun q => h1 (h.inj ht hi q)
        have n2 : labOf L t ≠ 0 := fun q => h2' (h.inj ht h0 (by omega))
        by_cases q : labOf L t < labOf L i
        · rw [if_pos ((inn (by omega)).mpr (by omega)), if_pos ((inn (by omega)).mpr (by omega))]
          simp
        · rw [if_neg (fun y => by have := (inn (by omega)).mp y; omega), if_neg (fun y => by
            have := (inn (by omega)).mp y
            by_cases w : labOf L t + 1 < size
            · have := z.2.2.1 w; omega
            · have := z.2.2.2 (by omega); omega)]
          simp
      · rw [h.hang hf t ht (by omega), Int.zero_mul]
/-- the walk round -/
theorem RN.round (h : RN B size n o L S) : ∀ k, k ≤ size → ∃ w, IsWalk S (o.getD 0 0) w (o.getD (k % size) 0) ∧ ∀ i, i < S.length → cntW i w = if labOf L i < k then stand o L S i else 0
  | 0, _ => ⟨[], by rw [Nat.zero_mod]; exact .nil _, fun i _ => rfl⟩
  | k + 1, hk => by
    obtain ⟨w, h1, h2⟩ := RN.round h k (by omega)
    obtain ⟨i, hi, hl⟩ := h.idx (k := k) (by omega)
    have hE := h.en hi
    rw [hl] at hE
    unfold REnds at hE
    rw [if_pos (show k < size by omega)] at hE
    rw [Nat.mod_eq_of_lt (show k < size by omega)] at h1
    have z := nxt h (k := k) (by omega)
    have hsn := h.sn
    have hne : o.getD ((k + 1) % size) 0 ≠ o.getD k 0 := fun e => z.2.1 (ord_inj h.p (by omega) (by omega) e)
    have fin : ∀ b : Bool, src S (i, b) = o.getD k 0 → dst S (i, b) = o.getD ((k + 1) % size) 0 → sgn b = stand o L S i → ∃ w, IsWalk S (o.getD 0 0) w (o.getD ((k + 1) % size) 0) ∧ ∀ i, i < S.length → cntW i w = if labOf L i < k + 1 then stand o L S i else 0 := fun b q1 q2 q3 => by
      have := walk_one (S := S) (p := (i, b)) hi
      rw [q1, q2] at this
      refine ⟨_, walk_append h1 this, fun t ht => ?_⟩
      rw [cntW_append, h2 t ht, cntW_cons, cntW_nil]
      by_cases e : i = t
      · subst e
        rw [if_neg (by omega), if_pos rfl, if_pos (by omega), q3]
        omega
      · have : labOf L i ≠ labOf L t := fun q => e (h.inj hi ht q)
        rw [if_neg (show ¬ (i, b).1 = t from e)]
        by_cases c : labOf L t < k
        · rw [if_pos c, if_pos (by omega)]; omega
        · rw [if_neg c, if_neg (by omega)]; omega
    rcases hE with ⟨e1, e2⟩ | ⟨e1, e2⟩
    · exact fin true e1 e2 (by unfold stand; rw [hl, if_pos e1]; rfl)
    · exact fin false e2 e1 (by unfold stand; rw [hl, e1, if_neg hne]; rfl)
end
/-- the ring of a loose span -/
theorem loose_ring {B : Int} {n : Nat} {S : List Span} (hv : Val B n S) {l : Nat} (hl : l ∈ loose n S) : ∃ W, KP n S (spanAt S l).b W (spanAt S l).a ∧ ringOf n S l = (l, true) :: W ∧ IsWalk S (spanAt S l).a ((l, true) :: W) (spanAt S l).a ∧ cntW l ((l, true) :: W) = 1 ∧ ∀ j ∈ loose n S, j ≠ l → cntW j ((l, true) :: W) = 0 := by
  obtain ⟨h1, h2⟩ := mem_loose.mp hl
  have hs := sp_lt hv h1
  obtain ⟨W, hW⟩ := KP.exists hv hs.2.1 hs.1 (mka_joined hv h1 (Nat.le_refl _)).symm
  have no : ∀ j ∈ loose n S, cntW j W = 0 := fun j hj => cnt_none fun r hr e => by
    have k := hW.kp r hr
    rw [e] at k
    exact (mem_kept.mp k).2 (mem_loose.mp hj).2
  refine ⟨W, hW, ?_, IsWalk.cons (p := (l, true)) h1 hW.walk, ?_, fun j hj hne => ?_⟩
  · unfold ringOf
    rw [reachF_some hv hW]
    rfl
  · rw [cntW_cons, if_pos rfl, no l hl]; rfl
  · rw [cntW_cons, if_neg (Ne.symm hne), no j hj]; rfl
theorem flow_not {B : Int} {n : Nat} {S : List Span} (hv : Val B n S) {c : Nat → Int} (hf : Flow S c) {i : Nat} (hi : i < S.length) (hc : c i ≠ 0) : ∃ l ∈ loose n S, c l ≠ 0 := by
  by_cases e : ∃ l ∈ loose n S, c l ≠ 0
  · exact e
  · refine absurd (flow_kept hv hf (fun j hj hk => ?_) i hi) hc
    by_cases q : c j = 0
    · exact q
    · exact absurd ⟨j, List.mem_filter.mpr ⟨List.mem_range.mpr hj, decide_eq_true hk⟩, q⟩ e
theorem RN.one {B : Int} {size n : Nat} {o : List Nat} {L : List (Span × Nat)} {S : List Span} (h : RN B size n o L S) (hv : Val B n S) : ∃ l, loose n S = [l] := by
  have h2 := h.s2
  obtain ⟨i0, hi0, e0⟩ := h.idx (k := 0) (by omega)
  obtain ⟨w, w1, w2⟩ := h.round size (Nat.le_refl _)
  rw [Nat.mod_self] at w1
  have hne : cntW i0 w ≠ 0 := by
    rw [w2 i0 hi0, if_pos (by omega)]
    rcases stand_sq (o := o) (L := L) (S := S) i0 with q | q <;> rw [q] <;> decide
  obtain ⟨l, hl, _⟩ := flow_not hv (flow_closed w1) hi0 hne
  have isR : ∀ {c : Nat → Int} {j : Nat}, Flow S c → j < S.length → c j ≠ 0 → labOf L j < size := fun {c j} hf hj hc => by
    by_cases q : labOf L j < size
    · exact q
    · exact absurd (h.hang hf j hj (by omega)) hc
  have all : ∀ j ∈ loose n S, j = l := fun j hj => by
    by_cases e : j = l
    · exact e
    · obtain ⟨W, _, _, k1, k2, k3⟩ := loose_ring hv hl
      obtain ⟨W', _, _, k1', k2', k3'⟩ := loose_ring hv hj
      have hjl := (mem_loose.mp hj).1
      have hll := (mem_loose.mp hl).1
      have r1 := isR (flow_closed k1) hll (by rw [k2]; decide)
      have r2 := isR (flow_closed k1') hjl (by rw [k2']; decide)
      have q1 := h.ring (flow_closed k1) hi0 hll e0 r1
      have q2 := h.ring (flow_closed k1) hi0 hjl e0 r2
      rw [k2] at q1
      rw [k3 j hj e, ← q1] at q2
      rcases stand_sq (o := o) (L := L) (S := S) l with q | q <;> rw [q] at q2 <;> omega
  have nd : (loose n S).Nodup := List.Nodup.sublist List.filter_sublist List.nodup_range
  refine ⟨l, ?_⟩
  cases hL : loose n S with
  | nil => rw [hL] at hl; cases hl
  | cons x t =>
    rw [hL] at all nd
    have hx := all x List.mem_cons_self
    subst hx
    cases t with
    | nil => rfl
    | cons y t =>
      have hy := all y (List.mem_cons_of_mem _ List.mem_cons_self)
      subst hy
      exact absurd List.mem_cons_self (List.nodup_cons.mp nd).1
end Z
end
section
/-! M7: one ring: every closed way uses its spans alike. -/
namespace Z
theorem walk_inv {S : List Span} {x y : Nat} {p : Nat × Bool} {w : Way} (h : IsWalk S x (p :: w) y) : x = src S p ∧ p.1 < S.length ∧ IsWalk S (dst S p) w y := by
  cases h with
  | cons h t => exact ⟨rfl, h, t⟩
theorem walk_nil {S : List Span} {x y : Nat} (h : IsWalk S x [] y) : x = y := by
  cases h
  rfl
theorem walk_app_inv {S : List Span} {y : Nat} {v : Way} : ∀ {u : Way} {x : Nat}, IsWalk S x (u ++ v) y → ∃ z, IsWalk S x u z ∧ IsWalk S z v y
  | [], x, h => ⟨x, .nil _, h⟩
  | p :: u, x, h => by
    obtain ⟨e, h1, h2⟩ := walk_inv h
    obtain ⟨z, h3, h4⟩ := walk_app_inv h2
    subst e
    exact ⟨z, .cons h1 h3, h4⟩
theorem dup_split {α : Type} {f : α → Nat} : ∀ {w : List α}, ¬ (w.map f).Nodup → ∃ u p v r z, w = u ++ p :: (v ++ r :: z) ∧ f p = f r
  | [], h => absurd List.nodup_nil h
  | p :: w, h => by
    by_cases e : f p ∈ w.map f
    · obtain ⟨r, hr, q⟩ := List.mem_map.mp e
      obtain ⟨v, z, rfl⟩ := List.append_of_mem hr
      exact ⟨[], p, v, r, z, rfl, q.symm⟩
    · have : ¬ (w.map f).Nodup := fun nd => h (List.nodup_cons.mpr ⟨e, nd⟩)
      obtain ⟨u, p', v, r, z, rfl, q⟩ := dup_split this
      exact ⟨p :: u, p', v, r, z, rfl, q⟩
theorem cnt_idx {w : Way} (nd : (w.map (·.1)).Nodup) : ∀ r ∈ w, cntW r.1 w = sgn r.2 := by
  induction w with
  | nil => intro r hr; cases hr
  | cons p w ih =>
    intro r hr
    have nd' := List.nodup_cons.mp nd
    have no : ∀ q ∈ w, q.1 ≠ p.1 := fun q hq e => nd'.1 (List.mem_map.mpr ⟨q, hq, e⟩)
    rw [cntW_cons]
    rcases List.mem_cons.mp hr with rfl | hr
    · rw [if_pos rfl, cnt_none no, Int.add_zero]
    · rw [if_neg (Ne.symm (no r hr)), ih nd'.2 r hr, Int.zero_add]
theorem cnt_iff {w : Way} (nd : (w.map (·.1)).Nodup) (i : Nat) : i ∈ w.map (·.1) ↔ cntW i w ≠ 0 := by
  constructor
  · intro h
    obtain ⟨r, hr, rfl⟩ := List.mem_map.mp h
    show cntW r.1 w ≠ 0
    rw [cnt_idx nd r hr]
    exact sgn_ne _
  · intro h
    obtain ⟨r, hr, e⟩ := cnt_mem h
    exact List.mem_map.mpr ⟨r, hr, e⟩
theorem simple_idx {S : List Span} {x y : Nat} {w : Way} (h : IsWalk S x w y) (nd : (nodesW S x w).Nodup) : (w.map (·.1)).Nodup := by
  induction h with
  | nil => exact List.nodup_nil
  | @cons q w y hq t ih =>
    refine List.nodup_cons.mpr ⟨fun m => ?_, ih (List.nodup_cons.mp nd).2⟩
    obtain ⟨r, hr, e⟩ := List.mem_map.mp m
    exact idx_once t nd r hr e
/-! ### the way back -/
theorem backW_cons (p : Nat × Bool) (w : Way) : backW (p :: w) = backW w ++ [(p.1, !p.2)] := by
  unfold backW
  rw [List.reverse_cons, List.map_append]
  rfl
theorem src_flip (S : List Span) (p : Nat × Bool) : src S (p.1, !p.2) = dst S p ∧ dst S (p.1, !p.2) = src S p := by
  unfold src dst
  obtain ⟨i, b⟩ := p
  cases b <;> exact ⟨rfl, rfl⟩
theorem walk_back {S : List Span} {x y : Nat} {w : Way} (h : IsWalk S x w y) : IsWalk S y (backW w) x := by
  induction h with
  | nil x => exact .nil x
  | @cons p w y hp t ih =>
    rw [backW_cons]
    have := walk_one (S := S) (p := (p.1, !p.2)) hp
    rw [(src_flip S p).1, (src_flip S p).2] at this
    exact walk_append ih this
theorem cnt_back (i : Nat) (w : Way) : cntW i (backW w) = -cntW i w := by
  induction w with
  | nil => rfl
  | cons p w ih =>
    rw [backW_cons, cntW_append, ih, cntW_cons, cntW_cons, cntW_nil]
    have : sgn (!p.2) = -sgn p.2 := by cases p.2 <;> rfl
    by_cases e : p.1 = i
    · rw [if_pos e, if_pos (show (p.1, !p.2).1 = i from e)]
      show -cntW i w + (sgn (!p.2) + 0) = _
      rw [this]; omega
    · rw [if_neg e, if_neg (show ¬ (p.1, !p.2).1 = i from e)]; omega
theorem loW_cons (S : List Span) (p : Nat × Bool) (w : Way) : loW S (p :: w) = (if p.2 then (spanAt S p.1).lo else -(spanAt S p.1).hi) + loW S w := by
  unfold loW
  rw [List.map_cons, List.sum_cons]
theorem hiW_cons (S : List Span) (p : Nat × Bool) (w : Way) : hiW S (p :: w) = (if p.2 then (spanAt S p.1).hi else -(spanAt S p.1).lo) + hiW S w := by
  unfold hiW
  rw [List.map_cons, List.sum_cons]
theorem loW_append (S : List Span) (u v : Way) : loW S (u ++ v) = loW S u + loW S v := by
  unfold loW
  rw [List.map_append, List.sum_append]
theorem loW_back (S : List Span) (w : Way) : loW S (backW w) = -hiW S w := by
  induction w with
  | nil => rfl
  | cons p w ih =>
    rw [backW_cons, loW_append, ih, loW_cons, hiW_cons]
    have : loW S [] = 0 := rfl
    rw [this]
    obtain ⟨i, b⟩ := p
    cases b <;> simp <;> omega
theorem sumW_cons (f : Nat → Int) (p : Nat × Bool) (w : Way) : sumW f (p :: w) = (if p.2 then f p.1 else -f p.1) + sumW f w := by
  unfold sumW
  rw [List.map_cons, List.sum_cons]
/-! ### what a way weighs -/
def wt (B k : Int) (L : Nat) (S : List Span) (p : Nat × Bool) : Int := if p.2 then (spanAt S p.1).lo - (if p.1 = L then k else 0) * B else (if p.1 = L then k else 0) * B - (spanAt S p.1).hi
def wtW (B k : Int) (L : Nat) (S : List Span) (w : Way) : Int := (w.map (wt B k L S)).sum
theorem wtW_cons (B k : Int) (L : Nat) (S : List Span) (p : Nat × Bool) (w : Way) : wtW B k L S (p :: w) = wt B k L S p + wtW B k L S w := by
  unfold wtW
  rw [List.map_cons, List.sum_cons]
theorem wtW_append (B k : Int) (L : Nat) (S : List Span) (u v : Way) : wtW B k L S (u ++ v) = wtW B k L S u + wtW B k L S v := by
  unfold wtW
  rw [List.map_append, List.sum_append]
theorem wtW_eq (B k : Int) (L : Nat) (S : List Span) (w : Way) : wtW B k L S w = loW S w - cntW L w * (k * B) := by
  induction w with
  | nil => rw [cntW_nil, Int.zero_mul]; rfl
  | cons p w ih =>
    rw [wtW_cons, ih, loW_cons, cntW_cons, Int.add_mul]
    unfold wt sgn
    by_cases e : p.1 = L
    · rw [if_pos e, if_pos e]
      cases p.2 <;> simp <;> omega
    · rw [if_neg e, if_neg e]
      cases p.2 <;> simp <;> omega
theorem zip_sum (S : List Span) (f : Span × Nat → Int) : (S.zipIdx.map f).sum = sm S.length fun i => f (spanAt S i, i) := by
  rw [← sm_map]
  congr 1
  apply List.ext_getElem?
  intro i
  rw [List.getElem?_map, List.getElem?_map, List.getElem?_zipIdx]
  by_cases h : i < S.length
  · rw [List.getElem?_range h, List.getElem?_eq_getElem h]
    simp [spanAt, h]
  · rw [List.getElem?_eq_none (by omega), List.getElem?_eq_none (by rw [List.length_range]; omega)]
    rfl
theorem barLo_sm (S : List Span) (w : Way) : barLo S w = sm S.length fun i => min (cntW i w * (spanAt S i).lo) (cntW i w * (spanAt S i).hi) := zip_sum S _
theorem barLo_eq {S : List Span} {w : Way} (nd : (w.map (·.1)).Nodup) (hl : ∀ p ∈ w, p.1 < S.length) (hh : ∀ p ∈ w, (spanAt S p.1).lo ≤ (spanAt S p.1).hi) : barLo S w = loW S w := by
  induction w with
  | nil =>
    rw [barLo_sm]
    exact sm_zero _ fun i _ => by rw [cntW_nil, Int.zero_mul, Int.zero_mul]; rfl
  | cons p w ih =>
    have nd' := List.nodup_cons.mp nd
    have no : ∀ q ∈ w, q.1 ≠ p.1 := fun q hq e => nd'.1 (List.mem_map.mpr ⟨q, hq, e⟩)
    have ih := ih nd'.2 (fun q hq => hl q (List.mem_cons_of_mem _ hq)) fun q hq => hh q (List.mem_cons_of_mem _ hq)
    rw [loW_cons, ← ih, barLo_sm, barLo_sm]
    have e : sm S.length (fun i => min (cntW i (p :: w) * (spanAt S i).lo) (cntW i (p :: w) * (spanAt S i).hi)) = sm S.length (fun i => (if i = p.1 then min (cntW i (p :: w) * (spanAt S i).lo) (cntW i (p :: w) * (spanAt S i).hi) else 0) + min (cntW i w * (spanAt S i).lo) (cntW i w * (spanAt S i).hi)) := sm_congr _ fun i _ => by
      by_cases q : i = p.1
      · rw [if_pos q, q, cnt_none no, Int.zero_mul, Int.zero_mul]; simp
      · rw [if_neg q, cntW_cons, if_neg (Ne.symm q), Int.zero_add, Int.zero_add]
    rw [e, sm_add, sm_one (hl p List.mem_cons_self) fun i _ hi => if_neg hi, if_pos rfl, cntW_cons, if_pos rfl, cnt_none no]
    have h1 := hh p List.mem_cons_self
    unfold sgn
    cases p.2 <;> simp <;> omega
theorem loW_le {S : List Span} {w : Way} (hl : ∀ p ∈ w, 0 ≤ (spanAt S p.1).lo ∧ (spanAt S p.1).lo ≤ (spanAt S p.1).hi ∧ (spanAt S p.1).hi ≤ 2880) : -(2880 * w.length) ≤ loW S w ∧ loW S w ≤ 2880 * w.length ∧ -(2880 * w.length) ≤ hiW S w ∧ hiW S w ≤ 2880 * w.length := by
  induction w with
  | nil => simp [loW, hiW]
  | cons p w ih =>
    have ih := ih fun q hq => hl q (List.mem_cons_of_mem _ hq)
    have h1 := hl p List.mem_cons_self
    rw [loW_cons, hiW_cons, List.length_cons]
    cases p.2 <;> simp <;> omega
section
variable {B : Int} {n : Nat} {S : List Span} {l : Nat}
theorem one_flow (hv : Val B n S) (he : loose n S = [l]) {c : Nat → Int} (hf : Flow S c) : ∀ i, i < S.length → c i = c l * cntW i (ringOf n S l) := by
  obtain ⟨W, hW, hR, hwalk, h1, _⟩ := loose_ring hv (l := l) (by rw [he]; exact List.mem_singleton.mpr rfl)
  rw [hR]
  have hg : Flow S fun i => c i - c l * cntW i ((l, true) :: W) := fun φ => by
    have a1 := hf φ
    have a2 := flow_closed hwalk φ
    unfold fs at a1 a2 ⊢
    have : sm S.length (fun i => (c i - c l * cntW i ((l, true) :: W)) * (φ (spanAt S i).b - φ (spanAt S i).a)) = sm S.length (fun i => c i * (φ (spanAt S i).b - φ (spanAt S i).a) - c l * (cntW i ((l, true) :: W) * (φ (spanAt S i).b - φ (spanAt S i).a))) := sm_congr _ fun i _ => by
      rw [Int.sub_mul, Int.mul_assoc]
    rw [this, sm_sub, sm_mul, a1, a2]
    omega
  intro i hi
  have : c i - c l * cntW i ((l, true) :: W) = 0 := flow_kept hv hg (fun j hj hk => by
    have : j ∈ loose n S := List.mem_filter.mpr ⟨List.mem_range.mpr hj, decide_eq_true hk⟩
    rw [he, List.mem_singleton] at this
    subst this
    show c j - c j * cntW j ((j, true) :: W) = 0
    rw [h1]; omega) i hi
  omega
/-- what the ring is -/
theorem ring_is (hv : Val B n S) (he : loose n S = [l]) : IsWalk S (spanAt S l).a (ringOf n S l) (spanAt S l).a ∧ ((ringOf n S l).map (·.1)).Nodup ∧ (ringOf n S l).length ≤ n ∧ cntW l (ringOf n S l) = 1 ∧ l < S.length := by
  have hm : l ∈ loose n S := by rw [he]; exact List.mem_singleton.mpr rfl
  obtain ⟨W, hW, hR, hwalk, h1, _⟩ := loose_ring hv hm
  have hl := (mem_loose.mp hm).1
  rw [hR]
  refine ⟨hwalk, List.nodup_cons.mpr ⟨fun m => ?_, simple_idx hW.walk hW.nd⟩, ?_, h1, hl⟩
  · obtain ⟨r, hr, e⟩ := List.mem_map.mp m
    have k := hW.kp r hr
    have e' : r.1 = l := e
    rw [e'] at k
    exact (mem_kept.mp k).2 (mem_loose.mp hm).2
  · have := hW.len hv (sp_lt hv hl).2.1
    rw [List.length_cons]
    omega
theorem cnt_three {w : Way} (nd : (w.map (·.1)).Nodup) (i : Nat) : cntW i w = 0 ∨ cntW i w = 1 ∨ cntW i w = -1 := by
  by_cases h : cntW i w = 0
  · exact .inl h
  · obtain ⟨r, hr, rfl⟩ := cnt_mem h
    rw [cnt_idx nd r hr]
    cases r.2
    · exact .inr (.inr rfl)
    · exact .inr (.inl rfl)
/-- a simple ring of weight over 0 uses a span once -/
theorem pos_idx (hv : Val B n S) {k : Int} {L : Nat} {x : Nat} {w : Way} (h : IsWalk S x w x) (nd : (w.map (dst S)).Nodup) (hp : 0 < wtW B k L S w) : (w.map (·.1)).Nodup := by
  by_cases hx : (w.map (·.1)).Nodup
  · exact hx
  · exfalso
    obtain ⟨u, p, v, r, z, rfl, e⟩ := dup_split hx
    obtain ⟨z1, a1, a2⟩ := walk_app_inv h
    obtain ⟨rfl, a3, a4⟩ := walk_inv a2
    obtain ⟨z2, a5, a6⟩ := walk_app_inv a4
    obtain ⟨rfl, a7, a8⟩ := walk_inv a6
    rw [List.map_append, List.map_cons, List.map_append, List.map_cons] at nd
    obtain ⟨n1, n2, n3⟩ := List.nodup_append.mp nd
    obtain ⟨n4, n5⟩ := List.nodup_cons.mp n2
    obtain ⟨n6, n7, n8⟩ := List.nodup_append.mp n5
    obtain ⟨n9, n10⟩ := List.nodup_cons.mp n7
    have d1 : dst S r ≠ dst S p := fun q => n4 (List.mem_append_right _ (q ▸ List.mem_cons_self))
    have d2 : dst S r = src S p := (dst_of (S := S) e.symm).resolve_left d1
    have b1 : r.2 = !p.2 := by
      by_cases q : r.2 = p.2
      · have : r = p := Prod.ext e.symm q
        exact absurd (this ▸ rfl) d1
      · revert q
        cases r.2 <;> cases p.2 <;> simp
    have hr : r = (p.1, !p.2) := Prod.ext e.symm b1
    have d3 : src S r = dst S p := by rw [hr]; exact (src_flip S p).1
    have u0 : u = [] := by
      by_cases q : u = []
      · exact q
      · have := end_mem' a1 q
        rw [← d2] at this
        exact absurd rfl (n3 _ this _ (List.mem_cons_of_mem _ (List.mem_append_right _ List.mem_cons_self)))
    have v0 : v = [] := by
      by_cases q : v = []
      · exact q
      · have := end_mem' a5 q
        rw [d3] at this
        exact absurd (List.mem_append_left _ this) n4
    subst u0
    have xe := walk_nil a1
    have z0 : z = [] := by
      by_cases q : z = []
      · exact q
      · have := end_mem' a8 q
        rw [xe, ← d2] at this
        exact absurd this n9
    subst v0 z0
    have hs := sp_lt hv a3
    rw [hr] at hp
    have e2 : wtW B k L S ([] ++ p :: ([] ++ [(p.1, !p.2)])) = wt B k L S p + wt B k L S (p.1, !p.2) := by
      unfold wtW; simp
    rw [e2] at hp
    unfold wt at hp
    dsimp only at hp
    cases hb : p.2 <;> rw [hb] at hp <;> simp at hp <;> omega
/-- a simple ring of weight over 0 is the ring, this way round or that -/
theorem pos_ring (hv : Val B n S) (he : loose n S = [l]) {k : Int} {x : Nat} {w : Way} (h : IsWalk S x w x) (hne : w ≠ []) (nd : (w.map (dst S)).Nodup) (hp : 0 < wtW B k l S w) :
    (w.map (·.1)).Nodup ∧ (w.map (·.1)).Perm ((ringOf n S l).map (·.1)) ∧ barLo S w = loW S w ∧ ((cntW l w = 1 ∧ loW S w = loW S (ringOf n S l)) ∨ (cntW l w = -1 ∧ loW S w = -hiW S (ringOf n S l))) := by
  have ni := pos_idx hv h nd hp
  obtain ⟨r1, r2, r3, r4, r5⟩ := ring_is hv he
  have hc := one_flow hv he (flow_closed h)
  have hk : cntW l w = 1 ∨ cntW l w = -1 := by
    cases w with
    | nil => exact absurd rfl hne
    | cons p w =>
      have c1 := cnt_idx ni p List.mem_cons_self
      have c2 := hc p.1 (walk_lt h p List.mem_cons_self)
      rw [c1] at c2
      have c3 : sgn p.2 = 1 ∨ sgn p.2 = -1 := by cases p.2 <;> simp [sgn]
      rcases cnt_three r2 p.1 with q | q | q <;> rw [q] at c2 <;> omega
  have sh : ∀ {v : Way} {y : Nat}, IsWalk S y v y → (∀ p ∈ v, (spanAt S p.1).lo ≤ (spanAt S p.1).hi) := fun hw p hp => (sp_lt hv (walk_lt hw p hp)).2.2.2.2.1
  have bw := barLo_eq ni (walk_lt h) (sh h)
  have idxb : ((backW (ringOf n S l)).map (·.1)).Nodup := by
    unfold backW
    rw [List.map_map]
    have : ((fun p : Nat × Bool => p.1) ∘ fun p : Nat × Bool => (p.1, !p.2)) = fun p => p.1 := rfl
    rw [this, List.map_reverse]
    exact (List.reverse_perm _).nodup_iff.mpr r2
  refine ⟨ni, ?_, bw, ?_⟩
  · refine (List.perm_ext_iff_of_nodup ni r2).mpr fun i => ?_
    rw [cnt_iff ni, cnt_iff r2]
    by_cases hi : i < S.length
    · rw [hc i hi]
      rcases hk with q | q <;> rw [q] <;> omega
    · have z1 : cntW i w = 0 := cnt_none fun r hr e => hi (e ▸ walk_lt h r hr)
      have z2 : cntW i (ringOf n S l) = 0 := cnt_none fun r hr e => hi (e ▸ walk_lt r1 r hr)
      rw [z1, z2]
  · rcases hk with q | q
    · left
      refine ⟨q, ?_⟩
      rw [← bw, ← barLo_eq r2 (walk_lt r1) (sh r1), barLo_sm, barLo_sm]
      exact sm_congr _ fun i hi => by rw [hc i hi, q, Int.one_mul]
    · right
      refine ⟨q, ?_⟩
      have bk := walk_back r1
      rw [← bw, ← loW_back, ← barLo_eq idxb (walk_lt bk) (sh bk), barLo_sm, barLo_sm]
      exact sm_congr _ fun i hi => by rw [cnt_back, hc i hi, q, Int.neg_one_mul]
end
end Z
end
section
/-! M8: the rounds: what they find, and why they stop. -/
namespace Z
abbrev LS.F (st : LS) (x : Nat) : Int := st.f.getD x 0
theorem getD_set {α : Type} {l : List α} {i j : Nat} {v d : α} (hi : i < l.length) : (l.set i v).getD j d = if j = i then v else l.getD j d := by
  rw [List.getD_eq_getElem?_getD, List.getD_eq_getElem?_getD, List.getElem?_set]
  by_cases e : i = j
  · subst e
    simp [hi]
  · rw [if_neg e, if_neg (Ne.symm e)]
theorem lstep_yes {st : LS} {r : Arc} {n : Nat} (hb : r.b < n) (lf : st.f.length = n) (lc : st.c.length = n) (h : st.F r.b < st.F r.a + r.w) :
    (∀ x, (lstep st r).F x = if x = r.b then st.F r.a + r.w else st.F x) ∧ (∀ x, came (lstep st r).c x = if x = r.b then some r else came st.c x) ∧ (lstep st r).e = some r.b := by
  unfold lstep
  rw [if_pos h]
  exact ⟨fun x => getD_set (by omega), fun x => getD_set (by omega), rfl⟩
theorem lstep_no {st : LS} {r : Arc} (h : ¬ st.F r.b < st.F r.a + r.w) : lstep st r = st := by
  unfold lstep
  rw [if_neg h]
/-- nothing changed: nothing could -/
theorem lfold_none : ∀ {A : List Arc} {st : LS}, (A.foldl lstep st).e = none → st.e = none ∧ ∀ r ∈ A, st.F r.a + r.w ≤ st.F r.b
  | [], st, h => ⟨h, fun r hr => by cases hr⟩
  | r :: A, st, h => by
    rw [List.foldl_cons] at h
    obtain ⟨h1, h2⟩ := lfold_none h
    by_cases q : st.F r.b < st.F r.a + r.w
    · unfold lstep at h1
      rw [if_pos q] at h1
      cases h1
    · rw [lstep_no q] at h1 h2
      refine ⟨h1, fun r' hr' => ?_⟩
      rcases List.mem_cons.mp hr' with rfl | hr'
      · omega
      · exact h2 r' hr'
theorem LpOk.pot {A : List Arc} {n : Nat} (h : LpOk A n) : ∃ φ : Nat → Int, ∀ r ∈ A, φ r.a + r.w ≤ φ r.b := by
  obtain ⟨m, _, h2⟩ := h
  obtain ⟨_, h3⟩ := lfold_none (A := A) (st := ⟨(lrun A (ls0 n) m).f, (lrun A (ls0 n) m).c, none⟩) h2
  exact ⟨_, h3⟩
/-- arcs within n -/
def ArcOk (A : List Arc) (n : Nat) : Prop := ∀ r ∈ A, r.a < n ∧ r.b < n ∧ r.a ≠ r.b
theorem sum_lt {α : Type} {f g : α → Int} {b : α} : ∀ {X : List α}, b ∈ X → (∀ x ∈ X, f x ≤ g x) → f b < g b → (X.map f).sum < (X.map g).sum
  | x :: X, hb, h, hs => by
    rw [List.map_cons, List.sum_cons, List.map_cons, List.sum_cons]
    have hx := h x List.mem_cons_self
    have le : ∀ {Y : List α}, (∀ x ∈ Y, f x ≤ g x) → (Y.map f).sum ≤ (Y.map g).sum := by
      intro Y
      induction Y with
      | nil => intro _; exact Int.le_refl _
      | cons y Y ih =>
        intro hY
        rw [List.map_cons, List.sum_cons, List.map_cons, List.sum_cons]
        have := hY y List.mem_cons_self
        have := ih fun z hz => hY z (List.mem_cons_of_mem _ hz)
        omega
    rcases List.mem_cons.mp hb with rfl | hb
    · have := le fun z hz => h z (List.mem_cons_of_mem _ hz)
      omega
    · have := sum_lt hb (fun z hz => h z (List.mem_cons_of_mem _ hz)) hs
      omega
theorem sum_perm {l l' : List Int} (h : l.Perm l') : l.sum = l'.sum := by
  induction h with
  | nil => rfl
  | cons x _ ih => rw [List.sum_cons, List.sum_cons, ih]
  | swap x y l => rw [List.sum_cons, List.sum_cons, List.sum_cons, List.sum_cons]; omega
  | trans _ _ h1 h2 => rw [h1, h2]
theorem sum_map_add {α : Type} (f g : α → Int) : ∀ X : List α, (X.map fun x => f x + g x).sum = (X.map f).sum + (X.map g).sum
  | [] => rfl
  | x :: X => by
    rw [List.map_cons, List.sum_cons, sum_map_add f g X, List.map_cons, List.sum_cons, List.map_cons, List.sum_cons]
    omega
/-- what holds all along -/
structure Inv (A : List Arc) (n : Nat) (st : LS) : Prop where
  lf : st.f.length = n
  lc : st.c.length = n
  le : ∀ x r, came st.c x = some r → r ∈ A ∧ r.b = x ∧ st.F x ≤ st.F r.a + r.w
  pos : ∀ (X : List Nat) (ρ : Nat → Arc), X ≠ [] → X.Nodup → (∀ x ∈ X, came st.c x = some (ρ x)) → (X.map fun x => (ρ x).a).Perm X → 0 < (X.map fun x => (ρ x).w).sum
theorem Inv.step {A : List Arc} {n : Nat} {st : LS} (hA : ArcOk A n) (h : Inv A n st) {r : Arc} (hr : r ∈ A) : Inv A n (lstep st r) := by
  by_cases q : st.F r.b < st.F r.a + r.w
  · obtain ⟨ha, hb, hab⟩ := hA r hr
    obtain ⟨sF, sC, sE⟩ := lstep_yes hb h.lf h.lc q
    have hl := lstep_len st r
    refine ⟨hl.1.trans h.lf, hl.2.trans h.lc, fun x s hx => ?_, fun X ρ h0 nd hc hp => ?_⟩
    · rw [sC] at hx
      by_cases e : x = r.b
      · rw [if_pos e] at hx
        cases hx
        refine ⟨hr, e.symm, ?_⟩
        rw [sF, sF, if_pos e, if_neg hab]
        exact Int.le_refl _
      · rw [if_neg e] at hx
        obtain ⟨h1, h2, h3⟩ := h.le x s hx
        refine ⟨h1, h2, ?_⟩
        rw [sF, sF, if_neg e]
        split
        · rename_i e'
          rw [e'] at h3
          omega
        · exact h3
    · by_cases hX : r.b ∈ X
      · have hρ : ρ r.b = r := by
          have := hc _ hX
          rw [sC, if_pos rfl] at this
          exact (Option.some.inj this).symm
        have s1 : (X.map st.F).sum < (X.map fun x => st.F (ρ x).a + (ρ x).w).sum := by
          refine sum_lt hX (fun x hx => ?_) (by rw [hρ]; exact q)
          by_cases e : x = r.b
          · subst e
            rw [hρ]
            omega
          · have := hc x hx
            rw [sC, if_neg e] at this
            exact (h.le x _ this).2.2
        rw [sum_map_add] at s1
        have s2 : (X.map fun x => st.F (ρ x).a).sum = (X.map st.F).sum := by
          have := sum_perm (hp.map st.F)
          rw [List.map_map] at this
          exact this
        omega
      · exact h.pos X ρ h0 nd (fun x hx => by
          have := hc x hx
          rwa [sC, if_neg (fun (e : x = r.b) => hX (e ▸ hx))] at this) hp
  · rw [lstep_no q]
    exact h
theorem Inv.fold {A : List Arc} {n : Nat} (hA : ArcOk A n) : ∀ {P : List Arc} {st : LS}, (∀ r ∈ P, r ∈ A) → Inv A n st → Inv A n (P.foldl lstep st)
  | [], _, _, h => h
  | r :: P, st, hP, h => Inv.fold (P := P) hA (fun q hq => hP q (List.mem_cons_of_mem _ hq)) (h.step hA (hP r List.mem_cons_self))
theorem came_none (n x : Nat) : came (ls0 n).c x = none := by
  unfold came ls0
  rw [List.getD_eq_getElem?_getD, List.getElem?_replicate]
  split <;> rfl
theorem Inv.run {A : List Arc} {n : Nat} (hA : ArcOk A n) : ∀ m, Inv A n (lrun A (ls0 n) m)
  | 0 => ⟨by simp [lrun, ls0], by simp [lrun, ls0], fun x r h => (by rw [lrun, came_none] at h; cases h), fun X ρ h0 _ hc _ => by
      cases X with
      | nil => exact absurd rfl h0
      | cons x X => have := hc x List.mem_cons_self; rw [lrun, came_none] at this; cases this⟩
  | m + 1 => by
    have h := Inv.run hA m
    exact Inv.fold hA (fun r hr => hr) (st := ⟨(lrun A (ls0 n) m).f, (lrun A (ls0 n) m).c, none⟩) ⟨h.lf, h.lc, h.le, h.pos⟩
/-- in which round a node last changed -/
structure Gh (A P : List Arc) (n m : Nat) (st : LS) (g : Nat → Nat) : Prop where
  lf : st.f.length = n
  lc : st.c.length = n
  gm : ∀ x, g x ≤ m
  ga : ∀ x, 1 ≤ g x → ∃ r, came st.c x = some r ∧ g x ≤ g r.a + 1
  b1 : ∀ r ∈ A, st.F r.a + r.w ≤ st.F r.b ∨ m ≤ g r.a + 1
  b2 : ∀ r ∈ P, st.F r.a + r.w ≤ st.F r.b ∨ g r.a = m
  e : ∀ x, st.e = some x → g x = m
theorem Gh.step {A P : List Arc} {n m : Nat} {st : LS} {g : Nat → Nat} (hA : ArcOk A n) (h : Gh A P n m st g) {r : Arc} (hr : r ∈ A) : ∃ g', Gh A (P ++ [r]) n m (lstep st r) g' := by
  by_cases q : st.F r.b < st.F r.a + r.w
  · obtain ⟨ha, hb, hab⟩ := hA r hr
    obtain ⟨sF, sC, sE⟩ := lstep_yes hb h.lf h.lc q
    have hl := lstep_len st r
    have up : ∀ x, g x ≤ (if x = r.b then m else g x) := fun x => by have := h.gm x; split <;> omega
    refine ⟨fun x => if x = r.b then m else g x, hl.1.trans h.lf, hl.2.trans h.lc, fun x => ?_, fun x hx => ?_, fun s hs => ?_, fun s hs => ?_, fun x hx => ?_⟩
    · have := h.gm x
      try dsimp only
      split <;> omega
    · by_cases e : x = r.b
      · refine ⟨r, by rw [sC, if_pos e], ?_⟩
        have u := up r.a
        have := (h.b1 r hr).resolve_left (by omega)
        have := h.gm x
        try dsimp only at u ⊢
        rw [if_pos e]
        omega
      · try dsimp only at hx ⊢
        rw [if_neg e] at hx ⊢
        obtain ⟨s, h1, h2⟩ := h.ga x hx
        refine ⟨s, by rw [sC, if_neg e]; exact h1, ?_⟩
        have u := up s.a
        omega
    · try dsimp only
      by_cases e : s.a = r.b
      · right; rw [if_pos e]; omega
      · rw [sF, if_neg e, if_neg e, sF]
        rcases h.b1 s hs with z | z
        · left
          split
          · rename_i e'
            rw [e'] at z
            omega
          · exact z
        · exact .inr z
    · try dsimp only
      by_cases e : s.a = r.b
      · right; rw [if_pos e]
      · rw [sF, if_neg e, if_neg e, sF]
        rcases List.mem_append.mp hs with hs | hs
        · rcases h.b2 s hs with z | z
          · left
            split
            · rename_i e'
              rw [e'] at z
              omega
            · exact z
          · exact .inr z
        · rw [List.mem_singleton] at hs
          subst hs
          left
          rw [if_pos rfl]
          exact Int.le_refl _
    · rw [sE] at hx
      cases hx
      exact if_pos rfl
  · rw [lstep_no q]
    refine ⟨g, h.lf, h.lc, h.gm, h.ga, h.b1, fun s hs => ?_, h.e⟩
    rcases List.mem_append.mp hs with hs | hs
    · exact h.b2 s hs
    · rw [List.mem_singleton] at hs
      subst hs
      left
      omega
theorem Gh.fold {A : List Arc} {n m : Nat} (hA : ArcOk A n) : ∀ {T P : List Arc} {st : LS} {g : Nat → Nat}, (∀ r ∈ T, r ∈ A) → Gh A P n m st g → ∃ g', Gh A (P ++ T) n m (T.foldl lstep st) g'
  | [], P, st, g, _, h => ⟨g, by rw [List.append_nil]; exact h⟩
  | r :: T, P, st, g, hT, h => by
    obtain ⟨g1, h1⟩ := h.step hA (hT r List.mem_cons_self)
    obtain ⟨g2, h2⟩ := Gh.fold hA (fun q hq => hT q (List.mem_cons_of_mem _ hq)) h1
    rw [List.append_assoc] at h2
    exact ⟨g2, h2⟩
theorem Gh.run {A : List Arc} {n : Nat} (hA : ArcOk A n) : ∀ m, ∃ g, Gh A A n m (lrun A (ls0 n) m) g
  | 0 => ⟨fun _ => 0, by simp [lrun, ls0], by simp [lrun, ls0], fun _ => Nat.le_refl _, fun x h => absurd h (by omega), fun r _ => .inr (by omega), fun r _ => .inr rfl, fun x h => (by cases h)⟩
  | m + 1 => by
    obtain ⟨g, h⟩ := Gh.run hA m
    have h0 : Gh A [] n (m + 1) ⟨(lrun A (ls0 n) m).f, (lrun A (ls0 n) m).c, none⟩ g :=
      ⟨h.lf, h.lc, fun x => by have := h.gm x; omega, h.ga, fun r hr => (h.b2 r hr).imp id fun e => by omega, fun r hr => (by cases hr), fun x hx => (by cases hx)⟩
    obtain ⟨g', h'⟩ := h0.fold hA (T := A) fun r hr => hr
    exact ⟨g', h'⟩
theorem Gh.back {A P : List Arc} {n m : Nat} {st : LS} {g : Nat → Nat} (h : Gh A P n m st g) : ∀ (j x : Nat), j ≤ g x → ∃ y, BackN st.c j x y
  | 0, x, _ => ⟨x, .nil x⟩
  | j + 1, x, hj => by
    obtain ⟨r, h1, h2⟩ := h.ga x (by omega)
    obtain ⟨y, hy⟩ := Gh.back h j r.a (by omega)
    exact ⟨y, .cons h1 hy⟩
/-! ### going back -/
section
variable {c : List (Option Arc)}
theorem BackN.det {m x y : Nat} (h : BackN c m x y) : ∀ {z : Nat}, BackN c m x z → y = z := by
  induction h with
  | nil x => intro z k; cases k; rfl
  | cons h t ih =>
    intro z k
    cases k with
    | cons h' t' =>
      rw [h] at h'
      cases h'
      exact ih t'
theorem BackN.app {i j x y z : Nat} (h : BackN c i x y) (k : BackN c j y z) : BackN c (i + j) x z := by
  induction h with
  | nil x => rw [Nat.zero_add]; exact k
  | cons h t ih => rw [Nat.add_right_comm]; exact .cons h (ih k)
theorem BackN.split : ∀ {i j x z : Nat}, BackN c (i + j) x z → ∃ y, BackN c i x y ∧ BackN c j y z
  | 0, j, x, z, h => ⟨x, .nil x, by rwa [Nat.zero_add] at h⟩
  | i + 1, j, x, z, h => by
    rw [Nat.add_right_comm] at h
    cases h with
    | cons h t =>
      obtain ⟨y, h1, h2⟩ := BackN.split t
      exact ⟨y, .cons h h1, h2⟩
/-- far enough back goes round -/
theorem BackN.round {n x y0 : Nat} (hc : ∀ x r, came c x = some r → x < n) (h : BackN c (n + 1) x y0) : ∃ y d, BackN c n x y ∧ d < n ∧ BackN c (d + 1) y y := by
  have all : ∀ i, ∃ z, i ≤ n → BackN c i x z ∧ z < n := fun i => by
    by_cases hi : i ≤ n
    · have h' := h
      rw [show n + 1 = i + ((n - i) + 1) by omega] at h'
      obtain ⟨z, h1, h2⟩ := h'.split
      cases h2 with
      | cons e t => exact ⟨z, fun _ => ⟨h1, hc _ _ e⟩⟩
    · exact ⟨0, fun q => absurd q hi⟩
  obtain ⟨it, hit⟩ := Classical.axiomOfChoice all
  have nnd : ¬ ((List.range (n + 1)).map it).Nodup := fun nd => by
    have := nodup_len (n := n) nd fun z hz => by
      obtain ⟨i, hi, rfl⟩ := List.mem_map.mp hz
      exact (hit i (by have := List.mem_range.mp hi; omega)).2
    rw [List.length_map, List.length_range] at this
    omega
  obtain ⟨u, p, v, r, z, e, hpr⟩ := dup_split nnd
  have nd : (List.range (n + 1)).Nodup := List.nodup_range
  have hp : p ∈ List.range (n + 1) := by rw [e]; exact List.mem_append_right _ List.mem_cons_self
  have hr : r ∈ List.range (n + 1) := by rw [e]; exact List.mem_append_right _ (List.mem_cons_of_mem _ (List.mem_append_right _ List.mem_cons_self))
  have hne : p ≠ r := fun q => by
    rw [e] at nd
    have := (List.nodup_cons.mp (List.nodup_append.mp nd).2.1).1
    exact this (q ▸ List.mem_append_right _ List.mem_cons_self)
  rw [List.mem_range] at hp hr
  have key : ∀ i j, i < j → j ≤ n → it i = it j → ∃ y d, BackN c n x y ∧ d < n ∧ BackN c (d + 1) y y := fun i j hij hj q => by
    obtain ⟨bi, _⟩ := hit i (by omega)
    obtain ⟨bj, _⟩ := hit j hj
    obtain ⟨bn, _⟩ := hit n (Nat.le_refl _)
    have b1 : BackN c (j - i) (it i) (it i) := by
      have bj' := bj
      rw [show j = i + (j - i) by omega] at bj'
      obtain ⟨y, s1, s2⟩ := bj'.split
      have := bi.det s1
      subst this
      rw [← show j = i + (j - i) by omega] at s2
      rw [← q] at s2
      exact s2
    have b2 : BackN c (n - i) (it i) (it n) := by
      have bn' := bn
      rw [show n = i + (n - i) by omega] at bn'
      obtain ⟨y, s1, s2⟩ := bn'.split
      have := bi.det s1
      subst this
      rw [← show n = i + (n - i) by omega] at s2
      exact s2
    have b3 := b1.app b2
    rw [Nat.add_comm] at b3
    obtain ⟨y, s1, s2⟩ := b3.split
    have := b2.det s1
    subst this
    refine ⟨it n, j - i - 1, bn, by omega, ?_⟩
    rw [show j - i - 1 + 1 = j - i by omega]
    exact s2
  by_cases q : p < r
  · exact key p r q (by omega) hpr
  · exact key r p (by omega) (by omega) hpr.symm
theorem Back.of : ∀ {d x y : Nat}, BackN c (d + 1) x y → ∃ t, Back c y x t ∧ t.length ≤ d + 1
  | d, x, y, h => by
    cases h with
    | @cons _ _ _ r h t =>
      by_cases e : r.a = y
      · exact ⟨[r], .last h e, by simp⟩
      · cases d with
        | zero => cases t; exact absurd rfl e
        | succ d =>
          obtain ⟨t', h1, h2⟩ := Back.of t
          exact ⟨r :: t', .step h e h1, by rw [List.length_cons]; omega⟩
theorem Back.det {y x : Nat} {t : List Arc} (h : Back c y x t) : ∀ {t' : List Arc}, Back c y x t' → t = t' := by
  induction h with
  | last h e =>
    intro t' k
    cases k with
    | last h' e' => rw [h] at h'; cases h'; rfl
    | step h' e' k' => rw [h] at h'; cases h'; exact absurd e e'
  | step h e k ih =>
    intro t' k'
    cases k' with
    | last h' e' => rw [h] at h'; cases h'; exact absurd e' e
    | step h' e' k'' => rw [h] at h'; cases h'; rw [ih k'']
theorem Back.ne {y x : Nat} {t : List Arc} (h : Back c y x t) : t ≠ [] := by
  cases h <;> simp
theorem Back.mem (hb : ∀ x r, came c x = some r → r.b = x) {y x : Nat} {t : List Arc} (h : Back c y x t) : ∀ r ∈ t, came c r.b = some r ∧ ∃ t', Back c y r.b t' ∧ t'.length ≤ t.length := by
  induction h with
  | last h e =>
    intro r hr
    rw [List.mem_singleton] at hr
    subst hr
    rw [hb _ _ h]
    exact ⟨h, _, .last h e, Nat.le_refl _⟩
  | step h e k ih =>
    intro r hr
    rcases List.mem_cons.mp hr with rfl | hr
    · rw [hb _ _ h]
      exact ⟨h, _, .step h e k, Nat.le_refl _⟩
    · obtain ⟨h1, t', h2, h3⟩ := ih r hr
      exact ⟨h1, t', h2, by rw [List.length_cons]; omega⟩
theorem Back.nodup (hb : ∀ x r, came c x = some r → r.b = x) {y x : Nat} {t : List Arc} (h : Back c y x t) : (t.map (·.b)).Nodup := by
  induction h with
  | last h e => simp
  | @step x r t h e k ih =>
    refine List.nodup_cons.mpr ⟨fun m => ?_, ih⟩
    obtain ⟨s, hs, q⟩ := List.mem_map.mp m
    obtain ⟨_, t', h2, h3⟩ := k.mem hb s hs
    have q' : s.b = r.b := q
    rw [q', hb _ _ h] at h2
    have := (Back.step h e k).det h2
    rw [← this, List.length_cons] at h3
    omega
theorem Back.turn (hb : ∀ x r, came c x = some r → r.b = x) {y x : Nat} {t : List Arc} (h : Back c y x t) : t.map (·.b) ++ [y] = x :: t.map (·.a) := by
  induction h with
  | last h e => rw [List.map_singleton, List.map_singleton, hb _ _ h, e]; rfl
  | step h e k ih => rw [List.map_cons, List.cons_append, ih, hb _ _ h, List.map_cons]
end
/-! ### the arcs of a net -/
section
variable {B k : Int} {L : Nat} {S : List Span}
theorem mem_arcs {r : Arc} : r ∈ arcsOf B k L S ↔ r.p.1 < S.length ∧ r = ⟨r.p, src S r.p, dst S r.p, wt B k L S r.p⟩ := by
  unfold arcsOf
  rw [List.mem_flatMap]
  constructor
  · rintro ⟨⟨s, i⟩, hq, h⟩
    have hz := List.mem_zipIdx' hq
    have hs : spanAt S i = s := by
      unfold spanAt
      rw [List.getD_eq_getElem?_getD, List.getElem?_eq_getElem hz.1]
      exact hz.2.symm
    simp only [arcs1, List.mem_cons, List.not_mem_nil, or_false] at h
    rcases h with rfl | rfl
    · refine ⟨hz.1, ?_⟩
      simp [src, dst, wt, hs]
    · refine ⟨hz.1, ?_⟩
      simp [src, dst, wt, hs]
  · rintro ⟨h1, h2⟩
    refine ⟨(spanAt S r.p.1, r.p.1), List.mem_zipIdx_iff_getElem?.mpr ?_, ?_⟩
    · show S[r.p.1]? = some (spanAt S r.p.1)
      unfold spanAt
      rw [List.getD_eq_getElem?_getD, List.getElem?_eq_getElem h1]
      rfl
    · rw [h2]
      obtain ⟨⟨i, b⟩, _, _, _⟩ := r
      cases b <;> simp [arcs1, src, dst, wt]
theorem arc_in {p : Nat × Bool} (h : p.1 < S.length) : (⟨p, src S p, dst S p, wt B k L S p⟩ : Arc) ∈ arcsOf B k L S := mem_arcs.mpr ⟨h, rfl⟩
theorem arcs_ok {n : Nat} (hv : Val B n S) : ArcOk (arcsOf B k L S) n := fun r hr => by
  obtain ⟨h1, h2⟩ := mem_arcs.mp hr
  rw [h2]
  refine ⟨src_lt hv h1, dst_lt hv h1, ?_⟩
  have := sp_lt hv h1
  show src S r.p ≠ dst S r.p
  unfold src dst
  cases r.p.2 <;> simp <;> omega
theorem Back.walk {c : List (Option Arc)} (hc : ∀ x r, came c x = some r → r ∈ arcsOf B k L S ∧ r.b = x) {y x : Nat} {t : List Arc} (h : Back c y x t) : IsWalk S y (wayB t) x := by
  have one : ∀ {x : Nat} {r : Arc}, came c x = some r → IsWalk S r.a [r.p] x := fun {x r} hr => by
    obtain ⟨h1, h2⟩ := hc _ _ hr
    obtain ⟨h3, h4⟩ := mem_arcs.mp h1
    have := walk_one (S := S) (p := r.p) h3
    have ea : r.a = src S r.p := congrArg Arc.a h4
    have eb : r.b = dst S r.p := congrArg Arc.b h4
    rw [← ea, ← eb, h2] at this
    exact this
  induction h with
  | last h e => rw [← e]; exact one h
  | step h e k ih =>
    unfold wayB at ih ⊢
    rw [List.map_cons, List.reverse_cons]
    exact walk_append ih (one h)
theorem wayB_dst {t : List Arc} (h : ∀ r ∈ t, r ∈ arcsOf B k L S) : (wayB t).map (dst S) = (t.map (·.b)).reverse := by
  unfold wayB
  rw [List.map_reverse, List.map_map]
  congr 1
  refine List.map_congr_left fun r hr => ?_
  exact (congrArg Arc.b (mem_arcs.mp (h r hr)).2).symm
theorem wayB_wt {t : List Arc} (h : ∀ r ∈ t, r ∈ arcsOf B k L S) : wtW B k L S (wayB t) = (t.map (·.w)).sum := by
  unfold wtW wayB
  rw [List.map_reverse, List.map_map, sum_perm (List.reverse_perm _)]
  congr 1
  refine List.map_congr_left fun r hr => ?_
  exact (congrArg Arc.w (mem_arcs.mp (h r hr)).2).symm
/-- the rounds end, or show a ring of weight over 0 -/
theorem rounds {n : Nat} (hv : Val B n S) : LpOk (arcsOf B k L S) n ∨ ∃ t y, LpBad (arcsOf B k L S) n t ∧ IsWalk S y (wayB t) y ∧ wayB t ≠ [] ∧ ((wayB t).map (dst S)).Nodup ∧ 0 < wtW B k L S (wayB t) := by
  by_cases ok : LpOk (arcsOf B k L S) n
  · exact .inl ok
  · right
    have hA := arcs_ok (k := k) (L := L) hv
    have ne : ∀ i, i < n + 1 → (lrun (arcsOf B k L S) (ls0 n) (i + 1)).e ≠ none := fun i hi e => ok ⟨i, hi, e⟩
    obtain ⟨x, hx⟩ := Option.ne_none_iff_exists'.mp (ne n (Nat.lt_succ_self _))
    obtain ⟨g, hg⟩ := Gh.run hA (n + 1)
    have iv := Inv.run hA (n + 1)
    have hgx := hg.e x hx
    obtain ⟨y0, hy0⟩ := hg.back (n + 1) x (by omega)
    have hc : ∀ x r, came (lrun (arcsOf B k L S) (ls0 n) (n + 1)).c x = some r → r ∈ arcsOf B k L S ∧ r.b = x := fun x r h => ⟨(iv.le x r h).1, (iv.le x r h).2.1⟩
    have hb : ∀ x r, came (lrun (arcsOf B k L S) (ls0 n) (n + 1)).c x = some r → r.b = x := fun x r h => (hc x r h).2
    obtain ⟨y, d, h1, h2, h3⟩ := hy0.round fun x r h => by
      obtain ⟨q1, q2⟩ := hc x r h
      rw [← q2]
      exact (hA r q1).2.1
    obtain ⟨t, h4, h5⟩ := Back.of h3
    have ht : ∀ r ∈ t, r ∈ arcsOf B k L S := fun r hr => (hc _ _ (h4.mem hb r hr).1).1
    refine ⟨t, y, ⟨ne, ⟨x, y, hx, h1, h4⟩, by have := hv.nm; omega⟩, h4.walk hc, ?_, ?_, ?_⟩
    · intro e
      unfold wayB at e
      have : t = [] := by simpa using e
      exact h4.ne this
    · rw [wayB_dst ht]
      exact (List.reverse_perm _).nodup_iff.mpr (h4.nodup hb)
    · rw [wayB_wt ht]
      have := iv.pos (t.map (·.b)) (fun x => (came (lrun (arcsOf B k L S) (ls0 n) (n + 1)).c x).getD ⟨(0, true), 0, 0, 0⟩) (by simpa using h4.ne) (h4.nodup hb) (fun x hx => by
        obtain ⟨r, hr, rfl⟩ := List.mem_map.mp hx
        rw [(h4.mem hb r hr).1]
        rfl) ?_
      · rw [List.map_map] at this
        have e : t.map ((fun x => ((came (lrun (arcsOf B k L S) (ls0 n) (n + 1)).c x).getD ⟨(0, true), 0, 0, 0⟩).w) ∘ fun r => r.b) = t.map (·.w) := List.map_congr_left fun r hr => by
          show ((came (lrun (arcsOf B k L S) (ls0 n) (n + 1)).c r.b).getD ⟨(0, true), 0, 0, 0⟩).w = r.w
          rw [(h4.mem hb r hr).1]
          rfl
        rw [e] at this
        exact this
      · rw [List.map_map]
        have e : t.map ((fun x => ((came (lrun (arcsOf B k L S) (ls0 n) (n + 1)).c x).getD ⟨(0, true), 0, 0, 0⟩).a) ∘ fun r => r.b) = t.map (·.a) := List.map_congr_left fun r hr => by
          show ((came (lrun (arcsOf B k L S) (ls0 n) (n + 1)).c r.b).getD ⟨(0, true), 0, 0, 0⟩).a = r.a
          rw [(h4.mem hb r hr).1]
          rfl
        rw [e]
        have q := h4.turn hb
        have p1 : (t.map (·.b) ++ [y]).Perm (y :: t.map (·.b)) := List.perm_append_comm
        rw [q] at p1
        exact p1.cons_inv
end
end Z
end
section
/-! M9: the longest ways; the plain law. -/
namespace Z
theorem gstep_n {f : Nat → Option Int} {r : Arc} (h : f r.a = none) : gstep f r = f := by
  unfold gstep
  rw [h]
theorem gstep_sn {f : Nat → Option Int} {r : Arc} {x : Int} (h : f r.a = some x) (h' : f r.b = none) (y : Nat) : gstep f r y = if y = r.b then some (x + r.w) else f y := by
  unfold gstep
  rw [h, h']
theorem gstep_ss {f : Nat → Option Int} {r : Arc} {x z : Int} (h : f r.a = some x) (h' : f r.b = some z) (y : Nat) : gstep f r y = if z < x + r.w then (if y = r.b then some (x + r.w) else f y) else f y := by
  unfold gstep
  rw [h, h']
  dsimp only
  split <;> rfl
theorem gstep_val {f : Nat → Option Int} {r : Arc} {y : Nat} {v : Int} (h : gstep f r y = some v) : f y = some v ∨ (y = r.b ∧ ∃ u, f r.a = some u ∧ v = u + r.w) := by
  cases ha : f r.a with
  | none => rw [gstep_n ha] at h; exact .inl h
  | some x =>
    have k : (if y = r.b then some (x + r.w) else f y) = some v → f y = some v ∨ (y = r.b ∧ ∃ u, some x = some u ∧ v = u + r.w) := fun h => by
      by_cases e : y = r.b
      · rw [if_pos e] at h
        exact .inr ⟨e, x, rfl, (Option.some.inj h).symm⟩
      · rw [if_neg e] at h
        exact .inl h
    cases hb : f r.b with
    | none => rw [gstep_sn ha hb] at h; exact k h
    | some z =>
      rw [gstep_ss ha hb] at h
      split at h
      · exact k h
      · exact .inl h
theorem gstep_mono {f : Nat → Option Int} {r : Arc} {y : Nat} {v : Int} (h : f y = some v) : ∃ v', gstep f r y = some v' ∧ v ≤ v' := by
  cases ha : f r.a with
  | none => rw [gstep_n ha]; exact ⟨v, h, Int.le_refl _⟩
  | some x =>
    cases hb : f r.b with
    | none =>
      rw [gstep_sn ha hb]
      by_cases e : y = r.b
      · rw [e, hb] at h
        cases h
      · exact ⟨v, by rw [if_neg e]; exact h, Int.le_refl _⟩
    | some z =>
      rw [gstep_ss ha hb]
      split
      · by_cases e : y = r.b
        · refine ⟨_, if_pos e, ?_⟩
          rw [e, hb] at h
          cases h
          omega
        · exact ⟨v, by rw [if_neg e]; exact h, Int.le_refl _⟩
      · exact ⟨v, h, Int.le_refl _⟩
theorem gstep_does {f : Nat → Option Int} {r : Arc} {u : Int} (h : f r.a = some u) : ∃ v, gstep f r r.b = some v ∧ u + r.w ≤ v := by
  cases hb : f r.b with
  | none => rw [gstep_sn h hb]; exact ⟨_, if_pos rfl, Int.le_refl _⟩
  | some z =>
    rw [gstep_ss h hb]
    split
    · exact ⟨_, if_pos rfl, Int.le_refl _⟩
    · exact ⟨z, hb, by omega⟩
theorem gfold_mono : ∀ {A : List Arc} {f : Nat → Option Int} {y : Nat} {v : Int}, f y = some v → ∃ v', A.foldl gstep f y = some v' ∧ v ≤ v'
  | [], f, y, v, h => ⟨v, h, Int.le_refl _⟩
  | r :: A, f, y, v, h => by
    obtain ⟨v1, h1, l1⟩ := gstep_mono (r := r) h
    obtain ⟨v2, h2, l2⟩ := gfold_mono (A := A) h1
    exact ⟨v2, h2, by omega⟩
theorem gfold_does : ∀ {A : List Arc} {f : Nat → Option Int} {r : Arc} {u : Int}, r ∈ A → f r.a = some u → ∃ v, A.foldl gstep f r.b = some v ∧ u + r.w ≤ v
  | s :: A, f, r, u, hr, h => by
    rw [List.foldl_cons]
    rcases List.mem_cons.mp hr with rfl | hr
    · obtain ⟨v1, h1, l1⟩ := gstep_does h
      obtain ⟨v2, h2, l2⟩ := gfold_mono (A := A) h1
      exact ⟨v2, h2, by omega⟩
    · obtain ⟨v1, h1, l1⟩ := gstep_mono (r := s) h
      obtain ⟨v2, h2, l2⟩ := gfold_does hr h1
      exact ⟨v2, h2, by omega⟩
/-- an arc for each pair -/
def Has (A : List Arc) (S : List Span) (ω : Nat × Bool → Int) : Prop := ∀ p : Nat × Bool, p.1 < S.length → ∃ r ∈ A, r.a = src S p ∧ r.b = dst S p ∧ r.w = ω p
theorem gval {A : List Arc} {S : List Span} {ω : Nat × Bool → Int} (hω : Has A S ω) {x : Nat} : ∀ {m : Nat} {w : Way} {y : Nat}, IsWalk S x w y → w.length ≤ m → ∃ v, grun A (g0 x) m y = some v ∧ (w.map ω).sum ≤ v
  | 0, w, y, h, hl => by
    have : w = [] := List.length_eq_zero_iff.mp (by omega)
    subst this
    have := walk_nil h
    subst this
    exact ⟨0, if_pos rfl, Int.le_refl _⟩
  | m + 1, w, y, h, hl => by
    rcases List.eq_nil_or_concat w with rfl | ⟨w', p, rfl⟩
    · obtain ⟨v, h1, h2⟩ := gval hω (m := m) h (by simp)
      obtain ⟨v', h3, h4⟩ := gfold_mono (A := A) h1
      exact ⟨v', h3, by omega⟩
    · rw [List.concat_eq_append] at h hl ⊢
      obtain ⟨z, h1, h2⟩ := walk_app_inv h
      obtain ⟨e, hp, h3⟩ := walk_inv h2
      have := walk_nil h3
      subst e
      obtain ⟨u, h4, h5⟩ := gval hω (m := m) h1 (by rw [List.length_append, List.length_singleton] at hl; omega)
      obtain ⟨r, hr, ra, rb, rw'⟩ := hω p hp
      rw [← ra] at h4
      obtain ⟨v, h6, h7⟩ := gfold_does hr h4
      rw [rb, this] at h6
      refine ⟨v, h6, ?_⟩
      rw [List.map_append, List.sum_append, List.map_singleton, ← rw']
      simp only [List.sum_cons, List.sum_nil]
      omega
section
variable {B k : Int} {L : Nat} {S : List Span}
theorem has_arcs (B k : Int) (L : Nat) (S : List Span) : Has (arcsOf B k L S) S (wt B k L S) := fun p hp => ⟨_, arc_in hp, rfl, rfl, rfl⟩
theorem has_turn (B k : Int) (L : Nat) (S : List Span) : Has ((arcsOf B k L S).map turnArc) S (fun p => wt B k L S (p.1, !p.2)) := fun p hp =>
  ⟨_, List.mem_map.mpr ⟨_, arc_in (p := (p.1, !p.2)) hp, rfl⟩, (src_flip S p).2, (src_flip S p).1, rfl⟩
/-- every place was walked to -/
theorem gwalk {x : Nat} : ∀ {m : Nat} {y : Nat} {v : Int}, grun (arcsOf B k L S) (g0 x) m y = some v → ∃ w, IsWalk S x w y ∧ wtW B k L S w = v := by
  have fold : ∀ {P : List Arc} {f : Nat → Option Int}, (∀ r ∈ P, r ∈ arcsOf B k L S) → (∀ y v, f y = some v → ∃ w, IsWalk S x w y ∧ wtW B k L S w = v) → ∀ y v, P.foldl gstep f y = some v → ∃ w, IsWalk S x w y ∧ wtW B k L S w = v := by
    intro P
    induction P with
    | nil => intro f _ h; exact h
    | cons r P ih =>
      intro f hP h
      refine ih (fun q hq => hP q (List.mem_cons_of_mem _ hq)) fun y v hy => ?_
      rcases gstep_val hy with q | ⟨rfl, u, q, rfl⟩
      · exact h y v q
      · obtain ⟨w, h1, h2⟩ := h _ _ q
        obtain ⟨h3, h4⟩ := mem_arcs.mp (hP r List.mem_cons_self)
        have ea : r.a = src S r.p := congrArg Arc.a h4
        have eb : r.b = dst S r.p := congrArg Arc.b h4
        have ew : r.w = wt B k L S r.p := congrArg Arc.w h4
        rw [ea] at h1
        refine ⟨w ++ [r.p], ?_, ?_⟩
        · rw [eb]
          exact walk_append h1 (walk_one h3)
        · rw [wtW_append, h2, ew]
          unfold wtW
          simp
  intro m
  induction m with
  | zero =>
    intro y v h
    have h' : (if y = x then some (0 : Int) else none) = some v := h
    split at h'
    · rename_i e
      cases h'
      subst e
      exact ⟨[], .nil _, rfl⟩
    · cases h'
  | succ m ih => intro y v h; exact fold (fun r hr => hr) (fun y v => ih) y v h
theorem pot_walk {φ : Nat → Int} (hφ : ∀ r ∈ arcsOf B k L S, φ r.a + r.w ≤ φ r.b) {x y : Nat} {w : Way} (h : IsWalk S x w y) : wtW B k L S w ≤ φ y - φ x := by
  induction h with
  | nil x => rw [Int.sub_self]; exact Int.le_refl _
  | @cons p w y hp t ih =>
    have := hφ _ (arc_in hp)
    rw [wtW_cons]
    dsimp only at this
    omega
/-- a simple way is as good -/
theorem simple_way {φ : Nat → Int} (hφ : ∀ r ∈ arcsOf B k L S, φ r.a + r.w ≤ φ r.b) {x : Nat} : ∀ {m : Nat} {w : Way} {y : Nat}, w.length = m → IsWalk S x w y → ∃ v, IsWalk S x v y ∧ (nodesW S x v).Nodup ∧ wtW B k L S w ≤ wtW B k L S v
  | 0, w, y, hl, h => by
    have : w = [] := List.length_eq_zero_iff.mp hl
    subst this
    exact ⟨[], h, by simp [nodesW], Int.le_refl _⟩
  | m + 1, w, y, hl, h => by
    rcases List.eq_nil_or_concat w with rfl | ⟨w', p, rfl⟩
    · cases hl
    · rw [List.concat_eq_append] at h hl ⊢
      obtain ⟨z, h1, h2⟩ := walk_app_inv h
      obtain ⟨e, hp, h3⟩ := walk_inv h2
      have := walk_nil h3
      subst e this
      obtain ⟨v, h4, h5, h6⟩ := simple_way hφ (m := m) (by rw [List.length_append, List.length_singleton] at hl; omega) h1
      have hw : ∀ u : Way, wtW B k L S (u ++ [p]) = wtW B k L S u + wt B k L S p := fun u => by rw [wtW_append]; unfold wtW; simp
      by_cases e : dst S p ∈ nodesW S x v
      · obtain ⟨u, t, rfl, h7, h8⟩ := walk_split h4 e
        refine ⟨u, h7, ?_, ?_⟩
        · rw [nodesW_append] at h5
          exact (List.nodup_append.mp h5).1
        · have := pot_walk hφ (walk_append h8 (walk_one hp))
          rw [hw] at this ⊢
          rw [wtW_append] at h6
          omega
      · refine ⟨v ++ [p], walk_append h4 (walk_one hp), ?_, ?_⟩
        · rw [nodesW_append]
          refine List.nodup_append.mpr ⟨h5, by simp, fun a ha b hb => ?_⟩
          rw [List.map_singleton, List.mem_singleton] at hb
          subst hb
          exact fun q => e (q ▸ ha)
        · rw [hw, hw]
          omega
end
/-! ### the pieces -/
def mkOf (n : Nat) (S : List Span) (e : Nat) : Nat := (marks n S).1.getD e 0
theorem mkOf_eq (n : Nat) (S : List Span) (e : Nat) : mkOf n S e = mka n S S.length e := by
  unfold mkOf mka
  rw [mk_all]
theorem mem_piece {n : Nat} {S : List Span} {m e : Nat} : e ∈ pieceOf n S m ↔ e < n ∧ mkOf n S e = m := by
  unfold pieceOf mkOf
  rw [List.mem_filter, List.mem_range, decide_eq_true_eq]
section
variable {B : Int} {n : Nat} {S : List Span}
theorem mkOf_pair (hv : Val B n S) {p : Nat × Bool} (h : p.1 < S.length) : mkOf n S (dst S p) = mkOf n S (src S p) := by
  have := mka_joined hv h (Nat.le_refl S.length)
  rw [mkOf_eq, mkOf_eq]
  unfold dst src
  cases p.2
  · exact this
  · exact this.symm
theorem mkOf_walk (hv : Val B n S) {x y : Nat} {w : Way} (h : IsWalk S x w y) : ∀ z ∈ nodesW S x w, mkOf n S z = mkOf n S x := by
  induction h with
  | nil x =>
    intro z hz
    have : z = x := by simpa [nodesW] using hz
    rw [this]
  | @cons p w y hp t ih =>
    intro z hz
    rcases List.mem_cons.mp hz with rfl | hz
    · rfl
    · rw [ih z hz, mkOf_pair hv hp]
theorem head_in {Q : List Nat} {e : Nat} (h : e ∈ Q) : Q.headD 0 ∈ Q := by
  cases Q with
  | nil => cases h
  | cons x Q => exact List.mem_cons_self
/-- a simple way stays in its piece -/
theorem simple_len (hv : Val B n S) {m x y : Nat} {w : Way} (hx : x ∈ pieceOf n S m) (h : IsWalk S x w y) (nd : (nodesW S x w).Nodup) : w.length + 1 ≤ (pieceOf n S m).length := by
  obtain ⟨h1, h2⟩ := mem_piece.mp hx
  have := nodup_sub nd fun z hz => mem_piece.mpr ⟨nodes_lt hv h h1 z hz, (mkOf_walk hv h z hz).trans h2⟩
  unfold nodesW at this
  rwa [List.length_cons, List.length_map] at this
def longD (A : List Arc) (n : Nat) (S : List Span) (e : Nat) : Int := (grun A (g0 ((pieceOf n S (mkOf n S e)).headD 0)) (pieceOf n S (mkOf n S e)).length e).getD 0
theorem long_some (hv : Val B n S) {A : List Arc} {ω : Nat × Bool → Int} (hω : Has A S ω) {m e : Nat} (he : e ∈ pieceOf n S m) : grun A (g0 ((pieceOf n S m).headD 0)) (pieceOf n S m).length e = some (longD A n S e) := by
  obtain ⟨e1, e2⟩ := mem_piece.mp he
  have hb := head_in he
  obtain ⟨b1, b2⟩ := mem_piece.mp hb
  obtain ⟨w, hw⟩ := KP.exists hv b1 e1 (by rw [← mkOf_eq, ← mkOf_eq, b2, e2])
  have sl := simple_len hv hb hw.walk hw.nd
  obtain ⟨v, h1, _⟩ := gval hω hw.walk (show w.length ≤ (pieceOf n S m).length by omega)
  unfold longD
  rw [e2, h1]
  rfl
theorem longs (hv : Val B n S) {A : List Arc} {ω : Nat × Bool → Int} (hω : Has A S ω) : Longs A n S (longD A n S) := ⟨fun Q hQ e he => by
  unfold piecesOf at hQ
  obtain ⟨m, _, rfl⟩ := List.mem_map.mp hQ
  exact long_some hv hω he⟩
variable {k : Int} {L : Nat}
theorem long_step (hv : Val B n S) {φ : Nat → Int} (hφ : ∀ r ∈ arcsOf B k L S, φ r.a + r.w ≤ φ r.b) {p : Nat × Bool} (hp : p.1 < S.length) : longD (arcsOf B k L S) n S (src S p) + wt B k L S p ≤ longD (arcsOf B k L S) n S (dst S p) := by
  have hs : src S p ∈ pieceOf n S (mkOf n S (src S p)) := mem_piece.mpr ⟨src_lt hv hp, rfl⟩
  have hd : dst S p ∈ pieceOf n S (mkOf n S (src S p)) := mem_piece.mpr ⟨dst_lt hv hp, mkOf_pair hv hp⟩
  have s1 := long_some hv (has_arcs B k L S) hs
  have s2 := long_some hv (has_arcs B k L S) hd
  obtain ⟨w, w1, w2⟩ := gwalk s1
  obtain ⟨v, v1, v2, v3⟩ := simple_way hφ rfl w1
  have vl := simple_len hv (head_in hs) v1 v2
  obtain ⟨u, u1, u2⟩ := gval (has_arcs B k L S) (m := (pieceOf n S (mkOf n S (src S p))).length) (walk_append v1 (walk_one hp)) (by rw [List.length_append, List.length_singleton]; exact vl)
  rw [s2] at u1
  cases u1
  have : ((v ++ [p]).map (wt B k L S)).sum = wtW B k L S v + wt B k L S p := by
    rw [List.map_append, List.sum_append]
    unfold wtW
    simp
  omega
theorem fix1_ge {v : Nat} : ∀ {l : List Nat} {m : Nat}, m < fix1 v l → l.getD m 0 ≠ v ∨ l.length ≤ m
  | [], m, h => by unfold fix1 at h; omega
  | x :: l, m, h => by
    unfold fix1 at h
    split at h
    · omega
    · rename_i e
      cases m with
      | zero => exact .inl e
      | succ m =>
        have h' : m < fix1 v l := by omega
        rcases fix1_ge h' with q | q
        · exact .inl (by simpa using q)
        · exact .inr (by rw [List.length_cons]; omega)
theorem piece_head {e : Nat} (he : e < n) (h : fix1 (mkOf n S e) (marks n S).1 = e) : (pieceOf n S (mkOf n S e)).headD 0 = e := by
  have hm : e ∈ pieceOf n S (mkOf n S e) := mem_piece.mpr ⟨he, rfl⟩
  have h1 : (pieceOf n S (mkOf n S e)).head? = some e := by
    unfold pieceOf
    rw [List.head?_filter, List.find?_range_eq_some]
    refine ⟨decide_eq_true rfl, List.mem_range.mpr he, fun j hj => ?_⟩
    have := fix1_ge (v := mkOf n S e) (l := (marks n S).1) (m := j) (by omega)
    rw [marks_len] at this
    have q := this.resolve_right (by omega)
    simpa using q
  cases hQ : pieceOf n S (mkOf n S e) with
  | nil => rw [hQ] at hm; cases hm
  | cons x Q => rw [hQ] at h1; simpa using h1
theorem long_head (hv : Val B n S) {φ : Nat → Int} (hφ : ∀ r ∈ arcsOf B k L S, φ r.a + r.w ≤ φ r.b) {e : Nat} (he : e < n) (h : fix1 (mkOf n S e) (marks n S).1 = e) : longD (arcsOf B k L S) n S e = 0 := by
  have hm : e ∈ pieceOf n S (mkOf n S e) := mem_piece.mpr ⟨he, rfl⟩
  have s := long_some hv (has_arcs B k L S) hm
  rw [piece_head he h] at s
  obtain ⟨v, v1, v2⟩ := gval (has_arcs B k L S) (m := (pieceOf n S (mkOf n S e)).length) (IsWalk.nil (S := S) e) (by simp)
  rw [s] at v1
  cases v1
  obtain ⟨w, w1, w2⟩ := gwalk s
  have := pot_walk hφ w1
  have v2' : (0 : Int) ≤ longD (arcsOf B k L S) n S e := v2
  omega
/-- what the moments give -/
theorem len_is (hv : Val B n S) {φ : Nat → Int} (hφ : ∀ r ∈ arcsOf B k L S, φ r.a + r.w ≤ φ r.b) {i : Nat} (hi : i < S.length) :
    lenS B ((List.range n).map fun e => longD (arcsOf B k L S) n S e % B) (spanAt S i) = longD (arcsOf B k L S) n S (spanAt S i).b - longD (arcsOf B k L S) n S (spanAt S i).a + (if i = L then k else 0) * B ∧
    lenS B ((List.range n).map fun e => longD (arcsOf B k L S) n S e % B) (spanAt S i) ≤ (spanAt S i).hi := by
  have hs := sp_lt hv hi
  have b3 := hv.b3
  have h1 := long_step hv hφ (p := (i, true)) hi
  have h2 := long_step hv hφ (p := (i, false)) hi
  have e1 : src S (i, true) = (spanAt S i).a := rfl
  have e2 : dst S (i, true) = (spanAt S i).b := rfl
  have e3 : src S (i, false) = (spanAt S i).b := rfl
  have e4 : dst S (i, false) = (spanAt S i).a := rfl
  have e5 : wt B k L S (i, true) = (spanAt S i).lo - (if i = L then k else 0) * B := rfl
  have e6 : wt B k L S (i, false) = (if i = L then k else 0) * B - (spanAt S i).hi := rfl
  rw [e1, e2, e5] at h1
  rw [e3, e4, e6] at h2
  have at' : ∀ {x : Nat}, x < n → ((List.range n).map fun e => longD (arcsOf B k L S) n S e % B).getD x 0 = longD (arcsOf B k L S) n S x % B := fun {x} hx => by
    rw [List.getD_eq_getElem?_getD, List.getElem?_map, List.getElem?_range hx]
    rfl
  have key : lenS B ((List.range n).map fun e => longD (arcsOf B k L S) n S e % B) (spanAt S i) = longD (arcsOf B k L S) n S (spanAt S i).b - longD (arcsOf B k L S) n S (spanAt S i).a + (if i = L then k else 0) * B := by
    unfold lenS
    rw [at' hs.1, at' hs.2.1]
    generalize longD (arcsOf B k L S) n S (spanAt S i).b = y at *
    generalize longD (arcsOf B k L S) n S (spanAt S i).a = x at *
    generalize (if i = L then k else 0) = t at *
    have m1 : (y % B - x % B - (spanAt S i).lo) % B = (y - x - (spanAt S i).lo) % B := by
      have z1 := Int.emod_add_mul_ediv y B
      have z2 := Int.emod_add_mul_ediv x B
      rw [show y % B - x % B - (spanAt S i).lo = (y - x - (spanAt S i).lo) + B * (x / B - y / B) by rw [Int.mul_sub]; omega, Int.add_mul_emod_self_left]
    have m2 : (y - x - (spanAt S i).lo) % B = (y - x + t * B - (spanAt S i).lo) % B := by
      rw [show y - x + t * B - (spanAt S i).lo = y - x - (spanAt S i).lo + t * B by omega, Int.add_mul_emod_self_right]
    rw [m1, m2, Int.emod_eq_of_lt (by omega) (by omega)]
    omega
  refine ⟨key, ?_⟩
  rw [key]
  omega
theorem at_map {f : Span → Int} {i : Nat} (hi : i < S.length) : (S.map f).getD i 0 = f (spanAt S i) := by
  unfold spanAt
  rw [List.getD_eq_getElem?_getD, List.getD_eq_getElem?_getD, List.getElem?_map, List.getElem?_eq_getElem hi]
  rfl
theorem len_sum (hv : Val B n S) {φ : Nat → Int} (hφ : ∀ r ∈ arcsOf B k L S, φ r.a + r.w ≤ φ r.b) {x y : Nat} {w : Way} (h : IsWalk S x w y) :
    sumW (fun i => (S.map (lenS B ((List.range n).map fun e => longD (arcsOf B k L S) n S e % B))).getD i 0) w = longD (arcsOf B k L S) n S y - longD (arcsOf B k L S) n S x + cntW L w * (k * B) := by
  induction h with
  | nil x => rw [cntW_nil, Int.zero_mul, Int.sub_self]; rfl
  | @cons p w y hp t ih =>
    rw [sumW_cons, ih, cntW_cons, at_map hp, (len_is hv hφ hp).1, Int.add_mul]
    unfold src dst sgn
    by_cases e : p.1 = L
    · rw [if_pos e, if_pos e]
      cases p.2 <;> simp <;> omega
    · rw [if_neg e, if_neg e]
      cases p.2 <;> simp <;> omega
end
theorem mem_runOf {lo hi k : Int} : k ∈ runOf lo hi ↔ lo ≤ k ∧ k ≤ hi := by
  unfold runOf
  rw [List.mem_map]
  constructor
  · rintro ⟨i, hi', rfl⟩
    have := List.mem_range.mp hi'
    omega
  · rintro ⟨h1, h2⟩
    exact ⟨(k - lo).toNat, List.mem_range.mpr (by omega), by omega⟩
section
variable {B : Int} {n : Nat} {S : List Span} {l : Nat}
theorem rounds_ok (hv : Val B n S) (he : loose n S = [l]) {k : Int} (h1 : loW S (ringOf n S l) ≤ k * B) (h2 : k * B ≤ hiW S (ringOf n S l)) : LpOk (arcsOf B k l S) n := by
  rcases rounds (B := B) (k := k) (L := l) hv with h | ⟨t, y, _, hw, hne, nd, hp⟩
  · exact h
  · exfalso
    obtain ⟨_, _, _, q⟩ := pos_ring hv he hw hne nd hp
    rw [wtW_eq] at hp
    rcases q with ⟨q1, q2⟩ | ⟨q1, q2⟩ <;> rw [q1, q2] at hp <;> omega
theorem bar_ok (hv : Val B n S) (he : loose n S = [l]) {k : Int} (h : k * B < loW S (ringOf n S l) ∨ hiW S (ringOf n S l) < k * B) : BarK B n S l (ringOf n S l) k := by
  obtain ⟨r1, r2, r3, r4, r5⟩ := ring_is hv he
  rcases rounds (B := B) (k := k) (L := l) hv with ok | ⟨t, y, hb, hw, hne, nd, hp⟩
  · exfalso
    obtain ⟨φ, hφ⟩ := ok.pot
    rcases h with h | h
    · have := pot_walk hφ r1
      rw [wtW_eq, r4] at this
      omega
    · have := pot_walk hφ (walk_back r1)
      rw [wtW_eq, cnt_back, r4, loW_back] at this
      omega
  · obtain ⟨q1, q2, q3, q4⟩ := pos_ring hv he hw hne nd hp
    rw [wtW_eq] at hp
    refine ⟨t, y, hb, hw, hne, q1, .inl ?_, .inl ?_, q2⟩
    · rw [Int.mul_assoc]; omega
    · rw [q3, Int.mul_comm k, Int.mul_assoc]; omega
theorem hold_ok (hv : Val B n S) (he : loose n S = [l]) {k : Int} (h1 : loW S (ringOf n S l) ≤ k * B) (h2 : k * B ≤ hiW S (ringOf n S l)) : ∃ d, HoldK B n S l (ringOf n S l) k d := by
  have ok := rounds_ok hv he h1 h2
  obtain ⟨φ, hφ⟩ := ok.pot
  obtain ⟨r1, r2, r3, r4, r5⟩ := ring_is hv he
  have b3 := hv.b3
  refine ⟨longD (arcsOf B k l S) n S, ok, ⟨_, longs hv (has_arcs B k l S), longs hv (has_turn B k l S)⟩, ⟨by simp, fun t ht => ?_, fun s hs => ?_⟩, fun e hn hf => ?_, ?_, ?_⟩
  · obtain ⟨e, _, rfl⟩ := List.mem_map.mp ht
    exact ⟨Int.emod_nonneg _ (by omega), Int.emod_lt_of_pos _ (by omega)⟩
  · obtain ⟨i, hi, rfl⟩ := List.mem_iff_getElem.mp hs
    have := (len_is hv hφ hi).2
    have e : spanAt S i = S[i] := by
      unfold spanAt
      rw [List.getD_eq_getElem?_getD, List.getElem?_eq_getElem hi]
      rfl
    rwa [e] at this
  · rw [List.getD_eq_getElem?_getD, List.getElem?_map, List.getElem?_range hn]
    show longD (arcsOf B k l S) n S e % B = 0
    rw [long_head hv hφ hn hf, Int.zero_emod]
  · rw [len_sum hv hφ r1, r4, Int.sub_self, Int.zero_add, Int.one_mul, Int.mul_ediv_cancel _ (by omega)]
  · rw [len_sum hv hφ (walk_back r1), cnt_back, r4, Int.sub_self, Int.zero_add, Int.neg_one_mul, ← Int.neg_mul, Int.mul_ediv_cancel _ (by omega)]
end
theorem plain : Plain := fun B size more S b3 bm s2 nm hN => by
  obtain ⟨o, L, p, hS, lab⟩ := hN
  have rn : RN B size (size + more) o L S := ⟨s2, by omega, p, hS, lab⟩
  have hv := rn.val b3 bm nm
  obtain ⟨l, he⟩ := rn.one hv
  obtain ⟨r1, r2, r3, r4, r5⟩ := ring_is hv he
  have bnd := loW_le (S := S) (w := ringOf (size + more) S l) fun p hp => by
    have := sp_lt hv (walk_lt r1 p hp)
    exact ⟨this.2.2.2.1, this.2.2.2.2.1, this.2.2.2.2.2.1⟩
  have hc : ∀ x : Int, x ≤ -(-x / B) * B ∧ (-(-x / B) - 1) * B < x := fun x => by
    have h1 := Int.emod_add_mul_ediv (-x) B
    have h2 := Int.emod_nonneg (-x) (show B ≠ 0 by omega)
    have h3 := Int.emod_lt_of_pos (-x) (show 0 < B by omega)
    have h4 : -(-x / B) * B = -(B * (-x / B)) := by rw [Int.neg_mul, Int.mul_comm]
    rw [Int.sub_mul, h4, Int.one_mul]
    omega
  have hf : ∀ x : Int, x / B * B ≤ x ∧ x < (x / B + 1) * B := fun x => by
    have h1 := Int.emod_add_mul_ediv x B
    have h2 := Int.emod_nonneg x (show B ≠ 0 by omega)
    have h3 := Int.emod_lt_of_pos x (show 0 < B by omega)
    rw [Int.add_mul, Int.mul_comm (x / B), Int.one_mul]
    omega
  have bp : 0 < B := by omega
  refine ⟨l, ringOf (size + more) S l, hv, by rw [hS]; exact lab.nd, he, rfl, by omega, ⟨_, r1⟩, ⟨_, walk_back r1⟩, by omega, by omega, fun k hk => ?_, bar_ok hv he (.inl (hc _).2), bar_ok hv he (.inr (hf _).2)⟩
  obtain ⟨k1, k2⟩ := mem_runOf.mp hk
  refine hold_ok hv he ?_ ?_
  · have := Int.mul_le_mul_of_nonneg_right k1 (show 0 ≤ B by omega)
    have := (hc (loW S (ringOf (size + more) S l))).1
    omega
  · have := Int.mul_le_mul_of_nonneg_right k2 (show 0 ≤ B by omega)
    have := (hf (hiW S (ringOf (size + more) S l))).1
    omega
end Z
end
section
/-! ZX: what the top leaves, def by def. -/
namespace Z
open PySem PySem.Spec PyProof.Rows L2
def BindP (x qual : Str) (st : Stmt) (ps : List Str) : Prop := ∀ (kV doc pm : Value) (an : Option Addr) (cdv ct : Value) (us : List Value), us.length = ps.length → bindArgs (PySem.W.fnOf x qual (defArgs st) (defBody st) (defScope st) .none kV doc pm an cdv ct) ⟨us, []⟩ = pure (ps.zip us)
section
variable {K : PySem.W.Frag} {h : Heap} {mg : Str → Option Value} {x qual : Str} {st : Stmt} {ps : List Str} {f C : Addr} {oc kV dc pm cd ct : Value} {od an : Option Addr} {sl : Array (Option Value)}
theorem def_mk (X : K.In h) (G : h.Ns mainGlobals mg) (a : PySem.W.nsIn K mainGlobals x = some (some (.ref f))) (l : K.lookup f = some ⟨oc, od, .func (PySem.W.fnOf x x (defArgs st) (defBody st) (defScope st) .none kV dc pm an cd ct), sl⟩) (c : PySem.W.codeIn K cd x = true) (k : PySem.W.keepIn K (.ref f) = true) (b : BindP x x st ps) : DefAt K mg x st ps :=
  ⟨f, _, fun_mk l c k, PySem.W.mg_of X G a, (fun_mk l c k).binds b⟩
theorem met_mk (a : PySem.W.findIn K (.ref C) x = some (some (.ref f))) (i : PySem.W.isFn K (.ref f) = true) (l : K.lookup f = some ⟨oc, od, .func (PySem.W.fnOf x qual (defArgs st) (defBody st) (defScope st) .none kV dc pm an cd ct), sl⟩) (c : PySem.W.codeIn K cd qual = true) (k : PySem.W.keepIn K (.ref f) = true) (b : BindP x qual st ps) :
    ∃ (f : Addr) (fd : FuncData), Fun K x qual st f fd ∧ Meth K C x f ∧ Binds K fd ps [] :=
  ⟨f, _, fun_mk l c k, ⟨a, i, k⟩, (fun_mk l c k).binds b⟩
theorem ini_mk (a : PySem.W.findIn K (.ref C) "__init__" = some (some (.ref f))) (i : PySem.W.isFn K (.ref f) = true) (l : K.lookup f = some ⟨oc, od, .func (PySem.W.fnOf "__init__" qual (defArgs st) (defBody st) (defScope st) .none kV dc pm an cd ct), sl⟩) (c : PySem.W.codeIn K cd qual = true) (k : PySem.W.keepIn K (.ref f) = true) (m : PySem.W.makesIn K C = true) (kc : PySem.W.keepIn K (.ref C) = true) (b : BindP "__init__" qual st ps) :
    ∃ (f : Addr) (fd : FuncData), Fun K "__init__" qual st f fd ∧ Mk K C f ∧ Binds K fd ps [] :=
  ⟨f, _, fun_mk l c k, ⟨m, a, i, kc⟩, (fun_mk l c k).binds b⟩
theorem kit_mk {n : Str} {z : _} (c : PySem.W.clsIn K C = some z) (t : PySem.W.typeIn K (.ref C) = some (.type "type")) (s : PySem.W.subIn K (.type "int") (.ref C) = some false) : PySem.W.kitOne K (.type "int") (.ref C) = some false := by
  show (if ((.type "int" : Value) == .ref C) = true then some true else if ((PySem.W.clsIn K C).isSome && PySem.W.typeIn K (.ref C) == some (.type "type")) = true then PySem.W.subIn K (.type "int") (.ref C) else none) = some false
  rw [show ((.type "int" : Value) == .ref C) = false from rfl, if_neg Bool.false_ne_true, c, t]
  exact (if_pos (by rw [beq_self_eq_true]; rfl)).trans s
theorem con_mk {i : Int} {tk : Tok} (X : K.In h) (G : h.Ns mainGlobals mg) (a : PySem.W.nsIn K mainGlobals x = some (some (.int i tk))) : ∃ u, mg x = some u ∧ RelV (.int i) u := ⟨_, PySem.W.mg_of X G a, tk, rfl⟩
end
theorem b_is_integer : BindP "is_integer" "is_integer" s_is_integer ["thing"] := fun _ _ _ _ _ _ us hl => match us, hl with | [_], _ => rfl
theorem b_common : BindP "common" "common" s_common ["one", "other"] := fun _ _ _ _ _ _ us hl => match us, hl with | [_, _], _ => rfl
theorem b_is_number : BindP "is_number" "is_number" s_is_number ["thing"] := fun _ _ _ _ _ _ us hl => match us, hl with | [_], _ => rfl
theorem b_as_ratio : BindP "as_ratio" "as_ratio" s_as_ratio ["number"] := fun _ _ _ _ _ _ us hl => match us, hl with | [_], _ => rfl
theorem b_rest_by : BindP "rest_by" "rest_by" s_rest_by ["number", "beat"] := fun _ _ _ _ _ _ us hl => match us, hl with | [_, _], _ => rfl
theorem b_is_below : BindP "is_below" "is_below" s_is_below ["one", "other"] := fun _ _ _ _ _ _ us hl => match us, hl with | [_, _], _ => rfl
theorem b_is_span : BindP "is_span" "is_span" s_is_span ["thing", "beat", "events"] := fun _ _ _ _ _ _ us hl => match us, hl with | [_, _, _], _ => rfl
theorem b_marks_of : BindP "marks_of" "marks_of" s_marks_of ["net"] := fun _ _ _ _ _ _ us hl => match us, hl with | [_], _ => rfl
theorem b_pieces : BindP "pieces" "pieces" s_pieces ["net"] := fun _ _ _ _ _ _ us hl => match us, hl with | [_], _ => rfl
theorem b_ends_of : BindP "ends_of" "ends_of" s_ends_of ["net", "pair"] := fun _ _ _ _ _ _ us hl => match us, hl with | [_, _], _ => rfl
theorem b_is_pair : BindP "is_pair" "is_pair" s_is_pair ["net", "thing"] := fun _ _ _ _ _ _ us hl => match us, hl with | [_, _], _ => rfl
theorem b_ends_or_none : BindP "ends_or_none" "ends_or_none" s_ends_or_none ["net", "thing"] := fun _ _ _ _ _ _ us hl => match us, hl with | [_, _], _ => rfl
theorem b_is_ring : BindP "is_ring" "is_ring" s_is_ring ["net", "thing"] := fun _ _ _ _ _ _ us hl => match us, hl with | [_, _], _ => rfl
theorem b_check_ring : BindP "check_ring" "check_ring" s_check_ring ["net", "thing"] := fun _ _ _ _ _ _ us hl => match us, hl with | [_, _], _ => rfl
theorem b_tree : BindP "tree" "tree" s_tree ["net"] := fun _ _ _ _ _ _ us hl => match us, hl with | [_], _ => rfl
theorem b_tree_steps : BindP "tree_steps" "tree_steps" s_tree_steps ["net"] := fun _ _ _ _ _ _ us hl => match us, hl with | [_], _ => rfl
theorem b_ways_from : BindP "ways_from" "ways_from" s_ways_from ["net", "begin"] := fun _ _ _ _ _ _ us hl => match us, hl with | [_, _], _ => rfl
theorem b_loose_spans : BindP "loose_spans" "loose_spans" s_loose_spans ["net"] := fun _ _ _ _ _ _ us hl => match us, hl with | [_], _ => rfl
theorem b_base : BindP "base" "base" s_base ["net"] := fun _ _ _ _ _ _ us hl => match us, hl with | [_], _ => rfl
theorem b_shares_of : BindP "shares_of" "shares_of" s_shares_of ["net", "ring"] := fun _ _ _ _ _ _ us hl => match us, hl with | [_, _], _ => rfl
theorem b_sum_along : BindP "sum_along" "sum_along" s_sum_along ["way", "lengths"] := fun _ _ _ _ _ _ us hl => match us, hl with | [_, _], _ => rfl
theorem b_length_of : BindP "length_of" "length_of" s_length_of ["net", "span", "moments"] := fun _ _ _ _ _ _ us hl => match us, hl with | [_, _, _], _ => rfl
theorem b_all_lengths : BindP "all_lengths" "all_lengths" s_all_lengths ["net", "moments"] := fun _ _ _ _ _ _ us hl => match us, hl with | [_, _], _ => rfl
theorem b_moments_fault : BindP "moments_fault" "moments_fault" s_moments_fault ["net", "thing"] := fun _ _ _ _ _ _ us hl => match us, hl with | [_, _], _ => rfl
theorem b_is_timetable : BindP "is_timetable" "is_timetable" s_is_timetable ["net", "thing"] := fun _ _ _ _ _ _ us hl => match us, hl with | [_, _], _ => rfl
theorem b_check_timetable : BindP "check_timetable" "check_timetable" s_check_timetable ["net", "thing"] := fun _ _ _ _ _ _ us hl => match us, hl with | [_, _], _ => rfl
theorem b_rounds_of : BindP "rounds_of" "rounds_of" s_rounds_of ["net", "row", "ring"] := fun _ _ _ _ _ _ us hl => match us, hl with | [_, _, _], _ => rfl
theorem b_rounds : BindP "rounds" "rounds" s_rounds ["net", "timetable", "ring"] := fun _ _ _ _ _ _ us hl => match us, hl with | [_, _, _], _ => rfl
theorem b_check_row : BindP "check_row" "check_row" s_check_row ["net", "island"] := fun _ _ _ _ _ _ us hl => match us, hl with | [_, _], _ => rfl
theorem b_rounds_in : BindP "rounds_in" "rounds_in" s_rounds_in ["net", "island", "ring"] := fun _ _ _ _ _ _ us hl => match us, hl with | [_, _, _], _ => rfl
theorem b_arcs_of : BindP "arcs_of" "arcs_of" s_arcs_of ["net", "island"] := fun _ _ _ _ _ _ us hl => match us, hl with | [_, _], _ => rfl
theorem b_least_places : BindP "least_places" "least_places" s_least_places ["net", "arcs"] := fun _ _ _ _ _ _ us hl => match us, hl with | [_, _], _ => rfl
theorem b_ring_behind : BindP "ring_behind" "ring_behind" s_ring_behind ["net", "came", "event"] := fun _ _ _ _ _ _ us hl => match us, hl with | [_, _, _], _ => rfl
theorem b_longest : BindP "longest" "longest" s_longest ["net", "arcs", "events", "begin"] := fun _ _ _ _ _ _ us hl => match us, hl with | [_, _, _, _], _ => rfl
theorem b_places_of : BindP "places_of" "places_of" s_places_of ["net", "island"] := fun _ _ _ _ _ _ us hl => match us, hl with | [_, _], _ => rfl
theorem b_as_moments : BindP "as_moments" "as_moments" s_as_moments ["net", "places"] := fun _ _ _ _ _ _ us hl => match us, hl with | [_, _], _ => rfl
theorem b_held : BindP "held" "held" s_held ["net", "row"] := fun _ _ _ _ _ _ us hl => match us, hl with | [_, _], _ => rfl
theorem b_bounds_along : BindP "bounds_along" "bounds_along" s_bounds_along ["net", "way"] := fun _ _ _ _ _ _ us hl => match us, hl with | [_, _], _ => rfl
theorem b_is_barring : BindP "is_barring" "is_barring" s_is_barring ["net", "row", "thing"] := fun _ _ _ _ _ _ us hl => match us, hl with | [_, _, _], _ => rfl
theorem b_islands : BindP "islands" "islands" s_islands ["net"] := fun _ _ _ _ _ _ us hl => match us, hl with | [_], _ => rfl
theorem b__law_source : BindP "_law_source" "_law_source" s__law_source ["_law_script", "_law_k"] := fun _ _ _ _ _ _ us hl => match us, hl with | [_, _], _ => rfl
theorem b__law_draw : BindP "_law_draw" "_law_draw" s__law_draw ["_law_source_here", "_law_many"] := fun _ _ _ _ _ _ us hl => match us, hl with | [_, _], _ => rfl
theorem b__law_integer : BindP "_law_integer" "_law_integer" s__law_integer ["_law_thing"] := fun _ _ _ _ _ _ us hl => match us, hl with | [_], _ => rfl
theorem b__law_order : BindP "_law_order" "_law_order" s__law_order ["_law_source_here", "_law_many"] := fun _ _ _ _ _ _ us hl => match us, hl with | [_, _], _ => rfl
theorem b__law_beat : BindP "_law_beat" "_law_beat" s__law_beat ["_law_source_here"] := fun _ _ _ _ _ _ us hl => match us, hl with | [_], _ => rfl
theorem b__law_marks : BindP "_law_marks" "_law_marks" s__law_marks ["_law_spans", "_law_events"] := fun _ _ _ _ _ _ us hl => match us, hl with | [_, _], _ => rfl
theorem b__law_path : BindP "_law_path" "_law_path" s__law_path ["_law_spans", "_law_kept", "_law_begin", "_law_end"] := fun _ _ _ _ _ _ us hl => match us, hl with | [_, _, _, _], _ => rfl
theorem b__law_base : BindP "_law_base" "_law_base" s__law_base ["_law_spans", "_law_kept"] := fun _ _ _ _ _ _ us hl => match us, hl with | [_, _], _ => rfl
theorem b__law_bounds : BindP "_law_bounds" "_law_bounds" s__law_bounds ["_law_spans", "_law_way"] := fun _ _ _ _ _ _ us hl => match us, hl with | [_, _], _ => rfl
theorem b__law_sum : BindP "_law_sum" "_law_sum" s__law_sum ["_law_way", "_law_row_here"] := fun _ _ _ _ _ _ us hl => match us, hl with | [_, _], _ => rfl
theorem b__law_row : BindP "_law_row" "_law_row" s__law_row ["_law_beat_here", "_law_parts", "_law_spans", "_law_moments"] := fun _ _ _ _ _ _ us hl => match us, hl with | [_, _, _, _], _ => rfl
theorem b__law_is_ring : BindP "_law_is_ring" "_law_is_ring" s__law_is_ring ["_law_spans", "_law_thing"] := fun _ _ _ _ _ _ us hl => match us, hl with | [_, _], _ => rfl
theorem b__law_beats : BindP "_law_beats" "_law_beats" s__law_beats ["_law_rings", "_law_island", "_law_ring"] := fun _ _ _ _ _ _ us hl => match us, hl with | [_, _, _], _ => rfl
theorem b__law_bars : BindP "_law_bars" "_law_bars" s__law_bars ["_law_beat_here", "_law_spans", "_law_rings", "_law_island", "_law_ring"] := fun _ _ _ _ _ _ us hl => match us, hl with | [_, _, _, _, _], _ => rfl
theorem b__law_fits : BindP "_law_fits" "_law_fits" s__law_fits ["_law_beat_here", "_law_spans", "_law_events", "_law_rings", "_law_island", "_law_told"] := fun _ _ _ _ _ _ us hl => match us, hl with | [_, _, _, _, _, _], _ => rfl
theorem b__law_any_span : BindP "_law_any_span" "_law_any_span" s__law_any_span ["_law_source_here", "_law_beat_here", "_law_one", "_law_other", "_law_width"] := fun _ _ _ _ _ _ us hl => match us, hl with | [_, _, _, _, _], _ => rfl
theorem b__law_net_spans : BindP "_law_net_spans" "_law_net_spans" s__law_net_spans ["_law_source_here", "_law_beat_here", "_law_size", "_law_more", "_law_width"] := fun _ _ _ _ _ _ us hl => match us, hl with | [_, _, _, _, _], _ => rfl
theorem b__law_barred_right : BindP "_law_barred_right" "_law_barred_right" s__law_barred_right ["_law_net", "_law_spans", "_law_rings", "_law_number"] := fun _ _ _ _ _ _ us hl => match us, hl with | [_, _, _, _], _ => rfl
theorem b_law : BindP "law" "law" s_law ["_law_script"] := fun _ _ _ _ _ _ us hl => match us, hl with | [_], _ => rfl
theorem b_Ratio___init__ : BindP "__init__" "Ratio.__init__" s_Ratio___init__ ["self", "top", "bottom"] := fun _ _ _ _ _ _ us hl => match us, hl with | [_, _, _], _ => rfl
theorem b_Ratio_less : BindP "less" "Ratio.less" s_Ratio_less ["self", "number"] := fun _ _ _ _ _ _ us hl => match us, hl with | [_, _], _ => rfl
theorem b_Ratio_whole : BindP "whole" "Ratio.whole" s_Ratio_whole ["self"] := fun _ _ _ _ _ _ us hl => match us, hl with | [_], _ => rfl
theorem b_Net___init__ : BindP "__init__" "Net.__init__" s_Net___init__ ["self", "beat", "events", "spans"] := fun _ _ _ _ _ _ us hl => match us, hl with | [_, _, _, _], _ => rfl
def spLaw (K : PySem.W.Frag) : Sp := spP (pre_law K 0 0)
theorem sp_law {K : PySem.W.Frag} {H : Hp} {a : Addr} {ns : List Int} (h : SqL K H a (ns.map V.int)) : spLaw K [.ref a] H (fun v _ => v = .bl true) fun _ _ _ => False := by
  have e : Same H (fz (fun _ => False) H) := fun y o hy => by rw [fz_out (fun z => z)]; exact hy
  refine ⟨fun _ => False, [.fl K ns], .d (.bool true), fun _ z => z.elim, .cons ⟨a, rfl, e.seq h⟩ .nil, .mk plain ns, fun v H' _ r => ?_⟩
  cases r
  rfl
theorem fin_mk {P : Program} {w : World} {K : PySem.W.Frag} {h : Heap} {mg : Str → Option Value} {CN CR fa f : Addr} {oc kV dc pm cd ct : Value} {od an : Option Addr} {sl : Array (Option Value)} (X : K.In h) (G : h.Ns mainGlobals mg) (hfa : mg "law" = some (.ref fa)) (T : Txt K mg CN CR)
    (a : PySem.W.nsIn K mainGlobals "law" = some (some (.ref f))) (l : K.lookup f = some ⟨oc, od, .func (PySem.W.fnOf "law" "law" (defArgs s_law) (defBody s_law) (defScope s_law) .none kV dc pm an cd ct), sl⟩) (c : PySem.W.codeIn K cd "law" = true) (k : PySem.W.keepIn K (.ref f) = true) :
    ∃ fd : FuncData, (∀ (s : Shared) (v : Value), BindsTo s fd ⟨[v], []⟩ [("_law_script", v)]) ∧ ∀ base : Heap, K.In base → base.Ns mainGlobals mg → FnOk P w K mg base CX0 12 fa fd ["_law_script"] (spLaw K) := by
  have e := hfa.symm.trans (PySem.W.mg_of X G a)
  cases e
  exact ⟨_, fun s v => .of_eq rfl, fun base _ _ => (fn_law T (fun_mk (st := s_law) l c k)).imp fun vs H Q E ⟨M, ss, r, h1, h2, h3, h4⟩ => ⟨M, ss, r, h1, h2, by cases h3; exact .mk ‹_› _, h4⟩⟩
end Z
end
section
/-! ZHE: the facts of the top. -/
namespace Z
open PySem PySem.Spec PyProof.Rows L2
section
variable {K : PySem.W.Frag} {h : Heap} {mg : Str → Option Value} {x c qual : Str} {st : Stmt} {ps : List Str}
theorem fun_of (s : He.SaysE faL fnL K) (i : Nat) {d : He.FnD} (hi : fnL[i]? = some d) (ha : d.params = defArgs st) (hb : d.body = defBody st) (hc : d.scope = defScope st) (hk : PySem.W.keepIn K (.ref (He.fAd K d.at_)) = true) (b : BindP d.name d.qual st ps) : ∃ fd, Fun K d.name d.qual st (He.fAd K d.at_) fd ∧ Binds K fd ps [] := by
  obtain ⟨oc, od, osl, kV, doc, pm, an, cdv, ct, l, cd⟩ := s.def_ i hi
  rw [ha, hb, hc] at l
  exact ⟨_, fun_mk l cd hk, (fun_mk l cd hk).binds b⟩
theorem def_of (X : K.In h) (G : h.Ns mainGlobals mg) (s : He.SaysE faL fnL K) (i a k : Nat) (hi : fnL[i]? = some ⟨(x, none), x, x, defArgs st, defBody st, defScope st⟩) (ha : faL[a]? = some (.glo x)) (hk : faL[k]? = some (.keep x)) (b : BindP x x st ps) : DefAt K mg x st ps := by
  obtain ⟨fd, F, hb⟩ := fun_of s i hi rfl rfl rfl (He.keep_ok (s.fact k hk)) b
  exact ⟨_, fd, F, He.glo_ok X G (s.fact a ha), hb⟩
theorem met_of (s : He.SaysE faL fnL K) (i a : Nat) (hi : fnL[i]? = some ⟨(c, some x), x, qual, defArgs st, defBody st, defScope st⟩) (ha : faL[a]? = some (.meth c x)) (b : BindP x qual st ps) : ∃ (f : Addr) (fd : FuncData), Fun K x qual st f fd ∧ Meth K (He.ga K c) x f ∧ Binds K fd ps [] := by
  have me := He.meth_ok (s.fact a ha)
  obtain ⟨fd, F, hb⟩ := fun_of s i hi rfl rfl rfl me.kp b
  exact ⟨_, fd, F, me, hb⟩
theorem ini_of (s : He.SaysE faL fnL K) (i a m : Nat) (hi : fnL[i]? = some ⟨(c, some "__init__"), "__init__", qual, defArgs st, defBody st, defScope st⟩) (ha : faL[a]? = some (.meth c "__init__")) (hm : faL[m]? = some (.mkr c)) (b : BindP "__init__" qual st ps) : ∃ (f : Addr) (fd : FuncData), Fun K "__init__" qual st f fd ∧ Mk K (He.ga K c) f ∧ Binds K fd ps [] := by
  obtain ⟨fd, F, hb⟩ := fun_of s i hi rfl rfl rfl (He.meth_ok (s.fact a ha)).kp b
  exact ⟨_, fd, F, He.mkr_ok (s.fact m hm), hb⟩
theorem int_of (X : K.In h) (G : h.Ns mainGlobals mg) (s : He.SaysE faL fnL K) (a : Nat) {i : Int} (ha : faL[a]? = some (.int x i)) : ∃ u, mg x = some u ∧ RelV (.int i) u := by
  obtain ⟨t, e⟩ := He.int_ok X G (s.fact a ha)
  exact ⟨_, e, t, rfl⟩
theorem kit_of {C : Addr} (t : PySem.W.typeIn K (.ref C) = some (.type "type")) (cl : Cls K C) : PySem.W.kitOne K (.type "int") (.ref C) = some false := by
  have e : PySem.W.subIn K (.type "int") (.ref C) = some false := by rfl
  cases q : PySem.W.clsIn K C with
  | some z => exact kit_mk (n := "") q t e
  | none =>
    have po := cl.po
    unfold PySem.W.plainOver at po
    rw [q] at po
    cases po
theorem txt_of (X : K.In h) (G : h.Ns mainGlobals mg) (s : He.SaysE faL fnL K) (t : tyB K = true) : Txt K mg (He.ga K "Net") (He.ga K "Ratio") where
  z_len := He.free_ok X G (s.fact 0 rfl)
  z_all := He.free_ok X G (s.fact 1 rfl)
  z_any := He.free_ok X G (s.fact 2 rfl)
  z_sum := He.free_ok X G (s.fact 3 rfl)
  z_min := He.free_ok X G (s.fact 4 rfl)
  z_max := He.free_ok X G (s.fact 5 rfl)
  z_abs := He.free_ok X G (s.fact 6 rfl)
  z_int := He.free_ok X G (s.fact 7 rfl)
  z_bool := He.free_ok X G (s.fact 8 rfl)
  z_tuple := He.free_ok X G (s.fact 9 rfl)
  z_list := He.free_ok X G (s.fact 10 rfl)
  z_sorted := He.free_ok X G (s.fact 11 rfl)
  z_isinstance := He.free_ok X G (s.fact 12 rfl)
  z_range := He.free_ok X G (s.fact 13 rfl)
  z_enumerate := He.free_ok X G (s.fact 14 rfl)
  z_zip := He.free_ok X G (s.fact 15 rfl)
  z_dict := He.free_ok X G (s.fact 16 rfl)
  c_LEAST_BEAT := int_of X G s 17 rfl
  c_MOST_BEAT := int_of X G s 18 rfl
  c_MOST_EVENTS := int_of X G s 19 rfl
  c_MOST_SPANS := int_of X G s 20 rfl
  c_MOST_BOUND := int_of X G s 21 rfl
  g_Ratio := He.glo_ok X G (s.fact 22 rfl)
  g_Net := He.glo_ok X G (s.fact 23 rfl)
  clR := He.cls_ok (s.fact 24 rfl)
  clN := He.cls_ok (s.fact 27 rfl)
  nR_top := He.noat_ok (s.fact 30 rfl)
  nR_bottom := He.noat_ok (s.fact 31 rfl)
  nN_beat := He.noat_ok (s.fact 32 rfl)
  nN_events := He.noat_ok (s.fact 33 rfl)
  nN_spans := He.noat_ok (s.fact 34 rfl)
  kitR := kit_of (of_decide_eq_true t) (He.cls_ok (s.fact 24 rfl))
  d_is_integer := def_of X G s 0 37 38 rfl rfl rfl b_is_integer
  d_common := def_of X G s 1 39 40 rfl rfl rfl b_common
  d_is_number := def_of X G s 2 41 42 rfl rfl rfl b_is_number
  d_as_ratio := def_of X G s 3 43 44 rfl rfl rfl b_as_ratio
  d_rest_by := def_of X G s 4 45 46 rfl rfl rfl b_rest_by
  d_is_below := def_of X G s 5 47 48 rfl rfl rfl b_is_below
  d_is_span := def_of X G s 6 49 50 rfl rfl rfl b_is_span
  d_marks_of := def_of X G s 7 51 52 rfl rfl rfl b_marks_of
  d_pieces := def_of X G s 8 53 54 rfl rfl rfl b_pieces
  d_ends_of := def_of X G s 9 55 56 rfl rfl rfl b_ends_of
  d_is_pair := def_of X G s 10 57 58 rfl rfl rfl b_is_pair
  d_ends_or_none := def_of X G s 11 59 60 rfl rfl rfl b_ends_or_none
  d_is_ring := def_of X G s 12 61 62 rfl rfl rfl b_is_ring
  d_check_ring := def_of X G s 13 63 64 rfl rfl rfl b_check_ring
  d_tree := def_of X G s 14 65 66 rfl rfl rfl b_tree
  d_tree_steps := def_of X G s 15 67 68 rfl rfl rfl b_tree_steps
  d_ways_from := def_of X G s 16 69 70 rfl rfl rfl b_ways_from
  d_loose_spans := def_of X G s 17 71 72 rfl rfl rfl b_loose_spans
  d_base := def_of X G s 18 73 74 rfl rfl rfl b_base
  d_shares_of := def_of X G s 19 75 76 rfl rfl rfl b_shares_of
  d_sum_along := def_of X G s 20 77 78 rfl rfl rfl b_sum_along
  d_length_of := def_of X G s 21 79 80 rfl rfl rfl b_length_of
  d_all_lengths := def_of X G s 22 81 82 rfl rfl rfl b_all_lengths
  d_moments_fault := def_of X G s 23 83 84 rfl rfl rfl b_moments_fault
  d_is_timetable := def_of X G s 24 85 86 rfl rfl rfl b_is_timetable
  d_check_timetable := def_of X G s 25 87 88 rfl rfl rfl b_check_timetable
  d_rounds_of := def_of X G s 26 89 90 rfl rfl rfl b_rounds_of
  d_rounds := def_of X G s 27 91 92 rfl rfl rfl b_rounds
  d_check_row := def_of X G s 28 93 94 rfl rfl rfl b_check_row
  d_rounds_in := def_of X G s 29 95 96 rfl rfl rfl b_rounds_in
  d_arcs_of := def_of X G s 30 97 98 rfl rfl rfl b_arcs_of
  d_least_places := def_of X G s 31 99 100 rfl rfl rfl b_least_places
  d_ring_behind := def_of X G s 32 101 102 rfl rfl rfl b_ring_behind
  d_longest := def_of X G s 33 103 104 rfl rfl rfl b_longest
  d_places_of := def_of X G s 34 105 106 rfl rfl rfl b_places_of
  d_as_moments := def_of X G s 35 107 108 rfl rfl rfl b_as_moments
  d_held := def_of X G s 36 109 110 rfl rfl rfl b_held
  d_bounds_along := def_of X G s 37 111 112 rfl rfl rfl b_bounds_along
  d_is_barring := def_of X G s 38 113 114 rfl rfl rfl b_is_barring
  d_islands := def_of X G s 39 115 116 rfl rfl rfl b_islands
  d__law_source := def_of X G s 40 117 118 rfl rfl rfl b__law_source
  d__law_draw := def_of X G s 41 119 120 rfl rfl rfl b__law_draw
  d__law_integer := def_of X G s 42 121 122 rfl rfl rfl b__law_integer
  d__law_order := def_of X G s 43 123 124 rfl rfl rfl b__law_order
  d__law_beat := def_of X G s 44 125 126 rfl rfl rfl b__law_beat
  d__law_marks := def_of X G s 45 127 128 rfl rfl rfl b__law_marks
  d__law_path := def_of X G s 46 129 130 rfl rfl rfl b__law_path
  d__law_base := def_of X G s 47 131 132 rfl rfl rfl b__law_base
  d__law_bounds := def_of X G s 48 133 134 rfl rfl rfl b__law_bounds
  d__law_sum := def_of X G s 49 135 136 rfl rfl rfl b__law_sum
  d__law_row := def_of X G s 50 137 138 rfl rfl rfl b__law_row
  d__law_is_ring := def_of X G s 51 139 140 rfl rfl rfl b__law_is_ring
  d__law_beats := def_of X G s 52 141 142 rfl rfl rfl b__law_beats
  d__law_bars := def_of X G s 53 143 144 rfl rfl rfl b__law_bars
  d__law_fits := def_of X G s 54 145 146 rfl rfl rfl b__law_fits
  d__law_any_span := def_of X G s 55 147 148 rfl rfl rfl b__law_any_span
  d__law_net_spans := def_of X G s 56 149 150 rfl rfl rfl b__law_net_spans
  d__law_barred_right := def_of X G s 57 151 152 rfl rfl rfl b__law_barred_right
  d_law := def_of X G s 58 153 154 rfl rfl rfl b_law
  d_Ratio___init__ := ini_of s 59 26 25 rfl rfl rfl b_Ratio___init__
  d_Ratio_less := met_of s 60 35 rfl rfl b_Ratio_less
  d_Ratio_whole := met_of s 61 36 rfl rfl b_Ratio_whole
  d_Net___init__ := ini_of s 62 29 28 rfl rfl rfl b_Net___init__
theorem fin_of {P : Program} {w : World} {f : Addr} (X : K.In h) (G : h.Ns mainGlobals mg) (hfa : mg "law" = some (.ref f)) (s : He.SaysE faL fnL K) (t : tyB K = true) :
    ∃ fd : FuncData, (∀ (u : Shared) (v : Value), BindsTo u fd ⟨[v], []⟩ [("_law_script", v)]) ∧ ∀ base : Heap, K.In base → base.Ns mainGlobals mg → FnOk P w K mg base CX0 12 f fd ["_law_script"] (spLaw K) := by
  obtain ⟨oc, od, osl, kV, doc, pm, an, cdv, ct, l, cd⟩ := s.def_ 58 (d := ⟨("law", none), "law", "law", defArgs s_law, defBody s_law, defScope s_law⟩) rfl
  have e := hfa.symm.trans (He.glo_ok X G (s.fact 153 (f := .glo "law") rfl))
  cases e
  have kp : PySem.W.keepIn K (.ref (He.ga K "law")) = true := He.keep_ok (s.fact 154 (f := .keep "law") rfl)
  exact ⟨_, fun u v => .of_eq rfl, fun base _ _ => (fn_law (txt_of X G s t) (fun_mk (st := s_law) l cd kp)).imp fun vs H Q E ⟨M, ss, r, h1, h2, h3, h4⟩ => ⟨M, ss, r, h1, h2, by cases h3; exact .mk ‹_› _, h4⟩⟩
end
end Z
end
open PySem PySem.W PySem.Calls PyProof.Rows
theorem PySem.Challenge.cw_likespans_k19_whole_one_ring_unbroken_ru_holds : PySem.Challenge.rw_likespans_k19_whole_one_ring_unbroken_ru.Holds := by
  w_on; o_law
  refine HandSHeadRun.head_any (r := OpenLaw.row PySem.Challenge.rw_likespans_k19_whole_one_ring_unbroken_ru) (q := view (OpenLaw.row PySem.Challenge.rw_likespans_k19_whole_one_ring_unbroken_ru).prog [82]) (H := Z.hk) (ob := Z.ob) (M := 6000) (loose := Z.nameL) (d := HandSHeadRun.topDef (OpenLaw.row PySem.Challenge.rw_likespans_k19_whole_one_ring_unbroken_ru).prog 82) (kwd := []) Z.ob_eq
    (by kernel_rfl) (fun _ => by kernel_rfl) Z.run_top (by kernel_rfl) (by kernel_rfl) (by kernel_rfl) (by rfl) (by first | assumption | decide +kernel) (by decide +kernel) ⟨rfl, rfl, rfl, rfl, rfl, by decide +kernel⟩ ?hw ?hc
  case hw => w_witness2
  case hc =>
    refine L2.walk_ofE (l := PySem.Challenge.rw_likespans_k19_whole_one_ring_unbroken_ru) (n := 63) (k := 12) (x := "_law_script") (CX := L2.CX0) rfl (by decide) (by kernel_rfl) ⟨rfl, by decide, by decide⟩ ?F (fun _ _ _ _ q => q)
    intro w mg fa h Y G named
    obtain ⟨K, KX, says, ty⟩ := Y
    have at_ : mg ("law" : PySem.Str) = some (.ref fa) := by
      have e : (HandSHeadRun.topDef (OpenLaw.row PySem.Challenge.rw_likespans_k19_whole_one_ring_unbroken_ru).prog 82).name = ("law" : PySem.Str) := by kernel_rfl
      rw [← e]
      exact named
    obtain ⟨fd, binds, ok⟩ := Z.fin_of (P := (PySem.Challenge.rw_likespans_k19_whole_one_ring_unbroken_ru).prog) (w := w) KX G at_ says ty
    exact ⟨K, fd, Z.spLaw K, KX, binds, fun H a ns _ _ sq => Z.sp_law sq, ok⟩
