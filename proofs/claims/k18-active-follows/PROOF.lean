import PyProof.Rows.All
import Wide.All
import OpenK.AllK
import Wide.FinOn
import HandS.ForMost
import HandS.IsInst
import HandS.TupAny
import HandS.Wide
import HandS.Deep
import HandS.Style
import HandS.RaiseMore
import HandS.More
import HandS.TupMul
import PyProof.Rows.IntBool
import OpenK.KMore
import HandS.Star
import HandS.Defaults
import HandS.Iter
import HandS.Zip
import KE.SortData
import HandS.Conv
import KE.KDictSum
import HandS.DictComp
import KE.KParD
import HandS.TupSets
import KE.GoesEnum
import PySem.Challenge.RW_stackorder_k18_active_and_follows
import PyProof.ReprLen
import PyProof.StrLawsRepr
import PyProof.FitsInt
import PyProof.StrLawsIn
import KE.KEqSeq
import PyProof.Rows.StrCase
import PyProof.Rows.ReprOcc
set_option Elab.async false
set_option linter.all false
set_option maxRecDepth 100000
set_option maxHeartbeats 2000000
/-! DL: a layer of plain data over the hand layer: a slot of a def holds a datum (PyData), a list or dict of the def's own, or the script. -/
namespace DL
open PySem L2

/-- a dict's key as a datum -/
def kD : Key → PyData
  | .inl i => .int i
  | .inr x => .str x

/-- tuples of the module's own top: not empty, no text at the front if shorter than four -/
def kOk : List PyData → Bool
  | [] => false
  | .str _ :: _ :: _ :: _ :: _ => true
  | .str _ :: _ => false
  | _ => true
mutual
/-- v stands for d in the heap H -/
inductive Rp (K : PySem.W.Frag) (H : Hp) : V → PyData → Prop
  | non : Rp K H .non .none
  | bl (b : Bool) : Rp K H (.bl b) (.bool b)
  | int (i : Int) : Rp K H (.int i) (.int i)
  | str (x : Str) : Rp K H (.str x) (.str x)
  | lst {a : Addr} {xs : List V} {ds : List PyData} : H a = some (.lst xs) → RpA K H xs ds → Rp K H (.ref a) (.list ds)
  | tup {a : Addr} {xs : List V} {ds : List PyData} : H a = some (.tup xs) → RpA K H xs ds → Rp K H (.ref a) (.tuple ds)
  | tuk {a : Addr} {xs : List V} {ds : List PyData} : SqT K H a xs → kOk ds = true → RpA K H xs ds → Rp K H (.ref a) (.tuple ds)
  | dic {a : Addr} {kvs : List (Key × V)} {ds : List PyData} : H a = some (.dK kvs) → RpA K H (kvs.map (·.2)) ds → Rp K H (.ref a) (.dict ((kvs.map fun p => kD p.1).zip ds))
  | dit {a : Addr} {kvs : List (List Key × V)} {ds : List PyData} : H a = some (.dT kvs) → RpA K H (kvs.map (·.2)) ds → Rp K H (.ref a) (.dict ((kvs.map fun p => PyData.tuple (p.1.map kD)).zip ds))
inductive RpA (K : PySem.W.Frag) (H : Hp) : List V → List PyData → Prop
  | nil : RpA K H [] []
  | cons {v : V} {vs : List V} {d : PyData} {ds : List PyData} : Rp K H v d → RpA K H vs ds → RpA K H (v :: vs) (d :: ds)
end

theorem sqT_mono {K : PySem.W.Frag} {H H' : Hp} (e : Same H H') {a : Addr} {xs : List V} (h : SqT K H a xs) : SqT K H' a xs := by
  rcases h with (h | ⟨o, h⟩) | h
  · exact .inl (.inl (e _ _ h))
  · exact .inl (.inr ⟨o, e _ _ h⟩)
  · exact .inr h
mutual
theorem Rp.mono {K : PySem.W.Frag} {H H' : Hp} (e : Same H H') : ∀ {d : PyData} {v : V}, Rp K H v d → Rp K H' v d
  | _, _, .non => .non
  | _, _, .bl b => .bl b
  | _, _, .int i => .int i
  | _, _, .str x => .str x
  | _, _, .lst h r => .lst (e _ _ h) (RpA.mono e r)
  | _, _, .tup h r => .tup (e _ _ h) (RpA.mono e r)
  | _, _, .tuk h k r => .tuk (sqT_mono e h) k (RpA.mono e r)
  | _, _, .dic h r => .dic (e _ _ h) (RpA.mono e r)
  | _, _, .dit h r => .dit (e _ _ h) (RpA.mono e r)
theorem RpA.mono {K : PySem.W.Frag} {H H' : Hp} (e : Same H H') : ∀ {ds : List PyData} {vs : List V}, RpA K H vs ds → RpA K H' vs ds
  | _, _, .nil => .nil
  | _, _, .cons h r => .cons (Rp.mono e h) (RpA.mono e r)
end
section
variable {K : PySem.W.Frag} {H : Hp}
theorem RpA.length : ∀ {vs : List V} {ds : List PyData}, RpA K H vs ds → vs.length = ds.length
  | _, _, .nil => rfl
  | _, _, .cons _ t => congrArg (· + 1) (RpA.length t)
theorem RpA.get : ∀ {vs : List V} {ds : List PyData}, RpA K H vs ds → ∀ {i : Nat} {d : PyData}, ds[i]? = some d → ∃ v, vs[i]? = some v ∧ Rp K H v d
  | _, _, .nil, _, _, e => by simp at e
  | _, _, .cons r _, 0, _, e => by simp at e; subst e; exact ⟨_, rfl, r⟩
  | _, _, .cons _ t, i + 1, _, e => by
    obtain ⟨v, h1, h2⟩ := RpA.get t (i := i) (by simpa using e)
    exact ⟨v, by simpa using h1, h2⟩
theorem RpA.getV : ∀ {vs : List V} {ds : List PyData}, RpA K H vs ds → ∀ {i : Nat} {v : V}, vs[i]? = some v → ∃ d, ds[i]? = some d ∧ Rp K H v d
  | _, _, .nil, _, _, e => by simp at e
  | _, _, .cons r _, 0, _, e => by simp at e; subst e; exact ⟨_, rfl, r⟩
  | _, _, .cons _ t, i + 1, _, e => by
    obtain ⟨v, h1, h2⟩ := RpA.getV t (i := i) (by simpa using e)
    exact ⟨v, by simpa using h1, h2⟩
theorem RpA.append : ∀ {vs ws : List V} {ds es : List PyData}, RpA K H vs ds → RpA K H ws es → RpA K H (vs ++ ws) (ds ++ es)
  | _, _, _, _, .nil, s => s
  | _, _, _, _, .cons r t, s => .cons r (RpA.append t s)
theorem RpA.take : ∀ {vs : List V} {ds : List PyData} (n : Nat), RpA K H vs ds → RpA K H (vs.take n) (ds.take n)
  | _, _, 0, _ => .nil
  | _, _, _ + 1, .nil => .nil
  | _, _, n + 1, .cons r t => .cons r (RpA.take n t)
theorem RpA.drop : ∀ {vs : List V} {ds : List PyData} (n : Nat), RpA K H vs ds → RpA K H (vs.drop n) (ds.drop n)
  | _, _, 0, r => r
  | _, _, _ + 1, .nil => .nil
  | _, _, n + 1, .cons _ t => RpA.drop n t
theorem RpA.reverse : ∀ {vs : List V} {ds : List PyData}, RpA K H vs ds → RpA K H vs.reverse ds.reverse
  | _, _, .nil => .nil
  | _, _, .cons r t => by
    rw [List.reverse_cons, List.reverse_cons]
    exact RpA.append (RpA.reverse t) (.cons r .nil)
theorem RpA.eraseIdx : ∀ {vs : List V} {ds : List PyData} (n : Nat), RpA K H vs ds → RpA K H (vs.eraseIdx n) (ds.eraseIdx n)
  | _, _, _, .nil => .nil
  | _, _, 0, .cons _ t => t
  | _, _, n + 1, .cons r t => .cons r (RpA.eraseIdx n t)
theorem RpA.dropLast {vs : List V} {ds : List PyData} (h : RpA K H vs ds) : RpA K H vs.dropLast ds.dropLast := by
  rw [List.dropLast_eq_take, List.dropLast_eq_take, h.length]
  exact h.take _
theorem RpA.set : ∀ {vs : List V} {ds : List PyData} (n : Nat) {v : V} {d : PyData}, RpA K H vs ds → Rp K H v d → RpA K H (vs.set n v) (ds.set n d)
  | _, _, _, _, _, .nil, _ => .nil
  | _, _, 0, _, _, .cons _ t, r => .cons r t
  | _, _, n + 1, _, _, .cons q t, r => .cons q (RpA.set n t r)
mutual
theorem Rp.toDp : ∀ {d : PyData} {v : V}, Rp K H v d → d.hasDict = false → Dp K H v d
  | _, _, .non, _ => .non
  | _, _, .bl b, _ => .bl b
  | _, _, .int i, _ => .int i
  | _, _, .str x, _ => .str x
  | _, _, .lst h r, e => .lst (SqL.of h) (RpA.toDp r (by simpa [PyData.hasDict] using e))
  | _, _, .tup h r, e => .tup (SqT.of h) (RpA.toDp r (by simpa [PyData.hasDict] using e))
  | _, _, .tuk h _ r, e => .tup h (RpA.toDp r (by simpa [PyData.hasDict] using e))
  | _, _, .dic h r, e => by simp [PyData.hasDict] at e
  | _, _, .dit h r, e => by simp [PyData.hasDict] at e
theorem RpA.toDp : ∀ {ds : List PyData} {vs : List V}, RpA K H vs ds → PyData.hasDictAll ds = false → DpAll K H vs ds
  | _, _, .nil, _ => .nil
  | _, _, .cons h r, e => by
    simp only [PyData.hasDictAll, Bool.or_eq_false_iff] at e
    exact .cons (Rp.toDp h e.1) (RpA.toDp r e.2)
end
end

/-! ### what a slot holds -/
/-- an object of the def's own -/
inductive OD where
  | ol (xs : List PyData)
  | od (kvs : List (Key × PyData))
  | ot (kvs : List (List Key × PyData))
/-- nothing; a datum; an object of one's own (io: the caller's, lent); the script -/
inductive EV where
  | un
  | d (x : PyData)
  | own (o : OD) (io : Bool)
  | scr (ns : List Int)
abbrev Nv := List EV

def odD : OD → PyData
  | .ol xs => .list xs
  | .od kvs => .dict ((kvs.map fun p => kD p.1).zip (kvs.map (·.2)))
  | .ot kvs => .dict ((kvs.map fun p => PyData.tuple (p.1.map kD)).zip (kvs.map (·.2)))

/-- the object at a is o, its parts stand in Z -/
def ObAt (K : PySem.W.Frag) (Z H : Hp) (a : Addr) : OD → Prop
  | .ol xs => ∃ vs, H a = some (.lst vs) ∧ RpA K Z vs xs
  | .od kvs => ∃ vs : List (Key × V), H a = some (.dK vs) ∧ vs.map (·.1) = kvs.map (·.1) ∧ RpA K Z (vs.map (·.2)) (kvs.map (·.2))
  | .ot kvs => ∃ vs : List (List Key × V), H a = some (.dT vs) ∧ vs.map (·.1) = kvs.map (·.1) ∧ RpA K Z (vs.map (·.2)) (kvs.map (·.2))
theorem ObAt.some {K : PySem.W.Frag} {Z H : Hp} {a : Addr} {o : OD} (h : ObAt K Z H a o) : ∃ u, H a = some u ∧ Mut (some u) := by
  cases o with
  | ol xs => obtain ⟨vs, e, _⟩ := h; exact ⟨_, e, trivial⟩
  | od kvs => obtain ⟨vs, e, _⟩ := h; exact ⟨_, e, trivial⟩
  | ot kvs => obtain ⟨vs, e, _⟩ := h; exact ⟨_, e, trivial⟩
theorem ObAt.move {K : PySem.W.Frag} {Z Z' H H' : Hp} {a : Addr} {o : OD} (h : ObAt K Z H a o) (z : Same Z Z') (e : H' a = H a) : ObAt K Z' H' a o := by
  cases o with
  | ol xs => obtain ⟨vs, q, r⟩ := h; exact ⟨vs, e.trans q, r.mono z⟩
  | od kvs => obtain ⟨vs, q, k, r⟩ := h; exact ⟨vs, e.trans q, k, r.mono z⟩
  | ot kvs => obtain ⟨vs, q, k, r⟩ := h; exact ⟨vs, e.trans q, k, r.mono z⟩
/-- frozen, it is a datum -/
theorem ObAt.rp {K : PySem.W.Frag} {Z H : Hp} {a : Addr} {o : OD} (h : ObAt K Z H a o) (zH : Same Z H) (hz : Z a = H a) : Rp K Z (.ref a) (odD o) := by
  cases o with
  | ol xs => obtain ⟨vs, q, r⟩ := h; exact .lst (hz.trans q) r
  | od kvs =>
    obtain ⟨vs, q, k, r⟩ := h
    have e : (kvs.map fun p => kD p.1) = vs.map fun p => kD p.1 := by
      have := congrArg (List.map kD) k
      simpa [List.map_map, Function.comp_def] using this.symm
    show Rp K Z (.ref a) (.dict ((kvs.map fun p => kD p.1).zip (kvs.map (·.2))))
    rw [e]
    exact .dic (hz.trans q) r
  | ot kvs =>
    obtain ⟨vs, q, k, r⟩ := h
    have e : (kvs.map fun p => PyData.tuple (p.1.map kD)) = vs.map fun p => PyData.tuple (p.1.map kD) := by
      have := congrArg (List.map fun (l : List Key) => PyData.tuple (l.map kD)) k
      simpa [List.map_map, Function.comp_def] using this.symm
    show Rp K Z (.ref a) (.dict ((kvs.map fun p => PyData.tuple (p.1.map kD)).zip (kvs.map (·.2))))
    rw [e]
    exact .dit (hz.trans q) r

/-- the fixed part: what was frozen at the entry, the heap at the entry, what must stay, the lent objects -/
structure Fx where
  F0 : Hp
  H0 : Hp
  Fr : Hp
  ino : Nat → Option Addr

/-- slot i holds the own object at a -/
def AtS (ρ : Nv) (σ : St) (i : Nat) (a : Addr) : Prop := (∃ o io, ρ[i]? = some (EV.own o io)) ∧ σ[i]? = some (some (V.ref a))

structure Rl (K : PySem.W.Frag) (Φ : Fx) (Z : Hp) (σ : St) (H : Hp) (ρ : Nv) : Prop where
  len : ρ.length = σ.length
  zH : Same Z H
  zN : ∀ a o, Z a = some o → (∀ xs, o ≠ .tup xs) → Φ.F0 a = some o ∨ (Φ.H0 a = none ∧ Φ.Fr a = none)
  f0 : ∀ a, Φ.H0 a = none → Φ.F0 a = none
  fr : Same Φ.Fr H
  dom : ∀ a, H a = none → Φ.H0 a = none
  inj : ∀ i j a, AtS ρ σ i a → AtS ρ σ j a → i = j
  sep : ∀ i a, AtS ρ σ i a → Z a = none ∧ Φ.Fr a = none
  dat : ∀ (i : Nat) (x : PyData), ρ[i]? = some (EV.d x) → ∃ v, σ[i]? = some (some v) ∧ Rp K Z v x
  scr : ∀ (i : Nat) (ns : List Int), ρ[i]? = some (EV.scr ns) → ∃ a, σ[i]? = some (some (V.ref a)) ∧ SqL K Z a (ns.map V.int)
  own : ∀ (i : Nat) (o : OD) (io : Bool), ρ[i]? = some (EV.own o io) → ∃ a, σ[i]? = some (some (V.ref a)) ∧ ObAt K Z H a o
  loc : ∀ (i : Nat) (o : OD) (a : Addr), ρ[i]? = some (EV.own o false) → σ[i]? = some (some (V.ref a)) → Φ.H0 a = none
  ino : ∀ (i : Nat) (a : Addr), Φ.ino i = some a → σ[i]? = some (some (V.ref a)) ∧ ∃ o, ρ[i]? = some (EV.own o true)
  io : ∀ (i : Nat) (o : OD), ρ[i]? = some (EV.own o true) → ∃ a, Φ.ino i = some a

section
variable {K : PySem.W.Frag} {Φ : Fx} {Z : Hp} {σ : St} {H : Hp} {ρ : Nv}
theorem Rl.at_some (R : Rl K Φ Z σ H ρ) {i : Nat} {a : Addr} (h : AtS ρ σ i a) : ∃ u, H a = some u ∧ Mut (some u) := by
  obtain ⟨⟨o, io, e⟩, s⟩ := h
  obtain ⟨b, sb, ob⟩ := R.own i o io e
  rw [s] at sb
  cases sb
  exact ob.some
theorem same_new {H : Hp} {p : Addr} {o : HO} (h : H p = none) : Same H (upd H p o) := fun b u e => by
  rw [upd_ne (ne_of_none e h)]
  exact e
theorem same_both {Z H : Hp} {p : Addr} {o : HO} (h : Same Z H) : Same (upd Z p o) (upd H p o) := fun b u e => by
  by_cases hb : b = p
  · subst hb
    rw [upd_same] at e ⊢
    exact e
  · rw [upd_ne hb] at e ⊢
    exact h b u e
/-- a new frozen object -/
theorem Rl.fresh (R : Rl K Φ Z σ H ρ) {p : Addr} {o : HO} (h : H p = none) : Same Z (upd Z p o) ∧ Rl K Φ (upd Z p o) σ (upd H p o) ρ := by
  have zp : Z p = none := R.zH.free h
  have zs : Same Z (upd Z p o) := same_new zp
  refine ⟨zs, R.len, same_both R.zH, ?_, R.f0, R.fr.trans (same_new h), ?_, R.inj, ?_, ?_, ?_, ?_, R.loc, R.ino, R.io⟩
  · intro a u e nt
    by_cases ha : a = p
    · subst ha; exact .inr ⟨R.dom _ h, R.fr.free h⟩
    · rw [upd_ne ha] at e; exact R.zN a u e nt
  · intro a e
    by_cases ha : a = p
    · subst ha; exact R.dom _ h
    · rw [upd_ne ha] at e; exact R.dom a e
  · intro i a hi
    obtain ⟨u, e, _⟩ := R.at_some hi
    rw [upd_ne (ne_of_none e h)]
    exact R.sep i a hi
  · intro i x e
    obtain ⟨v, q, r⟩ := R.dat i x e
    exact ⟨v, q, r.mono zs⟩
  · intro i ns e
    obtain ⟨a, q, r⟩ := R.scr i ns e
    exact ⟨a, q, zs.seq r⟩
  · intro i o' io e
    obtain ⟨a, q, ob⟩ := R.own i o' io e
    obtain ⟨u, eu, _⟩ := ob.some
    exact ⟨a, q, ob.move zs (upd_ne (ne_of_none eu h))⟩
/-- a new object that nobody holds yet, not frozen -/
theorem Rl.laid (R : Rl K Φ Z σ H ρ) {p : Addr} {o : HO} (h : H p = none) : Rl K Φ Z σ (upd H p o) ρ := by
  refine ⟨R.len, R.zH.trans (same_new h), R.zN, R.f0, R.fr.trans (same_new h), ?_, R.inj, R.sep, R.dat, R.scr, ?_, R.loc, R.ino, R.io⟩
  · intro a e
    by_cases ha : a = p
    · subst ha; exact R.dom _ h
    · rw [upd_ne ha] at e; exact R.dom a e
  · intro i o' io e
    obtain ⟨a, q, ob⟩ := R.own i o' io e
    obtain ⟨u, eu, _⟩ := ob.some
    exact ⟨a, q, ob.move (Same.refl Z) (upd_ne (ne_of_none eu h))⟩
/-- freeze an object that no slot holds -/
theorem Rl.freeze (R : Rl K Φ Z σ H ρ) {a : Addr} {o : HO} (h : H a = some o) (hz : Z a = none) (h0 : Φ.H0 a = none) (hf : Φ.Fr a = none) (hn : ∀ i, ¬ AtS ρ σ i a) : Same Z (upd Z a o) ∧ Rl K Φ (upd Z a o) σ H ρ := by
  have zs : Same Z (upd Z a o) := same_new hz
  have zH : Same (upd Z a o) H := fun b u e => by
    by_cases hb : b = a
    · subst hb; rw [upd_same] at e; rw [h]; exact e
    · rw [upd_ne hb] at e; exact R.zH b u e
  refine ⟨zs, R.len, zH, ?_, R.f0, R.fr, R.dom, R.inj, ?_, ?_, ?_, ?_, R.loc, R.ino, R.io⟩
  · intro b u e nt
    by_cases hb : b = a
    · subst hb; exact .inr ⟨h0, hf⟩
    · rw [upd_ne hb] at e; exact R.zN b u e nt
  · intro i b hi
    have hb : b ≠ a := fun e => hn i (e ▸ hi)
    rw [upd_ne hb]
    exact R.sep i b hi
  · intro i x e
    obtain ⟨v, q, r⟩ := R.dat i x e
    exact ⟨v, q, r.mono zs⟩
  · intro i ns e
    obtain ⟨b, q, r⟩ := R.scr i ns e
    exact ⟨b, q, zs.seq r⟩
  · intro i o' io e
    obtain ⟨b, q, ob⟩ := R.own i o' io e
    exact ⟨b, q, ob.move zs rfl⟩
/-- a slot is stored with a datum -/
theorem Rl.store (R : Rl K Φ Z σ H ρ) {i : Nat} {v : V} {x : PyData} (hi : i < ρ.length) (hn : ∀ o, ρ[i]? ≠ some (EV.own o true)) (r : Rp K Z v x) : Rl K Φ Z (σ.set i (some v)) H (ρ.set i (EV.d x)) := by
  have hs : i < σ.length := R.len ▸ hi
  have at_ : ∀ j a, AtS (ρ.set i (EV.d x)) (σ.set i (some v)) j a → j ≠ i ∧ AtS ρ σ j a := by
    rintro j a ⟨⟨o, io, e⟩, s⟩
    by_cases hj : i = j
    · subst hj
      rw [List.getElem?_set_self hi] at e
      cases e
    · rw [List.getElem?_set_ne hj] at e s
      exact ⟨Ne.symm hj, ⟨o, io, e⟩, s⟩
  refine ⟨by simp [R.len], R.zH, R.zN, R.f0, R.fr, R.dom, ?_, ?_, ?_, ?_, ?_, ?_, ?_, ?_⟩
  · intro j k a h1 h2
    exact R.inj j k a (at_ j a h1).2 (at_ k a h2).2
  · intro j a h
    exact R.sep j a (at_ j a h).2
  · intro j y e
    by_cases hj : i = j
    · subst hj
      rw [List.getElem?_set_self hi] at e
      cases e
      exact ⟨v, List.getElem?_set_self hs, r⟩
    · rw [List.getElem?_set_ne hj] at e ⊢
      exact R.dat j y e
  · intro j ns e
    by_cases hj : i = j
    · subst hj
      rw [List.getElem?_set_self hi] at e
      cases e
    · rw [List.getElem?_set_ne hj] at e ⊢
      exact R.scr j ns e
  · intro j o io e
    by_cases hj : i = j
    · subst hj
      rw [List.getElem?_set_self hi] at e
      cases e
    · rw [List.getElem?_set_ne hj] at e ⊢
      exact R.own j o io e
  · intro j o a e s
    by_cases hj : i = j
    · subst hj
      rw [List.getElem?_set_self hi] at e
      cases e
    · rw [List.getElem?_set_ne hj] at e s
      exact R.loc j o a e s
  · intro j a e
    have hj : i ≠ j := by
      rintro rfl
      obtain ⟨_, o, q⟩ := R.ino i a e
      exact hn o q
    rw [List.getElem?_set_ne hj, List.getElem?_set_ne hj]
    exact R.ino j a e
  · intro j o e
    by_cases hj : i = j
    · subst hj
      rw [List.getElem?_set_self hi] at e
      cases e
    · rw [List.getElem?_set_ne hj] at e
      exact R.io j o e
/-- a slot is stored with a new object of one's own -/
theorem Rl.hold (R : Rl K Φ Z σ H ρ) {i : Nat} {a : Addr} {o : OD} (hi : i < ρ.length) (hn : ∀ o, ρ[i]? ≠ some (EV.own o true)) (ob : ObAt K Z H a o) (hz : Z a = none) (hf : Φ.Fr a = none) (h0 : Φ.H0 a = none)
    (hna : ∀ i, ¬ AtS ρ σ i a) : Rl K Φ Z (σ.set i (some (V.ref a))) H (ρ.set i (EV.own o false)) := by
  have hs : i < σ.length := R.len ▸ hi
  have at_ : ∀ j b, AtS (ρ.set i (EV.own o false)) (σ.set i (some (V.ref a))) j b → (j = i ∧ b = a) ∨ (j ≠ i ∧ AtS ρ σ j b) := by
    rintro j b ⟨⟨o', io, e⟩, s⟩
    by_cases hj : i = j
    · subst hj
      rw [List.getElem?_set_self hs] at s
      cases s
      exact .inl ⟨rfl, rfl⟩
    · rw [List.getElem?_set_ne hj] at e s
      exact .inr ⟨Ne.symm hj, ⟨o', io, e⟩, s⟩
  refine ⟨by simp [R.len], R.zH, R.zN, R.f0, R.fr, R.dom, ?_, ?_, ?_, ?_, ?_, ?_, ?_, ?_⟩
  · intro j k b h1 h2
    rcases at_ j b h1 with ⟨rfl, rfl⟩ | ⟨h3, h4⟩
    · rcases at_ k b h2 with ⟨rfl, _⟩ | ⟨_, h5⟩
      · rfl
      · exact absurd h5 (hna _)
    · rcases at_ k b h2 with ⟨rfl, rfl⟩ | ⟨_, h5⟩
      · exact absurd h4 (hna _)
      · exact R.inj j k b h4 h5
  · intro j b h
    rcases at_ j b h with ⟨rfl, rfl⟩ | ⟨_, h4⟩
    · exact ⟨hz, hf⟩
    · exact R.sep j b h4
  · intro j y e
    by_cases hj : i = j
    · subst hj
      rw [List.getElem?_set_self hi] at e
      cases e
    · rw [List.getElem?_set_ne hj] at e ⊢
      exact R.dat j y e
  · intro j ns e
    by_cases hj : i = j
    · subst hj
      rw [List.getElem?_set_self hi] at e
      cases e
    · rw [List.getElem?_set_ne hj] at e ⊢
      exact R.scr j ns e
  · intro j o' io e
    by_cases hj : i = j
    · subst hj
      rw [List.getElem?_set_self hi] at e
      cases e
      exact ⟨a, List.getElem?_set_self hs, ob⟩
    · rw [List.getElem?_set_ne hj] at e ⊢
      exact R.own j o' io e
  · intro j o' b e s
    by_cases hj : i = j
    · subst hj
      rw [List.getElem?_set_self hs] at s
      cases s
      exact h0
    · rw [List.getElem?_set_ne hj] at e s
      exact R.loc j o' b e s
  · intro j b e
    have hj : i ≠ j := by
      rintro rfl
      obtain ⟨_, o, q⟩ := R.ino i b e
      exact hn o q
    rw [List.getElem?_set_ne hj, List.getElem?_set_ne hj]
    exact R.ino j b e
  · intro j o' e
    by_cases hj : i = j
    · subst hj
      rw [List.getElem?_set_self hi] at e
      cases e
    · rw [List.getElem?_set_ne hj] at e
      exact R.io j o' e
/-- an own object is read as a datum: it is frozen -/
theorem Rl.read (R : Rl K Φ Z σ H ρ) {i : Nat} {o : OD} (e : ρ[i]? = some (EV.own o false)) : ∃ a Z', σ[i]? = some (some (V.ref a)) ∧ Same Z Z' ∧ Rl K Φ Z' σ H (ρ.set i (EV.d (odD o))) ∧ Rp K Z' (.ref a) (odD o) := by
  obtain ⟨a, s, ob⟩ := R.own i o false e
  obtain ⟨u, hu, _⟩ := ob.some
  have ai : AtS ρ σ i a := ⟨⟨o, false, e⟩, s⟩
  have hz := (R.sep i a ai).1
  have hi : i < ρ.length := (List.getElem?_eq_some_iff.mp e).1
  have hs : i < σ.length := R.len ▸ hi
  have ss : σ.set i (some (V.ref a)) = σ := by
    apply List.ext_getElem?
    intro j
    by_cases hj : i = j
    · subst hj; rw [List.getElem?_set_self hs, s]
    · rw [List.getElem?_set_ne hj]
  -- first forget the slot
  have R1 : Rl K Φ Z σ H (ρ.set i EV.un) := by
    have at_ : ∀ j b, AtS (ρ.set i EV.un) σ j b → j ≠ i ∧ AtS ρ σ j b := by
      rintro j b ⟨⟨o', io, e'⟩, s'⟩
      by_cases hj : i = j
      · subst hj
        rw [List.getElem?_set_self hi] at e'
        cases e'
      · rw [List.getElem?_set_ne hj] at e'
        exact ⟨Ne.symm hj, ⟨o', io, e'⟩, s'⟩
    refine ⟨by simp [R.len], R.zH, R.zN, R.f0, R.fr, R.dom, fun j k b h1 h2 => R.inj j k b (at_ j b h1).2 (at_ k b h2).2, fun j b h => R.sep j b (at_ j b h).2, ?_, ?_, ?_, ?_, ?_, ?_⟩
    · intro j y q
      by_cases hj : i = j
      · subst hj; rw [List.getElem?_set_self hi] at q; cases q
      · rw [List.getElem?_set_ne hj] at q; exact R.dat j y q
    · intro j ns q
      by_cases hj : i = j
      · subst hj; rw [List.getElem?_set_self hi] at q; cases q
      · rw [List.getElem?_set_ne hj] at q; exact R.scr j ns q
    · intro j o' io q
      by_cases hj : i = j
      · subst hj; rw [List.getElem?_set_self hi] at q; cases q
      · rw [List.getElem?_set_ne hj] at q; exact R.own j o' io q
    · intro j o' b q s'
      by_cases hj : i = j
      · subst hj; rw [List.getElem?_set_self hi] at q; cases q
      · rw [List.getElem?_set_ne hj] at q; exact R.loc j o' b q s'
    · intro j b q
      obtain ⟨q1, o', q2⟩ := R.ino j b q
      have hj : i ≠ j := by
        rintro rfl
        rw [e] at q2
        cases q2
      rw [List.getElem?_set_ne hj]
      exact ⟨q1, o', q2⟩
    · intro j o' q
      by_cases hj : i = j
      · subst hj; rw [List.getElem?_set_self hi] at q; cases q
      · rw [List.getElem?_set_ne hj] at q; exact R.io j o' q
  have hna : ∀ j, ¬ AtS (ρ.set i EV.un) σ j a := by
    rintro j ⟨⟨o', io, e'⟩, s'⟩
    by_cases hj : i = j
    · subst hj
      rw [List.getElem?_set_self hi] at e'
      cases e'
    · rw [List.getElem?_set_ne hj] at e'
      exact hj (R.inj i j a ai ⟨⟨o', io, e'⟩, s'⟩)
  obtain ⟨zs, R2⟩ := R1.freeze hu hz (R.loc i o a e s) (R.sep i a ai).2 hna
  have rp : Rp K (upd Z a u) (.ref a) (odD o) := (ob.move zs rfl).rp R2.zH (by rw [upd_same, hu])
  have R3 := R2.store (i := i) (by simpa using hi) (fun o' q => by rw [List.getElem?_set_self hi] at q; cases q) rp
  rw [ss, List.set_set] at R3
  exact ⟨a, _, s, zs, R3, rp⟩
/-- an own object is changed -/
theorem Rl.mutate (R : Rl K Φ Z σ H ρ) {i : Nat} {o o' : OD} {io : Bool} {a : Addr} {u : HO} (e : ρ[i]? = some (EV.own o io)) (s : σ[i]? = some (some (V.ref a))) (ob : ObAt K Z (upd H a u) a o') : Rl K Φ Z σ (upd H a u) (ρ.set i (EV.own o' io)) := by
  have hi : i < ρ.length := (List.getElem?_eq_some_iff.mp e).1
  have ai : AtS ρ σ i a := ⟨⟨o, io, e⟩, s⟩
  obtain ⟨hz, hf⟩ := R.sep i a ai
  obtain ⟨w, hw, _⟩ := R.at_some ai
  have at_ : ∀ j b, AtS (ρ.set i (EV.own o' io)) σ j b → AtS ρ σ j b := by
    rintro j b ⟨⟨o2, io2, e2⟩, s2⟩
    by_cases hj : i = j
    · subst hj
      exact ⟨⟨o, io, e⟩, s2⟩
    · rw [List.getElem?_set_ne hj] at e2
      exact ⟨⟨o2, io2, e2⟩, s2⟩
  refine ⟨by simp [R.len], ?_, R.zN, R.f0, ?_, ?_, fun j k b h1 h2 => R.inj j k b (at_ j b h1) (at_ k b h2), fun j b h => R.sep j b (at_ j b h), ?_, ?_, ?_, ?_, ?_, ?_⟩
  · intro b v q
    rw [upd_ne (ne_of_none q hz)]
    exact R.zH b v q
  · intro b v q
    rw [upd_ne (ne_of_none q hf)]
    exact R.fr b v q
  · intro b q
    by_cases hb : b = a
    · subst hb; rw [upd_same] at q; cases q
    · rw [upd_ne hb] at q; exact R.dom b q
  · intro j y q
    by_cases hj : i = j
    · subst hj; rw [List.getElem?_set_self hi] at q; cases q
    · rw [List.getElem?_set_ne hj] at q; exact R.dat j y q
  · intro j ns q
    by_cases hj : i = j
    · subst hj; rw [List.getElem?_set_self hi] at q; cases q
    · rw [List.getElem?_set_ne hj] at q; exact R.scr j ns q
  · intro j o2 io2 q
    by_cases hj : i = j
    · subst hj
      rw [List.getElem?_set_self hi] at q
      cases q
      exact ⟨a, s, ob⟩
    · rw [List.getElem?_set_ne hj] at q
      obtain ⟨b, sb, ob2⟩ := R.own j o2 io2 q
      have hb : b ≠ a := by
        rintro rfl
        exact hj (R.inj i j b ai ⟨⟨o2, io2, q⟩, sb⟩)
      exact ⟨b, sb, ob2.move (Same.refl Z) (upd_ne hb)⟩
  · intro j o2 b q s2
    by_cases hj : i = j
    · subst hj
      rw [List.getElem?_set_self hi] at q
      cases q
      exact R.loc i o b e s2
    · rw [List.getElem?_set_ne hj] at q
      exact R.loc j o2 b q s2
  · intro j b q
    obtain ⟨q1, o2, q2⟩ := R.ino j b q
    refine ⟨q1, ?_⟩
    by_cases hj : i = j
    · subst hj
      rw [e] at q2
      cases q2
      exact ⟨o', List.getElem?_set_self hi⟩
    · rw [List.getElem?_set_ne hj]
      exact ⟨o2, q2⟩
  · intro j o2 q
    by_cases hj : i = j
    · subst hj
      rw [List.getElem?_set_self hi] at q
      cases q
      exact R.io i o e
    · rw [List.getElem?_set_ne hj] at q
      exact R.io j o2 q
end
end DL
set_option maxRecDepth 100000
set_option maxHeartbeats 2000000
/-! DL, expressions: what the hand layer's readings ask, met by functions of data. -/
namespace DL
open PySem L2

abbrev XE := Nv → Option (PyData × Nv)
abbrev XT := Nv → Option (Bool × Nv)
abbrev XB := Nv → Option PyData
/-- an argument: a datum, or the object (the script) that slot i holds -/
inductive AV where
  | v (d : PyData)
  | s (i : Nat)
abbrev XA := Nv → Option (List AV × Nv)

/-- a value that is looked at for a moment: frozen, or an own object whose parts are frozen -/
def Rb (K : PySem.W.Frag) (Z H : Hp) (v : V) (d : PyData) : Prop :=
  Rp K Z v d ∨ ∃ a o, v = .ref a ∧ ObAt K Z H a o ∧ d = odD o
inductive AvA (K : PySem.W.Frag) (Z : Hp) (σ : St) : List V → List AV → Prop
  | nil : AvA K Z σ [] []
  | v {x : V} {xs : List V} {d : PyData} {as : List AV} : Rp K Z x d → AvA K Z σ xs as → AvA K Z σ (x :: xs) (.v d :: as)
  | s {x : V} {xs : List V} {i : Nat} {as : List AV} : σ[i]? = some (some x) → AvA K Z σ xs as → AvA K Z σ (x :: xs) (.s i :: as)
theorem AvA.mono {K : PySem.W.Frag} {Z Z' : Hp} {σ : St} (z : Same Z Z') : ∀ {xs : List V} {as : List AV}, AvA K Z σ xs as → AvA K Z' σ xs as
  | _, _, .nil => .nil
  | _, _, .v r t => .v (r.mono z) (AvA.mono z t)
  | _, _, .s r t => .s r (AvA.mono z t)

/-- the reading t meets the function f -/
def ME (K : PySem.W.Frag) (t : TE) (f : XE) : Prop := ∀ (Φ : Fx) (Z : Hp) (σ : St) (H : Hp) (ρ : Nv) (d : PyData) (ρ' : Nv), Rl K Φ Z σ H ρ → f ρ = some (d, ρ') →
  ∀ Q : VK, (∀ v H' Z', Same Z Z' → Rl K Φ Z' σ H' ρ' → Rp K Z' v d → Q v H') → t σ H Q
/-- .. with a value for a moment -/
def MO (K : PySem.W.Frag) (t : TE) (f : XE) : Prop := ∀ (Φ : Fx) (Z : Hp) (σ : St) (H : Hp) (ρ : Nv) (d : PyData) (ρ' : Nv), Rl K Φ Z σ H ρ → f ρ = some (d, ρ') →
  ∀ Q : VK, (∀ v H' Z', Same Z Z' → Rl K Φ Z' σ H' ρ' → Rb K Z' H' v d → Q v H') → t σ H Q
/-- .. nothing changes -/
def MB (K : PySem.W.Frag) (t : TE) (f : XB) : Prop := ∀ (Φ : Fx) (Z : Hp) (σ : St) (H : Hp) (ρ : Nv) (d : PyData), Rl K Φ Z σ H ρ → f ρ = some d →
  ∀ Q : VK, (∀ v, Rb K Z H v d → Q v H) → t σ H Q
def MT (K : PySem.W.Frag) (t : TT) (f : XT) : Prop := ∀ (Φ : Fx) (Z : Hp) (σ : St) (H : Hp) (ρ : Nv) (d : Bool) (ρ' : Nv), Rl K Φ Z σ H ρ → f ρ = some (d, ρ') →
  ∀ Q : Bool → Hp → Prop, (∀ H' Z', Same Z Z' → Rl K Φ Z' σ H' ρ' → Q d H') → t σ H Q
def MA (K : PySem.W.Frag) (t : TA) (f : XA) : Prop := ∀ (Φ : Fx) (Z : Hp) (σ : St) (H : Hp) (ρ : Nv) (as : List AV) (ρ' : Nv), Rl K Φ Z σ H ρ → f ρ = some (as, ρ') →
  ∀ Q : List V → Hp → Prop, (∀ vs H' Z', Same Z Z' → Rl K Φ Z' σ H' ρ' → AvA K Z' σ vs as → Q vs H') → t σ H Q

def ED (X : Cx) (e : Expr) (f : XE) : Prop := ∃ t, PE X e t ∧ ME X.K t f
def OD' (X : Cx) (e : Expr) (f : XE) : Prop := ∃ t, PE X e t ∧ MO X.K t f
def BD (X : Cx) (e : Expr) (f : XB) : Prop := ∃ t, PE X e t ∧ MB X.K t f
def TD (X : Cx) (e : Expr) (f : XT) : Prop := ∃ t, PT X e t ∧ MT X.K t f
def WD (X : Cx) (e : Expr) (f : XT) : Prop := ∃ t, PW X e t ∧ MT X.K t f
def AD (X : Cx) (es : List Expr) (f : XA) : Prop := ∃ t, PA X es t ∧ MA X.K t f

/-- a pure function as one that hands on the environment -/
def xB (f : XB) : XE := fun ρ => (f ρ).map fun d => (d, ρ)

section
variable {X : Cx} {e : Expr} {f : XE} {g : XB}
theorem ED.od (h : ED X e f) : OD' X e f := by
  obtain ⟨t, p, m⟩ := h
  exact ⟨t, p, fun Φ Z σ H ρ d ρ' R q Q k => m Φ Z σ H ρ d ρ' R q Q fun v H' Z' z R' r => k v H' Z' z R' (.inl r)⟩
theorem BD.od (h : BD X e g) : OD' X e (xB g) := by
  obtain ⟨t, p, m⟩ := h
  refine ⟨t, p, fun Φ Z σ H ρ d ρ' R q Q k => ?_⟩
  unfold xB at q
  cases hg : g ρ with
  | none => rw [hg] at q; cases q
  | some d' =>
    rw [hg] at q
    cases q
    exact m Φ Z σ H ρ d R hg Q fun v r => k v H Z (Same.refl Z) R r
end

/-! ### names and constants -/
def bVar (i : Nat) : XB := fun ρ => match ρ[i]? with
  | some (.d x) => some x
  | some (.own o _) => some (odD o)
  | _ => none
def xVar (i : Nat) : XE := fun ρ => match ρ[i]? with
  | some (.d x) => some (x, ρ)
  | some (.own o false) => some (odD o, ρ.set i (.d (odD o)))
  | _ => none
def xC (d : PyData) : XE := fun ρ => some (d, ρ)
def bC (d : PyData) : XB := fun _ => some d
section
variable {X : Cx} {pos : Pos}
theorem bd_var (i : Nat) {x : Str} (hN : X.N[i]? = some x := by rfl) (hv : Vis X.env.scope x := by first | exact Or.inl rfl | exact Or.inr (Or.inl rfl) | exact Or.inr (Or.inr rfl)) (hd : (x == ("__debug__" : Str)) = false := by decide)
    (hcd : (x == ("__classdict__" : Str)) = false := by decide) : BD X (.Name x pos) (bVar i) := by
  refine ⟨tVar i, pe_var hN hv hd hcd, fun Φ Z σ H ρ d R q Q k => ?_⟩
  unfold bVar at q
  split at q
  · rename_i x' e
    cases q
    obtain ⟨v, s, r⟩ := R.dat _ _ e
    exact ⟨v, s, k v (.inl r)⟩
  · rename_i o io e
    cases q
    obtain ⟨a, s, ob⟩ := R.own _ _ _ e
    exact ⟨_, s, k _ (.inr ⟨a, o, rfl, ob, rfl⟩)⟩
  · cases q
theorem ed_var (i : Nat) {x : Str} (hN : X.N[i]? = some x := by rfl) (hv : Vis X.env.scope x := by first | exact Or.inl rfl | exact Or.inr (Or.inl rfl) | exact Or.inr (Or.inr rfl)) (hd : (x == ("__debug__" : Str)) = false := by decide)
    (hcd : (x == ("__classdict__" : Str)) = false := by decide) : ED X (.Name x pos) (xVar i) := by
  refine ⟨tVar i, pe_var hN hv hd hcd, fun Φ Z σ H ρ d ρ' R q Q k => ?_⟩
  unfold xVar at q
  split at q
  · rename_i x' e
    cases q
    obtain ⟨v, s, r⟩ := R.dat _ _ e
    exact ⟨v, s, k v H Z (Same.refl Z) R r⟩
  · rename_i o e
    cases q
    obtain ⟨a, Z', s, z, R', r⟩ := R.read e
    exact ⟨_, s, k _ H Z' z R' r⟩
  · cases q
theorem ed_c {e : Expr} {v : V} {d : PyData} (h : PE X e (tC v)) (r : ∀ Z : Hp, Rp X.K Z v d) : ED X e (xC d) :=
  ⟨tC v, h, fun Φ Z σ H ρ d' ρ' R q Q k => by
    cases q
    exact k v H Z (Same.refl Z) R (r Z)⟩
theorem bd_c {e : Expr} {v : V} {d : PyData} (h : PE X e (tC v)) (r : ∀ Z : Hp, Rp X.K Z v d) : BD X e (bC d) :=
  ⟨tC v, h, fun Φ Z σ H ρ d' R q Q k => by
    cases q
    exact k v (.inl (r Z))⟩
theorem ed_int {i : Int} {j} : ED X (.Constant (.int i) j pos) (xC (.int i)) := ed_c pe_int fun _ => .int i
theorem ed_bl {b : Bool} {j} : ED X (.Constant (.bool b) j pos) (xC (.bool b)) := ed_c pe_bl fun _ => .bl b
theorem ed_non {j} : ED X (.Constant .none j pos) (xC .none) := ed_c pe_non fun _ => .non
theorem ed_str {x : Str} {j} : ED X (.Constant (.str x) j pos) (xC (.str x)) := ed_c pe_str fun _ => .str x
theorem bd_int {i : Int} {j} : BD X (.Constant (.int i) j pos) (bC (.int i)) := bd_c pe_int fun _ => .int i
theorem bd_bl {b : Bool} {j} : BD X (.Constant (.bool b) j pos) (bC (.bool b)) := bd_c pe_bl fun _ => .bl b
theorem bd_non {j} : BD X (.Constant .none j pos) (bC .none) := bd_c pe_non fun _ => .non
theorem bd_str {x : Str} {j} : BD X (.Constant (.str x) j pos) (bC (.str x)) := bd_c pe_str fun _ => .str x
/-- a constant of the module -/
theorem ed_glob {x : Str} {v : V} {d : PyData} (h : ∃ u, X.mg x = some u ∧ RelV v u) (r : ∀ Z : Hp, Rp X.K Z v d) (hg : Gl X x := by rfl) (hd : (x == ("__debug__" : Str)) = false := by decide) : ED X (.Name x pos) (xC d) := by
  obtain ⟨u, hm, hu⟩ := h
  exact ed_c (pe_glob hg hm hu hd) r
theorem bd_glob {x : Str} {v : V} {d : PyData} (h : ∃ u, X.mg x = some u ∧ RelV v u) (r : ∀ Z : Hp, Rp X.K Z v d) (hg : Gl X x := by rfl) (hd : (x == ("__debug__" : Str)) = false := by decide) : BD X (.Name x pos) (bC d) := by
  obtain ⟨u, hm, hu⟩ := h
  exact bd_c (pe_glob hg hm hu hd) r
end

/-! ### what a momentary value is -/
section
variable {K : PySem.W.Frag} {Z H : Hp} {v : V}
theorem Rb.int {i : Int} (h : Rb K Z H v (.int i)) : v = .int i := by
  rcases h with h | ⟨a, o, _, _, e⟩
  · cases h; rfl
  · cases o <;> cases e
theorem Rb.bl {i : Bool} (h : Rb K Z H v (.bool i)) : v = .bl i := by
  rcases h with h | ⟨a, o, _, _, e⟩
  · cases h; rfl
  · cases o <;> cases e
theorem Rb.str {i : Str} (h : Rb K Z H v (.str i)) : v = .str i := by
  rcases h with h | ⟨a, o, _, _, e⟩
  · cases h; rfl
  · cases o <;> cases e
theorem Rb.non (h : Rb K Z H v .none) : v = .non := by
  rcases h with h | ⟨a, o, _, _, e⟩
  · cases h; rfl
  · cases o <;> cases e
theorem Rb.lst {ds : List PyData} (zH : Same Z H) (h : Rb K Z H v (.list ds)) : ∃ a xs, v = .ref a ∧ H a = some (.lst xs) ∧ RpA K Z xs ds := by
  rcases h with h | ⟨a, o, e1, ob, e⟩
  · cases h with
    | lst h r => exact ⟨_, _, rfl, zH _ _ h, r⟩
  · cases o with
    | ol xs =>
      cases e
      obtain ⟨vs, q, r⟩ := ob
      exact ⟨a, vs, e1, q, r⟩
    | od _ => cases e
    | ot _ => cases e
theorem Rb.tup {ds : List PyData} (zH : Same Z H) (h : Rb K Z H v (.tuple ds)) : ∃ a xs, v = .ref a ∧ SqT K H a xs ∧ RpA K Z xs ds := by
  rcases h with h | ⟨a, o, e1, ob, e⟩
  · cases h with
    | tup h r => exact ⟨_, _, rfl, SqT.of (zH _ _ h), r⟩
    | tuk h _ r => exact ⟨_, _, rfl, sqT_mono zH h, r⟩
  · cases o <;> cases e
theorem Rb.dict {ds : List (PyData × PyData)} (zH : Same Z H) (h : Rb K Z H v (.dict ds)) : ∃ a, v = .ref a ∧ ((∃ kvs, H a = some (.dK kvs)) ∨ ∃ kvs, H a = some (.dT kvs)) := by
  rcases h with h | ⟨a, o, e1, ob, e⟩
  · cases h with
    | dic h r => exact ⟨_, rfl, .inl ⟨_, zH _ _ h⟩⟩
    | dit h r => exact ⟨_, rfl, .inr ⟨_, zH _ _ h⟩⟩
  · cases o with
    | ol xs => cases e
    | od _ => obtain ⟨vs, q, _⟩ := ob; exact ⟨a, e1, .inl ⟨_, q⟩⟩
    | ot _ => obtain ⟨vs, q, _⟩ := ob; exact ⟨a, e1, .inr ⟨_, q⟩⟩
/-- as seen in the whole heap -/
theorem Rb.rp {d : PyData} (zH : Same Z H) (h : Rb K Z H v d) : Rp K H v d := by
  rcases h with h | ⟨a, o, rfl, ob, rfl⟩
  · exact h.mono zH
  · exact (ob.move zH rfl).rp (Same.refl H) rfl
end

/-! ### operations on two values -/
def R2M (K : PySem.W.Frag) (r : R2) (g : PyData → PyData → Option PyData) : Prop := ∀ (Φ : Fx) (Z : Hp) (σ : St) (H : Hp) (ρ : Nv) (x y : V) (d1 d2 z : PyData), Rl K Φ Z σ H ρ → Rb K Z H x d1 → Rb K Z H y d2 → g d1 d2 = some z →
  ∀ Q : VK, (∀ v H' Z', Same Z Z' → Rl K Φ Z' σ H' ρ → Rp K Z' v z → Q v H') → r x y H Q
def x2 (g : PyData → PyData → Option PyData) (a b : XE) : XE := fun ρ => (a ρ).bind fun p => (b p.2).bind fun q => (g p.1 q.1).map fun z => (z, q.2)
def b2 (g : PyData → PyData → Option PyData) (a b : XB) : XB := fun ρ => (a ρ).bind fun p => (b ρ).bind fun q => g p q
theorem R2M.or {K : PySem.W.Frag} {r r' : R2} {g g' : PyData → PyData → Option PyData} (h : R2M K r g) (h' : R2M K r' g') : R2M K (fun x y H Q => r x y H Q ∨ r' x y H Q) (fun x y => (g x y).or (g' x y)) := by
  intro Φ Z σ H ρ x y d1 d2 z R rx ry e Q k
  replace e : (g d1 d2).or (g' d1 d2) = some z := e
  cases hg : g d1 d2 with
  | some z' =>
    rw [hg] at e
    cases e
    exact .inl (h Φ Z σ H ρ x y d1 d2 z R rx ry hg Q k)
  | none =>
    rw [hg] at e
    exact .inr (h' Φ Z σ H ρ x y d1 d2 z R rx ry e Q k)
theorem me_op {K : PySem.W.Frag} {r : R2} {g : PyData → PyData → Option PyData} {ta tb : TE} {a b : XE} (hr : R2M K r g) (ha : ME K ta a) (hb : MO K tb b) : ME K (tOp r ta tb) (x2 g a b) := by
  intro Φ Z σ H ρ d ρ' R q Q k
  unfold x2 at q
  cases e1 : a ρ with
  | none => rw [e1] at q; cases q
  | some p =>
    rw [e1] at q
    cases e2 : b p.2 with
    | none => rw [Option.bind_some, e2] at q; cases q
    | some s =>
      rw [Option.bind_some, e2, Option.bind_some] at q
      cases e3 : g p.1 s.1 with
      | none => rw [e3] at q; cases q
      | some z =>
        rw [e3] at q
        cases q
        refine ha Φ Z σ H ρ p.1 p.2 R e1 _ fun x H1 Z1 z1 R1 r1 => ?_
        refine hb Φ Z1 σ H1 p.2 s.1 s.2 R1 e2 _ fun y H2 Z2 z2 R2 r2 => ?_
        exact hr Φ Z2 σ H2 s.2 x y p.1 s.1 _ R2 (.inl (r1.mono z2)) r2 e3 Q fun v H' Z' z' R' r' => k v H' Z' ((z1.trans z2).trans z') R' r'
/-- both for a moment -/
theorem me_opB {K : PySem.W.Frag} {r : R2} {g : PyData → PyData → Option PyData} {ta tb : TE} {a b : XB} (hr : R2M K r g) (ha : MB K ta a) (hb : MB K tb b) : ME K (tOp r ta tb) (x2 g (xB a) (xB b)) := by
  intro Φ Z σ H ρ d ρ' R q Q k
  unfold x2 xB at q
  cases e1 : a ρ with
  | none => rw [e1] at q; cases q
  | some p =>
    rw [e1] at q
    cases e2 : b ρ with
    | none => rw [Option.map_some, Option.bind_some, e2] at q; cases q
    | some s =>
      rw [Option.map_some, Option.bind_some, e2, Option.map_some, Option.bind_some] at q
      cases e3 : g p s with
      | none => rw [e3] at q; cases q
      | some z =>
        rw [e3] at q
        cases q
        refine ha Φ Z σ H ρ p R e1 _ fun x r1 => ?_
        refine hb Φ Z σ H ρ s R e2 _ fun y r2 => ?_
        exact hr Φ Z σ H ρ x y p s _ R r1 r2 e3 Q k
section
variable {X : Cx} {a b : Expr} {fa fb : XE} {ga gb : XB} {g : PyData → PyData → Option PyData} {r : R2} {pos : Pos}
theorem ed_bin {op : Operator} (ho : OpR X (binaryOp op) r) (hr : R2M X.K r g) (ha : ED X a fa) (hb : OD' X b fb) : ED X (.BinOp a op b pos) (x2 g fa fb) := by
  obtain ⟨ta, pa, ma⟩ := ha
  obtain ⟨tb, pb, mb⟩ := hb
  exact ⟨_, pe_op ho pa pb, me_op hr ma mb⟩
theorem ed_binB {op : Operator} (ho : OpR X (binaryOp op) r) (hr : R2M X.K r g) (ha : BD X a ga) (hb : BD X b gb) : ED X (.BinOp a op b pos) (x2 g (xB ga) (xB gb)) := by
  obtain ⟨ta, pa, ma⟩ := ha
  obtain ⟨tb, pb, mb⟩ := hb
  exact ⟨_, pe_op ho pa pb, me_opB hr ma mb⟩
theorem ed_cmp {op : CmpOp} (ho : OpR X (compareOp op) r) (hr : R2M X.K r g) (ha : ED X a fa) (hb : OD' X b fb) (hm : behindInMarks op b = false := by first | rfl | exact nobehind _ (by decide) (by decide)) : ED X (.Compare a [op] [b] pos) (x2 g fa fb) := by
  obtain ⟨ta, pa, ma⟩ := ha
  obtain ⟨tb, pb, mb⟩ := hb
  exact ⟨_, pe_cmpR ho pa pb hm, me_op hr ma mb⟩
theorem ed_cmpB {op : CmpOp} (ho : OpR X (compareOp op) r) (hr : R2M X.K r g) (ha : BD X a ga) (hb : BD X b gb) (hm : behindInMarks op b = false := by first | rfl | exact nobehind _ (by decide) (by decide)) : ED X (.Compare a [op] [b] pos) (x2 g (xB ga) (xB gb)) := by
  obtain ⟨ta, pa, ma⟩ := ha
  obtain ⟨tb, pb, mb⟩ := hb
  exact ⟨_, pe_cmpR ho pa pb hm, me_opB hr ma mb⟩
/-- a bool's expression as a test -/
def tst (f : XE) : XT := fun ρ => (f ρ).bind fun p => match p.1 with
  | .bool b => some (b, p.2)
  | _ => none
theorem mt_tst {K : PySem.W.Frag} {t : TE} {f : XE} (h : ME K t f) : MT K (tTest t) (tst f) := by
  intro Φ Z σ H ρ d ρ' R q Q k
  unfold tst at q
  cases e1 : f ρ with
  | none => rw [e1] at q; cases q
  | some p =>
    rw [e1, Option.bind_some] at q
    split at q
    · rename_i b' e
      cases q
      refine h Φ Z σ H ρ p.1 p.2 R e1 _ fun v H1 Z1 z1 R1 r1 => ?_
      rw [e] at r1
      cases r1
      exact ⟨_, rfl, k H1 Z1 z1 R1⟩
    · cases q
theorem td_cmp {op : CmpOp} (ho : OpR X (compareOp op) r) (hr : R2M X.K r g) (ha : ED X a fa) (hb : OD' X b fb) (hm : behindInMarks op b = false := by first | rfl | exact nobehind _ (by decide) (by decide)) : TD X (.Compare a [op] [b] pos) (tst (x2 g fa fb)) := by
  obtain ⟨ta, pa, ma⟩ := ha
  obtain ⟨tb, pb, mb⟩ := hb
  exact ⟨_, pt_cmpR ho pa pb hm, mt_tst (me_op hr ma mb)⟩
theorem td_cmpB {op : CmpOp} (ho : OpR X (compareOp op) r) (hr : R2M X.K r g) (ha : BD X a ga) (hb : BD X b gb) (hm : behindInMarks op b = false := by first | rfl | exact nobehind _ (by decide) (by decide)) : TD X (.Compare a [op] [b] pos) (tst (x2 g (xB ga) (xB gb))) := by
  obtain ⟨ta, pa, ma⟩ := ha
  obtain ⟨tb, pb, mb⟩ := hb
  exact ⟨_, pt_cmpR ho pa pb hm, mt_tst (me_opB hr ma mb)⟩
end
end DL
set_option maxRecDepth 100000
set_option maxHeartbeats 2000000
/-! DL, operators -/
namespace DL
open PySem L2

/-! ### + - * // % ** -/
def addD : PyData → PyData → Option PyData
  | .int i, .int j => some (.int (i + j))
  | .bool b, .int j => some (.int ((if b = true then (1 : Int) else 0) + j))
  | .int i, .bool b => some (.int (i + if b = true then (1 : Int) else 0))
  | .str x, .str y => if x.length + y.length ≤ sizeLine then some (.str (x ++ y)) else none
  | .list x, .list y => if x.length + y.length ≤ sizeLine then some (.list (x ++ y)) else none
  | .tuple x, .tuple y => if x.length + y.length ≤ sizeLine then some (.tuple (x ++ y)) else none
  | _, _ => none
def subD : PyData → PyData → Option PyData
  | .int i, .int j => some (.int (i - j))
  | .bool b, .int j => some (.int ((if b = true then (1 : Int) else 0) - j))
  | .int i, .bool b => some (.int (i - if b = true then (1 : Int) else 0))
  | _, _ => none
def mulD : PyData → PyData → Option PyData
  | .int i, .int j => if i.natAbs.log2 + j.natAbs.log2 < 1000000 then some (.int (i * j)) else none
  | .list l, .int k => if -(2 ^ 63) ≤ k ∧ k < 2 ^ 63 ∧ l.length * k.toNat ≤ sizeLine then some (.list (List.replicate k.toNat l).flatten) else none
  | .tuple l, .int k => if l.length ≠ 0 ∧ 2 ≤ k ∧ k ≤ 1000 ∧ l.length ≤ 1000 then some (.tuple (List.replicate k.toNat l).flatten) else none
  | _, _ => none
def fdivD : PyData → PyData → Option PyData
  | .int i, .int j => if 0 < j ∧ j.natAbs.log2 < 9000 then some (.int (i / j)) else if j ≠ 0 ∧ j.natAbs < 1073741824 then some (.int (i.fdiv j)) else none
  | _, _ => none
def modD : PyData → PyData → Option PyData
  | .int i, .int j => if 0 < j then some (.int (i % j)) else if j ≠ 0 then some (.int (i.fmod j)) else none
  | _, _ => none
def powD : PyData → PyData → Option PyData
  | .int i, .int j => if 0 ≤ j ∧ j ≤ 1000000 ∧ i.natAbs < 2 ^ 64 then some (.int (i ^ j.toNat)) else none
  | _, _ => none

theorem addD_shape {x y z : PyData} (h : addD x y = some z) : (∃ i j, x = .int i ∧ y = .int j ∧ z = .int (i + j)) ∨ (∃ i j, x = .str i ∧ y = .str j ∧ i.length + j.length ≤ sizeLine ∧ z = .str (i ++ j)) ∨
    (∃ i j, x = .list i ∧ y = .list j ∧ i.length + j.length ≤ sizeLine ∧ z = .list (i ++ j)) ∨ (∃ i j, x = .tuple i ∧ y = .tuple j ∧ i.length + j.length ≤ sizeLine ∧ z = .tuple (i ++ j)) ∨
    (∃ b j, x = .bool b ∧ y = .int j ∧ z = .int ((if b = true then (1 : Int) else 0) + j)) ∨ ∃ i b, x = .int i ∧ y = .bool b ∧ z = .int (i + if b = true then (1 : Int) else 0) := by
  unfold addD at h
  split at h
  · cases h; exact .inl ⟨_, _, rfl, rfl, rfl⟩
  · cases h; exact .inr (.inr (.inr (.inr (.inl ⟨_, _, rfl, rfl, rfl⟩))))
  · cases h; exact .inr (.inr (.inr (.inr (.inr ⟨_, _, rfl, rfl, rfl⟩))))
  · split at h
    · cases h; exact .inr (.inl ⟨_, _, rfl, rfl, by assumption, rfl⟩)
    · cases h
  · split at h
    · cases h; exact .inr (.inr (.inl ⟨_, _, rfl, rfl, by assumption, rfl⟩))
    · cases h
  · split at h
    · cases h; exact .inr (.inr (.inr (.inl ⟨_, _, rfl, rfl, by assumption, rfl⟩)))
    · cases h
  · cases h

section
variable {K : PySem.W.Frag} {Φ : Fx} {Z : Hp} {σ : St} {H : Hp} {ρ : Nv} {Q : VK} {z : PyData}
/-- a flat answer -/
theorem ends_flat {v : V} (R : Rl K Φ Z σ H ρ) (r : Rp K Z v z) (k : ∀ v H' Z', Same Z Z' → Rl K Φ Z' σ H' ρ → Rp K Z' v z → Q v H') : Q v H := k v H Z (Same.refl Z) R r
/-- a new list, a new tuple -/
theorem ends_lst {vs : List V} {ds : List PyData} (R : Rl K Φ Z σ H ρ) (r : RpA K Z vs ds) (k : ∀ v H' Z', Same Z Z' → Rl K Φ Z' σ H' ρ → Rp K Z' v (.list ds) → Q v H') {p : Addr} (hp : H p = none) : Q (.ref p) (upd H p (.lst vs)) := by
  obtain ⟨z, R'⟩ := R.fresh (o := .lst vs) hp
  exact k _ _ _ z R' (.lst upd_same (r.mono z))
theorem ends_tup {vs : List V} {ds : List PyData} (R : Rl K Φ Z σ H ρ) (r : RpA K Z vs ds) (k : ∀ v H' Z', Same Z Z' → Rl K Φ Z' σ H' ρ → Rp K Z' v (.tuple ds) → Q v H') {p : Addr} (hp : H p = none) : Q (.ref p) (upd H p (.tup vs)) := by
  obtain ⟨z, R'⟩ := R.fresh (o := .tup vs) hp
  exact k _ _ _ z R' (.tup upd_same (r.mono z))
/-- a tuple that is looked at is frozen -/
theorem Rb.tupR {v : V} {ds : List PyData} (h : Rb K Z H v (.tuple ds)) : Rp K Z v (.tuple ds) := by
  rcases h with h | ⟨a, o, e1, ob, e⟩
  · exact h
  · cases o <;> cases e
end
theorem RpA.nil_iff {K : PySem.W.Frag} {Z : Hp} {vs : List V} {ds : List PyData} (r : RpA K Z vs ds) : vs = [] ↔ ds = [] := by
  constructor
  · rintro rfl; cases r; rfl
  · rintro rfl; cases r; rfl

def rBI (g : Int → Int → V) : R2 := fun x y H Q => ∃ b j, x = .bl b ∧ y = .int j ∧ Q (g (if b = true then (1 : Int) else 0) j) H
def rIB (g : Int → Int → V) : R2 := fun x y H Q => ∃ i b, x = .int i ∧ y = .bl b ∧ Q (g i (if b = true then (1 : Int) else 0)) H
theorem op_addBI {X : Cx} : OpR X (binaryOp .Add) (rBI fun i j => .int (i + j)) := by
  intro pins s σ H x y v u Q I rx ry h
  obtain ⟨b, j, rfl, rfl, q⟩ := h
  cases rx
  obtain ⟨t, rfl⟩ := ry
  exact PySem.IntBool.add_bool_int ⟨.int _, H, I.tok _, ⟨_, rfl⟩, q⟩
theorem op_addIB {X : Cx} : OpR X (binaryOp .Add) (rIB fun i j => .int (i + j)) := by
  intro pins s σ H x y v u Q I rx ry h
  obtain ⟨i, b, rfl, rfl, q⟩ := h
  obtain ⟨t, rfl⟩ := rx
  cases ry
  exact PySem.add_int_bool ⟨.int _, H, I.tok _, ⟨_, rfl⟩, q⟩
theorem op_subBI {X : Cx} : OpR X (binaryOp .Sub) (rBI fun i j => .int (i - j)) := by
  intro pins s σ H x y v u Q I rx ry h
  obtain ⟨b, j, rfl, rfl, q⟩ := h
  cases rx
  obtain ⟨t, rfl⟩ := ry
  exact PySem.IntBool.sub_bool_int ⟨.int _, H, I.tok _, ⟨_, rfl⟩, q⟩
theorem op_subIB {X : Cx} : OpR X (binaryOp .Sub) (rIB fun i j => .int (i - j)) := by
  intro pins s σ H x y v u Q I rx ry h
  obtain ⟨i, b, rfl, rfl, q⟩ := h
  obtain ⟨t, rfl⟩ := rx
  cases ry
  exact PySem.IntBool.sub_int_bool ⟨.int _, H, I.tok _, ⟨_, rfl⟩, q⟩
def rAdd (K : PySem.W.Frag) : R2 := fun x y H Q => rI0 (fun i j => .int (i + j)) x y H Q ∨ (∃ i j, x = .str i ∧ y = .str j ∧ i.length + j.length ≤ sizeLine ∧ Q (.str (i ++ j)) H) ∨ rCat x y H Q ∨ rCatA K x y H Q ∨ rBI (fun i j => .int (i + j)) x y H Q ∨ rIB (fun i j => .int (i + j)) x y H Q
theorem op_addD {X : Cx} : OpR X (binaryOp .Add) (rAdd X.K) := op_add.or (op_add_str.or (op_cat.or (op_catA.or (op_addBI.or op_addIB))))
def rSub : R2 := fun x y H Q => rI0 (fun i j => .int (i - j)) x y H Q ∨ rBI (fun i j => .int (i - j)) x y H Q ∨ rIB (fun i j => .int (i - j)) x y H Q
theorem op_subD {X : Cx} : OpR X (binaryOp .Sub) rSub := op_sub.or (op_subBI.or op_subIB)
theorem r2_add {K : PySem.W.Frag} : R2M K (rAdd K) addD := by
  intro Φ Z σ H ρ x y d1 d2 z R rx ry e Q k
  rcases addD_shape e with ⟨i, j, rfl, rfl, rfl⟩ | ⟨i, j, rfl, rfl, hl, rfl⟩ | ⟨i, j, rfl, rfl, hl, rfl⟩ | ⟨i, j, rfl, rfl, hl, rfl⟩ | ⟨b, j, rfl, rfl, rfl⟩ | ⟨i, b, rfl, rfl, rfl⟩
  · exact .inl ⟨i, j, rx.int, ry.int, ends_flat R (.int _) k⟩
  · exact .inr (.inl ⟨i, j, rx.str, ry.str, hl, ends_flat R (.str _) k⟩)
  · obtain ⟨a, xs, e1, h1, r1⟩ := rx.lst R.zH
    obtain ⟨b, ys, e2, h2, r2⟩ := ry.lst R.zH
    exact .inr (.inr (.inl ⟨a, b, xs, ys, e1, e2, h1, h2, by rw [r1.length, r2.length]; exact hl, fun p hp => ends_lst R (r1.append r2) k hp⟩))
  · have q1 := rx.tupR
    have q2 := ry.tupR
    obtain ⟨a, xs, e1, h1, r1⟩ := rx.tup R.zH
    obtain ⟨b, ys, e2, h2, r2⟩ := ry.tup R.zH
    refine .inr (.inr (.inr (.inl ⟨a, b, xs, ys, e1, e2, h1, h2, by rw [r1.length, r2.length]; exact hl, fun h => ?_, fun h h' => ?_, fun _ _ p hp => ends_tup R (r1.append r2) k hp⟩)))
    · have : i = [] := r1.nil_iff.mp h
      subst this
      rw [← e2]
      exact ends_flat R q2 k
    · have : j = [] := r2.nil_iff.mp h'
      subst this
      rw [← e1]
      rw [List.append_nil] at k
      exact ends_flat R q1 k
  · exact .inr (.inr (.inr (.inr (.inl ⟨b, j, rx.bl, ry.int, ends_flat R (.int _) k⟩))))
  · exact .inr (.inr (.inr (.inr (.inr ⟨i, b, rx.int, ry.bl, ends_flat R (.int _) k⟩))))
theorem r2_sub {K : PySem.W.Frag} : R2M K rSub subD := by
  intro Φ Z σ H ρ x y d1 d2 z R rx ry e Q k
  unfold subD at e
  split at e
  · cases e; exact .inl ⟨_, _, rx.int, ry.int, ends_flat R (.int _) k⟩
  · cases e; exact .inr (.inl ⟨_, _, rx.bl, ry.int, ends_flat R (.int _) k⟩)
  · cases e; exact .inr (.inr ⟨_, _, rx.int, ry.bl, ends_flat R (.int _) k⟩)
  · cases e
def rMul (K : PySem.W.Frag) : R2 := fun x y H Q => rI CMulW (fun i j => .int (i * j)) x y H Q ∨ rRep x y H Q ∨ rRepT K x y H Q
theorem op_mulD {X : Cx} : OpR X (binaryOp .Mult) (rMul X.K) := op_mulW.or (op_rep.or op_repT)
theorem RpA.rep {K : PySem.W.Frag} {Z : Hp} {vs : List V} {ds : List PyData} (r : RpA K Z vs ds) : ∀ n : Nat, RpA K Z (List.replicate n vs).flatten (List.replicate n ds).flatten
  | 0 => .nil
  | n + 1 => by
    rw [List.replicate_succ, List.replicate_succ, List.flatten_cons, List.flatten_cons]
    exact r.append (RpA.rep r n)
theorem r2_mul {K : PySem.W.Frag} : R2M K (rMul K) mulD := by
  intro Φ Z σ H ρ x y d1 d2 z R rx ry e Q k
  unfold mulD at e
  split at e
  · split at e
    · cases e; exact .inl ⟨_, _, rx.int, ry.int, by assumption, ends_flat R (.int _) k⟩
    · cases e
  · split at e
    · rename_i h
      cases e
      obtain ⟨a, xs, e1, h1, r1⟩ := rx.lst R.zH
      exact .inr (.inl ⟨a, _, xs, e1, ry.int, h1, h.1, h.2.1, by rw [r1.length]; exact h.2.2, fun p hp => ends_lst R (r1.rep _) k hp⟩)
    · cases e
  · split at e
    · rename_i h
      cases e
      obtain ⟨a, xs, e1, h1, r1⟩ := rx.tup R.zH
      exact .inr (.inr ⟨a, _, xs, e1, ry.int, h1, fun q => h.1 (by rw [← r1.length, q]; rfl), h.2.1, h.2.2.1, by rw [r1.length]; exact h.2.2.2, fun p hp => ends_tup R (r1.rep _) k hp⟩)
    · cases e
  · cases e
def rFdiv : R2 := fun x y H Q => rI CDivW (fun i j => .int (i / j)) x y H Q ∨ rI CDivN (fun i j => .int (i.fdiv j)) x y H Q
theorem op_fdivD {X : Cx} : OpR X (binaryOp .FloorDiv) rFdiv := op_fdivW.or op_fdivN
theorem r2_fdiv {K : PySem.W.Frag} : R2M K rFdiv fdivD := by
  intro Φ Z σ H ρ x y d1 d2 z R rx ry e Q k
  unfold fdivD at e
  split at e
  · split at e
    · cases e; exact .inl ⟨_, _, rx.int, ry.int, by assumption, ends_flat R (.int _) k⟩
    · split at e
      · cases e; exact .inr ⟨_, _, rx.int, ry.int, by assumption, ends_flat R (.int _) k⟩
      · cases e
  · cases e
def rMod : R2 := fun x y H Q => rI (fun _ j => 0 < j) (fun i j => .int (i % j)) x y H Q ∨ rI (fun _ j => j ≠ 0) (fun i j => .int (i.fmod j)) x y H Q
theorem op_modD {X : Cx} : OpR X (binaryOp .Mod) rMod := op_mod.or op_modN
theorem r2_mod {K : PySem.W.Frag} : R2M K rMod modD := by
  intro Φ Z σ H ρ x y d1 d2 z R rx ry e Q k
  unfold modD at e
  split at e
  · split at e
    · cases e; exact .inl ⟨_, _, rx.int, ry.int, by assumption, ends_flat R (.int _) k⟩
    · split at e
      · cases e; exact .inr ⟨_, _, rx.int, ry.int, by assumption, ends_flat R (.int _) k⟩
      · cases e
  · cases e
theorem r2_pow {K : PySem.W.Frag} : R2M K (rI CPow fun i j => .int (i ^ j.toNat)) powD := by
  intro Φ Z σ H ρ x y d1 d2 z R rx ry e Q k
  unfold powD at e
  split at e
  · split at e
    · cases e; exact ⟨_, _, rx.int, ry.int, by assumption, ends_flat R (.int _) k⟩
    · cases e
  · cases e

/-! ### comparisons -/
def ltD : PyData → PyData → Option PyData
  | .int i, .int j => some (.bool (decide (i < j)))
  | .str i, .str j => some (.bool (decide (i.cps.toList < j.cps.toList)))
  | _, _ => none
def leD : PyData → PyData → Option PyData
  | .int i, .int j => some (.bool (decide (i ≤ j)))
  | .str i, .str j => some (.bool (!decide (j.cps.toList < i.cps.toList)))
  | _, _ => none
def gtD : PyData → PyData → Option PyData
  | .int i, .int j => some (.bool (decide (j < i)))
  | _, _ => none
def geD : PyData → PyData → Option PyData
  | .int i, .int j => some (.bool (decide (j ≤ i)))
  | _, _ => none
/-- == of data at any depth -/
def eqD (x y : PyData) : Option PyData := match x, y with
  | .str a, .str b => some (.bool (a == b))
  | x, y => if SeqAt.shaped x && SeqAt.shaped y then some (.bool (PyData.eqv x y)) else none
def neD (x y : PyData) : Option PyData := match x, y with
  | .str a, .str b => some (.bool (!(a == b)))
  | x, y => if SeqAt.shaped x && SeqAt.shaped y then some (.bool (!PyData.eqv x y)) else none
theorem eqD_of {x y : PyData} (hx : SeqAt.shaped x = true) (hy : SeqAt.shaped y = true) : eqD x y = some (.bool (PyData.eqv x y)) := by
  unfold eqD
  split
  · simp [PyData.eqv]
  · rw [hx, hy]; rfl
theorem neD_of {x y : PyData} (hx : SeqAt.shaped x = true) (hy : SeqAt.shaped y = true) : neD x y = some (.bool (!PyData.eqv x y)) := by
  unfold neD
  split
  · simp [PyData.eqv]
  · rw [hx, hy]; rfl
def noneD : PyData → Bool
  | .none => true
  | _ => false
def isNonD (x y : PyData) : Option PyData := match y with
  | .none => some (.bool (noneD x))
  | _ => none
def notNonD (x y : PyData) : Option PyData := match y with
  | .none => some (.bool (!noneD x))
  | _ => none
/-- in: a sign or text in a text; an item (data) in a list, in a tuple of flat items -/
def flatD : PyData → Bool
  | .none | .bool _ | .int _ | .str _ => true
  | _ => false
def inD (x y : PyData) : Option PyData := match x, y with
  | .str i, .str j => some (.bool (!(Builtin.Str.occurrences j i 0 j.length 1).isEmpty))
  | d, .list ds => if SeqAt.shaped d && SeqAt.shaped (.list ds) then some (.bool (ds.any fun z => PyData.eqv z d)) else none
  | d, .tuple ds => if flatD d && ds.all flatD then some (.bool (ds.any fun z => PyData.eqv z d)) else none
  | _, _ => none
def notInD (x y : PyData) : Option PyData := (inD x y).bind fun b => match b with
  | .bool c => some (.bool (!c))
  | _ => none

def rLt : R2 := fun x y H Q => rI0 (fun i j => .bl (decide (i < j))) x y H Q ∨ (∃ i j, x = .str i ∧ y = .str j ∧ Q (.bl (decide (i.cps.toList < j.cps.toList))) H)
theorem op_ltD {X : Cx} : OpR X (compareOp .Lt) rLt := op_lt.or op_lt_str
theorem r2_lt {K : PySem.W.Frag} : R2M K rLt ltD := by
  intro Φ Z σ H ρ x y d1 d2 z R rx ry e Q k
  unfold ltD at e
  split at e
  · cases e; exact .inl ⟨_, _, rx.int, ry.int, ends_flat R (.bl _) k⟩
  · cases e; exact .inr ⟨_, _, rx.str, ry.str, ends_flat R (.bl _) k⟩
  · cases e
theorem r2_gt {K : PySem.W.Frag} : R2M K (rI0 fun i j => .bl (decide (j < i))) gtD := by
  intro Φ Z σ H ρ x y d1 d2 z R rx ry e Q k
  unfold gtD at e
  split at e
  · cases e; exact ⟨_, _, rx.int, ry.int, ends_flat R (.bl _) k⟩
  · cases e
theorem r2_ge {K : PySem.W.Frag} : R2M K (rI0 fun i j => .bl (decide (j ≤ i))) geD := by
  intro Φ Z σ H ρ x y d1 d2 z R rx ry e Q k
  unfold geD at e
  split at e
  · cases e; exact ⟨_, _, rx.int, ry.int, ends_flat R (.bl _) k⟩
  · cases e
theorem noDict_of_shaped {d : PyData} (h : SeqAt.shaped d = true) : d.hasDict = false := PyData.hasDict_of_canLay d (SeqAt.canLay_of_shaped h)
theorem Rb.dp {K : PySem.W.Frag} {Z H : Hp} {v : V} {d : PyData} (zH : Same Z H) (h : Rb K Z H v d) (s : SeqAt.shaped d = true) : Dp K H v d := (h.rp zH).toDp (noDict_of_shaped s)
def rEqX (K : PySem.W.Frag) : R2 := fun x y H Q => (∃ a b, x = .str a ∧ y = .str b ∧ Q (.bl (a == b)) H) ∨ rEqD K x y H Q
def rNeX (K : PySem.W.Frag) : R2 := fun x y H Q => (∃ a b, x = .str a ∧ y = .str b ∧ Q (.bl (!(a == b))) H) ∨ rNeD K x y H Q
theorem op_eqSt {X : Cx} : OpR X (compareOp .Eq) (fun x y H Q => ∃ a b, x = .str a ∧ y = .str b ∧ Q (.bl (a == b)) H) := by
  intro pins s σ H x y v u Q I rx ry h
  obtain ⟨a, b, rfl, rfl, q⟩ := h
  obtain ⟨t, rfl⟩ := rx
  obtain ⟨t', rfl⟩ := ry
  exact PyProof.Rows.eq_str ⟨.bl (a == b), H, I, rfl, q⟩
theorem op_neSt {X : Cx} : OpR X (compareOp .NotEq) (fun x y H Q => ∃ a b, x = .str a ∧ y = .str b ∧ Q (.bl (!(a == b))) H) := by
  intro pins s σ H x y v u Q I rx ry h
  obtain ⟨a, b, rfl, rfl, q⟩ := h
  obtain ⟨t, rfl⟩ := rx
  obtain ⟨t', rfl⟩ := ry
  exact PyProof.Rows.ne_str ⟨.bl (!(a == b)), H, I, rfl, q⟩
theorem op_eqX {X : Cx} (hu : X.A.units + 64 < cLine) : OpR X (compareOp .Eq) (rEqX X.K) := op_eqSt.or (op_eqD hu)
theorem op_neX {X : Cx} (hu : X.A.units + 64 < cLine) : OpR X (compareOp .NotEq) (rNeX X.K) := op_neSt.or (op_neD hu)
theorem r2_eq {K : PySem.W.Frag} : R2M K (rEqX K) eqD := by
  intro Φ Z σ H ρ x y d1 d2 z R rx ry e Q k
  unfold eqD at e
  split at e
  · cases e
    exact .inl ⟨_, _, rx.str, ry.str, ends_flat R (.bl _) k⟩
  · split at e
    · rename_i h
      rw [Bool.and_eq_true] at h
      cases e; exact .inr ⟨_, _, rx.dp R.zH h.1, ry.dp R.zH h.2, h.1, h.2, ends_flat R (.bl _) k⟩
    · cases e
theorem r2_ne {K : PySem.W.Frag} : R2M K (rNeX K) neD := by
  intro Φ Z σ H ρ x y d1 d2 z R rx ry e Q k
  unfold neD at e
  split at e
  · cases e
    exact .inl ⟨_, _, rx.str, ry.str, ends_flat R (.bl _) k⟩
  · split at e
    · rename_i h
      rw [Bool.and_eq_true] at h
      cases e; exact .inr ⟨_, _, rx.dp R.zH h.1, ry.dp R.zH h.2, h.1, h.2, ends_flat R (.bl _) k⟩
    · cases e
theorem rb_none {K : PySem.W.Frag} {Z H : Hp} {v : V} {d : PyData} (h : Rb K Z H v d) : decide (v = .non) = noneD d := by
  rcases h with h | ⟨a, o, rfl, ob, rfl⟩
  · cases h <;> rfl
  · cases o <;> rfl
theorem r2_isN {K : PySem.W.Frag} : R2M K (fun x y H Q => y = .non ∧ Q (.bl (decide (x = .non))) H) isNonD := by
  intro Φ Z σ H ρ x y d1 d2 z R rx ry e Q k
  unfold isNonD at e
  split at e
  · cases e
    refine ⟨ry.non, ?_⟩
    rw [rb_none rx]
    exact ends_flat R (.bl _) k
  · cases e
theorem r2_notN {K : PySem.W.Frag} : R2M K (fun x y H Q => y = .non ∧ Q (.bl (!decide (x = .non))) H) notNonD := by
  intro Φ Z σ H ρ x y d1 d2 z R rx ry e Q k
  unfold notNonD at e
  split at e
  · cases e
    refine ⟨ry.non, ?_⟩
    rw [rb_none rx]
    exact ends_flat R (.bl _) k
  · cases e
theorem flat_rb {K : PySem.W.Frag} {Z H : Hp} {v : V} {d : PyData} (h : Rb K Z H v d) (f : flatD d = true) : flatV v = true := by
  rcases h with h | ⟨a, o, rfl, ob, rfl⟩
  · cases h <;> first | rfl | cases f
  · cases o <;> cases f
theorem eqv_flat {K : PySem.W.Frag} {Z : Hp} {v w : V} {d e : PyData} (h : Rp K Z v d) (h' : Rp K Z w e) (f : flatD d = true) (f' : flatD e = true) : eqV v w = PyData.eqv d e := by
  cases h <;> first | (cases f; done) | skip
  all_goals cases h' <;> first | (cases f'; done) | skip
  all_goals (simp [eqV, PyData.eqv] <;> done)
theorem flats {K : PySem.W.Frag} {Z : Hp} : ∀ {xs : List V} {ds : List PyData}, RpA K Z xs ds → ds.all flatD = true → xs.all flatV = true
  | _, _, .nil, _ => rfl
  | _, _, .cons r t, f => by
    rw [List.all_cons, Bool.and_eq_true] at f ⊢
    exact ⟨flat_rb (H := Z) (.inl r) f.1, flats t f.2⟩
theorem anys {K : PySem.W.Frag} {Z : Hp} {v : V} {d : PyData} (h : Rp K Z v d) (f : flatD d = true) : ∀ {xs : List V} {ds : List PyData}, RpA K Z xs ds → ds.all flatD = true → inV v xs = ds.any fun z => PyData.eqv z d
  | _, _, .nil, _ => rfl
  | _, _, .cons r t, g => by
    rw [List.all_cons, Bool.and_eq_true] at g
    show ((_ :: _).any fun y => eqV y v) = _
    rw [List.any_cons, List.any_cons, eqv_flat r h g.1 f]
    congr 1
    exact anys h f t g.2
theorem rb_flat {K : PySem.W.Frag} {Z H : Hp} {v : V} {d : PyData} (h : Rb K Z H v d) (f : flatD d = true) : Rp K Z v d := by
  rcases h with h | ⟨a, o, rfl, ob, rfl⟩
  · exact h
  · cases o <;> cases f
def rInA (K : PySem.W.Frag) : R2 := fun x y H Q => (∃ i j, x = .str i ∧ y = .str j ∧ Q (.bl (!(Builtin.Str.occurrences j i 0 j.length 1).isEmpty)) H) ∨ rInD K x y H Q ∨ rIn K false x y H Q
theorem op_inA {X : Cx} (hu : X.A.units + 65 < cLine) : OpR X (compareOp .In) (rInA X.K) := op_in_str.or ((op_inD hu).or op_in_seq)
def rNotInA (K : PySem.W.Frag) : R2 := fun x y H Q => (∃ i j, x = .str i ∧ y = .str j ∧ Q (.bl (!(!(Builtin.Str.occurrences j i 0 j.length 1).isEmpty))) H) ∨ rNotInD K x y H Q ∨ rIn K true x y H Q
theorem op_notInA {X : Cx} (hu : X.A.units + 65 < cLine) : OpR X (compareOp .NotIn) (rNotInA X.K) := op_notIn_str.or ((op_notInD hu).or op_notIn_seq)
theorem r2_in {K : PySem.W.Frag} : R2M K (rInA K) inD := by
  intro Φ Z σ H ρ x y d1 d2 z R rx ry e Q k
  unfold inD at e
  split at e
  · cases e; exact .inl ⟨_, _, rx.str, ry.str, ends_flat R (.bl _) k⟩
  · split at e
    · rename_i h
      rw [Bool.and_eq_true] at h
      cases e
      exact .inr (.inl ⟨_, _, rx.dp R.zH h.1, ry.dp R.zH h.2, h.1, h.2, ends_flat R (.bl _) k⟩)
    · cases e
  · split at e
    · rename_i h
      rw [Bool.and_eq_true] at h
      cases e
      obtain ⟨a, xs, e1, h1, r1⟩ := ry.tup R.zH
      have f := rb_flat rx h.1
      refine .inr (.inr ⟨a, xs, e1, .inr h1, flat_rb rx h.1, flats r1 h.2, ?_⟩)
      rw [if_neg Bool.false_ne_true, anys f h.1 r1 h.2]
      exact ends_flat R (.bl _) k
    · cases e
  · cases e
theorem r2_notIn {K : PySem.W.Frag} : R2M K (rNotInA K) notInD := by
  intro Φ Z σ H ρ x y d1 d2 z R rx ry e Q k
  unfold notInD inD at e
  split at e
  · cases e; exact .inl ⟨_, _, rx.str, ry.str, ends_flat R (.bl _) k⟩
  · split at e
    · rename_i h
      rw [Bool.and_eq_true] at h
      cases e
      exact .inr (.inl ⟨_, _, rx.dp R.zH h.1, ry.dp R.zH h.2, h.1, h.2, ends_flat R (.bl _) k⟩)
    · cases e
  · split at e
    · rename_i h
      rw [Bool.and_eq_true] at h
      cases e
      obtain ⟨a, xs, e1, h1, r1⟩ := ry.tup R.zH
      have f := rb_flat rx h.1
      refine .inr (.inr ⟨a, xs, e1, .inr h1, flat_rb rx h.1, flats r1 h.2, ?_⟩)
      rw [if_pos rfl, anys f h.1 r1 h.2]
      exact ends_flat R (.bl _) k
    · cases e
  · cases e

/-! ### x[i] -/
def idxD : PyData → PyData → Option PyData
  | .list xs, .int i => atI xs i
  | .tuple xs, .int i => atI xs i
  | .str z, .int i => if z.length ≤ sizeLine then (atI z.cps.toList i).map fun c => .str ⟨#[c]⟩ else none
  | _, _ => none
theorem atI_rp {K : PySem.W.Frag} {Z : Hp} {xs : List V} {ds : List PyData} {i : Int} {d : PyData} (r : RpA K Z xs ds) (h : atI ds i = some d) : ∃ v, atI xs i = some v ∧ Rp K Z v d := by
  unfold atI at h ⊢
  rw [r.length]
  cases e : ixN ds.length i with
  | none => rw [e] at h; cases h
  | some j =>
    rw [e, Option.bind_some] at h
    obtain ⟨v, h1, h2⟩ := r.get h
    exact ⟨v, h1, h2⟩
theorem r2_idx {K : PySem.W.Frag} : R2M K (rIx K) idxD := by
  intro Φ Z σ H ρ x y d1 d2 z R rx ry e Q k
  unfold idxD at e
  split at e
  · obtain ⟨a, xs, e1, h1, r1⟩ := rx.lst R.zH
    obtain ⟨v, h2, r2⟩ := atI_rp r1 e
    exact .inl ⟨a, xs, _, v, e1, ry.int, SqL.of h1, h2, ends_flat R r2 k⟩
  · obtain ⟨a, xs, e1, h1, r1⟩ := rx.tup R.zH
    obtain ⟨v, h2, r2⟩ := atI_rp r1 e
    exact .inr (.inl ⟨a, xs, _, v, e1, ry.int, h1, h2, ends_flat R r2 k⟩)
  · split at e
    · rename_i z0 i hz
      cases ha : atI z0.cps.toList i with
      | none => rw [ha] at e; cases e
      | some c =>
        rw [ha] at e
        cases e
        exact .inr (.inr ⟨z0, i, c, rx.str, ry.int, hz, ha, ends_flat R (.str _) k⟩)
    · cases e
  · cases e
section
variable {X : Cx} {a b : Expr} {fa fb : XE} {ga gb : XB} {pos : Pos}
theorem ed_ix (ha : ED X a fa) (hb : OD' X b fb) (hs : PlainIx b := by intro _ _; rfl) : ED X (.Subscript a b pos) (x2 idxD fa fb) := by
  obtain ⟨ta, pa, ma⟩ := ha
  obtain ⟨tb, pb, mb⟩ := hb
  exact ⟨_, pe_ix ix_seq pa pb hs, me_op r2_idx ma mb⟩
theorem ed_ixB (ha : BD X a ga) (hb : BD X b gb) (hs : PlainIx b := by intro _ _; rfl) : ED X (.Subscript a b pos) (x2 idxD (xB ga) (xB gb)) := by
  obtain ⟨ta, pa, ma⟩ := ha
  obtain ⟨tb, pb, mb⟩ := hb
  exact ⟨_, pe_ix ix_seq pa pb hs, me_opB r2_idx ma mb⟩
end
end DL
set_option maxRecDepth 100000
set_option maxHeartbeats 2000000
/-! DL, tests, argument lists, displays, built-ins, slices, methods that read -/
namespace DL
open PySem L2

/-! ### tests, and, or, not -/
/-- the truth of a datum -/
def truD : PyData → Option Bool
  | .none => some false
  | .bool b => some b
  | .int i => some (i != 0)
  | .str y => if y.length ≤ sizeLine then some ((y.length : Int) != 0) else none
  | .list xs => some (!xs.isEmpty)
  | .tuple xs => some (!xs.isEmpty)
  | .dict _ => none
def xTru (f : XE) : XT := fun ρ => (f ρ).bind fun p => (truD p.1).map fun b => (b, p.2)
theorem RpA.empty {K : PySem.W.Frag} {Z : Hp} {vs : List V} {ds : List PyData} (r : RpA K Z vs ds) : vs.isEmpty = ds.isEmpty := by cases r <;> rfl
theorem tru_rb {K : PySem.W.Frag} {Z H : Hp} {v : V} {d : PyData} {b : Bool} (zH : Same Z H) (r : Rb K Z H v d) (e : truD d = some b) : TruV K v H b := by
  cases d with
  | none => cases e; rw [r.non]; exact rfl
  | bool c => cases e; rw [r.bl]; exact rfl
  | int i => cases e; rw [r.int]; exact rfl
  | str y =>
    replace e : (if y.length ≤ sizeLine then some ((y.length : Int) != 0) else none) = some b := e
    split at e
    · cases e; rw [r.str]; exact ⟨by assumption, rfl⟩
    · cases e
  | list xs =>
    cases e
    obtain ⟨a, vs, rfl, h, q⟩ := r.lst zH
    exact .inl ⟨vs, SqL.of h, by rw [q.empty]⟩
  | tuple xs =>
    cases e
    obtain ⟨a, vs, rfl, h, q⟩ := r.tup zH
    exact .inr (.inl ⟨vs, h, by rw [q.empty]⟩)
  | dict _ => cases e
section
variable {X : Cx} {a b e c : Expr} {fa fb : XE} {f : XE} {ta tb : XT} {pos : Pos} {rest : List Expr}
theorem td_tru (h : OD' X a fa) (he : ∀ whole, isTrue a X.env whole = (do let v ← whole; standAt a.pos; holding [v] (truthy v)) := by intro _; rfl) : TD X a (xTru fa) := by
  obtain ⟨t, p, m⟩ := h
  refine ⟨_, pt_truth p he, fun Φ Z σ H ρ d ρ' R q Q k => ?_⟩
  unfold xTru at q
  cases e1 : fa ρ with
  | none => rw [e1] at q; cases q
  | some s =>
    rw [e1, Option.bind_some] at q
    cases e2 : truD s.1 with
    | none => rw [e2] at q; cases q
    | some b =>
      rw [e2] at q
      cases q
      exact m Φ Z σ H ρ s.1 s.2 R e1 _ fun v H1 Z1 z1 R1 r1 => ⟨_, tru_rb R1.zH r1 e2, k H1 Z1 z1 R1⟩
def xAndT (a b : XT) : XT := fun ρ => (a ρ).bind fun p => if p.1 = true then b p.2 else some (false, p.2)
def xOrT (a b : XT) : XT := fun ρ => (a ρ).bind fun p => if p.1 = true then some (true, p.2) else b p.2
def xNotT (a : XT) : XT := fun ρ => (a ρ).map fun p => (!p.1, p.2)
theorem wd_and1 (h : TD X a ta) : WD X (.BoolOp .And [a] pos) ta := by obtain ⟨t, p, m⟩ := h; exact ⟨t, pw_and1 p, m⟩
theorem wd_or1 (h : TD X a ta) : WD X (.BoolOp .Or [a] pos) ta := by obtain ⟨t, p, m⟩ := h; exact ⟨t, pw_or1 p, m⟩
theorem WD.td (h : WD X a ta) : TD X a ta := by obtain ⟨t, p, m⟩ := h; exact ⟨t, p.pt, m⟩
theorem mt_and {K : PySem.W.Frag} {t u : TT} {a b : XT} (h1 : MT K t a) (h2 : MT K u b) : MT K (tAnd t u) (xAndT a b) := by
  intro Φ Z σ H ρ d ρ' R q Q k
  unfold xAndT at q
  cases e1 : a ρ with
  | none => rw [e1] at q; cases q
  | some p =>
    rw [e1, Option.bind_some] at q
    refine h1 Φ Z σ H ρ p.1 p.2 R e1 _ fun H1 Z1 z1 R1 => ?_
    by_cases hp : p.1 = true
    · rw [if_pos hp] at q ⊢
      exact h2 Φ Z1 σ H1 p.2 d ρ' R1 q Q fun H2 Z2 z2 R2 => k H2 Z2 (z1.trans z2) R2
    · rw [if_neg hp] at q ⊢
      cases q
      exact k H1 Z1 z1 R1
theorem mt_or {K : PySem.W.Frag} {t u : TT} {a b : XT} (h1 : MT K t a) (h2 : MT K u b) : MT K (tOr t u) (xOrT a b) := by
  intro Φ Z σ H ρ d ρ' R q Q k
  unfold xOrT at q
  cases e1 : a ρ with
  | none => rw [e1] at q; cases q
  | some p =>
    rw [e1, Option.bind_some] at q
    refine h1 Φ Z σ H ρ p.1 p.2 R e1 _ fun H1 Z1 z1 R1 => ?_
    by_cases hp : p.1 = true
    · rw [if_pos hp] at q ⊢
      cases q
      exact k H1 Z1 z1 R1
    · rw [if_neg hp] at q ⊢
      exact h2 Φ Z1 σ H1 p.2 d ρ' R1 q Q fun H2 Z2 z2 R2 => k H2 Z2 (z1.trans z2) R2
theorem wd_and (ha : TD X a ta) (hb : WD X (.BoolOp .And (b :: rest) pos) tb) : WD X (.BoolOp .And (a :: b :: rest) pos) (xAndT ta tb) := by
  obtain ⟨t, p, m⟩ := ha
  obtain ⟨u, q, n⟩ := hb
  exact ⟨_, pw_and p q, mt_and m n⟩
theorem wd_or (ha : TD X a ta) (hb : WD X (.BoolOp .Or (b :: rest) pos) tb) : WD X (.BoolOp .Or (a :: b :: rest) pos) (xOrT ta tb) := by
  obtain ⟨t, p, m⟩ := ha
  obtain ⟨u, q, n⟩ := hb
  exact ⟨_, pw_or p q, mt_or m n⟩
theorem td_not (ha : TD X a ta) : TD X (.UnaryOp .Not a pos) (xNotT ta) := by
  obtain ⟨t, p, m⟩ := ha
  refine ⟨_, pt_not p, fun Φ Z σ H ρ d ρ' R q Q k => ?_⟩
  unfold xNotT at q
  cases e1 : ta ρ with
  | none => rw [e1] at q; cases q
  | some s =>
    rw [e1] at q
    cases q
    exact m Φ Z σ H ρ s.1 s.2 R e1 _ fun H1 Z1 z1 R1 => k H1 Z1 z1 R1
/-- and, or, not as values: all but the last a bool -/
def xAnd (a b : XE) : XE := fun ρ => (a ρ).bind fun p => match p.1 with
  | .bool true => b p.2
  | .bool false => some (.bool false, p.2)
  | _ => none
def xOr (a b : XE) : XE := fun ρ => (a ρ).bind fun p => match p.1 with
  | .bool true => some (.bool true, p.2)
  | .bool false => b p.2
  | _ => none
def xNot (a : XE) : XE := fun ρ => (a ρ).bind fun p => match p.1 with
  | .bool b => some (.bool (!b), p.2)
  | _ => none
theorem ed_one {op} (h : ED X a fa) : ED X (.BoolOp op [a] pos) fa := by obtain ⟨t, p, m⟩ := h; exact ⟨t, pe_one p, m⟩
theorem ed_and (ha : ED X a fa) (hb : ED X (.BoolOp .And (b :: rest) pos) fb) : ED X (.BoolOp .And (a :: b :: rest) pos) (xAnd fa fb) := by
  obtain ⟨t, p, m⟩ := ha
  obtain ⟨u, q, n⟩ := hb
  refine ⟨_, pe_and p q, fun Φ Z σ H ρ d ρ' R q Q k => ?_⟩
  unfold xAnd at q
  cases e1 : fa ρ with
  | none => rw [e1] at q; cases q
  | some s =>
    rw [e1, Option.bind_some] at q
    refine m Φ Z σ H ρ s.1 s.2 R e1 _ fun v H1 Z1 z1 R1 r1 => ?_
    split at q
    · rename_i e
      rw [e] at r1
      cases r1
      refine ⟨true, rfl, ?_⟩
      rw [if_pos rfl]
      exact n Φ Z1 σ H1 s.2 d ρ' R1 q Q fun v H2 Z2 z2 R2 r2 => k v H2 Z2 (z1.trans z2) R2 r2
    · rename_i e
      rw [e] at r1
      cases r1
      cases q
      refine ⟨false, rfl, ?_⟩
      rw [if_neg Bool.false_ne_true]
      exact k _ H1 Z1 z1 R1 (.bl false)
    · cases q
theorem ed_or (ha : ED X a fa) (hb : ED X (.BoolOp .Or (b :: rest) pos) fb) : ED X (.BoolOp .Or (a :: b :: rest) pos) (xOr fa fb) := by
  obtain ⟨t, p, m⟩ := ha
  obtain ⟨u, q, n⟩ := hb
  refine ⟨_, pe_or p q, fun Φ Z σ H ρ d ρ' R q Q k => ?_⟩
  unfold xOr at q
  cases e1 : fa ρ with
  | none => rw [e1] at q; cases q
  | some s =>
    rw [e1, Option.bind_some] at q
    refine m Φ Z σ H ρ s.1 s.2 R e1 _ fun v H1 Z1 z1 R1 r1 => ?_
    split at q
    · rename_i e
      rw [e] at r1
      cases r1
      cases q
      refine ⟨true, rfl, ?_⟩
      rw [if_pos rfl]
      exact k _ H1 Z1 z1 R1 (.bl true)
    · rename_i e
      rw [e] at r1
      cases r1
      refine ⟨false, rfl, ?_⟩
      rw [if_neg Bool.false_ne_true]
      exact n Φ Z1 σ H1 s.2 d ρ' R1 q Q fun v H2 Z2 z2 R2 r2 => k v H2 Z2 (z1.trans z2) R2 r2
    · cases q
theorem ed_not (ha : ED X a fa) : ED X (.UnaryOp .Not a pos) (xNot fa) := by
  obtain ⟨t, p, m⟩ := ha
  refine ⟨_, pe_not p, fun Φ Z σ H ρ d ρ' R q Q k => ?_⟩
  unfold xNot at q
  cases e1 : fa ρ with
  | none => rw [e1] at q; cases q
  | some s =>
    rw [e1, Option.bind_some] at q
    refine m Φ Z σ H ρ s.1 s.2 R e1 _ fun v H1 Z1 z1 R1 r1 => ?_
    split at q
    · rename_i b' e
      rw [e] at r1
      cases r1
      cases q
      exact ⟨_, rfl, k _ H1 Z1 z1 R1 (.bl _)⟩
    · cases q
/-- a if t else b -/
def xIf (t : XT) (a b : XE) : XE := fun ρ => (t ρ).bind fun p => if p.1 = true then a p.2 else b p.2
theorem ed_if (hc : TD X c ta) (ha : ED X a fa) (hb : ED X b fb) : ED X (.IfExp c a b pos) (xIf ta fa fb) := by
  obtain ⟨t, p, m⟩ := hc
  obtain ⟨u, q, n⟩ := ha
  obtain ⟨w, r, o⟩ := hb
  refine ⟨_, pe_ifExp p q r, fun Φ Z σ H ρ d ρ' R q Q k => ?_⟩
  unfold xIf at q
  cases e1 : ta ρ with
  | none => rw [e1] at q; cases q
  | some s =>
    rw [e1, Option.bind_some] at q
    refine m Φ Z σ H ρ s.1 s.2 R e1 _ fun H1 Z1 z1 R1 => ?_
    by_cases hp : s.1 = true
    · rw [if_pos hp] at q ⊢
      exact n Φ Z1 σ H1 s.2 d ρ' R1 q Q fun v H2 Z2 z2 R2 r2 => k v H2 Z2 (z1.trans z2) R2 r2
    · rw [if_neg hp] at q ⊢
      exact o Φ Z1 σ H1 s.2 d ρ' R1 q Q fun v H2 Z2 z2 R2 r2 => k v H2 Z2 (z1.trans z2) R2 r2
/-- -a -/
def negD : PyData → Option PyData
  | .int i => some (.int (-i))
  | _ => none
def x1 (g : PyData → Option PyData) (f : XE) : XE := fun ρ => (f ρ).bind fun p => (g p.1).map fun z => (z, p.2)
theorem ed_neg (ha : OD' X a fa) : ED X (.UnaryOp .USub a pos) (x1 negD fa) := by
  obtain ⟨t, p, m⟩ := ha
  refine ⟨_, pe_un un_neg p, fun Φ Z σ H ρ d ρ' R q Q k => ?_⟩
  unfold x1 at q
  cases e1 : fa ρ with
  | none => rw [e1] at q; cases q
  | some s =>
    rw [e1, Option.bind_some] at q
    refine m Φ Z σ H ρ s.1 s.2 R e1 _ fun v H1 Z1 z1 R1 r1 => ?_
    unfold negD at q
    split at q
    · rename_i i e
      rw [e] at r1
      cases q
      exact ⟨i, r1.int, k _ H1 Z1 z1 R1 (.int _)⟩
    · cases q
end

/-! ### chains of two comparisons -/
def xChain (g g' : PyData → PyData → Option PyData) (a b c : XE) : XE := fun ρ => (a ρ).bind fun p => (b p.2).bind fun q => (g p.1 q.1).bind fun z => match z with
  | .bool true => (c q.2).bind fun r => (g' q.1 r.1).map fun z => (z, r.2)
  | .bool false => some (.bool false, q.2)
  | _ => none
section
variable {X : Cx} {a b c : Expr} {fa fb fc : XE} {g g' : PyData → PyData → Option PyData} {r r' : R2} {pos : Pos}
theorem me_chain {K : PySem.W.Frag} {ta tb tc : TE} (hr : R2M K r g) (hr' : R2M K r' g') (ha : ME K ta fa) (hb : ME K tb fb) (hc : MO K tc fc) : ME K (tChain r r' ta tb tc) (xChain g g' fa fb fc) := by
  intro Φ Z σ H ρ d ρ' R q Q k
  unfold xChain at q
  cases e1 : fa ρ with
  | none => rw [e1] at q; cases q
  | some p =>
    rw [e1, Option.bind_some] at q
    cases e2 : fb p.2 with
    | none => rw [e2] at q; cases q
    | some s =>
      rw [e2, Option.bind_some] at q
      cases e3 : g p.1 s.1 with
      | none => rw [e3] at q; cases q
      | some z =>
        rw [e3, Option.bind_some] at q
        refine ha Φ Z σ H ρ p.1 p.2 R e1 _ fun x H1 Z1 z1 R1 r1 => ?_
        refine hb Φ Z1 σ H1 p.2 s.1 s.2 R1 e2 _ fun y H2 Z2 z2 R2 r2 => ?_
        refine hr Φ Z2 σ H2 s.2 x y p.1 s.1 _ R2 (.inl (r1.mono z2)) (.inl r2) e3 _ fun v H' Z' z' R' r' => ?_
        split at q
        · cases r'
          refine ⟨true, rfl, ?_⟩
          rw [if_pos rfl]
          cases e4 : fc s.2 with
          | none => rw [e4] at q; cases q
          | some u =>
            rw [e4, Option.bind_some] at q
            cases e5 : g' s.1 u.1 with
            | none => rw [e5] at q; cases q
            | some w =>
              rw [e5] at q
              cases q
              refine hc Φ Z' σ H' s.2 u.1 u.2 R' e4 _ fun y' H3 Z3 z3 R3 r3 => ?_
              exact hr' Φ Z3 σ H3 u.2 y y' s.1 u.1 _ R3 (.inl ((r2.mono z').mono z3)) r3 e5 Q fun v H4 Z4 z4 R4 r4 => k v H4 Z4 ((((z1.trans z2).trans z').trans z3).trans z4) R4 r4
        · cases r'
          cases q
          refine ⟨false, rfl, ?_⟩
          rw [if_neg Bool.false_ne_true]
          exact k _ H' Z' ((z1.trans z2).trans z') R' (.bl false)
        · cases q
theorem ed_chain {op op' : CmpOp} (ho : OpR X (compareOp op) r) (ho' : OpR X (compareOp op') r') (hr : R2M X.K r g) (hr' : R2M X.K r' g') (ha : ED X a fa) (hb : ED X b fb) (hc : OD' X c fc) (hm : lastMarks [op, op'] [b, c] = false := by with_unfolding_all rfl) :
    ED X (.Compare a [op, op'] [b, c] pos) (xChain g g' fa fb fc) := by
  obtain ⟨ta, pa, ma⟩ := ha
  obtain ⟨tb, pb, mb⟩ := hb
  obtain ⟨tc, pc, mc⟩ := hc
  exact ⟨_, pe_chain ho ho' pa pb pc hm, me_chain hr hr' ma mb mc⟩
theorem td_chain {op op' : CmpOp} (ho : OpR X (compareOp op) r) (ho' : OpR X (compareOp op') r') (hr : R2M X.K r g) (hr' : R2M X.K r' g') (ha : ED X a fa) (hb : ED X b fb) (hc : OD' X c fc) (hm : lastMarks [op, op'] [b, c] = false := by with_unfolding_all rfl) :
    TD X (.Compare a [op, op'] [b, c] pos) (tst (xChain g g' fa fb fc)) := by
  obtain ⟨ta, pa, ma⟩ := ha
  obtain ⟨tb, pb, mb⟩ := hb
  obtain ⟨tc, pc, mc⟩ := hc
  exact ⟨_, pt_chain ho ho' pa pb pc hm, mt_tst (me_chain hr hr' ma mb mc)⟩
end
end DL
set_option maxRecDepth 100000
set_option maxHeartbeats 2000000
/-! DL, argument lists, displays, built-ins, slices -/
namespace DL
open PySem L2

/-! ### argument lists -/
def aNil : XA := fun ρ => some ([], ρ)
def aCons (f : XE) (r : XA) : XA := fun ρ => (f ρ).bind fun p => (r p.2).map fun q => (.v p.1 :: q.1, q.2)
/-- the object that slot i holds goes as it is -/
def aSlot (i : Nat) (r : XA) : XA := fun ρ => match ρ[i]? with
  | some (.own _ _) => (r ρ).map fun q => (.s i :: q.1, q.2)
  | some (.scr _) => (r ρ).map fun q => (.s i :: q.1, q.2)
  | _ => none
section
variable {X : Cx} {e : Expr} {es : List Expr} {f : XE} {r : XA} {pos : Pos}
theorem ad_nil : AD X [] aNil := ⟨tNil, pa_nil, fun Φ Z σ H ρ as ρ' R q Q k => by
  cases q
  exact k [] H Z (Same.refl Z) R .nil⟩
theorem ad_cons (he : ED X e f) (hr : AD X es r) (hs : starEach (e :: es) X.env = (false, eval e X.env) :: starEach es X.env := by rfl) : AD X (e :: es) (aCons f r) := by
  obtain ⟨t, p, m⟩ := he
  obtain ⟨u, q, n⟩ := hr
  refine ⟨_, pa_cons p q hs, fun Φ Z σ H ρ as ρ' R q Q k => ?_⟩
  unfold aCons at q
  cases e1 : f ρ with
  | none => rw [e1] at q; cases q
  | some s =>
    rw [e1, Option.bind_some] at q
    cases e2 : r s.2 with
    | none => rw [e2] at q; cases q
    | some w =>
      rw [e2] at q
      cases q
      refine m Φ Z σ H ρ s.1 s.2 R e1 _ fun v H1 Z1 z1 R1 r1 => ?_
      exact n Φ Z1 σ H1 s.2 w.1 w.2 R1 e2 _ fun vs H2 Z2 z2 R2 r2 => k _ H2 Z2 (z1.trans z2) R2 (.v (r1.mono z2) r2)
theorem ad_slot (i : Nat) {x : Str} (hr : AD X es r) (hN : X.N[i]? = some x := by rfl) (hv : Vis X.env.scope x := by first | exact Or.inl rfl | exact Or.inr (Or.inl rfl) | exact Or.inr (Or.inr rfl)) (hd : (x == ("__debug__" : Str)) = false := by decide)
    (hcd : (x == ("__classdict__" : Str)) = false := by decide) (hs : starEach (.Name x pos :: es) X.env = (false, eval (.Name x pos) X.env) :: starEach es X.env := by rfl) : AD X (.Name x pos :: es) (aSlot i r) := by
  obtain ⟨u, q, n⟩ := hr
  refine ⟨_, pa_cons (pe_var hN hv hd hcd) q hs, fun Φ Z σ H ρ as ρ' R q Q k => ?_⟩
  have go : ∀ v, σ[i]? = some (some v) → (r ρ).map (fun q => (AV.s i :: q.1, q.2)) = some (as, ρ') → tCons (tVar i) u σ H Q := fun v hv q => by
    cases e2 : r ρ with
    | none => rw [e2] at q; cases q
    | some w =>
      rw [e2] at q
      cases q
      exact ⟨v, hv, n Φ Z σ H ρ w.1 w.2 R e2 _ fun vs H2 Z2 z2 R2 r2 => k _ H2 Z2 z2 R2 (.s hv r2)⟩
  unfold aSlot at q
  split at q
  · rename_i o io e
    obtain ⟨a, s, _⟩ := R.own _ _ _ e
    exact go _ s q
  · rename_i ns e
    obtain ⟨a, s, _⟩ := R.scr _ _ e
    exact go _ s q
  · cases q
end
/-- all of them data -/
def allV : List AV → Option (List PyData)
  | [] => some []
  | .v d :: as => (allV as).map (d :: ·)
  | .s _ :: _ => none
theorem allV_rp {K : PySem.W.Frag} {Z : Hp} {σ : St} : ∀ {vs : List V} {as : List AV} {ds : List PyData}, AvA K Z σ vs as → allV as = some ds → RpA K Z vs ds
  | _, _, _, .nil, e => by cases e; exact .nil
  | _, _, _, .v (d := d) (as := as) r t, e => by
    replace e : (allV as).map (d :: ·) = some _ := e
    cases e2 : allV as with
    | none => rw [e2] at e; cases e
    | some l =>
      rw [e2] at e
      cases e
      exact .cons r (allV_rp t e2)
  | _, _, _, .s _ _, e => by cases e

/-! ### displays -/
def xTup (r : XA) : XE := fun ρ => (r ρ).bind fun p => (allV p.1).bind fun ds => if ds.length ≤ sizeLine then some (.tuple ds, p.2) else none
def xLst (r : XA) : XE := fun ρ => (r ρ).bind fun p => (allV p.1).bind fun ds => if ds.length ≤ sizeLine then some (.list ds, p.2) else none
section
variable {X : Cx} {es : List Expr} {r : XA} {pos : Pos}
theorem ed_tup {k : Nat} (h : AD X es r) : ED X (.Tuple es k pos) (xTup r) := by
  obtain ⟨t, p, m⟩ := h
  refine ⟨_, pe_tup p, fun Φ Z σ H ρ d ρ' R q Q k => ?_⟩
  unfold xTup at q
  cases e1 : r ρ with
  | none => rw [e1] at q; cases q
  | some s =>
    rw [e1, Option.bind_some] at q
    cases e2 : allV s.1 with
    | none => rw [e2] at q; cases q
    | some ds =>
      rw [e2, Option.bind_some] at q
      split at q
      · cases q
        refine m Φ Z σ H ρ s.1 s.2 R e1 _ fun vs H1 Z1 z1 R1 r1 => ?_
        have rp := allV_rp r1 e2
        refine ⟨by rw [rp.length]; assumption, fun p hp => ?_⟩
        exact ends_tup R1 rp (fun v H' Z' z' R' r' => k v H' Z' (z1.trans z') R' r') hp
      · cases q
theorem ed_lst (h : AD X es r) : ED X (.List es pos) (xLst r) := by
  obtain ⟨t, p, m⟩ := h
  refine ⟨_, pe_lst p, fun Φ Z σ H ρ d ρ' R q Q k => ?_⟩
  unfold xLst at q
  cases e1 : r ρ with
  | none => rw [e1] at q; cases q
  | some s =>
    rw [e1, Option.bind_some] at q
    cases e2 : allV s.1 with
    | none => rw [e2] at q; cases q
    | some ds =>
      rw [e2, Option.bind_some] at q
      split at q
      · cases q
        refine m Φ Z σ H ρ s.1 s.2 R e1 _ fun vs H1 Z1 z1 R1 r1 => ?_
        have rp := allV_rp r1 e2
        refine ⟨by rw [rp.length]; assumption, fun p hp => ?_⟩
        exact ends_lst R1 rp (fun v H' Z' z' R' r' => k v H' Z' (z1.trans z') R' r') hp
      · cases q
end

/-! ### expressions that make a new object, to be held -/
/-- the new object is at a, nobody holds it -/
structure New (K : PySem.W.Frag) (Φ : Fx) (Z : Hp) (σ : St) (H : Hp) (ρ : Nv) (a : Addr) (o : OD) : Prop where
  ob : ObAt K Z H a o
  z : Z a = none
  fr : Φ.Fr a = none
  h0 : Φ.H0 a = none
  no : ∀ i, ¬ AtS ρ σ i a
abbrev XN := Nv → Option (OD × Nv)
def MN (K : PySem.W.Frag) (t : TE) (f : XN) : Prop := ∀ (Φ : Fx) (Z : Hp) (σ : St) (H : Hp) (ρ : Nv) (o : OD) (ρ' : Nv), Rl K Φ Z σ H ρ → f ρ = some (o, ρ') →
  ∀ Q : VK, (∀ a H' Z', Same Z Z' → Rl K Φ Z' σ H' ρ' → New K Φ Z' σ H' ρ' a o → Q (.ref a) H') → t σ H Q
def ND (X : Cx) (e : Expr) (f : XN) : Prop := ∃ t, PE X e t ∧ MN X.K t f
theorem New.of {K : PySem.W.Frag} {Φ : Fx} {Z : Hp} {σ : St} {H : Hp} {ρ : Nv} (R : Rl K Φ Z σ H ρ) {p : Addr} {u : HO} {o : OD} (hp : H p = none) (ob : ObAt K Z (upd H p u) p o) : New K Φ Z σ (upd H p u) ρ p o :=
  ⟨ob, R.zH.free hp, R.fr.free hp, R.dom _ hp, fun i h => by
    obtain ⟨w, e, _⟩ := R.at_some h
    rw [hp] at e
    cases e⟩
/-- a list display, held -/
def nLst (r : XA) : XN := fun ρ => (r ρ).bind fun p => (allV p.1).bind fun ds => if ds.length ≤ sizeLine then some (.ol ds, p.2) else none
section
variable {X : Cx} {es : List Expr} {r : XA} {pos : Pos}
theorem nd_lst (h : AD X es r) : ND X (.List es pos) (nLst r) := by
  obtain ⟨t, p, m⟩ := h
  refine ⟨_, pe_lst p, fun Φ Z σ H ρ d ρ' R q Q k => ?_⟩
  unfold nLst at q
  cases e1 : r ρ with
  | none => rw [e1] at q; cases q
  | some s =>
    rw [e1, Option.bind_some] at q
    cases e2 : allV s.1 with
    | none => rw [e2] at q; cases q
    | some ds =>
      rw [e2, Option.bind_some] at q
      split at q
      · cases q
        refine m Φ Z σ H ρ s.1 s.2 R e1 _ fun vs H1 Z1 z1 R1 r1 => ?_
        have rp := allV_rp r1 e2
        refine ⟨by rw [rp.length]; assumption, fun p hp => ?_⟩
        exact k p _ Z1 z1 (R1.laid hp) (New.of R1 hp ⟨vs, upd_same, rp⟩)
      · cases q
/-- a list + a list, held -/
def nCat (a b : XE) : XN := fun ρ => (a ρ).bind fun p => (b p.2).bind fun q => match p.1, q.1 with
  | .list x, .list y => if x.length + y.length ≤ sizeLine then some (.ol (x ++ y), q.2) else none
  | _, _ => none
theorem nd_cat {a b : Expr} {fa fb : XE} (ha : ED X a fa) (hb : OD' X b fb) : ND X (.BinOp a .Add b pos) (nCat fa fb) := by
  obtain ⟨ta, pa, ma⟩ := ha
  obtain ⟨tb, pb, mb⟩ := hb
  refine ⟨_, pe_op op_cat pa pb, fun Φ Z σ H ρ d ρ' R q Q k => ?_⟩
  unfold nCat at q
  cases e1 : fa ρ with
  | none => rw [e1] at q; cases q
  | some s =>
    rw [e1, Option.bind_some] at q
    cases e2 : fb s.2 with
    | none => rw [e2] at q; cases q
    | some w =>
      rw [e2, Option.bind_some] at q
      refine ma Φ Z σ H ρ s.1 s.2 R e1 _ fun x H1 Z1 z1 R1 r1 => ?_
      refine mb Φ Z1 σ H1 s.2 w.1 w.2 R1 e2 _ fun y H2 Z2 z2 R2 r2 => ?_
      split at q
      · rename_i xs ys h1 h2
        split at q
        · cases q
          rw [h1] at r1
          rw [h2] at r2
          obtain ⟨a, vs, rfl, ha, q1⟩ := Rb.lst R2.zH (.inl (r1.mono z2))
          obtain ⟨b, ws, rfl, hb, q2⟩ := r2.lst R2.zH
          refine ⟨a, b, vs, ws, rfl, rfl, ha, hb, by rw [q1.length, q2.length]; assumption, fun p hp => ?_⟩
          exact k p _ Z2 (z1.trans z2) (R2.laid hp) (New.of R2 hp ⟨_, upd_same, q1.append q2⟩)
        · cases q
      · cases q
end

/-! ### built-ins of one argument -/
def C1M (K : PySem.W.Frag) (r : List V → Hp → VK → Prop) (g : PyData → Option PyData) : Prop := ∀ (Φ : Fx) (Z : Hp) (σ : St) (H : Hp) (ρ : Nv) (x : V) (d z : PyData), Rl K Φ Z σ H ρ → Rb K Z H x d → g d = some z →
  ∀ Q : VK, (∀ v H' Z', Same Z Z' → Rl K Φ Z' σ H' ρ → Rp K Z' v z → Q v H') → r [x] H Q
theorem me_c1 {K : PySem.W.Frag} {r : List V → Hp → VK → Prop} {g : PyData → Option PyData} {t : TE} {f : XE} (hr : C1M K r g) (h : MO K t f) : ME K (tCB r (tCons t tNil)) (x1 g f) := by
  intro Φ Z σ H ρ d ρ' R q Q k
  unfold x1 at q
  cases e1 : f ρ with
  | none => rw [e1] at q; cases q
  | some s =>
    rw [e1, Option.bind_some] at q
    cases e2 : g s.1 with
    | none => rw [e2] at q; cases q
    | some z =>
      rw [e2] at q
      cases q
      refine h Φ Z σ H ρ s.1 s.2 R e1 _ fun v H1 Z1 z1 R1 r1 => ?_
      exact hr Φ Z1 σ H1 s.2 v s.1 _ R1 r1 e2 Q fun v H2 Z2 z2 R2 r2 => k v H2 Z2 (z1.trans z2) R2 r2
section
variable {X : Cx} {e : Expr} {f : XE} {g : PyData → Option PyData} {r : List V → Hp → VK → Prop} {x : Str} {p pos : Pos}
theorem ed_c1 {id : String} (hc : CallR X (.builtin id) r) (hr : C1M X.K r g) (hm : X.mg x = none) (hv : bootBuiltins x = some (.builtin id)) (he : OD' X e f) (hg : Gl X x := by rfl) (hn : x ≠ "__name__" := by decide) (hdb : (x == ("__debug__" : Str)) = false := by decide)
    (hs : starEach [e] X.env = (false, eval e X.env) :: starEach [] X.env := by rfl) : ED X (.Call (.Name x p) [e] [] pos) (x1 g f) := by
  obtain ⟨t, q, m⟩ := he
  exact ⟨_, pe_callB hc hg hm hv (pa_cons q pa_nil hs) hn hdb hs, me_c1 hr m⟩
theorem ed_t1 {id : String} (hc : CallR X (.type id) r) (hr : C1M X.K r g) (hm : X.mg x = none) (hv : bootBuiltins x = some (.type id)) (he : OD' X e f) (hg : Gl X x := by rfl) (hn : x ≠ "__name__" := by decide) (hdb : (x == ("__debug__" : Str)) = false := by decide)
    (hs : starEach [e] X.env = (false, eval e X.env) :: starEach [] X.env := by rfl) : ED X (.Call (.Name x p) [e] [] pos) (x1 g f) := by
  obtain ⟨t, q, m⟩ := he
  exact ⟨_, pe_callTy hc hg hm hv (pa_cons q pa_nil hs) hn hdb hs, me_c1 hr m⟩
end
def lenD : PyData → Option PyData
  | .str y => if y.length ≤ sizeLine then some (.int y.length) else none
  | .list xs => some (.int xs.length)
  | .tuple xs => some (.int xs.length)
  | _ => none
def absD : PyData → Option PyData
  | .int i => some (.int (if i < 0 then -i else i))
  | _ => none
def ordD : PyData → Option PyData
  | .str x => if x.length = 1 then some (.int (x.cps.getD 0 0 : Nat)) else none
  | _ => none
def listD : PyData → Option PyData
  | .list xs => some (.list xs)
  | .tuple xs => some (.list xs)
  | _ => none
def tupleD : PyData → Option PyData
  | .list xs => some (.tuple xs)
  | .tuple xs => some (.tuple xs)
  | _ => none
def blsD : List PyData → Option (List Bool)
  | [] => some []
  | .bool b :: r => (blsD r).map (b :: ·)
  | _ => none
def allD : PyData → Option PyData
  | .list xs => (blsD xs).map fun bs => .bool (bs.all id)
  | _ => none
def anyD : PyData → Option PyData
  | .list xs => (blsD xs).map fun bs => .bool (bs.any id)
  | _ => none
def strD : PyData → Option PyData
  | .int i => if i.natAbs.log2 < 1920 then some (.str (toString i)) else none
  | .str x => some (.str x)
  | .bool b => some (.str (if b = true then ("True" : Str) else ("False" : Str)))
  | .none => some (.str "None")
  | _ => none
def intD : PyData → Option PyData
  | .int i => some (.int i)
  | .bool k => some (.int (if k then 1 else 0))
  | _ => none
section
variable {K : PySem.W.Frag}
theorem c1_len : C1M K (fun xs H Q => ∃ x n, xs = [x] ∧ LenV K x H n ∧ Q (.int n) H) lenD := by
  intro Φ Z σ H ρ x d z R rx e Q k
  unfold lenD at e
  split at e
  · split at e
    · cases e
      rw [rx.str]
      exact ⟨_, _, rfl, ⟨by assumption, rfl⟩, ends_flat R (.int _) k⟩
    · cases e
  · cases e
    obtain ⟨a, vs, rfl, h, q⟩ := rx.lst R.zH
    exact ⟨_, _, rfl, .inl ⟨vs, SqL.of h, rfl⟩, by rw [q.length]; exact ends_flat R (.int _) k⟩
  · cases e
    obtain ⟨a, vs, rfl, h, q⟩ := rx.tup R.zH
    exact ⟨_, _, rfl, .inr ⟨vs, h, rfl⟩, by rw [q.length]; exact ends_flat R (.int _) k⟩
  · cases e
theorem c1_abs : C1M K (fun xs H Q => ∃ i, xs = [.int i] ∧ Q (.int (if i < 0 then -i else i)) H) absD := by
  intro Φ Z σ H ρ x d z R rx e Q k
  unfold absD at e
  split at e
  · cases e
    rw [rx.int]
    exact ⟨_, rfl, ends_flat R (.int _) k⟩
  · cases e
theorem c1_ord : C1M K (fun xs H Q => ∃ x, xs = [.str x] ∧ x.length = 1 ∧ Q (.int (x.cps.getD 0 0 : Nat)) H) ordD := by
  intro Φ Z σ H ρ x d z R rx e Q k
  unfold ordD at e
  split at e
  · split at e
    · cases e
      rw [rx.str]
      exact ⟨_, rfl, by assumption, ends_flat R (.int _) k⟩
    · cases e
  · cases e
theorem c1_list : C1M K (fun xs H Q => ∃ p ys, xs = [.ref p] ∧ (SqL K H p ys ∨ SqT K H p ys) ∧ ∀ l, H l = none → Q (.ref l) (upd H l (.lst ys))) listD := by
  intro Φ Z σ H ρ x d z R rx e Q k
  unfold listD at e
  split at e
  · cases e
    obtain ⟨a, vs, rfl, h, q⟩ := rx.lst R.zH
    exact ⟨a, vs, rfl, .inl (SqL.of h), fun l hl => ends_lst R q k hl⟩
  · cases e
    obtain ⟨a, vs, rfl, h, q⟩ := rx.tup R.zH
    exact ⟨a, vs, rfl, .inr h, fun l hl => ends_lst R q k hl⟩
  · cases e
theorem c1_tuple : C1M K (fun xs H Q => ∃ p ys, xs = [.ref p] ∧ ((SqL K H p ys ∧ ∀ l, H l = none → Q (.ref l) (upd H l (.tup ys))) ∨ (SqT K H p ys ∧ Q (.ref p) H))) tupleD := by
  intro Φ Z σ H ρ x d z R rx e Q k
  unfold tupleD at e
  split at e
  · cases e
    obtain ⟨a, vs, rfl, h, q⟩ := rx.lst R.zH
    exact ⟨a, vs, rfl, .inl ⟨SqL.of h, fun l hl => ends_tup R q k hl⟩⟩
  · cases e
    have r := rx.tupR
    obtain ⟨a, vs, rfl, h, q⟩ := rx.tup R.zH
    exact ⟨a, vs, rfl, .inr ⟨h, ends_flat R r k⟩⟩
  · cases e
theorem bls_rp {Z : Hp} : ∀ {vs : List V} {ds : List PyData} {bs : List Bool}, RpA K Z vs ds → blsD ds = some bs → vs = bs.map V.bl
  | _, _, _, .nil, e => by cases e; rfl
  | _, _, _, .cons (d := d) (ds := ds) r t, e => by
    unfold blsD at e
    split at e
    · rename_i h; cases h
    · rename_i b r' h
      cases h
      cases e2 : blsD ds with
      | none => rw [e2] at e; cases e
      | some l =>
        rw [e2] at e
        cases e
        cases r
        rw [bls_rp t e2]
        rfl
    · cases e
theorem c1_all : C1M K (rAll K) allD := by
  intro Φ Z σ H ρ x d z R rx e Q k
  unfold allD at e
  split at e
  · rename_i xs
    cases e2 : blsD xs with
    | none => rw [e2] at e; cases e
    | some bs =>
      rw [e2] at e
      cases e
      obtain ⟨a, vs, rfl, h, q⟩ := rx.lst R.zH
      rw [bls_rp q e2] at h
      exact ⟨a, bs, rfl, SqL.of h, ends_flat R (.bl _) k⟩
  · cases e
theorem c1_any : C1M K (rAny K) anyD := by
  intro Φ Z σ H ρ x d z R rx e Q k
  unfold anyD at e
  split at e
  · rename_i xs
    cases e2 : blsD xs with
    | none => rw [e2] at e; cases e
    | some bs =>
      rw [e2] at e
      cases e
      obtain ⟨a, vs, rfl, h, q⟩ := rx.lst R.zH
      rw [bls_rp q e2] at h
      exact ⟨a, bs, rfl, SqL.of h, ends_flat R (.bl _) k⟩
  · cases e
def rStr : List V → Hp → VK → Prop := fun xs H Q => (∃ i, xs = [.int i] ∧ i.natAbs.log2 < 1920 ∧ Q (.str (toString i)) H) ∨ (∃ a, xs = [.str a] ∧ Q (.str a) H) ∨ (∃ b, xs = [.bl b] ∧ Q (.str (if b = true then ("True" : Str) else ("False" : Str))) H) ∨ (xs = [.non] ∧ Q (.str "None") H)
theorem call_str_bl {X : Cx} : CallR X (.type "str") (fun xs H Q => ∃ b, xs = [.bl b] ∧ Q (.str (if b = true then ("True" : Str) else ("False" : Str))) H) := by
  intro pins s σ H xs us Q I r h
  obtain ⟨b, rfl, q⟩ := h
  obtain ⟨u, rfl, ru⟩ := vals1 r
  cases ru
  refine PySem.P.str_of_bool ?_
  cases b
  · exact ⟨.str _, H, I.tok _, ⟨_, rfl⟩, q⟩
  · exact ⟨.str _, H, I.tok _, ⟨_, rfl⟩, q⟩
theorem call_str_non {X : Cx} : CallR X (.type "str") (fun xs H Q => xs = [.non] ∧ Q (.str "None") H) := by
  intro pins s σ H xs us Q I r h
  obtain ⟨rfl, q⟩ := h
  obtain ⟨u, rfl, ru⟩ := vals1 r
  cases ru
  exact PySem.P.str_of_none ⟨.str "None", H, I.tok _, ⟨_, rfl⟩, q⟩
theorem call_strD {X : Cx} : CallR X (.type "str") rStr := call_str_int.or (SkE.call_str_str.or (call_str_bl.or call_str_non))
theorem c1_str : C1M K rStr strD := by
  intro Φ Z σ H ρ x d z R rx e Q k
  unfold strD at e
  split at e
  · split at e
    · cases e
      rw [rx.int]
      exact .inl ⟨_, rfl, by assumption, ends_flat R (.str _) k⟩
    · cases e
  · cases e
    rw [rx.str]
    exact .inr (.inl ⟨_, rfl, ends_flat R (.str _) k⟩)
  · cases e
    rw [rx.bl]
    exact .inr (.inr (.inl ⟨_, rfl, ends_flat R (.str _) k⟩))
  · cases e
    rw [rx.non]
    exact .inr (.inr (.inr ⟨rfl, ends_flat R (.str _) k⟩))
  · cases e
theorem c1_int : C1M K (fun xs H Q => (∃ i, xs = [.int i] ∧ Q (.int i) H) ∨ ∃ k, xs = [.bl k] ∧ Q (.int (if k then 1 else 0)) H) intD := by
  intro Φ Z σ H ρ x d z R rx e Q k
  unfold intD at e
  split at e
  · cases e
    rw [rx.int]
    exact .inl ⟨_, rfl, ends_flat R (.int _) k⟩
  · cases e
    rw [rx.bl]
    exact .inr ⟨_, rfl, ends_flat R (.int _) k⟩
  · cases e
end

/-! ### repr of data at any depth -/
def reprD (d : PyData) : Option PyData := if d.hasDict = false ∧ d.showable = true ∧ d.depth ≤ 60 ∧ d.shown.length ≤ sizeLine then some (.str d.shown) else none
def rRepr (K : PySem.W.Frag) : List V → Hp → VK → Prop := fun xs H Q => ∃ x d, xs = [x] ∧ Dp K H x d ∧ d.showable = true ∧ d.hasDict = false ∧ d.depth ≤ 60 ∧ d.shown.length ≤ sizeLine ∧ Q (.str d.shown) H
theorem call_reprD {X : Cx} (hg : X.A.guards = some []) (hu : X.A.units + 64 < cLine) : CallR X (.builtin "repr") (rRepr X.K) := by
  intro pins s σ H xs us Q I r h
  obtain ⟨x, d, rfl, hd, hs, hn, hp, hl, q⟩ := h
  obtain ⟨u, rfl, ru⟩ := vals1 r
  obtain ⟨as, rd⟩ := Dp.reads I d x u hd ru
  cases rd with
  | none =>
    simp only [PyData.shown] at q
    exact PySem.P.repr_of_none ⟨.str _, H, I.tok _, ⟨_, rfl⟩, q⟩
  | bool b =>
    simp only [PyData.shown] at q
    refine PySem.P.repr_of_bool ⟨.str _, H, I.tok _, ⟨s.toks, ?_⟩, q⟩
    cases b <;> rfl
  | int i t =>
    simp only [PyData.shown] at q
    exact PySem.P.repr_of_int (by simpa [PyData.showable] using hs) ⟨.str _, H, I.tok _, ⟨_, rfl⟩, q⟩
  | str y t =>
    simp only [PyData.shown] at q hl
    exact PySem.P.repr_of_str ⟨.str _, H, I.tok _, ⟨_, rfl⟩, q⟩ hl
  | list h1 h2 h3 h4 =>
    refine repr_of_reads' (.list h1 h2 h3 h4) hs (PySem.PyData.noDict_hsm hn) hg (by omega) (fun _ _ e => e) (fun h' u tk hk => ?_) hl
    exact ⟨.str _, H, I.kept hk, ⟨_, rfl⟩, q⟩
  | tuple h1 h2 h3 h4 =>
    refine repr_of_reads' (.tuple h1 h2 h3 h4) hs (PySem.PyData.noDict_hsm hn) hg (by omega) (fun _ _ e => e) (fun h' u tk hk => ?_) hl
    exact ⟨.str _, H, I.kept hk, ⟨_, rfl⟩, q⟩
  | dict h1 h2 h3 h4 h5 => simp [PyData.hasDict] at hn
theorem c1_repr {K : PySem.W.Frag} : C1M K (rRepr K) reprD := by
  intro Φ Z σ H ρ x d z R rx e Q k
  unfold reprD at e
  split at e
  · rename_i h
    cases e
    exact ⟨x, d, rfl, (rx.rp R.zH).toDp h.1, h.2.1, h.1, h.2.2.1, h.2.2.2, ends_flat R (.str _) k⟩
  · cases e
end DL
set_option maxRecDepth 100000
set_option maxHeartbeats 2000000
/-! DL, isinstance, slices, objects of one's own, statements -/
namespace DL
open PySem L2

/-! ### isinstance against a built-in class -/
def tyNm : PyData → String
  | .none => "NoneType"
  | .bool _ => "bool"
  | .int _ => "int"
  | .str _ => "str"
  | .list _ => "list"
  | .tuple _ => "tuple"
  | .dict _ => "dict"
def isIntD : PyData → Bool
  | .int _ => true
  | .bool _ => true
  | _ => false
def isBlD : PyData → Bool
  | .bool _ => true
  | _ => false
def isStrD : PyData → Bool
  | .str _ => true
  | _ => false
def isLstD : PyData → Bool
  | .list _ => true
  | _ => false
def isTupD : PyData → Bool
  | .tuple _ => true
  | _ => false
def isDctD : PyData → Bool
  | .dict _ => true
  | _ => false
theorem kit_int (d : PyData) : kitB (tyNm d) "int" = some (isIntD d) := by cases d <;> simp only [tyNm, isIntD] <;> decide +kernel
theorem kit_bool (d : PyData) : kitB (tyNm d) "bool" = some (isBlD d) := by cases d <;> simp only [tyNm, isBlD] <;> decide +kernel
theorem kit_str (d : PyData) : kitB (tyNm d) "str" = some (isStrD d) := by cases d <;> simp only [tyNm, isStrD] <;> decide +kernel
theorem kit_list (d : PyData) : kitB (tyNm d) "list" = some (isLstD d) := by cases d <;> simp only [tyNm, isLstD] <;> decide +kernel
theorem kit_tuple (d : PyData) : kitB (tyNm d) "tuple" = some (isTupD d) := by cases d <;> simp only [tyNm, isTupD] <;> decide +kernel
theorem kit_dict (d : PyData) : kitB (tyNm d) "dict" = some (isDctD d) := by cases d <;> simp only [tyNm, isDctD] <;> decide +kernel
theorem tyx_rb {K : PySem.W.Frag} {Z H : Hp} {v : V} {d : PyData} (zH : Same Z H) (r : Rb K Z H v d) : TyX K H v (.type (tyNm d)) := by
  cases d with
  | none => rw [r.non]; exact .base .non
  | bool c => rw [r.bl]; exact .base (.bl c)
  | int i => rw [r.int]; exact .base (.int i)
  | str y => rw [r.str]; exact .base (.str y)
  | list xs =>
    obtain ⟨a, vs, rfl, h, q⟩ := r.lst zH
    exact .base (.lst h)
  | tuple xs =>
    obtain ⟨a, vs, rfl, h, q⟩ := r.tup zH
    rcases h with (h | ⟨o, h⟩) | ⟨o, its, n, hk, hc, _⟩
    · exact .base (.tup h)
    · exact .fTuple h
    · exact .kTuple hk hc
  | dict xs =>
    obtain ⟨a, rfl, ⟨kvs, h⟩ | ⟨kvs, h⟩⟩ := r.dict zH
    · exact .base (.dK h)
    · exact .base (.dT h)
def xIsi (g : PyData → Bool) (f : XE) : XE := fun ρ => (f ρ).map fun p => (.bool (g p.1), p.2)
section
variable {X : Cx} {e : Expr} {f : XE} {x n : Str} {p p2 pos : Pos}
theorem ed_isi {N : String} {g : PyData → Bool} (hk : ∀ d, kitB (tyNm d) N = some (g d)) (hm : X.mg x = none) (hv : bootBuiltins x = some (.builtin "isinstance")) (hm2 : X.mg n = none) (hv2 : bootBuiltins n = some (.type N)) (he : OD' X e f)
    (hg : Gl X x := by rfl) (hg2 : Gl X n := by rfl) (hn : x ≠ "__name__" := by decide) (hdb : (x == ("__debug__" : Str)) = false := by decide) (hn2 : n ≠ "__name__" := by decide) (hdb2 : (n == ("__debug__" : Str)) = false := by decide)
    (hs : starEach [e, .Name n p2] X.env = (false, eval e X.env) :: starEach [.Name n p2] X.env := by rfl) (hs2 : starEach [.Name n p2] X.env = (false, eval (.Name n p2) X.env) :: starEach [] X.env := by rfl) :
    ED X (.Call (.Name x p) [e, .Name n p2] [] pos) (xIsi g f) := by
  obtain ⟨t, q, m⟩ := he
  refine ⟨_, pe_callB call_isi hg hm hv (pa_cons q (pa_cons (pe_bltn hg2 hm2 hv2 (v := .ty N) rfl hn2 hdb2) pa_nil hs2) hs) hn hdb hs (by rw [hs2]; rfl), fun Φ Z σ H ρ d ρ' R q Q k => ?_⟩
  unfold xIsi at q
  cases e1 : f ρ with
  | none => rw [e1] at q; cases q
  | some s =>
    rw [e1] at q
    cases q
    refine m Φ Z σ H ρ s.1 s.2 R e1 _ fun v H1 Z1 z1 R1 r1 => ?_
    exact ⟨v, .ty N, _, _, _, rfl, .ty N, tyx_rb R1.zH r1, kit_ty (hk s.1), k _ H1 Z1 z1 R1 (.bl _)⟩
end

/-! ### slices -/
abbrev XO := Nv → Option (Option Int × Nv)
def MP (K : PySem.W.Frag) (t : TO) (f : XO) : Prop := ∀ (Φ : Fx) (Z : Hp) (σ : St) (H : Hp) (ρ : Nv) (o : Option Int) (ρ' : Nv), Rl K Φ Z σ H ρ → f ρ = some (o, ρ') →
  ∀ Q : Option Int → Hp → Prop, (∀ H' Z', Same Z Z' → Rl K Φ Z' σ H' ρ' → Q o H') → t σ H Q
def PD (X : Cx) (e : Option Expr) (f : XO) : Prop := ∃ t, PO X e t ∧ MP X.K t f
def oNone : XO := fun ρ => some (none, ρ)
def oSome (f : XE) : XO := fun ρ => (f ρ).bind fun p => match p.1 with
  | .int i => some (some i, p.2)
  | _ => none
def cutD (ds : List PyData) (lo hi : Option Int) : List PyData := (ds.drop (HT.sIx ds.length 0 lo)).take (HT.sIx ds.length ds.length hi - HT.sIx ds.length 0 lo)
def slD : PyData → Option Int → Option Int → Option PyData
  | .list xs, lo, hi => some (.list (cutD xs lo hi))
  | .tuple xs, lo, hi => some (.tuple (cutD xs lo hi))
  | .str z, lo, hi => if z.length ≤ sizeLine then some (.str (cutS z lo hi)) else none
  | _, _, _ => none
def xSl (f : XE) (lo hi : XO) : XE := fun ρ => (f ρ).bind fun p => (lo p.2).bind fun l => (hi l.2).bind fun h => (slD p.1 l.1 h.1).map fun z => (z, h.2)
theorem cut_rp {K : PySem.W.Frag} {Z : Hp} {vs : List V} {ds : List PyData} (lo hi : Option Int) (r : RpA K Z vs ds) : RpA K Z (cutV vs lo hi) (cutD ds lo hi) := by
  unfold cutV cutD
  rw [r.length]
  exact (r.drop _).take _
theorem cut_all {ds : List PyData} {lo hi : Option Int} (h : HT.sIx ds.length 0 lo = 0 ∧ HT.sIx ds.length ds.length hi = ds.length) : cutD ds lo hi = ds := by
  unfold cutD
  rw [h.1, h.2]
  simp
def rSlD (K : PySem.W.Frag) : V → Option Int → Option Int → Hp → VK → Prop := fun x lo hi H Q => rSlL K x lo hi H Q ∨ rSlA K x lo hi H Q ∨ rSlS x lo hi H Q
section
variable {X : Cx} {e : Expr} {f : XE} {lo hi : Option Expr} {fl fh : XO} {p2 pos : Pos}
theorem pd_none : PD X none oNone := ⟨_, po_none, fun Φ Z σ H ρ o ρ' R q Q k => by
  cases q
  exact k H Z (Same.refl Z) R⟩
theorem pd_some (h : ED X e f) : PD X (some e) (oSome f) := by
  obtain ⟨t, p, m⟩ := h
  refine ⟨_, po_some p, fun Φ Z σ H ρ o ρ' R q Q k => ?_⟩
  unfold oSome at q
  cases e1 : f ρ with
  | none => rw [e1] at q; cases q
  | some s =>
    rw [e1, Option.bind_some] at q
    split at q
    · rename_i i ei
      cases q
      refine m Φ Z σ H ρ s.1 s.2 R e1 _ fun v H1 Z1 z1 R1 r1 => ?_
      rw [ei] at r1
      cases r1
      exact ⟨i, rfl, k H1 Z1 z1 R1⟩
    · cases q
theorem ed_sl (he : ED X e f) (hl : PD X lo fl) (hh : PD X hi fh) : ED X (.Subscript e (.Slice lo hi none p2) pos) (xSl f fl fh) := by
  obtain ⟨t, p, m⟩ := he
  obtain ⟨tl, pl, ml⟩ := hl
  obtain ⟨th, ph, mh⟩ := hh
  refine ⟨_, pe_slice (r := rSlD X.K) (sl_list.or (sl_tupA.or sl_str)) p pl ph, fun Φ Z σ H ρ d ρ' R q Q k => ?_⟩
  unfold xSl at q
  cases e1 : f ρ with
  | none => rw [e1] at q; cases q
  | some s =>
    rw [e1, Option.bind_some] at q
    cases e2 : fl s.2 with
    | none => rw [e2] at q; cases q
    | some l =>
      rw [e2, Option.bind_some] at q
      cases e3 : fh l.2 with
      | none => rw [e3] at q; cases q
      | some h =>
        rw [e3, Option.bind_some] at q
        cases e4 : slD s.1 l.1 h.1 with
        | none => rw [e4] at q; cases q
        | some z =>
          rw [e4] at q
          cases q
          refine m Φ Z σ H ρ s.1 s.2 R e1 _ fun v H1 Z1 z1 R1 r1 => ?_
          refine ml Φ Z1 σ H1 s.2 l.1 l.2 R1 e2 _ fun H2 Z2 z2 R2 => ?_
          refine mh Φ Z2 σ H2 l.2 h.1 h.2 R2 e3 _ fun H3 Z3 z3 R3 => ?_
          have r3 : Rp X.K Z3 v s.1 := (r1.mono z2).mono z3
          have k3 : ∀ v H' Z', Same Z3 Z' → Rl X.K Φ Z' σ H' h.2 → Rp X.K Z' v d → Q v H' := fun v H' Z' z R r => k v H' Z' (((z1.trans z2).trans z3).trans z) R r
          unfold slD at e4
          split at e4
          · rename_i xs _ _ es
            cases e4
            rw [es] at r3
            obtain ⟨a, vs, rfl, ha, rr⟩ := Rb.lst R3.zH (.inl r3)
            exact .inl ⟨a, vs, rfl, SqL.of ha, fun p hp => ends_lst R3 (cut_rp _ _ rr) k3 hp⟩
          · rename_i xs _ _ es
            cases e4
            rw [es] at r3
            obtain ⟨a, vs, rfl, ha, rr⟩ := Rb.tup R3.zH (.inl r3)
            refine .inr (.inl ⟨a, vs, rfl, ha, fun hw => ?_, fun _ p hp => ends_tup R3 (cut_rp _ _ rr) k3 hp⟩)
            rw [rr.length] at hw
            rw [cut_all hw] at k3
            exact ends_flat R3 r3 k3
          · split at e4
            · cases e4
              rename_i es hz
              rw [es] at r3
              cases r3
              exact .inr (.inr ⟨_, rfl, hz, ends_flat R3 (.str _) k3⟩)
            · cases e4
          · cases e4
end

/-! ### the script: a slice of it, whether it is empty -/
def xScr (i : Nat) (lo hi : Option Int) : XE := fun ρ => match ρ[i]? with
  | some (.scr ns) => some (.list (cutD (ns.map PyData.int) lo hi), ρ)
  | _ => none
theorem ints_rp {K : PySem.W.Frag} {Z : Hp} : ∀ ns : List Int, RpA K Z (ns.map V.int) (ns.map PyData.int)
  | [] => .nil
  | n :: r => .cons (.int n) (ints_rp r)
theorem ints_dp {K : PySem.W.Frag} {H : Hp} : ∀ ns : List Int, DpAll K H (ns.map V.int) (ns.map PyData.int)
  | [] => .nil
  | n :: r => .cons (.int n) (ints_dp r)
section
variable {X : Cx} {p2 pos vpos : Pos}
theorem ed_scrTo (i : Nat) {x : Str} {n : Int} {j : Nat} {cp : Pos} (hN : X.N[i]? = some x := by rfl) (hv : Vis X.env.scope x := by first | exact Or.inl rfl | exact Or.inr (Or.inl rfl) | exact Or.inr (Or.inr rfl)) (hd : (x == ("__debug__" : Str)) = false := by decide)
    (hcd : (x == ("__classdict__" : Str)) = false := by decide) : ED X (.Subscript (.Name x vpos) (.Slice none (some (.Constant (.int n) j cp)) none p2) pos) (xScr i none (some n)) := by
  refine ⟨_, pe_slice sl_list (pe_var hN hv hd hcd) po_none (po_some pe_int), fun Φ Z σ H ρ d ρ' R q Q k => ?_⟩
  unfold xScr at q
  split at q
  · rename_i ns e
    cases q
    obtain ⟨a, s, h⟩ := R.scr _ _ e
    exact ⟨_, s, n, rfl, a, _, rfl, R.zH.seq h, fun p hp => ends_lst R (cut_rp none (some n) (ints_rp ns)) k hp⟩
  · cases q
/-- script == e, script != e -/
def xScrCmp (g : PyData → PyData → Option PyData) (i : Nat) (f : XE) : XE := fun ρ => match ρ[i]? with
  | some (.scr ns) => (f ρ).bind fun q => (g (.list (ns.map PyData.int)) q.1).map fun z => (z, q.2)
  | _ => none
theorem me_scrNe {K : PySem.W.Frag} {i : Nat} {t : TE} {f : XE} (m : ME K t f) : ME K (tOp (rNeD K) (tVar i) t) (xScrCmp neD i f) := by
  intro Φ Z σ H ρ d ρ' R q Q k
  unfold xScrCmp at q
  split at q
  · rename_i ns e
    obtain ⟨a, s, h⟩ := R.scr _ _ e
    cases e1 : f ρ with
    | none => rw [e1] at q; cases q
    | some w =>
      rw [e1, Option.bind_some] at q
      cases e2 : neD (.list (ns.map PyData.int)) w.1 with
      | none => rw [e2] at q; cases q
      | some z =>
        rw [e2] at q
        cases q
        refine ⟨_, s, m Φ Z σ H ρ w.1 w.2 R e1 _ fun v H1 Z1 z1 R1 r1 => ?_⟩
        unfold neD at e2
        split at e2
        · rename_i h0 _
          cases h0
        split at e2
        · rename_i hs
          rw [Bool.and_eq_true] at hs
          cases e2
          exact ⟨_, _, .lst ((z1.trans R1.zH).seq h) (ints_dp ns), (Rb.dp R1.zH (.inl r1) hs.2), hs.1, hs.2, k _ H1 Z1 z1 R1 (.bl _)⟩
        · cases e2
  · cases q
theorem td_scrNe (i : Nat) {x : Str} {e : Expr} {f : XE} (hu : X.A.units + 64 < cLine) (he : ED X e f) (hN : X.N[i]? = some x := by rfl) (hv : Vis X.env.scope x := by first | exact Or.inl rfl | exact Or.inr (Or.inl rfl) | exact Or.inr (Or.inr rfl)) (hd : (x == ("__debug__" : Str)) = false := by decide)
    (hcd : (x == ("__classdict__" : Str)) = false := by decide) : TD X (.Compare (.Name x vpos) [.NotEq] [e] pos) (tst (xScrCmp neD i f)) := by
  obtain ⟨t, p, m⟩ := he
  exact ⟨_, pt_cmpR (op_neD hu) (pe_var hN hv hd hcd) p (nobehind _ (by decide) (by decide)), mt_tst (me_scrNe m)⟩
end

/-! ### statements -/
inductive Fl where
  | nx (ρ : Nv)
  | rt (d : PyData) (ρ : Nv)
  | rn (o : OD) (ρ : Nv)
  | bk (ρ : Nv)
  | ct (ρ : Nv)
abbrev XS := Nv → Option Fl
/-- what is wanted at a statement's end -/
def FlE (K : PySem.W.Frag) (Φ : Fx) (Z : Hp) (D : Ends) : Fl → Prop
  | .nx ρ' => ∀ σ' H' Z', Same Z Z' → Rl K Φ Z' σ' H' ρ' → D.nx σ' H'
  | .rt d ρ' => ∀ v σ' H' Z', Same Z Z' → Rl K Φ Z' σ' H' ρ' → Rp K Z' v d → D.rt v H'
  | .rn o ρ' => ∀ a σ' H' Z', Same Z Z' → Rl K Φ Z' σ' H' ρ' → New K Φ Z' σ' H' ρ' a o → D.rt (.ref a) H'
  | .bk ρ' => ∀ σ' H' Z', Same Z Z' → Rl K Φ Z' σ' H' ρ' → D.bk σ' H'
  | .ct ρ' => ∀ σ' H' Z', Same Z Z' → Rl K Φ Z' σ' H' ρ' → D.ct σ' H'
theorem FlE.mono {K : PySem.W.Frag} {Φ : Fx} {Z Z' : Hp} {D : Ends} {f : Fl} (z : Same Z Z') (h : FlE K Φ Z D f) : FlE K Φ Z' D f := by
  cases f with
  | nx ρ => exact fun σ' H' Z2 z2 => h σ' H' Z2 (z.trans z2)
  | rt d ρ => exact fun v σ' H' Z2 z2 => h v σ' H' Z2 (z.trans z2)
  | rn o ρ => exact fun v σ' H' Z2 z2 => h v σ' H' Z2 (z.trans z2)
  | bk ρ => exact fun σ' H' Z2 z2 => h σ' H' Z2 (z.trans z2)
  | ct ρ => exact fun σ' H' Z2 z2 => h σ' H' Z2 (z.trans z2)
def MS (K : PySem.W.Frag) (t : TS) (f : XS) : Prop := ∀ (Φ : Fx) (Z : Hp) (σ : St) (H : Hp) (ρ : Nv) (r : Fl), Rl K Φ Z σ H ρ → f ρ = some r → ∀ D : Ends, FlE K Φ Z D r → t D σ H
def SD (X : Cx) (st : Stmt) (f : XS) : Prop := ∃ t, PS X st t ∧ MS X.K t f
def SSD (X : Cx) (st : List Stmt) (f : XS) : Prop := ∃ t, PSs X st t ∧ MS X.K t f
def sNil : XS := fun ρ => some (.nx ρ)
def sSeq (a b : XS) : XS := fun ρ => (a ρ).bind fun r => match r with
  | .nx ρ' => b ρ'
  | r => some r
def sRet (f : XE) : XS := fun ρ => (f ρ).map fun p => .rt p.1 p.2
def sRetN : XS := fun ρ => some (.rt .none ρ)
def sIf (t : XT) (a b : XS) : XS := fun ρ => (t ρ).bind fun p => if p.1 = true then a p.2 else b p.2
def sDrop (f : XE) : XS := fun ρ => (f ρ).map fun p => .nx p.2
def sBrk : XS := fun ρ => some (.bk ρ)
def sCnt : XS := fun ρ => some (.ct ρ)
/-- the slot may be stored: it is there, and lends no caller's object -/
def free (ρ : Nv) (i : Nat) : Bool := match ρ[i]? with
  | some (.own _ true) => false
  | some _ => true
  | none => false
theorem free_lt {ρ : Nv} {i : Nat} (h : free ρ i = true) : i < ρ.length ∧ ∀ o, ρ[i]? ≠ some (EV.own o true) := by
  unfold free at h
  refine ⟨?_, fun o e => ?_⟩
  · cases e : ρ[i]? with
    | none => rw [e] at h; cases h
    | some x => exact (List.getElem?_eq_some_iff.mp e).1
  · rw [e] at h
    cases h
def put (ρ : Nv) (i : Nat) (d : PyData) : Option Nv := if free ρ i = true then some (ρ.set i (.d d)) else none
def sSet (i : Nat) (f : XE) : XS := fun ρ => (f ρ).bind fun p => (put p.2 i p.1).map .nx
def sNew (i : Nat) (f : XN) : XS := fun ρ => (f ρ).bind fun p => if free p.2 i = true then some (.nx (p.2.set i (.own p.1 false))) else none
theorem put_rl {K : PySem.W.Frag} {Φ : Fx} {Z : Hp} {σ : St} {H : Hp} {ρ ρ' : Nv} {i : Nat} {d : PyData} {v : V} (R : Rl K Φ Z σ H ρ) (r : Rp K Z v d) (h : put ρ i d = some ρ') : Rl K Φ Z (σ.set i (some v)) H ρ' := by
  unfold put at h
  split at h
  · rename_i hf
    cases h
    obtain ⟨h1, h2⟩ := free_lt hf
    exact R.store h1 h2 r
  · cases h
section
variable {X : Cx} {e c : Expr} {st : Stmt} {rest a b : List Stmt} {f : XE} {g h : XS} {t : XT} {pos : Pos}
theorem ssd_nil : SSD X [] sNil := ⟨_, pss_nil, fun Φ Z σ H ρ r R q D k => by
  cases q
  exact k σ H Z (Same.refl Z) R⟩
theorem ms_seq {K : PySem.W.Frag} {t u : TS} (m : MS K t g) (n : MS K u h) : MS K (tSeq t u) (sSeq g h) := by
  intro Φ Z σ H ρ r R q D k
  unfold sSeq at q
  cases e1 : g ρ with
  | none => rw [e1] at q; cases q
  | some s =>
    rw [e1, Option.bind_some] at q
    cases s with
    | nx ρ1 => exact m Φ Z σ H ρ _ R e1 _ fun σ1 H1 Z1 z1 R1 => n Φ Z1 σ1 H1 ρ1 r R1 q D (k.mono z1)
    | rt d ρ1 => cases q; exact m Φ Z σ H ρ _ R e1 _ k
    | rn d ρ1 => cases q; exact m Φ Z σ H ρ _ R e1 _ k
    | bk ρ1 => cases q; exact m Φ Z σ H ρ _ R e1 _ k
    | ct ρ1 => cases q; exact m Φ Z σ H ρ _ R e1 _ k
theorem ssd_cons (h1 : SD X st g) (h2 : SSD X rest h) : SSD X (st :: rest) (sSeq g h) := by
  obtain ⟨t, p, m⟩ := h1
  obtain ⟨u, q, n⟩ := h2
  exact ⟨_, pss_cons p q, ms_seq m n⟩
theorem ssd_one (h1 : SD X st g) : SSD X [st] g := by
  obtain ⟨t, p, m⟩ := h1
  exact ⟨_, pss_one p, m⟩
theorem sd_ret (he : ED X e f) : SD X (.Return (some e) pos) (sRet f) := by
  obtain ⟨t, p, m⟩ := he
  refine ⟨_, ps_ret p, fun Φ Z σ H ρ r R q D k => ?_⟩
  unfold sRet at q
  cases e1 : f ρ with
  | none => rw [e1] at q; cases q
  | some s =>
    rw [e1] at q
    cases q
    exact m Φ Z σ H ρ s.1 s.2 R e1 _ fun v H1 Z1 z1 R1 r1 => k v σ H1 Z1 z1 R1 r1
/-- return of a new object -/
def sRetO (f : XN) : XS := fun ρ => (f ρ).map fun p => .rn p.1 p.2
theorem sd_retO {n : XN} (he : ND X e n) : SD X (.Return (some e) pos) (sRetO n) := by
  obtain ⟨t, p, m⟩ := he
  refine ⟨_, ps_ret p, fun Φ Z σ H ρ r R q D k => ?_⟩
  unfold sRetO at q
  cases e1 : n ρ with
  | none => rw [e1] at q; cases q
  | some s =>
    rw [e1] at q
    cases q
    exact m Φ Z σ H ρ s.1 s.2 R e1 _ fun v H1 Z1 z1 R1 r1 => k v σ H1 Z1 z1 R1 r1
theorem sd_retN : SD X (.Return none pos) sRetN := ⟨_, ps_retN, fun Φ Z σ H ρ r R q D k => by
  cases q
  exact k .non σ H Z (Same.refl Z) R .non⟩
theorem sd_pass : SD X (.Pass pos) sNil := ⟨_, ps_pass, fun Φ Z σ H ρ r R q D k => by
  cases q
  exact k σ H Z (Same.refl Z) R⟩
theorem sd_brk : SD X (.Break pos) sBrk := ⟨_, ps_break, fun Φ Z σ H ρ r R q D k => by
  cases q
  exact k σ H Z (Same.refl Z) R⟩
theorem sd_cnt : SD X (.Continue pos) sCnt := ⟨_, ps_continue, fun Φ Z σ H ρ r R q D k => by
  cases q
  exact k σ H Z (Same.refl Z) R⟩
theorem sd_doc {x : Str} {j} {p2 : Pos} : SD X (.Expr (.Constant (.str x) j pos) p2) sNil := ⟨_, ps_doc, fun Φ Z σ H ρ r R q D k => by
  cases q
  exact k σ H Z (Same.refl Z) R⟩
theorem sd_if (hc : TD X c t) (ha : SSD X a g) (hb : SSD X b h) : SD X (.If c a b pos) (sIf t g h) := by
  obtain ⟨tc, pc, mc⟩ := hc
  obtain ⟨ta, pa, ma⟩ := ha
  obtain ⟨tb, pb, mb⟩ := hb
  refine ⟨_, ps_if pc pa pb, fun Φ Z σ H ρ r R q D k => ?_⟩
  unfold sIf at q
  cases e1 : t ρ with
  | none => rw [e1] at q; cases q
  | some s =>
    rw [e1, Option.bind_some] at q
    refine mc Φ Z σ H ρ s.1 s.2 R e1 _ fun H1 Z1 z1 R1 => ?_
    by_cases hp : s.1 = true
    · rw [if_pos hp] at q ⊢
      exact ma Φ Z1 σ H1 s.2 r R1 q D (k.mono z1)
    · rw [if_neg hp] at q ⊢
      exact mb Φ Z1 σ H1 s.2 r R1 q D (k.mono z1)
theorem sd_drop (he : ED X e f) (hs : swapsWith e none pos.line X.env = pure false := by rfl) : SD X (.Expr e pos) (sDrop f) := by
  obtain ⟨t, p, m⟩ := he
  refine ⟨_, ps_expr p hs, fun Φ Z σ H ρ r R q D k => ?_⟩
  unfold sDrop at q
  cases e1 : f ρ with
  | none => rw [e1] at q; cases q
  | some s =>
    rw [e1] at q
    cases q
    exact m Φ Z σ H ρ s.1 s.2 R e1 _ fun v H1 Z1 z1 R1 r1 => k σ H1 Z1 z1 R1
theorem sd_set (i : Nat) {x : Str} {pos' : Pos} (hN : X.N.Nodup) (he : ED X e f) (hi : X.N[i]? = some x := by rfl) (hx : Loc X.env.scope x := by first | exact Or.inl rfl | exact Or.inr rfl) (hs : swapsWith e (some (.Name x pos')) pos.line X.env = pure false := by rfl)
    (hf : X.fn x = true ∨ X.env.scope.names.lookup x = some .local := by first | exact .inl rfl | exact .inr rfl) : SD X (.Assign [.Name x pos'] e pos) (sSet i f) := by
  obtain ⟨t, p, m⟩ := he
  refine ⟨_, ps_set hN hi hx p hs hf, fun Φ Z σ H ρ r R q D k => ?_⟩
  unfold sSet at q
  cases e1 : f ρ with
  | none => rw [e1] at q; cases q
  | some s =>
    rw [e1, Option.bind_some] at q
    cases e2 : put s.2 i s.1 with
    | none => rw [e2] at q; cases q
    | some ρ1 =>
      rw [e2] at q
      cases q
      exact m Φ Z σ H ρ s.1 s.2 R e1 _ fun v H1 Z1 z1 R1 r1 => k _ H1 Z1 z1 (put_rl R1 r1 e2)
theorem sd_new (i : Nat) {n : XN} {x : Str} {pos' : Pos} (hN : X.N.Nodup) (he : ND X e n) (hi : X.N[i]? = some x := by rfl) (hx : Loc X.env.scope x := by first | exact Or.inl rfl | exact Or.inr rfl) (hs : swapsWith e (some (.Name x pos')) pos.line X.env = pure false := by rfl)
    (hf : X.fn x = true ∨ X.env.scope.names.lookup x = some .local := by first | exact .inl rfl | exact .inr rfl) : SD X (.Assign [.Name x pos'] e pos) (sNew i n) := by
  obtain ⟨t, p, m⟩ := he
  refine ⟨_, ps_set hN hi hx p hs hf, fun Φ Z σ H ρ r R q D k => ?_⟩
  unfold sNew at q
  cases e1 : n ρ with
  | none => rw [e1] at q; cases q
  | some s =>
    rw [e1, Option.bind_some] at q
    split at q
    · rename_i hfr
      cases q
      obtain ⟨h1, h2⟩ := free_lt hfr
      exact m Φ Z σ H ρ s.1 s.2 R e1 _ fun a H1 Z1 z1 R1 w => k _ H1 Z1 z1 (R1.hold h1 h2 w.ob w.z w.fr w.h0 w.no)
    · cases q
end
end DL
set_option maxRecDepth 100000
set_option maxHeartbeats 2000000
/-! DL, lists and dicts of one's own -/
namespace DL
open PySem L2

/-! ### lists of one's own: append, extend, insert, pop -/
def xApp (i : Nat) (f : XE) : XE := fun ρ => match ρ[i]? with
  | some (.own (.ol _) _) => (f ρ).bind fun p => match p.2[i]? with
    | some (.own (.ol xs) io) => if xs.length < sizeLine then some (.none, p.2.set i (.own (.ol (xs ++ [p.1])) io)) else none
    | _ => none
  | _ => none
def xExt (i : Nat) (f : XE) : XE := fun ρ => match ρ[i]? with
  | some (.own (.ol _) _) => (f ρ).bind fun p => match p.1, p.2[i]? with
    | .list ys, some (.own (.ol xs) io) => if xs.length + ys.length ≤ sizeLine then some (.none, p.2.set i (.own (.ol (xs ++ ys)) io)) else none
    | _, _ => none
  | _ => none
def xIns (i : Nat) (f g : XE) : XE := fun ρ => match ρ[i]? with
  | some (.own (.ol _) _) => (f ρ).bind fun p => (g p.2).bind fun q => match p.1, q.2[i]? with
    | .int k, some (.own (.ol xs) io) => if xs.length < sizeLine ∧ 0 ≤ k ∧ k < 2 ^ 63 then some (.none, q.2.set i (.own (.ol (xs.take k.toNat ++ [q.1] ++ xs.drop k.toNat)) io)) else none
    | _, _ => none
  | _ => none
def xPop (i : Nat) : XE := fun ρ => match ρ[i]? with
  | some (.own (.ol xs) io) => (xs[xs.length - 1]?).map fun y => (y, ρ.set i (.own (.ol xs.dropLast) io))
  | _ => none
/-- the own list that stands in slot i -/
theorem Rl.lst {K : PySem.W.Frag} {Φ : Fx} {Z : Hp} {σ : St} {H : Hp} {ρ : Nv} (R : Rl K Φ Z σ H ρ) {i : Nat} {xs : List PyData} {io : Bool} (e : ρ[i]? = some (EV.own (.ol xs) io)) :
    ∃ a vs, σ[i]? = some (some (V.ref a)) ∧ H a = some (.lst vs) ∧ RpA K Z vs xs := by
  obtain ⟨a, s, vs, h, r⟩ := R.own _ _ _ e
  exact ⟨a, vs, s, h, r⟩
section
variable {X : Cx} {e e2 : Expr} {f g : XE} {apos cpos vpos : Pos}
theorem ed_app (i : Nat) {x : Str} (he : ED X e f) (hN : X.N[i]? = some x := by rfl) (hv : Vis X.env.scope x := by first | exact Or.inl rfl | exact Or.inr (Or.inl rfl) | exact Or.inr (Or.inr rfl)) (hd : (x == ("__debug__" : Str)) = false := by decide)
    (hcd : (x == ("__classdict__" : Str)) = false := by decide) (hbase : attributeBase (.Name x vpos) "append" X.env (eval (.Name x vpos) X.env) = eval (.Name x vpos) X.env := by rfl)
    (hfew : ((backTo cpos (starEach [e] X.env)).all (fun x => !x.1) && (backToKw cpos (keywordEach [] X.env)).all (fun x => x.1.isSome) && decide ([e].length + ([] : List Keyword).length + (if ([] : List Keyword).isEmpty then 0 else 1) < 30)) = true := by rfl)
    (hline : (apos.endLine == cpos.line) = true := by rfl) (hs : starEach [e] X.env = (false, eval e X.env) :: starEach [] X.env := by rfl) (hplain : (backTo cpos (starEach [] X.env)).any (·.1) = false := by rfl) :
    ED X (.Call (.Attribute (.Name x vpos) "append" apos) [e] [] cpos) (xApp i f) := by
  obtain ⟨t, p, m⟩ := he
  refine ⟨_, pe_bm PySem.F.plainAttrs_list PySem.F.slot_list_append PySem.F.type_list_append mt_append (pe_var hN hv hd hcd) (pa_cons p pa_nil hs) hbase hfew hline hs hplain, fun Φ Z σ H ρ d ρ' R q Q k => ?_⟩
  unfold xApp at q
  split at q
  · rename_i ys io e0
    obtain ⟨a, vs, s, h, _⟩ := R.lst e0
    cases e1 : f ρ with
    | none => rw [e1] at q; cases q
    | some w =>
      rw [e1, Option.bind_some] at q
      split at q
      · rename_i xs io2 e2
        split at q
        · rename_i hl
          cases q
          refine ⟨_, s, .inl ⟨rfl, vs, SqL.of h⟩, m Φ Z σ H ρ w.1 w.2 R e1 _ fun v H1 Z1 z1 R1 r1 => ?_⟩
          obtain ⟨a2, vs2, s2, h2, rr⟩ := R1.lst e2
          rw [s] at s2
          cases s2
          refine ⟨a, vs2, v, rfl, rfl, h2, by rw [rr.length]; exact hl, ?_⟩
          exact k _ _ Z1 z1 (R1.mutate e2 s ⟨_, upd_same, rr.append (.cons r1 .nil)⟩) .non
        · cases q
      · cases q
  · cases q
theorem ed_ext (i : Nat) {x : Str} (he : ED X e f) (hN : X.N[i]? = some x := by rfl) (hv : Vis X.env.scope x := by first | exact Or.inl rfl | exact Or.inr (Or.inl rfl) | exact Or.inr (Or.inr rfl)) (hd : (x == ("__debug__" : Str)) = false := by decide)
    (hcd : (x == ("__classdict__" : Str)) = false := by decide) (hbase : attributeBase (.Name x vpos) "extend" X.env (eval (.Name x vpos) X.env) = eval (.Name x vpos) X.env := by rfl)
    (hfew : ((backTo cpos (starEach [e] X.env)).all (fun x => !x.1) && (backToKw cpos (keywordEach [] X.env)).all (fun x => x.1.isSome) && decide ([e].length + ([] : List Keyword).length + (if ([] : List Keyword).isEmpty then 0 else 1) < 30)) = true := by rfl)
    (hline : (apos.endLine == cpos.line) = true := by rfl) (hs : starEach [e] X.env = (false, eval e X.env) :: starEach [] X.env := by rfl) (hplain : (backTo cpos (starEach [] X.env)).any (·.1) = false := by rfl) :
    ED X (.Call (.Attribute (.Name x vpos) "extend" apos) [e] [] cpos) (xExt i f) := by
  obtain ⟨t, p, m⟩ := he
  refine ⟨_, pe_bm PySem.F.plainAttrs_list PySem.F.slot_list_extend PySem.F.type_list_extend mt_extend (pe_var hN hv hd hcd) (pa_cons p pa_nil hs) hbase hfew hline hs hplain, fun Φ Z σ H ρ d ρ' R q Q k => ?_⟩
  unfold xExt at q
  split at q
  · rename_i ys io e0
    obtain ⟨a, vs, s, h, _⟩ := R.lst e0
    cases e1 : f ρ with
    | none => rw [e1] at q; cases q
    | some w =>
      rw [e1, Option.bind_some] at q
      split at q
      · rename_i zs xs io2 ez e2
        split at q
        · rename_i hl
          cases q
          refine ⟨_, s, .inl ⟨rfl, vs, SqL.of h⟩, m Φ Z σ H ρ w.1 w.2 R e1 _ fun v H1 Z1 z1 R1 r1 => ?_⟩
          rw [ez] at r1
          obtain ⟨b, ws, rfl, hb, rb⟩ := Rb.lst R1.zH (.inl r1)
          obtain ⟨a2, vs2, s2, h2, rr⟩ := R1.lst e2
          rw [s] at s2
          cases s2
          refine ⟨a, b, vs2, ws, rfl, rfl, h2, hb, by rw [rr.length, rb.length]; exact hl, ?_⟩
          exact k _ _ Z1 z1 (R1.mutate e2 s ⟨_, upd_same, rr.append rb⟩) .non
        · cases q
      · cases q
  · cases q
theorem ed_ins (i : Nat) {x : Str} (he : ED X e f) (he2 : ED X e2 g) (hN : X.N[i]? = some x := by rfl) (hv : Vis X.env.scope x := by first | exact Or.inl rfl | exact Or.inr (Or.inl rfl) | exact Or.inr (Or.inr rfl)) (hd : (x == ("__debug__" : Str)) = false := by decide)
    (hcd : (x == ("__classdict__" : Str)) = false := by decide) (hbase : attributeBase (.Name x vpos) "insert" X.env (eval (.Name x vpos) X.env) = eval (.Name x vpos) X.env := by rfl)
    (hfew : ((backTo cpos (starEach [e, e2] X.env)).all (fun x => !x.1) && (backToKw cpos (keywordEach [] X.env)).all (fun x => x.1.isSome) && decide ([e, e2].length + ([] : List Keyword).length + (if ([] : List Keyword).isEmpty then 0 else 1) < 30)) = true := by rfl)
    (hline : (apos.endLine == cpos.line) = true := by rfl) (hs : starEach [e, e2] X.env = (false, eval e X.env) :: starEach [e2] X.env := by rfl) (hs2 : starEach [e2] X.env = (false, eval e2 X.env) :: starEach [] X.env := by rfl) (hplain : (backTo cpos (starEach [e2] X.env)).any (·.1) = false := by rfl) :
    ED X (.Call (.Attribute (.Name x vpos) "insert" apos) [e, e2] [] cpos) (xIns i f g) := by
  obtain ⟨t, p, m⟩ := he
  obtain ⟨t2, p2, m2⟩ := he2
  refine ⟨_, pe_bm PySem.F.plainAttrs_list PySem.F.slot_list_insert PySem.F.type_list_insert mt_insert (pe_var hN hv hd hcd) (pa_cons p (pa_cons p2 pa_nil hs2) hs) hbase hfew hline hs hplain, fun Φ Z σ H ρ d ρ' R q Q k => ?_⟩
  unfold xIns at q
  split at q
  · rename_i ys io e0
    obtain ⟨a, vs, s, h, _⟩ := R.lst e0
    cases e1 : f ρ with
    | none => rw [e1] at q; cases q
    | some w =>
      rw [e1, Option.bind_some] at q
      cases e3 : g w.2 with
      | none => rw [e3] at q; cases q
      | some u =>
        rw [e3, Option.bind_some] at q
        split at q
        · rename_i n xs io2 ez e2
          split at q
          · rename_i hl
            cases q
            refine ⟨_, s, .inl ⟨rfl, vs, SqL.of h⟩, m Φ Z σ H ρ w.1 w.2 R e1 _ fun v H1 Z1 z1 R1 r1 => ?_⟩
            rw [ez] at r1
            cases r1
            refine m2 Φ Z1 σ H1 w.2 u.1 u.2 R1 e3 _ fun y H2 Z2 z2 R2 r2 => ?_
            obtain ⟨a2, vs2, s2, h2, rr⟩ := R2.lst e2
            rw [s] at s2
            cases s2
            refine ⟨a, vs2, n, y, rfl, rfl, h2, by rw [rr.length]; exact hl.1, hl.2.1, hl.2.2, ?_⟩
            exact k _ _ Z2 (z1.trans z2) (R2.mutate e2 s ⟨_, upd_same, ((rr.take _).append (.cons r2 .nil)).append (rr.drop _)⟩) .non
          · cases q
        · cases q
  · cases q
theorem ed_pop (i : Nat) {x : Str} (hN : X.N[i]? = some x := by rfl) (hv : Vis X.env.scope x := by first | exact Or.inl rfl | exact Or.inr (Or.inl rfl) | exact Or.inr (Or.inr rfl)) (hd : (x == ("__debug__" : Str)) = false := by decide)
    (hcd : (x == ("__classdict__" : Str)) = false := by decide) (hbase : attributeBase (.Name x vpos) "pop" X.env (eval (.Name x vpos) X.env) = eval (.Name x vpos) X.env := by rfl) (hline : (apos.endLine == cpos.line) = true := by rfl) :
    ED X (.Call (.Attribute (.Name x vpos) "pop" apos) [] [] cpos) (xPop i) := by
  refine ⟨_, pe_bm0 PySem.F.plainAttrs_list PySem.F.slot_list_pop PySem.F.type_list_pop mt_pop (pe_var hN hv hd hcd) hbase hline, fun Φ Z σ H ρ d ρ' R q Q k => ?_⟩
  unfold xPop at q
  split at q
  · rename_i xs io e0
    obtain ⟨a, vs, s, h, rr⟩ := R.lst e0
    cases e1 : xs[xs.length - 1]? with
    | none => rw [e1] at q; cases q
    | some y =>
      rw [e1] at q
      cases q
      obtain ⟨v, hv1, hv2⟩ := rr.get e1
      refine ⟨_, s, .inl ⟨rfl, vs, SqL.of h⟩, a, vs, v, rfl, rfl, h, by rw [rr.length]; exact hv1, ?_⟩
      exact k _ _ Z (Same.refl Z) (R.mutate e0 s ⟨_, upd_same, rr.dropLast⟩) hv2
  · cases q
end

/-! ### dicts of one's own -/
section
variable {κ : Type} [DecidableEq κ]
def getD' (kvs : List (κ × PyData)) (k : κ) : Option PyData := (kvs.find? fun kv => decide (kv.1 = k)).map (·.2)
def putD (kvs : List (κ × PyData)) (k : κ) (d : PyData) : List (κ × PyData) := if (kvs.any fun kv => decide (kv.1 = k)) = true then kvs.map (fun kv => if kv.1 = k then (kv.1, d) else kv) else kvs ++ [(k, d)]
end
theorem get_rp {κ : Type} [DecidableEq κ] {K : PySem.W.Frag} {Z : Hp} {k : κ} : ∀ {vs : List (κ × V)} {kvs : List (κ × PyData)}, vs.map (·.1) = kvs.map (·.1) → RpA K Z (vs.map (·.2)) (kvs.map (·.2)) →
    (∀ d, getD' kvs k = some d → ∃ v, valV vs k = some v ∧ Rp K Z v d) ∧ (valV vs k).isSome = (getD' kvs k).isSome
  | [], [], _, _ => ⟨fun d e => (by cases e), rfl⟩
  | [], _ :: _, e, _ => by cases e
  | _ :: _, [], e, _ => by cases e
  | (a, v) :: vs, (b, d) :: kvs, e, r => by
    rw [List.map_cons, List.map_cons] at e
    injection e with e1 e2
    rw [List.map_cons, List.map_cons] at r
    cases r with
    | cons r1 r2 =>
      have ih := get_rp (k := k) e2 r2
      have e1 : a = b := e1
      subst e1
      by_cases hk : a = k
      · subst hk
        refine ⟨fun d' q => ?_, ?_⟩
        · have : getD' ((a, d) :: kvs) a = some d := by simp [getD', List.find?_cons]
          rw [this] at q
          cases q
          exact ⟨v, valV_pos rfl, r1⟩
        · simp [valV, getD', List.find?_cons]
      · have q1 : getD' ((a, d) :: kvs) k = getD' kvs k := by simp [getD', List.find?_cons, hk]
        rw [q1, valV_neg (p := (a, v)) hk]
        exact ih
theorem keys_any {κ : Type} [DecidableEq κ] {k : κ} : ∀ {vs : List (κ × V)} {kvs : List (κ × PyData)}, vs.map (·.1) = kvs.map (·.1) → (vs.any fun kv => decide (kv.1 = k)) = (kvs.any fun kv => decide (kv.1 = k))
  | [], [], _ => rfl
  | [], _ :: _, e => by cases e
  | _ :: _, [], e => by cases e
  | (a, v) :: vs, (b, d) :: kvs, e => by
    rw [List.map_cons, List.map_cons] at e
    injection e with e1 e2
    have e1 : a = b := e1
    subst e1
    rw [List.any_cons, List.any_cons, keys_any e2]
theorem put_keys {κ : Type} [DecidableEq κ] {k : κ} {v : V} {d : PyData} : ∀ {vs : List (κ × V)} {kvs : List (κ × PyData)}, vs.map (·.1) = kvs.map (·.1) →
    (vs.map fun kv => if kv.1 = k then (kv.1, v) else kv).map (·.1) = (kvs.map fun kv => if kv.1 = k then (kv.1, d) else kv).map (·.1)
  | [], [], _ => rfl
  | [], _ :: _, e => by cases e
  | _ :: _, [], e => by cases e
  | (a, v') :: vs, (b, d') :: kvs, e => by
    rw [List.map_cons, List.map_cons] at e
    injection e with e1 e2
    have e1 : a = b := e1
    subst e1
    have ih := put_keys (k := k) (v := v) (d := d) e2
    simp only [List.map_cons]
    rw [ih]
    by_cases hk : a = k <;> simp [hk]
theorem put_vals {κ : Type} [DecidableEq κ] {K : PySem.W.Frag} {Z : Hp} {k : κ} {v : V} {d : PyData} (h : Rp K Z v d) : ∀ {vs : List (κ × V)} {kvs : List (κ × PyData)}, vs.map (·.1) = kvs.map (·.1) → RpA K Z (vs.map (·.2)) (kvs.map (·.2)) →
    RpA K Z ((vs.map fun kv => if kv.1 = k then (kv.1, v) else kv).map (·.2)) ((kvs.map fun kv => if kv.1 = k then (kv.1, d) else kv).map (·.2))
  | [], [], _, _ => .nil
  | [], _ :: _, e, _ => by cases e
  | _ :: _, [], e, _ => by cases e
  | (a, v') :: vs, (b, d') :: kvs, e, r => by
    rw [List.map_cons, List.map_cons] at e
    injection e with e1 e2
    have e1 : a = b := e1
    subst e1
    rw [List.map_cons, List.map_cons] at r
    cases r with
    | cons r1 r2 =>
      have ih := put_vals (k := k) h e2 r2
      simp only [List.map_cons]
      by_cases hk : a = k
      · simp only [hk, if_true]
        exact .cons h ih
      · simp only [hk, if_false]
        exact .cons r1 ih
theorem put_rp {κ : Type} [DecidableEq κ] {K : PySem.W.Frag} {Z : Hp} {k : κ} {v : V} {d : PyData} {vs : List (κ × V)} {kvs : List (κ × PyData)} (h : Rp K Z v d) (e : vs.map (·.1) = kvs.map (·.1)) (r : RpA K Z (vs.map (·.2)) (kvs.map (·.2))) :
    (putK vs k v).map (·.1) = (putD kvs k d).map (·.1) ∧ RpA K Z ((putK vs k v).map (·.2)) ((putD kvs k d).map (·.2)) := by
  unfold putK putD
  rw [keys_any e]
  split
  · exact ⟨put_keys e, put_vals h e r⟩
  · rw [List.map_append, List.map_append, List.map_append, List.map_append, e]
    exact ⟨rfl, r.append (.cons h .nil)⟩
/-- a key: an int or a text; a tuple of texts -/
def keyD : PyData → Option Key
  | .int i => some (.inl i)
  | .str x => some (.inr x)
  | _ => none
def strKs : List PyData → Option (List Key)
  | [] => some []
  | .str x :: r => (strKs r).map (.inr x :: ·)
  | _ => none
def keyT : PyData → Option (List Key)
  | .tuple ds => if 4 ≤ ds.length then none else strKs ds
  | _ => none
theorem keyD_rp {K : PySem.W.Frag} {Z : Hp} {v : V} {d : PyData} {k : Key} (r : Rp K Z v d) (e : keyD d = some k) : v = kV k := by
  unfold keyD at e
  split at e
  · cases e; cases r; rfl
  · cases e; cases r; rfl
  · cases e
theorem strKs_rp {K : PySem.W.Frag} {Z : Hp} : ∀ {vs : List V} {ds : List PyData} {ks : List Key}, RpA K Z vs ds → strKs ds = some ks → vs = ks.map kV
  | _, _, _, .nil, e => by cases e; rfl
  | _, _, _, .cons (d := d) (ds := ds) r t, e => by
    unfold strKs at e
    split at e
    · rename_i h; cases h
    · rename_i b r' h
      cases h
      cases e2 : strKs ds with
      | none => rw [e2] at e; cases e
      | some l =>
        rw [e2] at e
        cases e
        cases r
        rw [strKs_rp t e2]
        rfl
    · cases e
theorem keyT_rp {K : PySem.W.Frag} {Z : Hp} {v : V} {d : PyData} {k : List Key} (r : Rp K Z v d) (e : keyT d = some k) : ∃ b, v = .ref b ∧ Z b = some (.tup (k.map kV)) := by
  unfold keyT at e
  split at e
  · rename_i ds
    split at e
    · cases e
    rename_i hlen
    cases r with
    | tup h rr =>
      rw [strKs_rp rr e] at h
      exact ⟨_, rfl, h⟩
    | tuk h hk rr =>
      exfalso
      cases ds with
      | nil => cases hk
      | cons x l =>
        cases x <;> first | (cases hk; done) | (simp [strKs] at e; done) | skip
        rcases l with _ | ⟨y, _ | ⟨z, _ | ⟨w, l⟩⟩⟩
        · cases hk
        · cases hk
        · cases hk
        · simp at hlen
  · cases e
def ownQ (ρ : Nv) (i : Nat) : Bool := match ρ[i]? with
  | some (.own _ _) => true
  | _ => false
theorem Rl.ownAt {K : PySem.W.Frag} {Φ : Fx} {Z : Hp} {σ : St} {H : Hp} {ρ : Nv} (R : Rl K Φ Z σ H ρ) {i : Nat} (e : ownQ ρ i = true) : ∃ a, σ[i]? = some (some (V.ref a)) := by
  unfold ownQ at e
  split at e
  · rename_i o io h
    obtain ⟨a, s, _⟩ := R.own _ _ _ h
    exact ⟨a, s⟩
  · cases e
/-- d[k] of an own dict -/
def xGet (i : Nat) (f : XE) : XE := fun ρ => if ownQ ρ i = true then (f ρ).bind fun p => match p.2[i]? with
    | some (.own (.od kvs) _) => (keyD p.1).bind fun k => (getD' kvs k).map fun z => (z, p.2)
    | some (.own (.ot kvs) _) => (keyT p.1).bind fun k => (getD' kvs k).map fun z => (z, p.2)
    | _ => none
  else none
/-- is k in d -/
def hasQ (o : OD) (d : PyData) : Option Bool := match o with
  | .od kvs => (keyD d).map fun k => (getD' kvs k).isSome
  | .ot kvs => (keyT d).map fun k => (getD' kvs k).isSome
  | _ => none
def xHas (neg : Bool) (i : Nat) (f : XE) : XE := fun ρ => (f ρ).bind fun p => match p.2[i]? with
  | some (.own o _) => (hasQ o p.1).map fun b => (.bool (if neg then !b else b), p.2)
  | _ => none
/-- d[k] = v -/
def sPut (i : Nat) (fk fv : XE) : XS := fun ρ => (fv ρ).bind fun p => if ownQ p.2 i = true then (fk p.2).bind fun q => match q.2[i]? with
    | some (.own (.od kvs) io) => (keyD q.1).bind fun k => if kvs.length < sizeLine then some (.nx (q.2.set i (.own (.od (putD kvs k p.1)) io))) else none
    | some (.own (.ot kvs) io) => (keyT q.1).bind fun k => if kvs.length < sizeLine then some (.nx (q.2.set i (.own (.ot (putD kvs k p.1)) io))) else none
    | _ => none
  else none
theorem Rl.dct {K : PySem.W.Frag} {Φ : Fx} {Z : Hp} {σ : St} {H : Hp} {ρ : Nv} (R : Rl K Φ Z σ H ρ) {i : Nat} {kvs : List (Key × PyData)} {io : Bool} (e : ρ[i]? = some (EV.own (.od kvs) io)) :
    ∃ a vs, σ[i]? = some (some (V.ref a)) ∧ H a = some (.dK vs) ∧ vs.map (·.1) = kvs.map (·.1) ∧ RpA K Z (vs.map (·.2)) (kvs.map (·.2)) := by
  obtain ⟨a, s, vs, h, r, q⟩ := R.own _ _ _ e
  exact ⟨a, vs, s, h, r, q⟩
theorem Rl.dtt {K : PySem.W.Frag} {Φ : Fx} {Z : Hp} {σ : St} {H : Hp} {ρ : Nv} (R : Rl K Φ Z σ H ρ) {i : Nat} {kvs : List (List Key × PyData)} {io : Bool} (e : ρ[i]? = some (EV.own (.ot kvs) io)) :
    ∃ a vs, σ[i]? = some (some (V.ref a)) ∧ H a = some (.dT vs) ∧ vs.map (·.1) = kvs.map (·.1) ∧ RpA K Z (vs.map (·.2)) (kvs.map (·.2)) := by
  obtain ⟨a, s, vs, h, r, q⟩ := R.own _ _ _ e
  exact ⟨a, vs, s, h, r, q⟩
theorem len_keys {κ : Type} {vs : List (κ × V)} {kvs : List (κ × PyData)} (e : vs.map (·.1) = kvs.map (·.1)) : vs.length = kvs.length := by
  have := congrArg List.length e
  simpa using this
/-- what is asked of an own dict under a key -/
theorem dget_rl {K : PySem.W.Frag} {Φ : Fx} {Z : Hp} {σ : St} {H : Hp} {ρ : Nv} (R : Rl K Φ Z σ H ρ) {i : Nat} {kvs : List (Key × PyData)} {io : Bool} (e : ρ[i]? = some (EV.own (.od kvs) io)) {v : V} {d : PyData} {k : Key} (r : Rp K Z v d) (hk : keyD d = some k) :
    ∃ a o, σ[i]? = some (some (V.ref a)) ∧ DGet H a v o ∧ o.isSome = (getD' kvs k).isSome ∧ ∀ z, getD' kvs k = some z → ∃ w, o = some w ∧ Rp K Z w z := by
  obtain ⟨a, vs, s, h, e1, rr⟩ := R.dct e
  obtain ⟨g1, g2⟩ := get_rp (k := k) e1 rr
  rw [keyD_rp r hk]
  exact ⟨a, _, s, DGet.k h, g2, g1⟩
theorem dgett_rl {K : PySem.W.Frag} {Φ : Fx} {Z : Hp} {σ : St} {H : Hp} {ρ : Nv} (R : Rl K Φ Z σ H ρ) {i : Nat} {kvs : List (List Key × PyData)} {io : Bool} (e : ρ[i]? = some (EV.own (.ot kvs) io)) {v : V} {d : PyData} {k : List Key} (r : Rp K Z v d) (hk : keyT d = some k) :
    ∃ a o, σ[i]? = some (some (V.ref a)) ∧ DGet H a v o ∧ o.isSome = (getD' kvs k).isSome ∧ ∀ z, getD' kvs k = some z → ∃ w, o = some w ∧ Rp K Z w z := by
  obtain ⟨a, vs, s, h, e1, rr⟩ := R.dtt e
  obtain ⟨g1, g2⟩ := get_rp (k := k) e1 rr
  obtain ⟨b, rfl, hb⟩ := keyT_rp r hk
  exact ⟨a, _, s, DGet.t h (R.zH _ _ hb), g2, g1⟩
section
variable {X : Cx} {e v : Expr} {f g : XE} {vpos pos pos' : Pos}
theorem ed_get (i : Nat) {x : Str} (hu : X.A.units + 1 < cLine) (he : ED X e f) (hN : X.N[i]? = some x := by rfl) (hv : Vis X.env.scope x := by first | exact Or.inl rfl | exact Or.inr (Or.inl rfl) | exact Or.inr (Or.inr rfl)) (hd : (x == ("__debug__" : Str)) = false := by decide)
    (hcd : (x == ("__classdict__" : Str)) = false := by decide) (hs : NoSl e := by intro _ _; rfl) : ED X (.Subscript (.Name x vpos) e pos) (xGet i f) := by
  obtain ⟨t, p, m⟩ := he
  refine ⟨_, pe_dget hu (pe_var hN hv hd hcd) p hs, fun Φ Z σ H ρ d ρ' R q Q k => ?_⟩
  unfold xGet at q
  split at q
  · rename_i ho
    obtain ⟨a, s⟩ := R.ownAt ho
    cases e1 : f ρ with
    | none => rw [e1] at q; cases q
    | some w =>
      rw [e1, Option.bind_some] at q
      refine ⟨_, s, m Φ Z σ H ρ w.1 w.2 R e1 _ fun y H1 Z1 z1 R1 r1 => ?_⟩
      split at q
      · rename_i kvs io e2
        cases e3 : keyD w.1 with
        | none => rw [e3] at q; cases q
        | some kk =>
          rw [e3, Option.bind_some] at q
          cases e4 : getD' kvs kk with
          | none => rw [e4] at q; cases q
          | some z =>
            rw [e4] at q
            cases q
            obtain ⟨a2, o, s2, g, _, h⟩ := dget_rl R1 e2 r1 e3
            rw [s] at s2
            cases s2
            obtain ⟨v', rfl, rv⟩ := h _ e4
            exact ⟨a, v', rfl, g, k _ H1 Z1 z1 R1 rv⟩
      · rename_i kvs io e2
        cases e3 : keyT w.1 with
        | none => rw [e3] at q; cases q
        | some kk =>
          rw [e3, Option.bind_some] at q
          cases e4 : getD' kvs kk with
          | none => rw [e4] at q; cases q
          | some z =>
            rw [e4] at q
            cases q
            obtain ⟨a2, o, s2, g, _, h⟩ := dgett_rl R1 e2 r1 e3
            rw [s] at s2
            cases s2
            obtain ⟨v', rfl, rv⟩ := h _ e4
            exact ⟨a, v', rfl, g, k _ H1 Z1 z1 R1 rv⟩
      · cases q
  · cases q
theorem has_rl {K : PySem.W.Frag} {Φ : Fx} {Z : Hp} {σ : St} {H : Hp} {ρ : Nv} (R : Rl K Φ Z σ H ρ) {i : Nat} {o : OD} {io b : Bool} (e : ρ[i]? = some (EV.own o io)) {v : V} {d : PyData} (r : Rp K Z v d) (hk : hasQ o d = some b) :
    ∃ a w, σ[i]? = some (some (V.ref a)) ∧ DGet H a v w ∧ w.isSome = b := by
  cases o with
  | ol xs => cases hk
  | od kvs =>
    cases e3 : keyD d with
    | none => simp [hasQ, e3] at hk
    | some kk =>
      simp [hasQ, e3] at hk
      obtain ⟨a, o, s, g, h, _⟩ := dget_rl R e r e3
      exact ⟨a, o, s, g, h.trans hk⟩
  | ot kvs =>
    cases e3 : keyT d with
    | none => simp [hasQ, e3] at hk
    | some kk =>
      simp [hasQ, e3] at hk
      obtain ⟨a, o, s, g, h, _⟩ := dgett_rl R e r e3
      exact ⟨a, o, s, g, h.trans hk⟩
theorem ed_has (i : Nat) {x : Str} (hu : X.A.units + 1 < cLine) (he : ED X e f) (hN : X.N[i]? = some x := by rfl) (hv : Vis X.env.scope x := by first | exact Or.inl rfl | exact Or.inr (Or.inl rfl) | exact Or.inr (Or.inr rfl)) (hd : (x == ("__debug__" : Str)) = false := by decide)
    (hcd : (x == ("__classdict__" : Str)) = false := by decide) : ED X (.Compare e [.In] [.Name x vpos] pos) (xHas false i f) := by
  obtain ⟨t, p, m⟩ := he
  refine ⟨_, pe_cmp (pc_din hu p (pe_var hN hv hd hcd)) (by rfl), fun Φ Z σ H ρ d ρ' R q Q k => ?_⟩
  unfold xHas at q
  cases e1 : f ρ with
  | none => rw [e1] at q; cases q
  | some w =>
    rw [e1, Option.bind_some] at q
    refine m Φ Z σ H ρ w.1 w.2 R e1 _ fun y H1 Z1 z1 R1 r1 => ?_
    split at q
    · rename_i o io e2
      cases e3 : hasQ o w.1 with
      | none => rw [e3] at q; cases q
      | some b =>
        rw [e3] at q
        cases q
        obtain ⟨a, o', s, g, hb⟩ := has_rl R1 e2 r1 e3
        refine ⟨_, s, a, o', rfl, g, ?_⟩
        rw [hb]
        exact k _ H1 Z1 z1 R1 (.bl _)
    · cases q
theorem ed_hasN (i : Nat) {x : Str} (hu : X.A.units + 1 < cLine) (he : ED X e f) (hN : X.N[i]? = some x := by rfl) (hv : Vis X.env.scope x := by first | exact Or.inl rfl | exact Or.inr (Or.inl rfl) | exact Or.inr (Or.inr rfl)) (hd : (x == ("__debug__" : Str)) = false := by decide)
    (hcd : (x == ("__classdict__" : Str)) = false := by decide) : ED X (.Compare e [.NotIn] [.Name x vpos] pos) (xHas true i f) := by
  obtain ⟨t, p, m⟩ := he
  refine ⟨_, pe_cmp (pc_dnotin hu p (pe_var hN hv hd hcd)) (by rfl), fun Φ Z σ H ρ d ρ' R q Q k => ?_⟩
  unfold xHas at q
  cases e1 : f ρ with
  | none => rw [e1] at q; cases q
  | some w =>
    rw [e1, Option.bind_some] at q
    refine m Φ Z σ H ρ w.1 w.2 R e1 _ fun y H1 Z1 z1 R1 r1 => ?_
    split at q
    · rename_i o io e2
      cases e3 : hasQ o w.1 with
      | none => rw [e3] at q; cases q
      | some b =>
        rw [e3] at q
        cases q
        obtain ⟨a, o', s, g, hb⟩ := has_rl R1 e2 r1 e3
        refine ⟨_, s, a, o', rfl, g, ?_⟩
        rw [hb]
        exact k _ H1 Z1 z1 R1 (.bl _)
    · cases q
theorem td_has (i : Nat) {x : Str} (hu : X.A.units + 1 < cLine) (he : ED X e f) (hN : X.N[i]? = some x := by rfl) (hv : Vis X.env.scope x := by first | exact Or.inl rfl | exact Or.inr (Or.inl rfl) | exact Or.inr (Or.inr rfl)) (hd : (x == ("__debug__" : Str)) = false := by decide)
    (hcd : (x == ("__classdict__" : Str)) = false := by decide) : TD X (.Compare e [.In] [.Name x vpos] pos) (tst (xHas false i f)) := by
  obtain ⟨t, p, m⟩ := he
  obtain ⟨_, _, n⟩ := ed_has (X := X) (pos := pos) (vpos := vpos) (x := x) i hu ⟨t, p, m⟩ hN hv hd hcd
  refine ⟨_, pt_cmp (pc_din hu p (pe_var hN hv hd hcd)) (by rfl), fun Φ Z σ H ρ d ρ' R q Q k => ?_⟩
  unfold tst xHas at q
  cases e1 : f ρ with
  | none => rw [e1] at q; cases q
  | some w =>
    rw [e1, Option.bind_some] at q
    refine m Φ Z σ H ρ w.1 w.2 R e1 _ fun y H1 Z1 z1 R1 r1 => ?_
    split at q
    · rename_i o io e2
      cases e3 : hasQ o w.1 with
      | none => rw [e3] at q; cases q
      | some b =>
        rw [e3] at q
        cases q
        obtain ⟨a, o', s, g, hb⟩ := has_rl R1 e2 r1 e3
        refine ⟨_, s, a, o', rfl, g, _, rfl, ?_⟩
        rw [hb]
        exact k H1 Z1 z1 R1
    · cases q
theorem td_hasN (i : Nat) {x : Str} (hu : X.A.units + 1 < cLine) (he : ED X e f) (hN : X.N[i]? = some x := by rfl) (hv : Vis X.env.scope x := by first | exact Or.inl rfl | exact Or.inr (Or.inl rfl) | exact Or.inr (Or.inr rfl)) (hd : (x == ("__debug__" : Str)) = false := by decide)
    (hcd : (x == ("__classdict__" : Str)) = false := by decide) : TD X (.Compare e [.NotIn] [.Name x vpos] pos) (tst (xHas true i f)) := by
  obtain ⟨t, p, m⟩ := he
  refine ⟨_, pt_cmp (pc_dnotin hu p (pe_var hN hv hd hcd)) (by rfl), fun Φ Z σ H ρ d ρ' R q Q k => ?_⟩
  unfold tst xHas at q
  cases e1 : f ρ with
  | none => rw [e1] at q; cases q
  | some w =>
    rw [e1, Option.bind_some] at q
    refine m Φ Z σ H ρ w.1 w.2 R e1 _ fun y H1 Z1 z1 R1 r1 => ?_
    split at q
    · rename_i o io e2
      cases e3 : hasQ o w.1 with
      | none => rw [e3] at q; cases q
      | some b =>
        rw [e3] at q
        cases q
        obtain ⟨a, o', s, g, hb⟩ := has_rl R1 e2 r1 e3
        refine ⟨_, s, a, o', rfl, g, _, rfl, ?_⟩
        rw [hb]
        exact k H1 Z1 z1 R1
    · cases q
theorem sd_put (i : Nat) {x : Str} (hu : X.A.units + 1 < cLine) (he : ED X e f) (hv' : ED X v g) (hN : X.N[i]? = some x := by rfl) (hv : Vis X.env.scope x := by first | exact Or.inl rfl | exact Or.inr (Or.inl rfl) | exact Or.inr (Or.inr rfl)) (hd : (x == ("__debug__" : Str)) = false := by decide)
    (hcd : (x == ("__classdict__" : Str)) = false := by decide) (hs : swapsWith v (some (.Subscript (.Name x vpos) e pos')) pos.line X.env = pure false := by rfl) : SD X (.Assign [.Subscript (.Name x vpos) e pos'] v pos) (sPut i f g) := by
  obtain ⟨t, p, m⟩ := he
  obtain ⟨t2, p2, m2⟩ := hv'
  refine ⟨_, ps_dput hu (pe_var hN hv hd hcd) p p2 hs, fun Φ Z σ H ρ r R q D k => ?_⟩
  unfold sPut at q
  cases e1 : g ρ with
  | none => rw [e1] at q; cases q
  | some w =>
    rw [e1, Option.bind_some] at q
    split at q
    · rename_i ho
      cases e3 : f w.2 with
      | none => rw [e3] at q; cases q
      | some u =>
        rw [e3, Option.bind_some] at q
        refine m2 Φ Z σ H ρ w.1 w.2 R e1 _ fun y H1 Z1 z1 R1 r1 => ?_
        obtain ⟨a, s⟩ := R1.ownAt ho
        refine ⟨_, s, m Φ Z1 σ H1 w.2 u.1 u.2 R1 e3 _ fun ky H2 Z2 z2 R2 r2 => ?_⟩
        split at q
        · rename_i kvs io e2
          cases e4 : keyD u.1 with
          | none => rw [e4] at q; cases q
          | some kk =>
            rw [e4, Option.bind_some] at q
            split at q
            · rename_i hl
              cases q
              obtain ⟨a2, vs, s2, h, q1, q2⟩ := R2.dct e2
              rw [s] at s2
              cases s2
              obtain ⟨w1, w2⟩ := put_rp (k := kk) (r1.mono z2) q1 q2
              rw [keyD_rp r2 e4]
              exact ⟨a, _, rfl, DPut.k h (by rw [len_keys q1]; exact hl), k _ _ Z2 (z1.trans z2) (R2.mutate e2 s ⟨_, upd_same, w1, w2⟩)⟩
            · cases q
        · rename_i kvs io e2
          cases e4 : keyT u.1 with
          | none => rw [e4] at q; cases q
          | some kk =>
            rw [e4, Option.bind_some] at q
            split at q
            · rename_i hl
              cases q
              obtain ⟨a2, vs, s2, h, q1, q2⟩ := R2.dtt e2
              rw [s] at s2
              cases s2
              obtain ⟨w1, w2⟩ := put_rp (k := kk) (r1.mono z2) q1 q2
              obtain ⟨b, rfl, hb⟩ := keyT_rp r2 e4
              exact ⟨a, _, rfl, DPut.t h (R2.zH _ _ hb) (by rw [len_keys q1]; exact hl), k _ _ Z2 (z1.trans z2) (R2.mutate e2 s ⟨_, upd_same, w1, w2⟩)⟩
            · cases q
        · cases q
    · cases q
end
end DL
set_option maxRecDepth 100000
set_option maxHeartbeats 2000000
/-! DL, targets, what is walked, loops, comprehensions -/
namespace DL
open PySem L2

/-! ### the reading that belongs to a function -/
def tOf (K : PySem.W.Frag) (f : XE) : TE := fun σ H Q => ∃ (Φ : Fx) (Z : Hp) (ρ : Nv) (d : PyData) (ρ' : Nv), Rl K Φ Z σ H ρ ∧ f ρ = some (d, ρ') ∧ ∀ v H' Z', Same Z Z' → Rl K Φ Z' σ H' ρ' → Rp K Z' v d → Q v H'
def tOfT (K : PySem.W.Frag) (f : XT) : TT := fun σ H Q => ∃ (Φ : Fx) (Z : Hp) (ρ : Nv) (d : Bool) (ρ' : Nv), Rl K Φ Z σ H ρ ∧ f ρ = some (d, ρ') ∧ ∀ H' Z', Same Z Z' → Rl K Φ Z' σ H' ρ' → Q d H'
theorem me_of {K : PySem.W.Frag} {f : XE} : ME K (tOf K f) f := fun Φ Z σ H ρ d ρ' R q Q k => ⟨Φ, Z, ρ, d, ρ', R, q, k⟩
theorem mt_of {K : PySem.W.Frag} {f : XT} : MT K (tOfT K f) f := fun Φ Z σ H ρ d ρ' R q Q k => ⟨Φ, Z, ρ, d, ρ', R, q, k⟩
theorem ED.pe {X : Cx} {e : Expr} {f : XE} (h : ED X e f) : PE X e (tOf X.K f) := by
  obtain ⟨t, p, m⟩ := h
  exact ⟨fun pins s σ H Q I q => p.run pins s σ H Q I (by
    obtain ⟨Φ, Z, ρ, d, ρ', R, e, k⟩ := q
    exact m Φ Z σ H ρ d ρ' R e Q k)⟩
theorem TD.pt {X : Cx} {e : Expr} {f : XT} (h : TD X e f) : PT X e (tOfT X.K f) := by
  obtain ⟨t, p, m⟩ := h
  exact ⟨fun pins s σ H Q I q => p.run pins s σ H Q I (by
    obtain ⟨Φ, Z, ρ, d, ρ', R, e, k⟩ := q
    exact m Φ Z σ H ρ d ρ' R e Q k)⟩

/-! ### slots beyond what is said -/
section
variable {K : PySem.W.Frag} {Φ : Fx} {Z : Hp} {σ σ' : St} {H : Hp} {ρ ρ' : Nv}
/-- other slots hold what they like where nothing is said -/
theorem Rl.reslot (R : Rl K Φ Z σ H ρ) (hl : σ'.length = σ.length) (h : ∀ i : Nat, (∃ e, ρ[i]? = some e ∧ e ≠ EV.un) → σ'[i]? = σ[i]?) : Rl K Φ Z σ' H ρ := by
  have at_ : ∀ i a, AtS ρ σ' i a → AtS ρ σ i a := by
    rintro i a ⟨⟨o, io, e⟩, s⟩
    refine ⟨⟨o, io, e⟩, ?_⟩
    rw [← h i ⟨_, e, by simp⟩]
    exact s
  refine ⟨R.len.trans hl.symm, R.zH, R.zN, R.f0, R.fr, R.dom, fun i j a h1 h2 => R.inj i j a (at_ i a h1) (at_ j a h2), fun i a h1 => R.sep i a (at_ i a h1), ?_, ?_, ?_, ?_, ?_, R.io⟩
  · intro i x e
    rw [h i ⟨_, e, by simp⟩]
    exact R.dat i x e
  · intro i ns e
    rw [h i ⟨_, e, by simp⟩]
    exact R.scr i ns e
  · intro i o io e
    rw [h i ⟨_, e, by simp⟩]
    exact R.own i o io e
  · intro i o a e s
    rw [h i ⟨_, e, by simp⟩] at s
    exact R.loc i o a e s
  · intro i a e
    obtain ⟨s, o, q⟩ := R.ino i a e
    rw [h i ⟨_, q, by simp⟩]
    exact ⟨s, o, q⟩
/-- what a slot holds is forgotten -/
theorem Rl.drop (R : Rl K Φ Z σ H ρ) {i : Nat} (hn : ∀ o, ρ[i]? ≠ some (EV.own o true)) : Rl K Φ Z σ H (ρ.set i .un) := by
  by_cases hi : i < ρ.length
  · have at_ : ∀ j b, AtS (ρ.set i .un) σ j b → j ≠ i ∧ AtS ρ σ j b := by
      rintro j b ⟨⟨o', io, e'⟩, s'⟩
      by_cases hj : i = j
      · subst hj
        rw [List.getElem?_set_self hi] at e'
        cases e'
      · rw [List.getElem?_set_ne hj] at e'
        exact ⟨Ne.symm hj, ⟨o', io, e'⟩, s'⟩
    refine ⟨by simp [R.len], R.zH, R.zN, R.f0, R.fr, R.dom, fun j k b h1 h2 => R.inj j k b (at_ j b h1).2 (at_ k b h2).2, fun j b h => R.sep j b (at_ j b h).2, ?_, ?_, ?_, ?_, ?_, ?_⟩
    · intro j y q
      by_cases hj : i = j
      · subst hj; rw [List.getElem?_set_self hi] at q; cases q
      · rw [List.getElem?_set_ne hj] at q; exact R.dat j y q
    · intro j ns q
      by_cases hj : i = j
      · subst hj; rw [List.getElem?_set_self hi] at q; cases q
      · rw [List.getElem?_set_ne hj] at q; exact R.scr j ns q
    · intro j o' io q
      by_cases hj : i = j
      · subst hj; rw [List.getElem?_set_self hi] at q; cases q
      · rw [List.getElem?_set_ne hj] at q; exact R.own j o' io q
    · intro j o' b q s'
      by_cases hj : i = j
      · subst hj; rw [List.getElem?_set_self hi] at q; cases q
      · rw [List.getElem?_set_ne hj] at q; exact R.loc j o' b q s'
    · intro j b q
      obtain ⟨q1, o', q2⟩ := R.ino j b q
      have hj : i ≠ j := by
        rintro rfl
        exact hn _ q2
      rw [List.getElem?_set_ne hj]
      exact ⟨q1, o', q2⟩
    · intro j o' q
      by_cases hj : i = j
      · subst hj; rw [List.getElem?_set_self hi] at q; cases q
      · rw [List.getElem?_set_ne hj] at q; exact R.io j o' q
  · rw [List.set_eq_of_length_le (by omega)]
    exact R
/-- one object more that must stay -/
def Fx.keep (Φ : Fx) (D : Addr) (o : HO) : Fx := { Φ with Fr := upd Φ.Fr D o }
theorem Rl.keep (R : Rl K Φ Z σ H ρ) {D : Addr} {o : HO} (h : H D = some o) (hz : Z D = none) (hn : ∀ i, ¬ AtS ρ σ i D) (hz0 : ∀ a u, Z a = some u → a ≠ D) : Rl K (Φ.keep D o) Z σ H ρ := by
  refine ⟨R.len, R.zH, ?_, R.f0, ?_, R.dom, R.inj, ?_, R.dat, R.scr, R.own, R.loc, R.ino, R.io⟩
  · intro a u e nt
    rcases R.zN a u e nt with q | ⟨q1, q2⟩
    · exact .inl q
    · refine .inr ⟨q1, ?_⟩
      show upd Φ.Fr D o a = none
      rw [upd_ne (hz0 a u e)]
      exact q2
  · intro a u e
    by_cases ha : a = D
    · subst ha
      have e : upd Φ.Fr a o a = some u := e
      rw [upd_same] at e
      rw [h]
      exact e
    · have e : upd Φ.Fr D o a = some u := e
      rw [upd_ne ha] at e
      exact R.fr a u e
  · intro i a q
    have ha : a ≠ D := fun e => hn i (e ▸ q)
    refine ⟨(R.sep i a q).1, ?_⟩
    show upd Φ.Fr D o a = none
    rw [upd_ne ha]
    exact (R.sep i a q).2
theorem Rl.unkeep {D : Addr} {o : HO} (R : Rl K (Φ.keep D o) Z σ H ρ) (hD : Φ.Fr D = none) : Rl K Φ Z σ H ρ ∧ H D = some o ∧ (∀ i, ¬ AtS ρ σ i D) := by
  have sub : ∀ a, upd Φ.Fr D o a = none → Φ.Fr a = none := fun a e => by
    by_cases ha : a = D
    · subst ha; exact hD
    · rw [upd_ne ha] at e; exact e
  refine ⟨⟨R.len, R.zH, fun a u e nt => ?_, R.f0, fun a u e => ?_, R.dom, R.inj, fun i a q => ?_, R.dat, R.scr, R.own, R.loc, R.ino, R.io⟩, R.fr D o upd_same, fun i q => ?_⟩
  · rcases R.zN a u e nt with q | ⟨q1, q2⟩
    · exact .inl q
    · exact .inr ⟨q1, sub a q2⟩
  · refine R.fr a u ?_
    show upd Φ.Fr D o a = some u
    rw [upd_ne (ne_of_none e hD)]
    exact e
  · exact ⟨(R.sep i a q).1, sub a (R.sep i a q).2⟩
  · have := (R.sep i D q).2
    have e : upd Φ.Fr D o D = none := this
    rw [upd_same] at e
    cases e
/-- the kept object changes -/
theorem Rl.rekeep {D : Addr} {o u : HO} (R : Rl K (Φ.keep D o) Z σ H ρ) (hD : Φ.Fr D = none) (hz : Z D = none) : Rl K (Φ.keep D u) Z σ (upd H D u) ρ := by
  have eq0 : ∀ a, a ≠ D → upd Φ.Fr D u a = upd Φ.Fr D o a := fun a h => by rw [upd_ne h, upd_ne h]
  have hat : ∀ i a, AtS ρ σ i a → a ≠ D := fun i a q e => by
    subst e
    have := (R.sep i a q).2
    have e : upd Φ.Fr a o a = none := this
    rw [upd_same] at e
    cases e
  refine ⟨R.len, fun a w e => ?_, fun a w e nt => ?_, R.f0, fun a w e => ?_, fun a e => ?_, R.inj, fun i a q => ?_, R.dat, R.scr, fun i o' io e => ?_, R.loc, R.ino, R.io⟩
  · rw [upd_ne (ne_of_none e hz)]
    exact R.zH a w e
  · rcases R.zN a w e nt with q | ⟨q1, q2⟩
    · exact .inl q
    · refine .inr ⟨q1, ?_⟩
      show upd Φ.Fr D u a = none
      rw [eq0 a (ne_of_none e hz)]
      exact q2
  · by_cases ha : a = D
    · subst ha
      have e : upd Φ.Fr a u a = some w := e
      rw [upd_same] at e ⊢
      exact e
    · have e : upd Φ.Fr D u a = some w := e
      rw [upd_ne ha] at e ⊢
      exact R.fr a w (by show upd Φ.Fr D o a = some w; rw [upd_ne ha]; exact e)
  · by_cases ha : a = D
    · subst ha
      rw [upd_same] at e
      cases e
    · rw [upd_ne ha] at e
      exact R.dom a e
  · refine ⟨(R.sep i a q).1, ?_⟩
    show upd Φ.Fr D u a = none
    rw [eq0 a (hat i a q)]
    exact (R.sep i a q).2
  · obtain ⟨a, s, ob⟩ := R.own i o' io e
    exact ⟨a, s, ob.move (Same.refl Z) (upd_ne (hat i a ⟨⟨o', io, e⟩, s⟩))⟩
end

/-! ### targets -/
abbrev XG := PyData → Nv → Option Nv
def MG (K : PySem.W.Frag) (g : TG) (f : XG) (vs : List Nat) : Prop := ∀ (Φ : Fx) (Z : Hp) (σ : St) (H : Hp) (ρ : Nv) (v : V) (d : PyData) (ρ' : Nv), Rl K Φ Z σ H ρ → Rp K Z v d → f d ρ = some ρ' →
  ∀ Q : St → Hp → Prop, (∀ σ', Rl K Φ Z σ' H ρ' → σ'.length = σ.length → (∀ j, j ∉ vs → σ'[j]? = σ[j]?) → Q σ' H) → g v σ H Q
def GD (X : Cx) (e : Expr) (f : XG) (vs : List Nat) : Prop := ∃ g, PG X e g ∧ MG X.K g f vs
def gOf (K : PySem.W.Frag) (f : XG) (vs : List Nat) : TG := fun v σ H Q => ∃ (Φ : Fx) (Z : Hp) (ρ : Nv) (d : PyData) (ρ' : Nv), Rl K Φ Z σ H ρ ∧ Rp K Z v d ∧ f d ρ = some ρ' ∧
  ∀ σ', Rl K Φ Z σ' H ρ' → σ'.length = σ.length → (∀ j, j ∉ vs → σ'[j]? = σ[j]?) → Q σ' H
theorem mg_of {K : PySem.W.Frag} {f : XG} {vs : List Nat} : MG K (gOf K f vs) f vs := fun Φ Z σ H ρ v d ρ' R r q Q k => ⟨Φ, Z, ρ, d, ρ', R, r, q, k⟩
theorem GD.pg {X : Cx} {e : Expr} {f : XG} {vs : List Nat} (h : GD X e f vs) : PG X e (gOf X.K f vs) := by
  obtain ⟨g, p, m⟩ := h
  exact ⟨fun pins s σ H v u Q I r q => p.run pins s σ H v u Q I r (by
    obtain ⟨Φ, Z, ρ, d, ρ', R, rp, e, k⟩ := q
    exact m Φ Z σ H ρ v d ρ' R rp e Q k)⟩
def gNm (i : Nat) : XG := fun d ρ => put ρ i d
abbrev XGs := List PyData → Nv → Option Nv
def MGs (K : PySem.W.Frag) (g : TGs) (f : XGs) (vs : List Nat) : Prop := ∀ (Φ : Fx) (Z : Hp) (σ : St) (H : Hp) (ρ : Nv) (xs : List V) (ds : List PyData) (ρ' : Nv), Rl K Φ Z σ H ρ → RpA K Z xs ds → f ds ρ = some ρ' →
  ∀ Q : St → Hp → Prop, (∀ σ', Rl K Φ Z σ' H ρ' → σ'.length = σ.length → (∀ j, j ∉ vs → σ'[j]? = σ[j]?) → Q σ' H) → g xs σ H Q
def GsD (X : Cx) (es : List Expr) (f : XGs) (vs : List Nat) : Prop := ∃ g, PGs X es g ∧ MGs X.K g f vs
def gsNil : XGs := fun ds ρ => match ds with
  | [] => some ρ
  | _ => none
def gsCons (f : XG) (r : XGs) : XGs := fun ds ρ => match ds with
  | d :: ds => (f d ρ).bind fun ρ' => r ds ρ'
  | [] => none
def gTp (n : Nat) (f : XGs) : XG := fun d ρ => match d with
  | .tuple ds => if ds.length = n then f ds ρ else none
  | _ => none
section
variable {X : Cx} {e : Expr} {es : List Expr} {f : XG} {r : XGs} {vs ws : List Nat} {pos : Pos}
theorem gd_name (i : Nat) {x : Str} (hN : X.N.Nodup) (hi : X.N[i]? = some x := by rfl) (hx : Loc X.env.scope x := by first | exact Or.inl rfl | exact Or.inr rfl) (hf : X.fn x = true ∨ X.env.scope.names.lookup x = some .local := by first | exact .inl rfl | exact .inr rfl) :
    GD X (.Name x pos) (gNm i) [i] := by
  refine ⟨_, pg_name hN hi hx hf, fun Φ Z σ H ρ v d ρ' R r q Q k => ?_⟩
  exact k _ (put_rl R r q) (by simp) fun j hj => List.getElem?_set_ne (fun e => hj (by simp [e]))
theorem gsd_nil : GsD X [] gsNil [] := ⟨_, pgs_nil, fun Φ Z σ H ρ xs ds ρ' R r q Q k => by
  unfold gsNil at q
  split at q
  · cases q
    cases r
    exact ⟨rfl, k σ R rfl fun _ _ => rfl⟩
  · cases q⟩
theorem gsd_cons (h1 : GD X e f vs) (h2 : GsD X es r ws) (hs : (assignEach (e :: es) X.env).map (·.2) = assign e X.env :: (assignEach es X.env).map (·.2) := by rfl) : GsD X (e :: es) (gsCons f r) (vs ++ ws) := by
  obtain ⟨g, p, m⟩ := h1
  obtain ⟨gs, ps, ms⟩ := h2
  refine ⟨_, pgs_cons p ps hs, fun Φ Z σ H ρ xs ds ρ' R rr q Q k => ?_⟩
  unfold gsCons at q
  split at q
  · rename_i d ds
    cases rr with
    | cons r1 r2 =>
      cases e1 : f d ρ with
      | none => rw [e1] at q; cases q
      | some ρ1 =>
        rw [e1, Option.bind_some] at q
        refine ⟨_, _, rfl, m Φ Z σ H ρ _ d ρ1 R r1 e1 _ fun σ1 R1 l1 s1 => ?_⟩
        refine ms Φ Z σ1 H ρ1 _ ds ρ' R1 r2 q Q fun σ2 R2 l2 s2 => k σ2 R2 (l2.trans l1) fun j hj => ?_
        rw [List.mem_append, not_or] at hj
        exact (s2 j hj.2).trans (s1 j hj.1)
  · cases q
theorem gd_tup {n kk : Nat} (hc : X.calm = true) (h : GsD X es r vs) (hn : (assignEach es X.env).length = n := by rfl) (hst : (assignEach es X.env).findIdx? (·.1) = none := by rfl) : GD X (.Tuple es kk pos) (gTp n r) vs := by
  obtain ⟨g, p, m⟩ := h
  refine ⟨_, pg_tup hc p hn hst, fun Φ Z σ H ρ v d ρ' R rr q Q k => ?_⟩
  unfold gTp at q
  split at q
  · split at q
    · rename_i ds hl
      obtain ⟨a, xs, rfl, h1, r1⟩ := Rb.tup (H := Z) (Same.refl Z) (.inl rr)
      exact ⟨a, xs, rfl, sqT_mono R.zH h1, r1.length.trans hl, m Φ Z σ H ρ xs ds ρ' R r1 q Q k⟩
    · cases q
  · cases q
/-- target = value, the target a tuple of names -/
def sAsg (f : XE) (g : XG) : XS := fun ρ => (f ρ).bind fun p => (g p.1 p.2).map .nx
theorem sd_asg {tg e : Expr} {fe : XE} {g : XG} (he : ED X e fe) (hg : GD X tg g vs) (hs : swapsWithSole [tg] e pos.line X.env = pure false := by rfl) (hw : swappedStores [tg] e X.env = pure none := by rfl)
    (h1 : (assignEach [tg] X.env).map (·.2) = [assign tg X.env] := by rfl) : SD X (.Assign [tg] e pos) (sAsg fe g) := by
  obtain ⟨t, p, m⟩ := he
  obtain ⟨u, q, n⟩ := hg
  refine ⟨_, ps_asg p q hs hw h1, fun Φ Z σ H ρ r R q D k => ?_⟩
  unfold sAsg at q
  cases e1 : fe ρ with
  | none => rw [e1] at q; cases q
  | some w =>
    rw [e1, Option.bind_some] at q
    cases e2 : g w.1 w.2 with
    | none => rw [e2] at q; cases q
    | some ρ1 =>
      rw [e2] at q
      cases q
      refine m Φ Z σ H ρ w.1 w.2 R e1 _ fun v H1 Z1 z1 R1 r1 => ?_
      exact n Φ Z1 σ H1 w.2 v w.1 ρ1 R1 r1 e2 _ fun σ' R2 _ _ => k σ' H1 Z1 z1 R2
/-- a, b = x, y: two local names -/
def sPar (i j : Nat) (f g : XE) : XS := fun ρ => (f ρ).bind fun p => (g p.2).bind fun q => (put q.2 i p.1).bind fun ρ1 => (put ρ1 j q.1).map .nx
theorem sd_par {i j : Nat} {x y : Str} {a b : Expr} {fa fb : XE} {px py pt : Pos} {kt k2 pt2} (hc : X.calm = true) (hN : X.N.Nodup) (ha : ED X a fa) (hb : ED X b fb) (hi : X.N[i]? = some x := by rfl) (hj : X.N[j]? = some y := by rfl) (hij : i ≠ j := by decide)
    (hx : X.env.scope.names.lookup x = some .local := by rfl) (hy : X.env.scope.names.lookup y = some .local := by rfl)
    (hw : swappedStores [.Tuple [.Name x px, .Name y py] kt pt] (.Tuple [a, b] k2 pt2) X.env = pure (some [x, y]) := by rfl)
    (hs : swapsWithSole [.Tuple [.Name x px, .Name y py] kt pt] (.Tuple [a, b] k2 pt2) pos.line X.env = pure false := by rfl)
    (h1 : starEach [a, b] X.env = (false, eval a X.env) :: starEach [b] X.env := by rfl) (h2 : starEach [b] X.env = (false, eval b X.env) :: starEach [] X.env := by rfl) :
    SD X (.Assign [.Tuple [.Name x px, .Name y py] kt pt] (.Tuple [a, b] k2 pt2) pos) (sPar i j fa fb) := by
  obtain ⟨t, p, m⟩ := ha
  obtain ⟨t2, p2, m2⟩ := hb
  refine ⟨_, ps_par hc hN hi hj hij hx hy (pa_cons p (pa_cons p2 pa_nil h2) h1) hw hs, fun Φ Z σ H ρ r R q D k => ?_⟩
  unfold sPar at q
  cases e1 : fa ρ with
  | none => rw [e1] at q; cases q
  | some w =>
    rw [e1, Option.bind_some] at q
    cases e2 : fb w.2 with
    | none => rw [e2] at q; cases q
    | some u =>
      rw [e2, Option.bind_some] at q
      cases e3 : put u.2 i w.1 with
      | none => rw [e3] at q; cases q
      | some ρ1 =>
        rw [e3, Option.bind_some] at q
        cases e4 : put ρ1 j u.1 with
        | none => rw [e4] at q; cases q
        | some ρ2 =>
          rw [e4] at q
          cases q
          refine m Φ Z σ H ρ w.1 w.2 R e1 _ fun v H1 Z1 z1 R1 r1 => ?_
          refine m2 Φ Z1 σ H1 w.2 u.1 u.2 R1 e2 _ fun v2 H2 Z2 z2 R2 r2 => ?_
          exact ⟨v, v2, rfl, k _ H2 Z2 (z1.trans z2) (put_rl (put_rl R2 (r1.mono z2) e3) r2 e4)⟩
end

/-! ### what is walked -/
/-- the iterator gives these items -/
structure Yld (K : PySem.W.Frag) (Z : Hp) (J : It) (ds : List PyData) : Prop where
  go : ∀ i H, Same Z H → i < ds.length → J.go i H
  stop : ∀ i H, Same Z H → i = ds.length → J.stop i H
  item : ∀ i H x H' Φ σ ρ Z2, i < ds.length → Same Z Z2 → Rl K Φ Z2 σ H ρ → J.yld i H x H' → ∃ Z3 d, Same Z2 Z3 ∧ Rl K Φ Z3 σ H' ρ ∧ ds[i]? = some d ∧ Rp K Z3 x d
abbrev XI := Nv → Option (List PyData × Nv)
def MI (K : PySem.W.Frag) (w : TI) (f : XI) : Prop := ∀ (Φ : Fx) (Z : Hp) (σ : St) (H : Hp) (ρ : Nv) (ds : List PyData) (ρ' : Nv), Rl K Φ Z σ H ρ → f ρ = some (ds, ρ') →
  ∀ R' : It → Hp → Prop, (∀ J H' Z', Same Z Z' → Rl K Φ Z' σ H' ρ' → Yld K Z' J ds → R' J H') → w σ H R'
def ID' (X : Cx) (tg e : Expr) (f : XI) : Prop := ∃ w, PI X tg e w ∧ MI X.K w f
theorem pi_orr {X : Cx} {tg e : Expr} {w1 w2 : TI} (h1 : PI X tg e w1) (h2 : PI X tg e w2) : PI X tg e (fun σ H R => w1 σ H R ∨ w2 σ H R) :=
  ⟨fun pins s σ H R I h => h.elim (h1.run pins s σ H R I) (h2.run pins s σ H R I)⟩
theorem yld_list {K : PySem.W.Frag} {Z : Hp} {a : Addr} {xs : List V} {ds : List PyData} (h : Z a = some (.lst xs)) (r : RpA K Z xs ds) : Yld K Z (Itl K a) ds := by
  refine ⟨fun i H z hi => ?_, fun i H z hi => ⟨xs, SqL.of (z _ _ h), by rw [r.length]; omega⟩, fun i H x H' Φ σ ρ Z2 hi z R y => ?_⟩
  · obtain ⟨v, hv, _⟩ := r.get (List.getElem?_eq_getElem hi)
    exact ⟨xs, v, SqL.of (z _ _ h), hv⟩
  · obtain ⟨rfl, y⟩ := y
    have hx := y xs (SqL.of (R.zH _ _ (z _ _ h)))
    obtain ⟨d, hd, rd⟩ := r.getV hx
    exact ⟨Z2, d, Same.refl Z2, R, hd, rd.mono z⟩
theorem yld_tup {K : PySem.W.Frag} {Z : Hp} {a : Addr} {xs : List V} {ds : List PyData} (h : SqT K Z a xs) (r : RpA K Z xs ds) : Yld K Z (Itt K a) ds := by
  refine ⟨fun i H z hi => ?_, fun i H z hi => ⟨xs, sqT_mono z h, by rw [r.length]; omega⟩, fun i H x H' Φ σ ρ Z2 hi z R y => ?_⟩
  · obtain ⟨v, hv, _⟩ := r.get (List.getElem?_eq_getElem hi)
    exact ⟨xs, v, sqT_mono z h, hv⟩
  · obtain ⟨rfl, y⟩ := y
    have hx := y xs (sqT_mono R.zH (sqT_mono z h))
    obtain ⟨d, hd, rd⟩ := r.getV hx
    exact ⟨Z2, d, Same.refl Z2, R, hd, rd.mono z⟩
def rngD (lo : Int) (n : Nat) : List PyData := (List.range n).map fun (i : Nat) => PyData.int (lo + (i : Int))
theorem yld_rng {K : PySem.W.Frag} {Z : Hp} {lo : Int} {n : Nat} : Yld K Z (Itr lo n) (rngD lo n) := by
  have hl : (rngD lo n).length = n := by simp [rngD]
  refine ⟨fun i H z hi => ?_, fun i H z hi => ?_, fun i H x H' Φ σ ρ Z2 hi z R y => ?_⟩
  · show i < n
    omega
  · show n ≤ i
    omega
  · obtain ⟨rfl, rfl⟩ := y
    refine ⟨Z2, .int (lo + i), Same.refl Z2, R, ?_, .int _⟩
    rw [hl] at hi
    simp [rngD, hi]
theorem yld_str {K : PySem.W.Frag} {Z : Hp} {x : Str} : Yld K Z (Its x) (x.cps.toList.map fun c => PyData.str ⟨#[c]⟩) := by
  refine ⟨fun i H z hi => ?_, fun i H z hi => ?_, fun i H y H' Φ σ ρ Z2 hi z R q => ?_⟩
  · show i < x.cps.size
    simpa using hi
  · show x.cps.size ≤ i
    have : i = x.cps.size := by simpa using hi
    omega
  · obtain ⟨rfl, c, hc, rfl⟩ := q
    refine ⟨Z2, .str ⟨#[c]⟩, Same.refl Z2, R, ?_, .str _⟩
    rw [List.getElem?_map, Array.getElem?_toList, hc]
    rfl
/-- the items of a list, a tuple, a text -/
def itD : PyData → Option (List PyData)
  | .list xs => some xs
  | .tuple xs => some xs
  | .str x => some (x.cps.toList.map fun c => PyData.str ⟨#[c]⟩)
  | _ => none
def iOf (f : XE) : XI := fun ρ => (f ρ).bind fun p => (itD p.1).map fun ds => (ds, p.2)
section
variable {X : Cx} {tg e e2 : Expr} {f g : XE} {p pos : Pos}
theorem id_seq (h : ED X e f) : ID' X tg e (iOf f) := by
  obtain ⟨t, pe, m⟩ := h
  refine ⟨_, pi_orr (pi_list pe) (pi_orr (pi_tup pe) (pi_str pe)), fun Φ Z σ H ρ ds ρ' R q R' k => ?_⟩
  unfold iOf at q
  cases e1 : f ρ with
  | none => rw [e1] at q; cases q
  | some w =>
    rw [e1, Option.bind_some] at q
    cases e2 : itD w.1 with
    | none => rw [e2] at q; cases q
    | some l =>
      rw [e2] at q
      cases q
      unfold itD at e2
      split at e2
      · rename_i xs ex
        cases e2
        refine .inl (m Φ Z σ H ρ w.1 w.2 R e1 _ fun v H1 Z1 z1 R1 r1 => ?_)
        rw [ex] at r1
        cases r1 with
        | lst h rr => exact ⟨_, rfl, ⟨_, SqL.of (R1.zH _ _ h)⟩, k _ H1 Z1 z1 R1 (yld_list h rr)⟩
      · rename_i xs ex
        cases e2
        refine .inr (.inl (m Φ Z σ H ρ w.1 w.2 R e1 _ fun v H1 Z1 z1 R1 r1 => ?_))
        rw [ex] at r1
        obtain ⟨a, vs, rfl, h, rr⟩ := Rb.tup (H := Z1) (Same.refl Z1) (.inl r1)
        exact ⟨a, rfl, ⟨vs, sqT_mono R1.zH h⟩, k _ H1 Z1 z1 R1 (yld_tup h rr)⟩
      · rename_i y ex
        cases e2
        refine .inr (.inr (m Φ Z σ H ρ w.1 w.2 R e1 _ fun v H1 Z1 z1 R1 r1 => ?_))
        rw [ex] at r1
        cases r1
        exact ⟨_, rfl, k _ H1 Z1 z1 R1 yld_str⟩
      · cases e2
def iRng (f : XE) : XI := fun ρ => (f ρ).bind fun p => match p.1 with
  | .int j => if -(2 ^ 62) ≤ j ∧ j < 2 ^ 62 then some (rngD 0 j.toNat, p.2) else none
  | _ => none
def iRng2' (f g : XE) : XI := fun ρ => (f ρ).bind fun p => (g p.2).bind fun q => match p.1, q.1 with
  | .int i, .int j => if -(2 ^ 62) ≤ i ∧ i < 2 ^ 62 ∧ -(2 ^ 62) ≤ j ∧ j < 2 ^ 62 then some (rngD i (j - i).toNat, q.2) else none
  | _, _ => none
theorem id_rng (hm : X.mg "range" = none) (h : ED X e f) (hg : Gl X "range" := by rfl) (hs : starEach [e] X.env = [(false, eval e X.env)] := by rfl) : ID' X tg (.Call (.Name "range" p) [e] [] pos) (iRng f) := by
  obtain ⟨t, pe, m⟩ := h
  refine ⟨_, pi_range1 hg hm (pa_cons pe pa_nil hs) hs, fun Φ Z σ H ρ ds ρ' R q R' k => ?_⟩
  unfold iRng at q
  cases e1 : f ρ with
  | none => rw [e1] at q; cases q
  | some w =>
    rw [e1, Option.bind_some] at q
    split at q
    · rename_i j ej
      split at q
      · rename_i hj
        cases q
        refine m Φ Z σ H ρ w.1 w.2 R e1 _ fun v H1 Z1 z1 R1 r1 => ?_
        rw [ej] at r1
        cases r1
        exact ⟨j, rfl, hj.1, hj.2, k _ H1 Z1 z1 R1 yld_rng⟩
      · cases q
    · cases q
theorem id_rng2 (hm : X.mg "range" = none) (h : ED X e f) (h2 : ED X e2 g) (hg : Gl X "range" := by rfl) (hs : starEach [e, e2] X.env = [(false, eval e X.env), (false, eval e2 X.env)] := by rfl) (hs2 : starEach [e2] X.env = [(false, eval e2 X.env)] := by rfl) (hs1 : starEach [e, e2] X.env = (false, eval e X.env) :: starEach [e2] X.env := by rfl) :
    ID' X tg (.Call (.Name "range" p) [e, e2] [] pos) (iRng2' f g) := by
  obtain ⟨t, pe, m⟩ := h
  obtain ⟨t2, pe2, m2⟩ := h2
  refine ⟨_, pi_range2 hg hm (pa_cons pe (pa_cons pe2 pa_nil hs2) hs1) hs hs2, fun Φ Z σ H ρ ds ρ' R q R' k => ?_⟩
  unfold iRng2' at q
  cases e1 : f ρ with
  | none => rw [e1] at q; cases q
  | some w =>
    rw [e1, Option.bind_some] at q
    cases e3 : g w.2 with
    | none => rw [e3] at q; cases q
    | some u =>
      rw [e3, Option.bind_some] at q
      split at q
      · rename_i i j ei ej
        split at q
        · rename_i hj
          cases q
          refine m Φ Z σ H ρ w.1 w.2 R e1 _ fun v H1 Z1 z1 R1 r1 => ?_
          rw [ei] at r1
          cases r1
          refine m2 Φ Z1 σ H1 w.2 u.1 u.2 R1 e3 _ fun v2 H2 Z2 z2 R2 r2 => ?_
          rw [ej] at r2
          cases r2
          exact ⟨i, j, rfl, hj, k _ H2 Z2 (z1.trans z2) R2 yld_rng⟩
        · cases q
      · cases q
end

/-! ### for -/
/-- through the items: the target, the body -/
def forL (g : XG) (b : XS) : List PyData → Nv → Option Fl
  | [], ρ => some (.nx ρ)
  | d :: ds, ρ => (g d ρ).bind fun ρ1 => (b ρ1).bind fun r => match r with
    | .nx ρ2 => forL g b ds ρ2
    | .ct ρ2 => forL g b ds ρ2
    | .bk ρ2 => some (.nx ρ2)
    | .rt x ρ2 => some (.rt x ρ2)
    | .rn x ρ2 => some (.rn x ρ2)
def sFor (it : XI) (g : XG) (b : XS) : XS := fun ρ => (it ρ).bind fun p => forL g b p.1 p.2
theorem ms_for {K : PySem.W.Frag} {w : TI} {g : TG} {tb : TS} {it : XI} {gf : XG} {vs : List Nat} {b : XS} (mi : MI K w it) (mg : MG K g gf vs) (mb : MS K tb b) : MS K (tFor w g tb) (sFor it gf b) := by
  intro Φ Z σ H ρ r R q D k
  unfold sFor at q
  cases e1 : it ρ with
  | none => rw [e1] at q; cases q
  | some p =>
    rw [e1, Option.bind_some] at q
    obtain ⟨ds, ρ1⟩ := p
    refine mi Φ Z σ H ρ ds ρ1 R e1 _ fun J H1 Z1 z1 R1 y => ?_
    have k1 := k.mono z1
    refine ⟨fun i m σ' H' => m = ds.length - i ∧ i ≤ ds.length ∧ ∃ Z' ρ', Same Z1 Z' ∧ Rl K Φ Z' σ' H' ρ' ∧ forL gf b (ds.drop i) ρ' = some r, ⟨ds.length, by simp, Nat.zero_le _, Z1, ρ1, Same.refl Z1, R1, by simpa using q⟩, ?_⟩
    rintro i m σ' H' ⟨rfl, hi, Z', ρ', z', R', q'⟩
    by_cases hlt : i < ds.length
    · refine .inr ⟨y.go i H' (z'.trans R'.zH) hlt, fun σ2 H2 => i + 1 ≤ ds.length ∧ ∃ Z' ρ', Same Z1 Z' ∧ Rl K Φ Z' σ2 H2 ρ' ∧ forL gf b (ds.drop (i + 1)) ρ' = some r, fun σ2 H2 ⟨h1, h2⟩ => ⟨ds.length - (i + 1), by omega, rfl, h1, h2⟩, fun x H2 yl => ?_⟩
      obtain ⟨Z3, d, z3, R3, hd, rd⟩ := y.item i H' x H2 Φ σ' ρ' Z' hlt z' R' yl
      have ed : ds.drop i = d :: ds.drop (i + 1) := by
        rw [List.drop_eq_getElem_cons hlt]
        congr 1
        rw [List.getElem?_eq_getElem hlt] at hd
        exact Option.some.inj hd
      rw [ed] at q'
      unfold forL at q'
      cases e2 : gf d ρ' with
      | none => rw [e2] at q'; cases q'
      | some ρ2 =>
        rw [e2, Option.bind_some] at q'
        cases e3 : b ρ2 with
        | none => rw [e3] at q'; cases q'
        | some f =>
          rw [e3, Option.bind_some] at q'
          refine mg Φ Z3 σ' H2 ρ' x d ρ2 R3 rd e2 _ fun σ3 R4 _ _ => ?_
          refine mb Φ Z3 σ3 H2 ρ2 f R4 e3 _ ?_
          cases f with
          | nx ρ4 => exact fun σ4 H4 Z4 z4 R5 => ⟨hlt, Z4, ρ4, (z'.trans z3).trans z4, R5, q'⟩
          | ct ρ4 => exact fun σ4 H4 Z4 z4 R5 => ⟨hlt, Z4, ρ4, (z'.trans z3).trans z4, R5, q'⟩
          | bk ρ4 =>
            cases q'
            exact fun σ4 H4 Z4 z4 R5 => k1 σ4 H4 Z4 ((z'.trans z3).trans z4) R5
          | rt dd ρ4 =>
            cases q'
            exact fun v σ4 H4 Z4 z4 R5 rr => k1 v σ4 H4 Z4 ((z'.trans z3).trans z4) R5 rr
          | rn dd ρ4 =>
            cases q'
            exact fun v σ4 H4 Z4 z4 R5 rr => k1 v σ4 H4 Z4 ((z'.trans z3).trans z4) R5 rr
    · have e : i = ds.length := by omega
      subst e
      rw [List.drop_length] at q'
      cases q'
      exact .inl ⟨y.stop _ H' (z'.trans R'.zH) rfl, k1 σ' H' Z' z' R'⟩
section
variable {X : Cx} {tg e : Expr} {body : List Stmt} {it : XI} {g : XG} {vs : List Nat} {b : XS} {pos : Pos}
theorem sd_for (hp : PassesOwn (model X.prog X.w) X.A X.env X.xe) (hc : X.calm = true) (hi : ID' X tg e it) (hg : GD X tg g vs) (hb : SSD X body b) (hs : ∀ x, foldedSetIterable e X.env x = pure x := by intro _; rfl) :
    SD X (.For tg e body [] pos) (sFor it g b) := by
  obtain ⟨w, p, m⟩ := hi
  obtain ⟨t, q, n⟩ := hg
  obtain ⟨u, r, o⟩ := hb
  exact ⟨_, ps_for hp hc p q r hs, ms_for m n o⟩
end

/-! ### while, with so many turns at most -/
def whL (c : XT) (b : XS) : Nat → Nv → Option Fl
  | 0, _ => none
  | n + 1, ρ => (c ρ).bind fun p => if p.1 = true then (b p.2).bind fun r => match r with
      | .nx ρ2 => whL c b n ρ2
      | .ct ρ2 => whL c b n ρ2
      | .bk ρ2 => some (.nx ρ2)
      | .rt x ρ2 => some (.rt x ρ2)
      | .rn x ρ2 => some (.rn x ρ2)
    else some (.nx p.2)
def sWh (n : Nv → Nat) (c : XT) (b : XS) : XS := fun ρ => whL c b (n ρ) ρ
theorem ms_wh {K : PySem.W.Frag} {tc : TT} {tb : TS} {n : Nv → Nat} {c : XT} {b : XS} (mc : MT K tc c) (mb : MS K tb b) : MS K (tWhile tc tb) (sWh n c b) := by
  intro Φ Z σ H ρ r R q D k
  refine ⟨fun m σ' H' => ∃ Z' ρ', Same Z Z' ∧ Rl K Φ Z' σ' H' ρ' ∧ whL c b m ρ' = some r, ⟨n ρ, Z, ρ, Same.refl Z, R, q⟩, ?_⟩
  rintro m σ' H' ⟨Z', ρ', z', R', q'⟩
  cases m with
  | zero => cases q'
  | succ m =>
    unfold whL at q'
    cases e1 : c ρ' with
    | none => rw [e1] at q'; cases q'
    | some p =>
      rw [e1, Option.bind_some] at q'
      refine mc Φ Z' σ' H' ρ' p.1 p.2 R' e1 _ fun H1 Z1 z1 R1 => ?_
      by_cases hp : p.1 = true
      · rw [if_pos hp] at q' ⊢
        cases e2 : b p.2 with
        | none => rw [e2] at q'; cases q'
        | some f =>
          rw [e2, Option.bind_some] at q'
          refine ⟨fun σ2 H2 => ∃ Z' ρ', Same Z Z' ∧ Rl K Φ Z' σ2 H2 ρ' ∧ whL c b m ρ' = some r, fun σ2 H2 h => ⟨m, Nat.lt_succ_self m, h⟩, ?_⟩
          refine mb Φ Z1 σ' H1 p.2 f R1 e2 _ ?_
          cases f with
          | nx ρ4 => exact fun σ4 H4 Z4 z4 R5 => ⟨Z4, ρ4, (z'.trans z1).trans z4, R5, q'⟩
          | ct ρ4 => exact fun σ4 H4 Z4 z4 R5 => ⟨Z4, ρ4, (z'.trans z1).trans z4, R5, q'⟩
          | bk ρ4 =>
            cases q'
            exact fun σ4 H4 Z4 z4 R5 => k σ4 H4 Z4 ((z'.trans z1).trans z4) R5
          | rt dd ρ4 =>
            cases q'
            exact fun v σ4 H4 Z4 z4 R5 rr => k v σ4 H4 Z4 ((z'.trans z1).trans z4) R5 rr
          | rn dd ρ4 =>
            cases q'
            exact fun v σ4 H4 Z4 z4 R5 rr => k v σ4 H4 Z4 ((z'.trans z1).trans z4) R5 rr
      · rw [if_neg hp] at q' ⊢
        cases q'
        exact k σ' H1 Z1 (z'.trans z1) R1
section
variable {X : Cx} {c : Expr} {body : List Stmt} {t : XT} {b : XS} {pos : Pos}
theorem sd_wh (n : Nv → Nat) (hp : PassesOwn (model X.prog X.w) X.A X.env X.xe) (hc : TD X c t) (hb : SSD X body b) : SD X (.While c body [] pos) (sWh n t b) := by
  obtain ⟨w, p, m⟩ := hc
  obtain ⟨u, r, o⟩ := hb
  exact ⟨_, ps_while hp p r, ms_wh m o⟩
end
end DL
set_option maxRecDepth 100000
set_option maxHeartbeats 2000000
/-! DL, comprehensions, dict displays -/
namespace DL
open PySem L2

/-! ### a new object, frozen at once -/
def xFz (n : XN) : XE := fun ρ => (n ρ).map fun p => (odD p.1, p.2)
theorem me_fz {K : PySem.W.Frag} {t : TE} {n : XN} (m : MN K t n) : ME K t (xFz n) := by
  intro Φ Z σ H ρ d ρ' R q Q k
  unfold xFz at q
  cases e1 : n ρ with
  | none => rw [e1] at q; cases q
  | some p =>
    rw [e1] at q
    cases q
    refine m Φ Z σ H ρ p.1 p.2 R e1 _ fun a H1 Z1 z1 R1 w => ?_
    obtain ⟨u, hu, _⟩ := w.ob.some
    obtain ⟨z2, R2⟩ := R1.freeze hu w.z w.h0 w.fr w.no
    exact k _ H1 _ (z1.trans z2) R2 ((w.ob.move z2 rfl).rp R2.zH (by rw [upd_same, hu]))
theorem ND.ed {X : Cx} {e : Expr} {n : XN} (h : ND X e n) : ED X e (xFz n) := by
  obtain ⟨t, p, m⟩ := h
  exact ⟨t, p, me_fz m⟩

/-! ### slots of a comprehension's own -/
def unAt (ρ : Nv) (vs : List Nat) : Bool := vs.all fun v => match ρ[v]? with
  | some .un => true
  | _ => false
def wipeN : Nv → List Nat → Option Nv
  | ρ, [] => some ρ
  | ρ, v :: vs => if free ρ v = true then wipeN (ρ.set v .un) vs else none
theorem unAt_get {ρ : Nv} {vs : List Nat} (h : unAt ρ vs = true) {i : Nat} (hi : i ∈ vs) : ρ[i]? = some EV.un := by
  unfold unAt at h
  have := List.all_eq_true.mp h i hi
  split at this
  · assumption
  · cases this
theorem wipeN_keep : ∀ {vs : List Nat} {ρ ρ' : Nv} {i : Nat}, wipeN ρ vs = some ρ' → ρ[i]? = some EV.un → ρ'[i]? = some EV.un
  | [], _, _, _, h, e => by cases h; exact e
  | v :: vs, ρ, ρ', i, h, e => by
    unfold wipeN at h
    split at h
    · refine wipeN_keep h ?_
      by_cases hv : v = i
      · subst hv
        exact List.getElem?_set_self (List.getElem?_eq_some_iff.mp e).1
      · rw [List.getElem?_set_ne hv]
        exact e
    · cases h
theorem wipeN_un : ∀ {vs : List Nat} {ρ ρ' : Nv}, wipeN ρ vs = some ρ' → ∀ i ∈ vs, ρ'[i]? = some EV.un
  | [], _, _, _, i, hi => by cases hi
  | v :: vs, ρ, ρ', h, i, hi => by
    unfold wipeN at h
    split at h
    · rename_i hf
      rcases List.mem_cons.mp hi with rfl | hi
      · exact wipeN_keep h (List.getElem?_set_self (free_lt hf).1)
      · exact wipeN_un h i hi
    · cases h
theorem wipeN_unAt {vs : List Nat} {ρ ρ' : Nv} (h : wipeN ρ vs = some ρ') : unAt ρ' vs = true := by
  unfold unAt
  rw [List.all_eq_true]
  intro i hi
  rw [wipeN_un h i hi]
theorem wipeN_rl {K : PySem.W.Frag} {Φ : Fx} {Z : Hp} {σ : St} {H : Hp} : ∀ {vs : List Nat} {ρ ρ' : Nv}, Rl K Φ Z σ H ρ → wipeN ρ vs = some ρ' → Rl K Φ Z σ H ρ'
  | [], _, _, R, h => by cases h; exact R
  | v :: vs, ρ, ρ', R, h => by
    unfold wipeN at h
    split at h
    · rename_i hf
      exact wipeN_rl (R.drop (free_lt hf).2) h
    · cases h
theorem wipe_ne {σ : St} : ∀ {vs : List Nat} {i : Nat}, i ∉ vs → (wipe σ vs)[i]? = σ[i]?
  | [], _, _ => rfl
  | v :: vs, i, h => by
    rw [List.mem_cons, not_or] at h
    show ((wipe σ vs).set v none)[i]? = _
    rw [List.getElem?_set_ne (Ne.symm h.1), wipe_ne h.2]
theorem wipe_in {σ : St} : ∀ {vs : List Nat} {i : Nat}, i ∈ vs → i < σ.length → (wipe σ vs)[i]? = some none
  | v :: vs, i, h, hi => by
    show ((wipe σ vs).set v none)[i]? = _
    by_cases hv : v = i
    · subst hv
      exact List.getElem?_set_self (by rw [wipe_length]; exact hi)
    · rw [List.getElem?_set_ne hv]
      rcases List.mem_cons.mp h with rfl | h
      · exact absurd rfl hv
      · exact wipe_in h hi
theorem wipe_eq {σ σ' : St} {vs : List Nat} (hl : σ'.length = σ.length) (h : ∀ j, j ∉ vs → σ'[j]? = σ[j]?) : wipe σ' vs = wipe σ vs := by
  apply List.ext_getElem?
  intro j
  by_cases hj : j ∈ vs
  · by_cases hlt : j < σ.length
    · rw [wipe_in hj hlt, wipe_in hj (by omega)]
    · rw [List.getElem?_eq_none (by rw [wipe_length]; omega), List.getElem?_eq_none (by rw [wipe_length]; omega)]
  · rw [wipe_ne hj, wipe_ne hj, h j hj]
theorem reslot_un {K : PySem.W.Frag} {Φ : Fx} {Z : Hp} {σ σ' : St} {H : Hp} {ρ : Nv} {vs : List Nat} (R : Rl K Φ Z σ H ρ) (hu : unAt ρ vs = true) (hl : σ'.length = σ.length) (h : ∀ j, j ∉ vs → σ'[j]? = σ[j]?) : Rl K Φ Z σ' H ρ := by
  refine R.reslot hl fun i ⟨e, he, hne⟩ => h i fun hi => ?_
  rw [unAt_get hu hi] at he
  cases he
  exact hne rfl

/-! ### [e for target in it if c] -/
def cYes : XT := fun ρ => some (true, ρ)
def lcL (g : XG) (c : XT) (e : XE) (vs : List Nat) : List PyData → Nv → List PyData → Option (List PyData × Nv)
  | [], ρ, acc => some (acc, ρ)
  | d :: ds, ρ, acc => (g d ρ).bind fun ρ1 => (c ρ1).bind fun p => if p.1 = true then (e p.2).bind fun q => if acc.length < sizeLine then (wipeN q.2 vs).bind fun ρ2 => lcL g c e vs ds ρ2 (acc ++ [q.1]) else none
    else (wipeN p.2 vs).bind fun ρ2 => lcL g c e vs ds ρ2 acc
def nLc (it : XI) (g : XG) (c : XT) (e : XE) (vs : List Nat) : XN := fun ρ => (it ρ).bind fun p => if unAt p.2 vs = true then (lcL g c e vs p.1 p.2 []).map fun q => (.ol q.1, q.2) else none
theorem mn_lc {K : PySem.W.Frag} {w : TI} {g : TG} {tt : TT} {te : TE} {it : XI} {gf : XG} {c : XT} {e : XE} {vs : List Nat} (mi : MI K w it) (mg : MG K g gf vs) (mc : MT K tt c) (me : ME K te e) : MN K (tLc w g tt te vs) (nLc it gf c e vs) := by
  intro Φ Z σ H ρ o ρ' R q Q k
  unfold nLc at q
  cases e1 : it ρ with
  | none => rw [e1] at q; cases q
  | some p =>
    rw [e1, Option.bind_some] at q
    obtain ⟨ds, ρ1⟩ := p
    split at q
    · rename_i hu
      cases e2 : lcL gf c e vs ds ρ1 [] with
      | none => rw [e2] at q; cases q
      | some s =>
        rw [e2] at q
        cases q
        refine mi Φ Z σ H ρ ds ρ1 R e1 _ fun J H1 Z1 z1 R1 y D hD => ?_
        have frD : Φ.Fr D = none := R1.fr.free hD
        have f0D : Φ.F0 D = none := R1.f0 D (R1.dom D hD)
        have zD : ∀ {o Z' σ' H' ρ'}, (∀ xs, o ≠ .tup xs) → Rl K (Φ.keep D o) Z' σ' H' ρ' → Z' D = none := fun {o Z' σ' H' ρ'} no R' => by
          cases hz : Z' D with
          | none => rfl
          | some u =>
            rcases R'.zN D u hz (fun xs e => by have h1 := R'.zH D u hz; have h2 := R'.fr D o upd_same; rw [h1] at h2; cases h2; exact no xs e) with h | ⟨_, h⟩
            · rw [show (Φ.keep D o).F0 D = Φ.F0 D from rfl, f0D] at h
              cases h
            · have h : upd Φ.Fr D o D = none := h
              rw [upd_same] at h
              cases h
        have start : Rl K (Φ.keep D (.lst [])) Z1 σ (upd H1 D (.lst [])) ρ1 := by
          have R2 := R1.laid (o := .lst []) hD
          refine R2.keep upd_same (R1.zH.free hD) (fun i hi => ?_) fun a u e => ne_of_none (R1.zH a u e) hD
          obtain ⟨u, hu, _⟩ := R1.at_some hi
          rw [hD] at hu
          cases hu
        refine ⟨fun i m H' => m = ds.length - i ∧ i ≤ ds.length ∧ ∃ Z' ρ' acc us, Same Z1 Z' ∧ Rl K (Φ.keep D (.lst us)) Z' σ H' ρ' ∧ unAt ρ' vs = true ∧ RpA K Z' us acc ∧ lcL gf c e vs (ds.drop i) ρ' acc = some s,
          ⟨ds.length, by simp, Nat.zero_le _, Z1, ρ1, [], [], Same.refl Z1, start, hu, .nil, by simpa using e2⟩, ?_⟩
        rintro i m H' ⟨rfl, hi, Z', ρ', acc, us, z', R', hu', ra, q'⟩
        by_cases hlt : i < ds.length
        · refine .inr ⟨y.go i H' (z'.trans R'.zH) hlt, fun H2 => i + 1 ≤ ds.length ∧ ∃ Z' ρ' acc us, Same Z1 Z' ∧ Rl K (Φ.keep D (.lst us)) Z' σ H2 ρ' ∧ unAt ρ' vs = true ∧ RpA K Z' us acc ∧ lcL gf c e vs (ds.drop (i + 1)) ρ' acc = some s,
            fun H2 ⟨h1, h2⟩ => ⟨ds.length - (i + 1), by omega, rfl, h1, h2⟩, fun x H2 yl => ?_⟩
          obtain ⟨Z3, d, z3, R3, hd, rd⟩ := y.item i H' x H2 _ σ ρ' Z' hlt z' R' yl
          have ed : ds.drop i = d :: ds.drop (i + 1) := by
            rw [List.drop_eq_getElem_cons hlt]
            congr 1
            rw [List.getElem?_eq_getElem hlt] at hd
            exact Option.some.inj hd
          rw [ed] at q'
          unfold lcL at q'
          cases e3 : gf d ρ' with
          | none => rw [e3] at q'; cases q'
          | some ρ2 =>
            rw [e3, Option.bind_some] at q'
            have R3w : Rl K (Φ.keep D (.lst us)) Z3 (wipe σ vs) H2 ρ' := reslot_un R3 hu' (wipe_length σ vs) fun j hj => wipe_ne hj
            refine mg _ Z3 (wipe σ vs) H2 ρ' x d ρ2 R3w rd e3 _ fun σ3 R4 l3 s3 => ⟨?_, ?_⟩
            · exact wipe_eq (l3.trans (wipe_length σ vs)) fun j hj => (s3 j hj).trans (wipe_ne hj)
            have l3' : σ3.length = σ.length := l3.trans (wipe_length σ vs)
            have s3' : ∀ j, j ∉ vs → σ[j]? = σ3[j]? := fun j hj => ((s3 j hj).trans (wipe_ne hj)).symm
            cases e4 : c ρ2 with
            | none => rw [e4] at q'; cases q'
            | some p =>
              rw [e4, Option.bind_some] at q'
              refine mc _ Z3 σ3 H2 ρ2 p.1 p.2 R4 e4 _ fun H5 Z5 z5 R5 => ?_
              by_cases hp : p.1 = true
              · rw [if_pos hp] at q' ⊢
                cases e5 : e p.2 with
                | none => rw [e5] at q'; cases q'
                | some w =>
                  rw [e5, Option.bind_some] at q'
                  split at q'
                  · rename_i hal
                    cases e6 : wipeN w.2 vs with
                    | none => rw [e6] at q'; cases q'
                    | some ρ4 =>
                      rw [e6, Option.bind_some] at q'
                      refine me _ Z5 σ3 H5 p.2 w.1 w.2 R5 e5 _ fun v H6 Z6 z6 R6 r6 => ?_
                      obtain ⟨_, hDl, _⟩ := R6.unkeep frD
                      have ra6 : RpA K Z6 us acc := ((ra.mono z3).mono z5).mono z6
                      refine ⟨us, hDl, by rw [ra.length]; exact hal, hlt, Z6, ρ4, acc ++ [w.1], us ++ [v], ((z'.trans z3).trans z5).trans z6, ?_, wipeN_unAt e6, ra6.append (.cons r6 .nil), q'⟩
                      exact reslot_un (wipeN_rl (R6.rekeep frD (zD (fun _ e => by cases e) R6)) e6) (wipeN_unAt e6) l3'.symm s3'
                  · cases q'
              · rw [if_neg hp] at q' ⊢
                cases e6 : wipeN p.2 vs with
                | none => rw [e6] at q'; cases q'
                | some ρ4 =>
                  rw [e6, Option.bind_some] at q'
                  refine ⟨hlt, Z5, ρ4, acc, us, (z'.trans z3).trans z5, ?_, wipeN_unAt e6, (ra.mono z3).mono z5, q'⟩
                  exact reslot_un (wipeN_rl R5 e6) (wipeN_unAt e6) l3'.symm s3'
        · have ei : i = ds.length := by omega
          subst ei
          rw [List.drop_length] at q'
          cases q'
          obtain ⟨R7, hDl, hn⟩ := R'.unkeep frD
          exact .inl ⟨y.stop _ H' (z'.trans R'.zH) rfl, k D H' Z' (z1.trans z') R7 ⟨⟨us, hDl, ra⟩, zD (fun _ e => by cases e) R', frD, R1.dom D hD, hn⟩⟩
    · cases q
def TsD (X : Cx) (ifs : List Expr) (f : XT) : Prop := ∃ t, PTs X ifs t ∧ MT X.K t f
theorem tsd_nil {X : Cx} : TsD X [] cYes := ⟨tYes, pts_nil, fun Φ Z σ H ρ d ρ' R q Q k => by
  cases q
  exact k H Z (Same.refl Z) R⟩
theorem tsd_one {X : Cx} {c : Expr} {f : XT} (h : TD X c f) : TsD X [c] f := by
  obtain ⟨t, p, m⟩ := h
  exact ⟨_, pts_one p, m⟩
theorem TsD.pts {X : Cx} {e : List Expr} {f : XT} (h : TsD X e f) : PTs X e (tOfT X.K f) := by
  obtain ⟨t, p, m⟩ := h
  exact ⟨fun pins s σ H Q I q => p.run pins s σ H Q I (by
    obtain ⟨Φ, Z, ρ, d, ρ', R, e, k⟩ := q
    exact m Φ Z σ H ρ d ρ' R e Q k)⟩
theorem ms_asg {K : PySem.W.Frag} {t : TE} {f : XE} {i : Nat} (m : ME K t f) : MS K (tAsg t (gName i)) (sSet i f) := by
  intro Φ Z σ H ρ r R q D k
  unfold sSet at q
  cases e1 : f ρ with
  | none => rw [e1] at q; cases q
  | some s =>
    rw [e1, Option.bind_some] at q
    cases e2 : put s.2 i s.1 with
    | none => rw [e2] at q; cases q
    | some ρ1 =>
      rw [e2] at q
      cases q
      exact m Φ Z σ H ρ s.1 s.2 R e1 _ fun v H1 Z1 z1 R1 r1 => k _ H1 Z1 z1 (put_rl R1 r1 e2)
theorem ms_asgN {K : PySem.W.Frag} {t : TE} {n : XN} {i : Nat} (m : MN K t n) : MS K (tAsg t (gName i)) (sNew i n) := by
  intro Φ Z σ H ρ r R q D k
  unfold sNew at q
  cases e1 : n ρ with
  | none => rw [e1] at q; cases q
  | some s =>
    rw [e1, Option.bind_some] at q
    split at q
    · rename_i hfr
      cases q
      obtain ⟨h1, h2⟩ := free_lt hfr
      exact m Φ Z σ H ρ s.1 s.2 R e1 _ fun a H1 Z1 z1 R1 w => k _ H1 Z1 z1 (R1.hold h1 h2 w.ob w.z w.fr w.h0 w.no)
    · cases q
section
variable {X : Cx} {elt tg iter : Expr} {ifs : List Expr} {scope : Scope} {pos : Pos} {it : XI} {g : XG} {c : XT} {f : XE}
theorem nd_lc {vs : List Nat} (own : List (Str × Nat)) (ok : BlkOk X.N X.env.scope scope own) (hv : own.map (·.2) = vs) (hc : X.calm = true) (hN : X.N.Nodup) (hi : ID' X tg iter it)
    (hg : ∀ (s : Shared) (H : Hp) (C : Addr) (cl : List (Str × Addr)) (fp : List Addr), GD (X.blk s H scope (compEnvC scope cl C X.env) fp) tg g vs) (ht : ∀ (s : Shared) (H : Hp) (C : Addr) (cl : List (Str × Addr)) (fp : List Addr), TsD (X.blk s H scope (compEnvC scope cl C X.env) fp) ifs c)
    (he : ∀ (s : Shared) (H : Hp) (C : Addr) (cl : List (Str × Addr)) (fp : List Addr), ED (X.blk s H scope (compEnvC scope cl C X.env) fp) elt f) (hs : ∀ x, foldedSetIterable iter X.env x = pure x := by intro _; rfl) :
    ND X (.ListComp elt [⟨tg, iter, ifs, 0⟩] scope pos) (nLc it g c f vs) := by
  subst hv
  obtain ⟨w, p, m⟩ := hi
  exact ⟨_, pe_lc (g := gOf X.K g _) (tt := tOfT X.K c) (te := tOf X.K f) hc hN p ok (fun s H C cl fp => (hg s H C cl fp).pg) (fun s H C cl fp => (ht s H C cl fp).pts) (fun s H C cl fp => (he s H C cl fp).pe) hs, mn_lc m mg_of mt_of me_of⟩
theorem sd_setLc {vs : List Nat} (i : Nat) {y : Str} {py spos : Pos} (own : List (Str × Nat)) (ok : BlkOk X.N X.env.scope scope own) (hv : own.map (·.2) = vs) (hc : X.calm = true) (hN : X.N.Nodup) (hi : ID' X tg iter it)
    (hg : ∀ (s : Shared) (H : Hp) (C : Addr) (cl : List (Str × Addr)) (fp : List Addr), GD (X.blk s H scope (compEnvC scope cl C X.env) fp) tg g vs) (ht : ∀ (s : Shared) (H : Hp) (C : Addr) (cl : List (Str × Addr)) (fp : List Addr), TsD (X.blk s H scope (compEnvC scope cl C X.env) fp) ifs c)
    (he : ∀ (s : Shared) (H : Hp) (C : Addr) (cl : List (Str × Addr)) (fp : List Addr), ED (X.blk s H scope (compEnvC scope cl C X.env) fp) elt f)
    (hsw : swapsWith (.ListComp elt [⟨tg, iter, ifs, 0⟩] scope pos) (some (.Name y py)) spos.line X.env = pure true)
    (hy : X.N[i]? = some y := by rfl) (hyl : X.env.scope.names.lookup y = some .local := by rfl) (hs : ∀ x, foldedSetIterable iter X.env x = pure x := by intro _; rfl) :
    SD X (.Assign [.Name y py] (.ListComp elt [⟨tg, iter, ifs, 0⟩] scope pos) spos) (sSet i (xFz (nLc it g c f vs))) ∧ SD X (.Assign [.Name y py] (.ListComp elt [⟨tg, iter, ifs, 0⟩] scope pos) spos) (sNew i (nLc it g c f vs)) := by
  subst hv
  obtain ⟨w, p, m⟩ := hi
  have q := ps_setLc (py := py) (g := gOf X.K g _) (tt := tOfT X.K c) (te := tOf X.K f) hc hN hy hyl hsw p ok (fun s H C cl fp => (hg s H C cl fp).pg) (fun s H C cl fp => (ht s H C cl fp).pts) (fun s H C cl fp => (he s H C cl fp).pe) hs
  exact ⟨⟨_, q, ms_asg (me_fz (mn_lc m mg_of mt_of me_of))⟩, ⟨_, q, ms_asgN (mn_lc m mg_of mt_of me_of)⟩⟩
end

/-! ### dict displays: an empty one; written keys -/
def nDk : XN := fun ρ => some (.od [], ρ)
def nDt : XN := fun ρ => some (.ot [], ρ)
theorem nd_dk {X : Cx} {pos : Pos} : ND X (.Dict [] [] pos) nDk := ⟨_, pe_dnewK, fun Φ Z σ H ρ o ρ' R q Q k => by
  cases q
  exact fun p hp => k p _ Z (Same.refl Z) (R.laid hp) (New.of R hp ⟨[], upd_same, rfl, .nil⟩)⟩
theorem nd_dt {X : Cx} {pos : Pos} : ND X (.Dict [] [] pos) nDt := ⟨_, pe_dnewT, fun Φ Z σ H ρ o ρ' R q Q k => by
  cases q
  exact fun p hp => k p _ Z (Same.refl Z) (R.laid hp) (New.of R hp ⟨[], upd_same, rfl, .nil⟩)⟩

def prX : List (XE × XE) → Nv → Option (List (Key × PyData) × Nv)
  | [], ρ => some ([], ρ)
  | (fk, fv) :: r, ρ => (fk ρ).bind fun p => (fv p.2).bind fun q => (keyD p.1).bind fun k => (prX r q.2).map fun s => ((k, q.1) :: s.1, s.2)
def mergeD : List (Key × PyData) → List (Key × PyData) → List (Key × PyData) := fun kvs more => more.foldl (fun acc kv => putD acc kv.1 kv.2) kvs
def nDisp (ps : List (XE × XE)) : XN := fun ρ => (prX ps ρ).bind fun p => if p.1.length ≤ 15 then some (.od (mergeD [] p.1), p.2) else none
/-- the pairs' readings meet the pairs' functions -/
inductive MPs (K : PySem.W.Frag) : List (TE × TE) → List (XE × XE) → Prop
  | nil : MPs K [] []
  | cons {tk tv : TE} {ts : List (TE × TE)} {fk fv : XE} {fs : List (XE × XE)} : ME K tk fk → ME K tv fv → MPs K ts fs → MPs K ((tk, tv) :: ts) ((fk, fv) :: fs)
theorem prs_meet {K : PySem.W.Frag} : ∀ {ts : List (TE × TE)} {fs : List (XE × XE)}, MPs K ts fs → ∀ (Φ : Fx) (Z : Hp) (σ : St) (H : Hp) (ρ : Nv) (kvs : List (Key × PyData)) (ρ' : Nv), Rl K Φ Z σ H ρ → prX fs ρ = some (kvs, ρ') →
    ∀ Q : List (V × V) → Hp → Prop, (∀ (vs : List (Key × V)) H' Z', Same Z Z' → Rl K Φ Z' σ H' ρ' → vs.map (·.1) = kvs.map (·.1) → RpA K Z' (vs.map (·.2)) (kvs.map (·.2)) → Q (vs.map fun kv => (kV kv.1, kv.2)) H') → tPairs ts σ H Q
  | _, _, .nil, Φ, Z, σ, H, ρ, kvs, ρ', R, q, Q, k => by
    cases q
    exact k [] H Z (Same.refl Z) R rfl .nil
  | _, _, .cons (fk := fk) (fv := fv) (fs := fs) mk mv r, Φ, Z, σ, H, ρ, kvs, ρ', R, q, Q, k => by
    unfold prX at q
    cases e1 : fk ρ with
    | none => rw [e1] at q; cases q
    | some p =>
      rw [e1, Option.bind_some] at q
      cases e2 : fv p.2 with
      | none => rw [e2] at q; cases q
      | some s =>
        rw [e2, Option.bind_some] at q
        cases e3 : keyD p.1 with
        | none => rw [e3] at q; cases q
        | some kk =>
          rw [e3, Option.bind_some] at q
          cases e4 : prX fs s.2 with
          | none => rw [e4] at q; cases q
          | some w =>
            rw [e4] at q
            cases q
            refine mk Φ Z σ H ρ p.1 p.2 R e1 _ fun x H1 Z1 z1 R1 r1 => ?_
            refine mv Φ Z1 σ H1 p.2 s.1 s.2 R1 e2 _ fun y H2 Z2 z2 R2 r2 => ?_
            refine prs_meet r Φ Z2 σ H2 s.2 w.1 w.2 R2 e4 _ fun vs H3 Z3 z3 R3 q1 q2 => ?_
            rw [keyD_rp r1 e3]
            refine k ((kk, y) :: vs) H3 Z3 ((z1.trans z2).trans z3) R3 ?_ (.cons (r2.mono z3) q2)
            rw [List.map_cons, List.map_cons, q1]
theorem merge_rp {K : PySem.W.Frag} {Z : Hp} : ∀ {vs : List (Key × V)} {kvs : List (Key × PyData)} {us : List (Key × V)} {ws : List (Key × PyData)}, vs.map (·.1) = kvs.map (·.1) → RpA K Z (vs.map (·.2)) (kvs.map (·.2)) → us.map (·.1) = ws.map (·.1) → RpA K Z (us.map (·.2)) (ws.map (·.2)) →
    (mergeK us vs).map (·.1) = (mergeD ws kvs).map (·.1) ∧ RpA K Z ((mergeK us vs).map (·.2)) ((mergeD ws kvs).map (·.2))
  | [], [], us, ws, _, _, e, r => ⟨e, r⟩
  | [], _ :: _, _, _, e, _, _, _ => by cases e
  | _ :: _, [], _, _, e, _, _, _ => by cases e
  | (a, v) :: vs, (b, d) :: kvs, us, ws, e, r, e', r' => by
    rw [List.map_cons, List.map_cons] at e
    injection e with e1 e2
    have e1 : a = b := e1
    subst e1
    rw [List.map_cons, List.map_cons] at r
    cases r with
    | cons r1 r2 =>
      obtain ⟨w1, w2⟩ := put_rp (k := a) r1 e' r'
      exact merge_rp (us := putK us a v) (ws := putD ws a d) e2 r2 w1 w2
def PsD (X : Cx) (pos : Pos) (keys : List (Option Expr)) (values : List Expr) (fs : List (XE × XE)) : Prop := ∃ ts, PPs X pos keys values ts ∧ MPs X.K ts fs
section
variable {X : Cx} {pos : Pos} {k v : Expr} {ks : List (Option Expr)} {vs : List Expr} {fk fv : XE} {fs : List (XE × XE)}
theorem psd_nil : PsD X pos [] [] [] := ⟨_, pps_nil, .nil⟩
theorem psd_cons (hk : ED X k fk) (hv : ED X v fv) (hr : PsD X pos ks vs fs) : PsD X pos (some k :: ks) (v :: vs) ((fk, fv) :: fs) := by
  obtain ⟨t, p, m⟩ := hk
  obtain ⟨t2, p2, m2⟩ := hv
  obtain ⟨ts, ps, ms⟩ := hr
  exact ⟨_, pps_cons p p2 ps, .cons m m2 ms⟩
theorem nd_disp (h : PsD X pos ks vs fs) (hall : ks.all (·.isSome) = true := by rfl) (hl : ks.length = vs.length := by rfl) (h0 : ks ≠ [] := by intro z; cases z) (h15 : ks.length ≤ 15 := by decide) : ND X (.Dict ks vs pos) (nDisp fs) := by
  obtain ⟨ts, ps, ms⟩ := h
  refine ⟨_, pe_disp ps hall hl h0 h15, fun Φ Z σ H ρ o ρ' R q Q k => ?_⟩
  unfold nDisp at q
  cases e1 : prX fs ρ with
  | none => rw [e1] at q; cases q
  | some w =>
    rw [e1, Option.bind_some] at q
    split at q
    · rename_i hlen
      cases q
      intro D hD
      have frD : Φ.Fr D = none := R.fr.free hD
      have f0D : Φ.F0 D = none := R.f0 D (R.dom D hD)
      have start : Rl X.K (Φ.keep D (.dK [])) Z σ (upd H D (.dK [])) ρ := by
        have R2 := R.laid (o := .dK []) hD
        refine R2.keep upd_same (R.zH.free hD) (fun i hi => ?_) fun a u e => ne_of_none (R.zH a u e) hD
        obtain ⟨u, hu, _⟩ := R.at_some hi
        rw [hD] at hu
        cases hu
      refine prs_meet ms _ Z σ _ ρ w.1 w.2 start e1 _ fun us H1 Z1 z1 R1 q1 q2 => ?_
      have zD : Z1 D = none := by
        cases hz : Z1 D with
        | none => rfl
        | some u =>
          rcases R1.zN D u hz (fun xs e => by have h1 := R1.zH D u hz; have h2 := R1.fr D (.dK []) upd_same; rw [h1] at h2; cases h2; cases e) with h | ⟨_, h⟩
          · rw [show (Φ.keep D (.dK [])).F0 D = Φ.F0 D from rfl, f0D] at h
            cases h
          · have h : upd Φ.Fr D (.dK []) D = none := h
            rw [upd_same] at h
            cases h
      obtain ⟨_, hDl, _⟩ := R1.unkeep frD
      refine ⟨hDl, us, rfl, by rw [len_keys q1]; exact hlen, ?_⟩
      obtain ⟨R3, hD3, hn⟩ := (R1.rekeep (u := .dK (mergeK [] us)) frD zD).unkeep frD
      obtain ⟨w1, w2⟩ := merge_rp (us := []) (ws := []) q1 q2 rfl .nil
      exact k D _ Z1 z1 R3 ⟨⟨_, hD3, w1, w2⟩, zD, frD, R.dom D hD, hn⟩
    · cases q
end
end DL
set_option maxRecDepth 100000
set_option maxHeartbeats 2000000
/-! DL, defs and calls -/
namespace DL
open PySem PySem.Spec PyProof.Rows L2

/-- what a def makes of what its parameters hold: the answer, and what the lent objects are then -/
inductive Rv where
  | d (x : PyData)
  | n (o : OD)
abbrev XF := List EV → Option (Rv × List EV)
/-- the answer: a datum, or a new object that nobody holds -/
def RvOk (K : PySem.W.Frag) (Φ : Fx) (Z : Hp) (σ : L2.St) (H : Hp) (ρ : Nv) (v : V) : Rv → Prop
  | .d x => Rp K Z v x
  | .n o => ∃ a, v = .ref a ∧ New K Φ Z σ H ρ a o
/-- the promise that belongs to such a function -/
def spF (K : PySem.W.Frag) (m : XF) (vs : List V) (H : Hp) (Q : VK) : Prop := ∃ (Z Fr : Hp) (ino : Nat → Option Addr) (ρ : Nv) (d : Rv) (ρ' : Nv), m ρ = some (d, ρ') ∧ (∀ (i : Nat) o, ρ[i]? ≠ some (EV.own o false)) ∧ Rl K ⟨Z, H, Fr, ino⟩ Z (vs.map some) H ρ ∧
  ∀ v H' Z', Same Z Z' → Rl K ⟨Z, H, Fr, ino⟩ Z' (vs.map some) H' ρ' → RvOk K ⟨Z, H, Fr, ino⟩ Z' (vs.map some) H' ρ' v d → Q v H'
/-- the def at f keeps it, where no repr is under way -/
structure FnG (P : Program) (w : World) (K : PySem.W.Frag) (mg : Str → Option Value) (base : Heap) (k : Nat) (f : Addr) (fd : FuncData) (ps : List Str) (m : XF) : Prop where
  run : ∀ (A : Around) (outer : List Env) (s : Shared) (H : Hp) (args : Args) (us : List Value) (vs : List V) (Q : VK), Room k A → A.guards = some [] → Env0 P w K mg base A outer s H → BindsTo s fd args (ps.zip us) → Vals vs us →
    vs.length = ps.length → spF K m vs H Q → codeAny (model P w) A (.call (.ref f) args) (CR CX0 outer P w H s Q E0) s
theorem FnG.mono {P : Program} {w : World} {K : PySem.W.Frag} {mg : Str → Option Value} {base : Heap} {j k : Nat} {f : Addr} {fd : FuncData} {ps : List Str} {m : XF} (F : FnG P w K mg base j f fd ps m) (h : j ≤ k) : FnG P w K mg base k f fd ps m :=
  ⟨fun A outer s H args us vs Q hr => F.run A outer s H args us vs Q (hr.mono h)⟩
/-- a function that is defined at fewer places -/
theorem FnG.sub {P : Program} {w : World} {K : PySem.W.Frag} {mg : Str → Option Value} {base : Heap} {k : Nat} {f : Addr} {fd : FuncData} {ps : List Str} {m m' : XF} (F : FnG P w K mg base k f fd ps m) (h : ∀ ρ r, m' ρ = some r → m ρ = some r) : FnG P w K mg base k f fd ps m' :=
  ⟨fun A outer s H args us vs Q hr hg he hb hv hl ⟨Z, Fr, ino, ρ, d, ρ', e, io, R, q⟩ => F.run A outer s H args us vs Q hr hg he hb hv hl ⟨Z, Fr, ino, ρ, d, ρ', h _ _ e, io, R, q⟩⟩

/-! ### a def's body -/
def finA : List EV → List EV → List EV
  | [], _ => []
  | .own o b :: es, e :: ρ => (match e with | .own o' b' => .own o' b' | _ => .own o b) :: finA es ρ
  | e :: es, _ :: ρ => e :: finA es ρ
  | e :: es, [] => e :: es
def runF (n : Nat) (body : XS) : XF := fun es => match body (es ++ List.replicate (n - es.length) .un) with
  | some (.rt d ρ) => some (.d d, finA es ρ)
  | some (.rn o ρ) => some (.n o, finA es ρ)
  | some (.nx ρ) => some (.d .none, finA es ρ)
  | _ => none
theorem finA_length : ∀ es ρ : List EV, (finA es ρ).length = es.length
  | [], _ => rfl
  | e :: es, [] => by cases e <;> rfl
  | e :: es, r :: ρ => by cases e <;> simp [finA, finA_length es ρ]
theorem finA_other : ∀ {es ρ : List EV} {i : Nat} {e : EV}, es[i]? = some e → (∀ o b, e ≠ .own o b) → (finA es ρ)[i]? = some e
  | [], _, _, _, h, _ => by simp at h
  | x :: es, [], i, e, h, hn => by cases x <;> exact h
  | x :: es, r :: ρ, 0, e, h, hn => by
    simp at h
    subst h
    cases x with
    | own o b => exact absurd rfl (hn o b)
    | _ => rfl
  | x :: es, r :: ρ, i + 1, e, h, hn => by
    have h' : es[i]? = some e := by simpa using h
    have ih := finA_other (ρ := ρ) h' hn
    cases x <;> simpa [finA] using ih
theorem finA_own : ∀ {es ρ : List EV} {i : Nat} {o o' : OD} {b b' : Bool}, es[i]? = some (.own o b) → ρ[i]? = some (.own o' b') → (finA es ρ)[i]? = some (.own o' b')
  | [], _, _, _, _, _, _, h, _ => by simp at h
  | x :: es, [], i, _, _, _, _, h, h2 => by simp at h2
  | x :: es, r :: ρ, 0, o, o', b, b', h, h2 => by
    simp at h h2
    subst h h2
    rfl
  | x :: es, r :: ρ, i + 1, o, o', b, b', h, h2 => by
    have ih := finA_own (es := es) (ρ := ρ) (i := i) (by simpa using h) (by simpa using h2)
    cases x <;> simpa [finA] using ih
/-- at a def's end: its parameters as they came, the lent objects as they are -/
theorem fin_rl {K : PySem.W.Frag} {Φ : Fx} {Z Z' : Hp} {vs : List V} {σ : L2.St} {H H' : Hp} {es ρ : Nv} (R0 : Rl K Φ Z (vs.map some) H es) (hio : ∀ (i : Nat) o, es[i]? ≠ some (EV.own o false)) (z : Same Z Z') (R : Rl K Φ Z' σ H' ρ) : Rl K Φ Z' (vs.map some) H' (finA es ρ) ∧ ∀ i a, AtS (finA es ρ) (vs.map some) i a → AtS ρ σ i a := by
  -- a lent object's slot
  have lent : ∀ (i : Nat) o b, es[i]? = some (EV.own o b) → ∃ a o', Φ.ino i = some a ∧ (vs.map some)[i]? = some (some (V.ref a)) ∧ σ[i]? = some (some (V.ref a)) ∧ ρ[i]? = some (EV.own o' true) := fun i o b e => by
    cases b with
    | false => exact absurd e (hio i o)
    | true =>
      obtain ⟨a, ha⟩ := R0.io i o e
      obtain ⟨s1, _⟩ := R0.ino i a ha
      obtain ⟨s2, o', e2⟩ := R.ino i a ha
      exact ⟨a, o', ha, s1, s2, e2⟩
  have own_of : ∀ (i : Nat) o b, (finA es ρ)[i]? = some (EV.own o b) → ∃ o0 b0, es[i]? = some (EV.own o0 b0) := fun i o b e => by
    cases he : es[i]? with
    | none =>
      have hl := List.getElem?_eq_none_iff.mp he
      rw [List.getElem?_eq_none (by rw [finA_length]; exact hl)] at e
      cases e
    | some x =>
      cases x with
      | own o0 b0 => exact ⟨o0, b0, rfl⟩
      | un => rw [finA_other he (fun _ _ q => nomatch q)] at e; cases e
      | d x => rw [finA_other he (fun _ _ q => nomatch q)] at e; cases e
      | scr ns => rw [finA_other he (fun _ _ q => nomatch q)] at e; cases e
  have own_is : ∀ (i : Nat) o b, (finA es ρ)[i]? = some (EV.own o b) → ∃ a, Φ.ino i = some a ∧ (vs.map some)[i]? = some (some (V.ref a)) ∧ σ[i]? = some (some (V.ref a)) ∧ ρ[i]? = some (EV.own o true) ∧ b = true := fun i o b e => by
    obtain ⟨o0, b0, e0⟩ := own_of i o b e
    obtain ⟨a, o', h1, h2, h3, h4⟩ := lent i o0 b0 e0
    rw [finA_own e0 h4] at e
    cases e
    exact ⟨a, h1, h2, h3, h4, rfl⟩
  have at_ : ∀ i a, AtS (finA es ρ) (vs.map some) i a → AtS ρ σ i a := by
    rintro i a ⟨⟨o, b, e⟩, s⟩
    obtain ⟨a', h1, h2, h3, h4, _⟩ := own_is i o b e
    rw [s] at h2
    cases h2
    exact ⟨⟨o, true, h4⟩, h3⟩
  refine ⟨⟨by rw [finA_length]; exact R0.len, R.zH, R.zN, R.f0, R.fr, R.dom, fun i j a h1 h2 => R.inj i j a (at_ i a h1) (at_ j a h2), fun i a h => R.sep i a (at_ i a h), ?_, ?_, ?_, ?_, ?_, ?_⟩, at_⟩
  · intro i x e
    cases he : es[i]? with
    | none =>
      have hl := List.getElem?_eq_none_iff.mp he
      rw [List.getElem?_eq_none (by rw [finA_length]; exact hl)] at e
      cases e
    | some y =>
      cases y with
      | own o b =>
        obtain ⟨a, o', _, _, _, h4⟩ := lent i o b he
        rw [finA_own he h4] at e
        cases e
      | un => rw [finA_other he (fun _ _ q => nomatch q)] at e; cases e
      | scr ns => rw [finA_other he (fun _ _ q => nomatch q)] at e; cases e
      | d y =>
        rw [finA_other he (fun _ _ q => nomatch q)] at e
        cases e
        obtain ⟨v, s, r⟩ := R0.dat i _ he
        exact ⟨v, s, r.mono z⟩
  · intro i ns e
    cases he : es[i]? with
    | none =>
      have hl := List.getElem?_eq_none_iff.mp he
      rw [List.getElem?_eq_none (by rw [finA_length]; exact hl)] at e
      cases e
    | some y =>
      cases y with
      | own o b =>
        obtain ⟨a, o', _, _, _, h4⟩ := lent i o b he
        rw [finA_own he h4] at e
        cases e
      | un => rw [finA_other he (fun _ _ q => nomatch q)] at e; cases e
      | d y => rw [finA_other he (fun _ _ q => nomatch q)] at e; cases e
      | scr ns =>
        rw [finA_other he (fun _ _ q => nomatch q)] at e
        cases e
        obtain ⟨a, s, r⟩ := R0.scr i _ he
        exact ⟨a, s, z.seq r⟩
  · intro i o b e
    obtain ⟨a, h1, h2, h3, h4, _⟩ := own_is i o b e
    obtain ⟨a', s, ob⟩ := R.own i o true h4
    rw [h3] at s
    cases s
    exact ⟨a, h2, ob⟩
  · intro i o a e s
    obtain ⟨_, _, _, _, _, hb⟩ := own_is i o false e
    cases hb
  · intro i a e
    obtain ⟨s, o, eo⟩ := R0.ino i a e
    obtain ⟨s2, o', e2⟩ := R.ino i a e
    exact ⟨s, o', finA_own eo e2⟩
  · intro i o e
    obtain ⟨a, h1, _⟩ := own_is i o true e
    exact ⟨a, h1⟩
/-- at a def's start -/
theorem start_rl {K : PySem.W.Frag} {Φ : Fx} {Z : Hp} {N : List Str} {vs : List V} {H : Hp} {es : Nv} (R : Rl K Φ Z (vs.map some) H es) (hl : vs.length ≤ N.length) : Rl K Φ Z (L2.start N vs) H (es ++ List.replicate (N.length - es.length) .un) := by
  have le : es.length = vs.length := by have := R.len; simpa using this
  have get_ : ∀ (i : Nat) e, (es ++ List.replicate (N.length - es.length) EV.un)[i]? = some e → e ≠ .un → es[i]? = some e := fun i e h hn => by
    by_cases hi : i < es.length
    · rwa [List.getElem?_append_left hi] at h
    · rw [List.getElem?_append_right (by omega), List.getElem?_replicate] at h
      split at h
      · cases h; exact absurd rfl hn
      · cases h
  have st : ∀ i, i < vs.length → (L2.start N vs)[i]? = (vs.map some)[i]? := fun i hi => by
    unfold L2.start
    rw [List.getElem?_append_left (by simpa using hi)]
  have lt_of : ∀ (i : Nat) e, es[i]? = some e → i < vs.length := fun i e h => le ▸ (List.getElem?_eq_some_iff.mp h).1
  have at_ : ∀ i a, AtS (es ++ List.replicate (N.length - es.length) .un) (L2.start N vs) i a → AtS es (vs.map some) i a := by
    rintro i a ⟨⟨o, io, e⟩, s⟩
    have e' := get_ i _ e (fun q => nomatch q)
    exact ⟨⟨o, io, e'⟩, by rw [← st i (lt_of i _ e')]; exact s⟩
  refine ⟨by simp [L2.start]; omega, R.zH, R.zN, R.f0, R.fr, R.dom, fun i j a h1 h2 => R.inj i j a (at_ i a h1) (at_ j a h2), fun i a h => R.sep i a (at_ i a h), ?_, ?_, ?_, ?_, ?_, ?_⟩
  · intro i x e
    have e' := get_ i _ e (fun q => nomatch q)
    rw [st i (lt_of i _ e')]
    exact R.dat i x e'
  · intro i x e
    have e' := get_ i _ e (fun q => nomatch q)
    rw [st i (lt_of i _ e')]
    exact R.scr i x e'
  · intro i o io e
    have e' := get_ i _ e (fun q => nomatch q)
    rw [st i (lt_of i _ e')]
    exact R.own i o io e'
  · intro i o a e s
    have e' := get_ i _ e (fun q => nomatch q)
    rw [st i (lt_of i _ e')] at s
    exact R.loc i o a e' s
  · intro i a e
    obtain ⟨s, o, eo⟩ := R.ino i a e
    have hi := lt_of i _ eo
    rw [st i hi]
    exact ⟨s, o, by rw [List.getElem?_append_left (le ▸ hi)]; exact eo⟩
  · intro i o e
    exact R.io i o (get_ i _ e (fun q => nomatch q))
section
variable {P : Program} {w : World} {K : PySem.W.Frag} {mg : Str → Option Value} {base : Heap}
/-- THE RULE for a def -/
theorem fn_body {x qual : Str} {st : Stmt} {f : Addr} {fd : FuncData} {N ps : List Str} {k : Nat} {body : XS} (F : Fun K x qual st f fd) (S : FnScope N ps (defScope st))
    (hb : ∀ (cdv : Value) (A : Around) (outer : List Env) (s : Shared) (H : Hp), Room k (A.deeper (envOfC qual (defScope st) s.heap.objs.size f cdv)) → A.guards = some [] →
      SSD (cxOf CX0 P w K mg base N qual (defScope st) f cdv A outer s H E0).nox (defBody st) body) : FnG P w K mg base (k + 1) f fd ps (runF N.length body) := by
  obtain ⟨oc, od, kV, doc, pm, an, cdv, ct, osl, rfl, lk, hcd⟩ := F.ex
  refine ⟨fun A outer s H args us vs Q room hG e0 bnd rv hl hsp => ?_⟩
  obtain ⟨Z, Fr, ino, es, d, ρ', hm, hio', R0, hQ⟩ := hsp
  have kin : K.In s.heap := e0.mod.kin.keeps fun b o q => (e0.bs b o q).1
  have nolim : s.heap.NoLimit := e0.mod.nolimit.keeps fun b o q => (e0.bs b o q).1
  have nv : N.length ≥ vs.length := by
    have h1 := congrArg List.length S.pre
    rw [List.length_take] at h1
    omega
  have kinds : ∀ y ∈ ps.zip us, (defScope st).names.lookup y.1 = some .local ∨ ((defScope st).names.lookup y.1 = some .cell ∧ ((cellsFrom (s.heap.objs.size + 1) (defScope st).names []).lookup y.1).isSome = true) := by
    rintro ⟨n, v⟩ hy
    cases S.par n (List.of_mem_zip hy).1 with
    | inl q => exact .inl q
    | inr q => exact .inr ⟨q, PySem.W.cellsFrom_some _ _ _ (.inl q)⟩
  obtain ⟨t, pt, mt⟩ := hb cdv A outer s H (room.deeper _) hG
  have fin : ∀ {σ' : L2.St} {H' : Hp} {v : V} {u : Value} {s' : Shared}, L2.Inv (cxOf CX0 P w K mg base N qual (defScope st) f cdv A outer s H E0) [] σ' H' s' → RelV v u → Q v H' → CE outer P w H s Q u s' :=
    fun {σ' H' v u s'} J ru q => ⟨v, H', J.os, J.bare, J.base, J.hok, ru, q⟩
  have want : t { nx := fun _ H' => Q .non H', rt := Q } (L2.start N vs) H := by
    unfold runF at hm
    cases eb : body (es ++ List.replicate (N.length - es.length) .un) with
    | none => rw [eb] at hm; cases hm
    | some fl =>
      rw [eb] at hm
      refine mt _ Z _ H _ fl (start_rl R0 nv) eb _ ?_
      cases fl with
      | rt d1 ρ1 =>
        cases hm
        exact fun v σ' H' Z' z R r => hQ v H' Z' z (fin_rl R0 hio' z R).1 r
      | rn o1 ρ1 =>
        cases hm
        exact fun a σ' H' Z' z R r => hQ _ H' Z' z (fin_rl R0 hio' z R).1 ⟨a, rfl, r.ob, r.z, r.fr, r.h0, fun i q => r.no i ((fin_rl R0 hio' z R).2 i a q)⟩
      | nx ρ1 =>
        cases hm
        exact fun σ' H' Z' z R => hQ .non H' Z' z (fin_rl R0 hio' z R).1 .non
      | bk ρ1 => cases hm
      | ct ρ1 => cases hm
  refine codeAny_call_function room.depth (kin _ _ lk) rfl S.co S.gen rfl (PySem.W.codeRec_of kin hcd) (bnd _ _ _ _ ?_)
  refine wpAny_newFunctionEnv_cells S.kind kinds fun env he s1 xin => ?_
  subst he
  refine ⟨nolim.keeps xin.toInCall.keep, codeAny_func ?_⟩
  have I : L2.Inv (cxOf CX0 P w K mg base N qual (defScope st) f cdv A outer s H E0) [] (L2.start N vs) H s1 := inv_start S room.hd e0 hl rv xin
  refine wpAny_mono (pt.nox.run [] s1 (L2.start N vs) H _ I want) (fun fl s' hs => ?_) fun _ _ q => q
  match fl, hs with
  | .ret u, ⟨v, σ', H', J, ru, q⟩ => exact fin J ru q
  | .next, ⟨σ', H', J, q⟩ => exact fin (v := V.non) (u := Value.none) J rfl q
  | .brk, ⟨_, _, _, q⟩ => exact q.elim
  | .cont, ⟨_, _, _, q⟩ => exact q.elim
end

/-! ### a call -/
def slotsOf : List AV → List Nat
  | [] => []
  | .v _ :: as => slotsOf as
  | .s i :: as => i :: slotsOf as
def entN : List AV → Nv → Option (List EV)
  | [], _ => some []
  | .v d :: as, ρ => (entN as ρ).map (.d d :: ·)
  | .s i :: as, ρ => match ρ[i]? with
    | some (.own o _) => (entN as ρ).map (.own o true :: ·)
    | some (.scr ns) => (entN as ρ).map (.scr ns :: ·)
    | _ => none
def back : List AV → List EV → Nv → Option Nv
  | [], _, ρ => some ρ
  | .v _ :: as, _ :: es, ρ => back as es ρ
  | .s i :: as, e :: es, ρ => match ρ[i]?, e with
    | some (.own _ io), .own o _ => back as es (ρ.set i (.own o io))
    | some (.scr _), .scr _ => back as es ρ
    | _, _ => none
  | _, _, _ => none
def gCall (m : XF) (r : XA) : Nv → Option (Rv × Nv) := fun ρ => (r ρ).bind fun p => if (slotsOf p.1).Nodup then (entN p.1 p.2).bind fun es => (m es).bind fun q => (back p.1 q.2 p.2).map fun ρ' => (q.1, ρ') else none
def xCall (m : XF) (r : XA) : XE := fun ρ => (gCall m r ρ).bind fun p => match p.1 with
  | .d x => some (x, p.2)
  | .n _ => none
def nCall (m : XF) (r : XA) : XN := fun ρ => (gCall m r ρ).bind fun p => match p.1 with
  | .n o => some (o, p.2)
  | .d _ => none
theorem ent_get : ∀ {as : List AV} {ρ : Nv} {es : List EV}, entN as ρ = some es → ∀ {j : Nat} {e : EV}, es[j]? = some e →
    (∃ d, as[j]? = some (.v d) ∧ e = .d d) ∨ (∃ i, as[j]? = some (.s i) ∧ ((∃ o io, ρ[i]? = some (EV.own o io) ∧ e = .own o true) ∨ ∃ ns, ρ[i]? = some (EV.scr ns) ∧ e = .scr ns))
  | [], _, _, h, j, e, he => by cases h; simp at he
  | .v d :: as, ρ, es, h, j, e, he => by
    unfold entN at h
    cases h2 : entN as ρ with
    | none => rw [h2] at h; cases h
    | some l =>
      rw [h2] at h
      cases h
      cases j with
      | zero => simp at he; subst he; exact .inl ⟨d, rfl, rfl⟩
      | succ j => simpa using ent_get h2 (j := j) (e := e) (by simpa using he)
  | .s i :: as, ρ, es, h, j, e, he => by
    unfold entN at h
    split at h
    · rename_i o io ho
      cases h2 : entN as ρ with
      | none => rw [h2] at h; cases h
      | some l =>
        rw [h2] at h
        cases h
        cases j with
        | zero => simp at he; subst he; exact .inr ⟨i, rfl, .inl ⟨o, io, ho, rfl⟩⟩
        | succ j => simpa using ent_get h2 (j := j) (e := e) (by simpa using he)
    · rename_i ns hn
      cases h2 : entN as ρ with
      | none => rw [h2] at h; cases h
      | some l =>
        rw [h2] at h
        cases h
        cases j with
        | zero => simp at he; subst he; exact .inr ⟨i, rfl, .inr ⟨ns, hn, rfl⟩⟩
        | succ j => simpa using ent_get h2 (j := j) (e := e) (by simpa using he)
    · cases h
theorem ent_len : ∀ {as : List AV} {ρ : Nv} {es : List EV}, entN as ρ = some es → es.length = as.length
  | [], _, _, h => by cases h; rfl
  | .v d :: as, ρ, es, h => by
    unfold entN at h
    cases h2 : entN as ρ with
    | none => rw [h2] at h; cases h
    | some l => rw [h2] at h; cases h; simp [ent_len h2]
  | .s i :: as, ρ, es, h => by
    unfold entN at h
    split at h
    · cases h2 : entN as ρ with
      | none => rw [h2] at h; cases h
      | some l => rw [h2] at h; cases h; simp [ent_len h2]
    · cases h2 : entN as ρ with
      | none => rw [h2] at h; cases h
      | some l => rw [h2] at h; cases h; simp [ent_len h2]
    · cases h
theorem ava_get {K : PySem.W.Frag} {Z : Hp} {σ : L2.St} : ∀ {vs : List V} {as : List AV}, AvA K Z σ vs as → ∀ {j : Nat}, (∀ d, as[j]? = some (.v d) → ∃ v, vs[j]? = some v ∧ Rp K Z v d) ∧ (∀ i, as[j]? = some (.s i) → ∃ v, vs[j]? = some v ∧ σ[i]? = some (some v))
  | _, _, .nil, j => ⟨fun d h => (by simp at h), fun i h => (by simp at h)⟩
  | _, _, .v r t, 0 => ⟨fun d h => (by simp at h; subst h; exact ⟨_, rfl, r⟩), fun i h => (by simp at h)⟩
  | _, _, .s r t, 0 => ⟨fun d h => (by simp at h), fun i h => (by simp at h; subst h; exact ⟨_, rfl, r⟩)⟩
  | _, _, .v r t, j + 1 => by simpa using ava_get t (j := j)
  | _, _, .s r t, j + 1 => by simpa using ava_get t (j := j)
theorem ava_len {K : PySem.W.Frag} {Z : Hp} {σ : L2.St} : ∀ {vs : List V} {as : List AV}, AvA K Z σ vs as → vs.length = as.length
  | _, _, .nil => rfl
  | _, _, .v _ t => congrArg (· + 1) (ava_len t)
  | _, _, .s _ t => congrArg (· + 1) (ava_len t)
theorem mem_slots : ∀ {as : List AV} {j i : Nat}, as[j]? = some (.s i) → i ∈ slotsOf as
  | [], _, _, h => by simp at h
  | .v _ :: as, 0, _, h => by simp at h
  | .s k :: as, 0, i, h => by simp at h; subst h; exact List.mem_cons_self
  | .v _ :: as, j + 1, i, h => mem_slots (as := as) (j := j) (by simpa using h)
  | .s k :: as, j + 1, i, h => List.mem_cons_of_mem _ (mem_slots (as := as) (j := j) (by simpa using h))
theorem slots_mem : ∀ {as : List AV} {i : Nat}, i ∈ slotsOf as → ∃ j : Nat, as[j]? = some (AV.s i)
  | .v _ :: as, i, h => by obtain ⟨j, hj⟩ := slots_mem (as := as) h; exact ⟨j + 1, by simpa using hj⟩
  | .s k :: as, i, h => by
    rcases List.mem_cons.mp h with rfl | h
    · exact ⟨0, rfl⟩
    · obtain ⟨j, hj⟩ := slots_mem (as := as) h; exact ⟨j + 1, by simpa using hj⟩
theorem slots_inj : ∀ {as : List AV}, (slotsOf as).Nodup → ∀ {j j' i : Nat}, as[j]? = some (.s i) → as[j']? = some (.s i) → j = j'
  | [], _, _, _, _, h, _ => by simp at h
  | .v _ :: as, n, 0, _, i, h, _ => by simp at h
  | .v _ :: as, n, _, 0, i, _, h => by simp at h
  | .v _ :: as, n, j + 1, j' + 1, i, h, h' => congrArg (· + 1) (slots_inj (as := as) n (by simpa using h) (by simpa using h'))
  | .s k :: as, n, 0, 0, i, h, h' => rfl
  | .s k :: as, n, 0, j' + 1, i, h, h' => by
    simp at h
    subst h
    exact absurd (mem_slots (as := as) (j := j') (by simpa using h')) (List.nodup_cons.mp n).1
  | .s k :: as, n, j + 1, 0, i, h, h' => by
    simp at h'
    subst h'
    exact absurd (mem_slots (as := as) (j := j) (by simpa using h)) (List.nodup_cons.mp n).1
  | .s k :: as, n, j + 1, j' + 1, i, h, h' => congrArg (· + 1) (slots_inj (as := as) (List.nodup_cons.mp n).2 (by simpa using h) (by simpa using h'))
theorem back_len : ∀ {as : List AV} {es : List EV} {ρ ρ' : Nv}, back as es ρ = some ρ' → ρ'.length = ρ.length
  | [], _, _, _, h => by cases h; rfl
  | .v _ :: as, _ :: es, ρ, ρ', h => back_len (as := as) h
  | .s i :: as, e :: es, ρ, ρ', h => by
    unfold back at h
    split at h
    · have := back_len h; simpa using this
    · exact back_len h
    · cases h
  | .v _ :: _, [], _, _, h => by cases h
  | .s _ :: _, [], _, _, h => by cases h
theorem back_other : ∀ {as : List AV} {es : List EV} {ρ ρ' : Nv}, back as es ρ = some ρ' → ∀ {i : Nat}, i ∉ slotsOf as → ρ'[i]? = ρ[i]?
  | [], _, _, _, h, i, _ => by cases h; rfl
  | .v _ :: as, _ :: es, ρ, ρ', h, i, hi => back_other (as := as) h hi
  | .s k :: as, e :: es, ρ, ρ', h, i, hi => by
    have hi' : i ∉ k :: slotsOf as := hi
    rw [List.mem_cons, not_or] at hi'
    unfold back at h
    split at h
    · rw [back_other h hi'.2, List.getElem?_set_ne (Ne.symm hi'.1)]
    · exact back_other h hi'.2
    · cases h
  | .v _ :: _, [], _, _, h, _, _ => by cases h
  | .s _ :: _, [], _, _, h, _, _ => by cases h
theorem back_at : ∀ {as : List AV} {es : List EV} {ρ ρ' : Nv}, back as es ρ = some ρ' → (slotsOf as).Nodup → ∀ {j i : Nat}, as[j]? = some (.s i) →
    (∃ o io o' io', ρ[i]? = some (EV.own o io) ∧ es[j]? = some (.own o' io') ∧ ρ'[i]? = some (EV.own o' io)) ∨ (∃ ns ns', ρ[i]? = some (EV.scr ns) ∧ es[j]? = some (.scr ns') ∧ ρ'[i]? = some (EV.scr ns))
  | [], _, _, _, _, _, _, _, h => by simp at h
  | .v _ :: as, e :: es, ρ, ρ', h, n, 0, i, hj => by simp at hj
  | .v _ :: as, e :: es, ρ, ρ', h, n, j + 1, i, hj => by simpa using back_at (as := as) (es := es) h n (j := j) (by simpa using hj)
  | .s k :: as, e :: es, ρ, ρ', h, n, 0, i, hj => by
    simp at hj
    subst hj
    unfold back at h
    have nk := (List.nodup_cons.mp n).1
    split at h
    · rename_i o io o' io' e1
      refine .inl ⟨o, io, o', io', e1, rfl, ?_⟩
      rw [back_other h nk, List.getElem?_set_self (List.getElem?_eq_some_iff.mp e1).1]
    · rename_i ns ns' e1
      refine .inr ⟨ns, ns', e1, rfl, ?_⟩
      rw [back_other h nk, e1]
    · cases h
  | .s k :: as, e :: es, ρ, ρ', h, n, j + 1, i, hj => by
    have hj' : as[j]? = some (.s i) := by simpa using hj
    have nk := List.nodup_cons.mp n
    have hne : k ≠ i := fun q => nk.1 (q ▸ mem_slots hj')
    unfold back at h
    split at h
    · have ih := back_at h nk.2 hj'
      rw [List.getElem?_set_ne hne] at ih
      simpa using ih
    · simpa using back_at h nk.2 hj'
    · cases h
  | .v _ :: _, [], _, _, h, _, _, _, _ => by cases h
  | .s _ :: _, [], _, _, h, _, _, _, _ => by cases h
/-- the argument's address, if it is lent -/
def inoOf (ρ : Nv) (σ : L2.St) (as : List AV) (j : Nat) : Option Addr := match as[j]? with
  | some (.s i) => match ρ[i]?, σ[i]? with
    | some (.own _ _), some (some (.ref a)) => some a
    | _, _ => none
  | _ => none
theorem inoOf_is {ρ : Nv} {σ : L2.St} {as : List AV} {j : Nat} {a : Addr} (h : inoOf ρ σ as j = some a) : ∃ i, as[j]? = some (.s i) ∧ AtS ρ σ i a := by
  unfold inoOf at h
  split at h
  · rename_i i e
    split at h
    · rename_i o io b e1 e2
      cases h
      exact ⟨i, e, ⟨o, io, e1⟩, e2⟩
    · cases h
  · cases h
theorem inoOf_of {ρ : Nv} {σ : L2.St} {as : List AV} {i j : Nat} {a : Addr} (h : as[j]? = some (.s i)) (q : AtS ρ σ i a) : inoOf ρ σ as j = some a := by
  obtain ⟨⟨o, io, e1⟩, e2⟩ := q
  unfold inoOf
  rw [h]
  simp only [e1, e2]
open Classical in
/-- what must stay through a call: all but the lent objects -/
noncomputable def frOf (H : Hp) (ρ : Nv) (σ : L2.St) (as : List AV) : Hp := fun b => if ∃ j, inoOf ρ σ as j = some b then none else H b
section
variable {K : PySem.W.Frag} {Φ : Fx} {Z : Hp} {σ : L2.St} {H : Hp} {ρ : Nv} {vs : List V} {as : List AV} {es : List EV}
theorem ent_io (he : entN as ρ = some es) (i : Nat) (o : OD) : es[i]? ≠ some (EV.own o false) := fun h => by
  rcases ent_get he h with ⟨d, _, q⟩ | ⟨k, _, ⟨_, _, _, q⟩ | ⟨_, _, q⟩⟩ <;> cases q
theorem call_in (R : Rl K Φ Z σ H ρ) (ra : AvA K Z σ vs as) (he : entN as ρ = some es) (hn : (slotsOf as).Nodup) : Rl K ⟨Z, H, frOf H ρ σ as, inoOf ρ σ as⟩ Z (vs.map some) H es := by
  have vget : ∀ {j : Nat} {v : V}, vs[j]? = some v → (vs.map some)[j]? = some (some v) := fun h => by rw [List.getElem?_map, h]; rfl
  -- an own object that is handed on
  have own_ : ∀ (j : Nat) o b, es[j]? = some (EV.own o b) → ∃ i a o2 io, as[j]? = some (.s i) ∧ ρ[i]? = some (EV.own o io) ∧ o2 = o ∧ b = true ∧ σ[i]? = some (some (V.ref a)) ∧ (vs.map some)[j]? = some (some (V.ref a)) ∧ ObAt K Z H a o := fun j o b h => by
    rcases ent_get he h with ⟨d, _, q⟩ | ⟨i, ei, ⟨o1, io, e1, q⟩ | ⟨ns, _, q⟩⟩
    · cases q
    · cases q
      obtain ⟨a, s, ob⟩ := R.own i o io e1
      obtain ⟨v, hv, sv⟩ := (ava_get ra).2 i ei
      rw [s] at sv
      cases sv
      exact ⟨i, a, o, io, ei, e1, rfl, rfl, s, vget hv, ob⟩
    · cases q
  have at_ : ∀ j a, AtS es (vs.map some) j a → ∃ i, as[j]? = some (.s i) ∧ AtS ρ σ i a := by
    rintro j a ⟨⟨o, b, e⟩, s⟩
    obtain ⟨i, a', _, io, ei, e1, _, _, s1, s2, _⟩ := own_ j o b e
    rw [s] at s2
    cases s2
    exact ⟨i, ei, ⟨o, io, e1⟩, s1⟩
  refine ⟨by simp [ent_len he, ava_len ra], R.zH, fun a o h _ => .inl h, fun a h => R.zH.free h, fun a o h => ?_, fun a h => h, ?_, ?_, ?_, ?_, ?_, ?_, ?_, ?_⟩
  · have h : frOf H ρ σ as a = some o := h
    unfold frOf at h
    split at h
    · cases h
    · exact h
  · intro j j' a h1 h2
    obtain ⟨i, ei, q1⟩ := at_ j a h1
    obtain ⟨i', ei', q2⟩ := at_ j' a h2
    cases R.inj i i' a q1 q2
    exact slots_inj hn ei ei'
  · intro j a h
    obtain ⟨i, ei, q⟩ := at_ j a h
    refine ⟨(R.sep i a q).1, ?_⟩
    show frOf H ρ σ as a = none
    unfold frOf
    rw [if_pos ⟨j, inoOf_of ei q⟩]
  · intro j x h
    rcases ent_get he h with ⟨d, ed, q⟩ | ⟨i, _, ⟨_, _, _, q⟩ | ⟨_, _, q⟩⟩
    · cases q
      obtain ⟨v, hv, r⟩ := (ava_get ra).1 x ed
      exact ⟨v, vget hv, r⟩
    · cases q
    · cases q
  · intro j ns h
    rcases ent_get he h with ⟨d, ed, q⟩ | ⟨i, ei, ⟨_, _, _, q⟩ | ⟨ns', e1, q⟩⟩
    · cases q
    · cases q
    · cases q
      obtain ⟨a, s, hl⟩ := R.scr i ns e1
      obtain ⟨v, hv, sv⟩ := (ava_get ra).2 i ei
      rw [s] at sv
      cases sv
      exact ⟨a, vget hv, hl⟩
  · intro j o b h
    obtain ⟨i, a, _, io, _, _, _, _, _, s2, ob⟩ := own_ j o b h
    exact ⟨a, s2, ob⟩
  · intro j o a h _
    exact absurd h (ent_io he j o)
  · intro j a h
    obtain ⟨i, ei, ⟨⟨o, io, e1⟩, s⟩⟩ := inoOf_is h
    obtain ⟨v, hv, sv⟩ := (ava_get ra).2 i ei
    rw [s] at sv
    cases sv
    refine ⟨vget hv, ?_⟩
    have hlt : j < es.length := by rw [ent_len he]; exact (List.getElem?_eq_some_iff.mp ei).1
    rcases ent_get he (List.getElem?_eq_getElem hlt) with ⟨d, ed, q⟩ | ⟨i', ei', ⟨o', io', e1', q⟩ | ⟨ns', e1', q⟩⟩
    · rw [ei] at ed; cases ed
    · rw [ei] at ei'
      cases ei'
      rw [e1] at e1'
      cases e1'
      exact ⟨o, by rw [List.getElem?_eq_getElem hlt, q]⟩
    · rw [ei] at ei'
      cases ei'
      rw [e1] at e1'
      cases e1'
  · intro j o h
    obtain ⟨i, a, _, io, ei, e1, _, _, s1, _, _⟩ := own_ j o true h
    exact ⟨a, inoOf_of ei ⟨⟨o, io, e1⟩, s1⟩⟩
theorem call_out (R : Rl K Φ Z σ H ρ) (he : entN as ρ = some es) (hn : (slotsOf as).Nodup) {Z' H' : Hp} {us : L2.St} {es' : List EV} {ρ' : Nv} (z : Same Z Z')
    (Rc : Rl K ⟨Z, H, frOf H ρ σ as, inoOf ρ σ as⟩ Z' us H' es') (hb : back as es' ρ = some ρ') : Rl K Φ Z' σ H' ρ' ∧ ∀ i a, AtS ρ' σ i a → AtS ρ σ i a := by
  -- what each slot is now
  have slot_ : ∀ (i : Nat) (o : OD) (io : Bool), ρ'[i]? = some (EV.own o io) → ∃ o0 a, ρ[i]? = some (EV.own o0 io) ∧ σ[i]? = some (some (V.ref a)) ∧ ObAt K Z' H' a o := fun i o io h => by
    by_cases hi : i ∈ slotsOf as
    · obtain ⟨j, hj⟩ := slots_mem hi
      rcases back_at hb hn hj with ⟨o0, io0, o', io', e1, e2, e3⟩ | ⟨ns, ns', _, _, e3⟩
      · rw [h] at e3
        cases e3
        obtain ⟨a, s, _⟩ := R.own i o0 io e1
        obtain ⟨a2, s2, ob⟩ := Rc.own j _ io' e2
        obtain ⟨s3, _⟩ := Rc.ino j a (inoOf_of hj ⟨⟨o0, io, e1⟩, s⟩)
        rw [s2] at s3
        cases s3
        exact ⟨o0, a, e1, s, ob⟩
      · rw [h] at e3
        cases e3
    · rw [back_other hb hi] at h
      obtain ⟨a, s, ob⟩ := R.own i o io h
      refine ⟨o, a, h, s, ob.move z ?_⟩
      obtain ⟨u, hu, _⟩ := ob.some
      have hf : frOf H ρ σ as a = some u := by
        unfold frOf
        rw [if_neg, hu]
        rintro ⟨j, hj⟩
        obtain ⟨i', ei', q⟩ := inoOf_is hj
        have e := R.inj i i' a ⟨⟨o, io, h⟩, s⟩ q
        subst e
        exact hi (mem_slots ei')
      rw [hu]
      exact Rc.fr a u hf
  have at_ : ∀ i a, AtS ρ' σ i a → AtS ρ σ i a := by
    rintro i a ⟨⟨o, io, e⟩, s⟩
    obtain ⟨o0, a', e1, s1, _⟩ := slot_ i o io e
    exact ⟨⟨o0, io, e1⟩, s⟩
  have dat_ : ∀ (i : Nat) e, ρ'[i]? = some e → (∀ o io, e ≠ .own o io) → ρ[i]? = some e := fun i e h hne => by
    by_cases hi : i ∈ slotsOf as
    · obtain ⟨j, hj⟩ := slots_mem hi
      rcases back_at hb hn hj with ⟨o0, io0, o', io', e1, e2, e3⟩ | ⟨ns, ns', e1, _, e3⟩
      · rw [h] at e3
        cases e3
        exact absurd rfl (hne _ _)
      · rw [h] at e3
        cases e3
        exact e1
    · rwa [back_other hb hi] at h
  refine ⟨⟨(back_len hb).trans R.len, Rc.zH, fun a o h nt => ?_, R.f0, fun a u h => ?_, fun a h => R.dom a (Rc.dom a h), fun i j a h1 h2 => R.inj i j a (at_ i a h1) (at_ j a h2), fun i a h => ?_, ?_, ?_, ?_, ?_, ?_, ?_⟩, at_⟩
  · rcases Rc.zN a o h nt with q | ⟨q, _⟩
    · exact R.zN a o q nt
    · exact .inr ⟨R.dom a q, R.fr.free q⟩
  · refine Rc.fr a u ?_
    show frOf H ρ σ as a = some u
    unfold frOf
    rw [if_neg, R.fr a u h]
    rintro ⟨j, hj⟩
    obtain ⟨i, _, q⟩ := inoOf_is hj
    rw [(R.sep i a q).2] at h
    cases h
  · have q := at_ i a h
    refine ⟨?_, (R.sep i a q).2⟩
    cases hz : Z' a with
    | none => rfl
    | some u =>
      exfalso
      rcases Rc.zN a u hz (fun xs ex => by obtain ⟨⟨o, io, e⟩, s⟩ := h; obtain ⟨_, a', _, s1, ob⟩ := slot_ i o io e; rw [s] at s1; cases s1; obtain ⟨w, hw, hm⟩ := ob.some; have h3 := Rc.zH a u hz; rw [hw] at h3; cases h3; rw [ex] at hm; exact hm) with q1 | ⟨q1, _⟩
      · have q1 : Z a = some u := q1
        rw [(R.sep i a q).1] at q1
        cases q1
      · obtain ⟨w, hw, _⟩ := R.at_some q
        have q1 : H a = none := q1
        rw [q1] at hw
        cases hw
  · intro i x h
    obtain ⟨v, s, r⟩ := R.dat i x (dat_ i _ h (fun _ _ q => nomatch q))
    exact ⟨v, s, r.mono z⟩
  · intro i ns h
    obtain ⟨a, s, r⟩ := R.scr i ns (dat_ i _ h (fun _ _ q => nomatch q))
    exact ⟨a, s, z.seq r⟩
  · intro i o io h
    obtain ⟨o0, a, _, s, ob⟩ := slot_ i o io h
    exact ⟨a, s, ob⟩
  · intro i o a h s
    obtain ⟨o0, a', e1, s1, _⟩ := slot_ i o false h
    exact R.loc i o0 a e1 s
  · intro i a h
    obtain ⟨s, o, e⟩ := R.ino i a h
    refine ⟨s, ?_⟩
    cases hi' : ρ'[i]? with
    | none =>
      have l := (List.getElem?_eq_some_iff.mp e).1
      have l2 := List.getElem?_eq_none_iff.mp hi'
      rw [back_len hb] at l2
      omega
    | some x =>
      cases x with
      | own o' io' =>
        obtain ⟨o0, _, e1, _, _⟩ := slot_ i o' io' hi'
        rw [e] at e1
        cases e1
        exact ⟨o', rfl⟩
      | un => rw [dat_ i _ hi' (fun _ _ q => nomatch q)] at e; cases e
      | d x => rw [dat_ i _ hi' (fun _ _ q => nomatch q)] at e; cases e
      | scr ns => rw [dat_ i _ hi' (fun _ _ q => nomatch q)] at e; cases e
  · intro i o h
    obtain ⟨o0, _, e1, _, _⟩ := slot_ i o true h
    exact R.io i o0 e1
end
section
variable {X : Cx} {k : Nat} {f : Addr} {fd : FuncData} {ps : List Str} {m : XF} {x : Str} {p pos : Pos} {e : Expr} {es : List Expr} {r : XA}
/-- what a call asks -/
def tCallG (K : PySem.W.Frag) (n : Nat) (m : XF) (t : TA) : TE := fun σ H Q => t σ H fun vs H1 => vs.length = n ∧ spF K m vs H1 Q
theorem run_g {pins : List (Addr × Obj)} {σ : L2.St} {H : Hp} {s : Shared} {Q : VK} {us : List Value} {vs : List V} (F : FnG X.prog X.w X.K X.mg X.base k f fd ps m) (hr : Room k X.A) (hG : X.A.guards = some []) (hb : Binds X.K fd ps [])
    (I : L2.Inv X pins σ H s) (rv : Vals vs us) (hl : vs.length = ps.length) (h : spF X.K m vs H Q) : wpAny (model X.prog X.w) X.A (call (.ref f) us) (EP X pins σ Q) X.xe s := by
  have hb' := hb s us I.kIn (by rw [List.append_nil, ← rv.length]; exact hl)
  rw [List.append_nil] at hb'
  refine wpAny_call (codeAny_mono (F.run X.A X.stack s H ⟨us, []⟩ us vs Q hr hG I.env0 hb' rv hl h) fun out s' hq => ?_)
  match out, hq with
  | .ok (.ret u), hq => exact I.after hq
  | .error e, hq => exact hq.elim
  | .ok .next, hq => exact hq.elim
  | .ok .brk, hq => exact hq.elim
  | .ok .cont, hq => exact hq.elim
/-- the answer as the caller sees it -/
theorem rv_out {K : PySem.W.Frag} {Φ : Fx} {Z : Hp} {σ : L2.St} {H : Hp} {ρ ρ' : Nv} {Fr' : Hp} {ino' : Nat → Option Addr} {Z' H' : Hp} {us : L2.St} {es' : List EV} {v : V} {x : Rv} (R : Rl K Φ Z σ H ρ) (at_ : ∀ i a, AtS ρ' σ i a → AtS ρ σ i a)
    (h : RvOk K ⟨Z, H, Fr', ino'⟩ Z' us H' es' v x) : RvOk K Φ Z' σ H' ρ' v x := by
  cases x with
  | d x => exact h
  | n o =>
    obtain ⟨a, rfl, w⟩ := h
    have hn : H a = none := w.h0
    refine ⟨a, rfl, w.ob, w.z, R.fr.free hn, R.dom a hn, fun i q => ?_⟩
    obtain ⟨u, hu, _⟩ := R.at_some (at_ i a q)
    rw [hn] at hu
    cases hu
def MC (K : PySem.W.Frag) (t : TE) (f : Nv → Option (Rv × Nv)) : Prop := ∀ (Φ : Fx) (Z : Hp) (σ : L2.St) (H : Hp) (ρ : Nv) (d : Rv) (ρ' : Nv), Rl K Φ Z σ H ρ → f ρ = some (d, ρ') →
  ∀ Q : VK, (∀ v H' Z', Same Z Z' → Rl K Φ Z' σ H' ρ' → RvOk K Φ Z' σ H' ρ' v d → Q v H') → t σ H Q
def CD (X : Cx) (e : Expr) (m : XF) (r : XA) : Prop := ∃ t, PE X e t ∧ MC X.K t (gCall m r)
theorem CD.ed (h : CD X e m r) : ED X e (xCall m r) := by
  obtain ⟨t, p, mc⟩ := h
  refine ⟨t, p, fun Φ Z σ H ρ d ρ' R q Q k => ?_⟩
  unfold xCall at q
  cases e1 : gCall m r ρ with
  | none => rw [e1] at q; cases q
  | some w =>
    obtain ⟨x, ρ1⟩ := w
    rw [e1, Option.bind_some] at q
    cases x with
    | n o => cases q
    | d x => cases q; exact mc Φ Z σ H ρ _ _ R e1 Q k
theorem CD.nd (h : CD X e m r) : ND X e (nCall m r) := by
  obtain ⟨t, p, mc⟩ := h
  refine ⟨t, p, fun Φ Z σ H ρ d ρ' R q Q k => ?_⟩
  unfold nCall at q
  cases e1 : gCall m r ρ with
  | none => rw [e1] at q; cases q
  | some w =>
    obtain ⟨x, ρ1⟩ := w
    rw [e1, Option.bind_some] at q
    cases x with
    | d x => cases q
    | n o => cases q; exact mc Φ Z σ H ρ _ _ R e1 Q fun v H' Z' z R' ⟨a, ev, w⟩ => ev ▸ k a H' Z' z R' w
theorem me_call {K : PySem.W.Frag} {n : Nat} {t : TA} (hn : ∀ as es, m es ≠ none → as = es.length → as = n) (ma : MA K t r) : MC K (tCallG K n m t) (gCall m r) := by
  intro Φ Z σ H ρ d ρ' R q Q kk
  unfold gCall at q
  cases e1 : r ρ with
  | none => rw [e1] at q; cases q
  | some a =>
    rw [e1, Option.bind_some] at q
    split at q
    · rename_i nd
      cases e2 : entN a.1 a.2 with
      | none => rw [e2] at q; cases q
      | some es =>
        rw [e2, Option.bind_some] at q
        cases e3 : m es with
        | none => rw [e3] at q; cases q
        | some w =>
          rw [e3, Option.bind_some] at q
          cases e4 : back a.1 w.2 a.2 with
          | none => rw [e4] at q; cases q
          | some ρ1 =>
            rw [e4] at q
            cases q
            refine ma Φ Z σ H ρ a.1 a.2 R e1 _ fun vs H1 Z1 z1 R1 ra => ⟨?_, ?_⟩
            · refine hn _ es (by rw [e3]; exact fun h => nomatch h) ?_
              rw [ent_len e2, ava_len ra]
            · exact ⟨Z1, _, _, es, w.1, w.2, e3, ent_io e2, call_in R1 ra e2 nd, fun v H2 Z2 z2 Rc rc => kk v H2 Z2 (z1.trans z2) (call_out R1 e2 nd z2 Rc e4).1 (rv_out R1 (call_out R1 e2 nd z2 Rc e4).2 rc)⟩
    · cases q
/-- f(e, ..): the number of arguments is that of the parameters -/
def arity (n : Nat) (m : XF) : XF := fun es => if es.length = n then m es else none
theorem cd_call (F : FnG X.prog X.w X.K X.mg X.base k f fd ps m) (hr : Room k X.A) (hG : X.A.guards = some []) (hm : X.mg x = some (.ref f)) (hk : PySem.W.keepIn X.K (.ref f) = true) (hb : Binds X.K fd ps []) (ha : AD X (e :: es) r)
    (hg : Gl X x := by rfl) (hdb : (x == ("__debug__" : Str)) = false := by decide) (hs : starEach (e :: es) X.env = (false, eval e X.env) :: starEach es X.env := by rfl) (hpl : (backTo pos (starEach es X.env)).any (·.1) = false := by rfl) {ar : Nat} (har : ps.length = ar := by rfl) :
    CD X (.Call (.Name x p) (e :: es) [] pos) (arity ar m) r := by
  subst har
  obtain ⟨t, pa, ma⟩ := ha
  refine ⟨tCallG X.K ps.length (arity ps.length m) t, ⟨fun pins s σ H Q I h => ?_⟩, me_call (fun n es h e => ?_) ma⟩
  · refine wpAny_Call_Name_kw (ld_glob I hg hm ?_ hdb)
    refine PySem.W.callWith_K (h₀ := X.base) I.ok.mod.kin hk (thn (pa.run pos pins s σ H _ I h) fun us s1 ⟨vs, H1, I1, rv, hl, q⟩ => ⟨I1.kIn, ?_⟩) hs hpl
    refine run_g (F.sub fun ρ r h => ?_) hr hG hb I1 rv hl q
    unfold arity at h
    split at h
    · exact h
    · cases h
  · unfold arity at h
    split at h
    · omega
    · exact absurd rfl h
theorem cd_call0 (F : FnG X.prog X.w X.K X.mg X.base k f fd ps m) (hr : Room k X.A) (hG : X.A.guards = some []) (hm : X.mg x = some (.ref f)) (hk : PySem.W.keepIn X.K (.ref f) = true) (hb : Binds X.K fd ps []) (h0 : ps.length = 0 := by rfl)
    (hg : Gl X x := by rfl) (hdb : (x == ("__debug__" : Str)) = false := by decide) : CD X (.Call (.Name x p) [] [] pos) m aNil := by
  refine ⟨fun σ H Q => spF X.K m [] H Q, ⟨fun pins s σ H Q I h => ?_⟩, fun Φ Z σ H ρ d ρ' R q Q kk => ?_⟩
  · refine wpAny_Call_Name_kw (ld_glob I hg hm ?_ hdb)
    exact PySem.W.callWith_K0 I.kIn hk (run_g F hr hG hb I .nil h0.symm h)
  · unfold gCall at q
    have q : (m []).bind (fun w => (back [] w.2 ρ).map fun ρ' => (w.1, ρ')) = some (d, ρ') := q
    cases e3 : m [] with
    | none => rw [e3] at q; cases q
    | some w =>
      rw [e3] at q
      cases q
      exact ⟨Z, _, _, [], w.1, w.2, e3, fun i o h => by simp at h, call_in (as := []) R .nil rfl List.nodup_nil, fun v H2 Z2 z2 Rc rc => kk v H2 Z2 z2 (call_out (as := []) R rfl List.nodup_nil z2 Rc rfl).1 (rv_out R (call_out (as := []) R rfl List.nodup_nil z2 Rc rfl).2 rc)⟩
end
end DL
set_option maxRecDepth 100000
set_option maxHeartbeats 2000000
/-! DL, the end: the law's def at the top -/
namespace DL
open PySem PySem.Spec PyProof.Rows L2
section
variable {P : Program} {w : World} {K : PySem.W.Frag} {mg mb : Str → Option Value} {k : Nat} {fa a : Addr} {fd : FuncData} {x : Str} {m : XF} {s1 : Shared} {vs : List Value} {ns : List Int}
/-- what is asked behind the law's call -/
def LawEnd (s1 : Shared) (r : Result) (s' : Shared) : Prop := r = .ok (.ret (.bool true)) ∧ OldK s1.heap s'.heap ∧ s'.os = s1.os ∧ AllBare s'.gens
theorem law_from (kin : K.In s1.heap) (hns : s1.heap.Ns mainGlobals mg) (hb : s1.heap.Ns builtinsNs mb) (hbb : ∀ x : Str, x ≠ "__name__" → mb x = bootBuiltins x) (hlim : s1.heap.NoLimit) (hg : s1.gens = #[])
    (ha : s1.heap.get? a = some { cls := .type "list", data := .seq vs.toArray }) (room : Room k callerA)
    (F : ∀ base : Heap, K.In base → base.Ns mainGlobals mg → FnG P w K mg base k fa fd [x] m) (hbind : ∀ (s : Shared) (u : Value), BindsTo s fd ⟨[u], []⟩ [(x, u)])
    (law : m [.scr ns] = some (.d (.bool true), [.scr ns])) (H : Hp) (hS : SqL K H a (ns.map V.int)) (ok : HOk P w H s1.heap) (hA : ∀ b u, H b = some u → b = a ∧ ∃ o xs, u = .frz o (.lst xs)) (hK : H a ≠ none → K.lookup a = none) :
    codeAny (model P w) callerA (.call (.ref fa) ⟨[.ref a], []⟩) (LawEnd s1) s1 := by
  have nodict : ∀ {b : Addr} {o : Obj} {es : Array DictEntry} {ep : Nat}, s1.heap.get? b = some o → o.data = .dict es ep → H b = none := fun {b o es ep} e d => by
    cases q : H b with
    | none => rfl
    | some u =>
      obtain ⟨rfl, _⟩ := hA b u q
      rw [ha] at e
      cases e
      cases (show Data.seq vs.toArray _ = Data.dict es ep from d)
  have ns_ : ∀ {b : Addr} {f : Str → Option Value}, s1.heap.Ns b f → (hidT s1.heap H).Ns b f := fun {b f} ⟨o, es, ep, e, d, r⟩ => ⟨o, es, ep, hidT_get e (nodict e d), d, r⟩
  have kin' : K.In (hidT s1.heap H) := fun b o e => hidT_get (kin b o e) (by
    cases q : H b with
    | none => rfl
    | some u =>
      obtain ⟨rfl, _⟩ := hA b u q
      rw [hK (by rw [q]; exact fun z => nomatch z)] at e
      cases e)
  have lim' : (hidT s1.heap H).NoLimit := by
    obtain ⟨mc, h1, h2⟩ := hlim
    exact ⟨mc, ns_ h1, h2⟩
  have e0 : Env0 P w K mg (hidT s1.heap H) callerA [] s1 H :=
    { frames := rfl
      mod := ⟨kin', ns_ hns, ⟨mb, ns_ hb, hbb⟩, lim'⟩
      bs := fun b o e => of_hidT e
      bsz := Nat.le_of_eq (hidT_size _ _)
      funs := trivial
      frf := fun b hb => absurd (show b ∈ ([] : List Addr) from hb) (by simp)
      hok := ok
      bare := .of_eq hg }
  have R0 : Rl K ⟨H, H, H, fun _ => none⟩ H [some (V.ref a)] H [.scr ns] :=
    { len := rfl
      zH := Same.refl H
      zN := fun b o h _ => .inl h
      f0 := fun b h => h
      fr := Same.refl H
      dom := fun b h => h
      inj := fun i j b ⟨⟨o, io, e⟩, _⟩ _ => by cases i <;> simp at e
      sep := fun i b ⟨⟨o, io, e⟩, _⟩ => by cases i <;> simp at e
      dat := fun i y e => by cases i <;> simp at e
      scr := fun i l e => by
        cases i with
        | zero => simp at e; subst e; exact ⟨a, rfl, hS⟩
        | succ i => simp at e
      own := fun i o io e => by cases i <;> simp at e
      loc := fun i o b e => by cases i <;> simp at e
      ino := fun i b e => nomatch e
      io := fun i o e => by cases i <;> simp at e }
  have want : spF K m [.ref a] H (fun v _ => v = .bl true) := ⟨H, H, fun _ => none, [.scr ns], _, _, law, fun i o e => by cases i <;> simp at e, R0, fun v H' Z' _ _ r => by cases r; rfl⟩
  refine codeAny_mono ((F _ kin' (ns_ hns)).run callerA [] s1 H ⟨[.ref a], []⟩ [.ref a] [.ref a] _ room rfl e0 (hbind s1 (.ref a)) (.cons rfl .nil) rfl want) fun out s' h => ?_
  match out, h with
  | .error e, h => exact h.elim
  | .ok .next, h => exact h.elim
  | .ok .brk, h => exact h.elim
  | .ok .cont, h => exact h.elim
  | .ok (.ret u), ⟨v, H', os, bare, un, hok', ru, hv⟩ =>
    subst hv
    cases (show u = Value.bool true from ru)
    refine ⟨rfl, OldK.of_keep fun b o e => ?_, os, bare⟩
    cases q : H b with
    | none => exact un.keep b o e q (fun z => absurd (show b ∈ ([] : List Addr) from z) (by simp)) (by simp)
    | some u =>
      obtain ⟨rfl, ob, xs, rfl⟩ := hA b u q
      obtain ⟨e1, _⟩ := ok b _ q
      obtain ⟨e2, _⟩ := hok' b _ (un.frzs b ob _ q)
      rw [e] at e1
      cases e1
      exact e2
theorem law_at (kin : K.In s1.heap) (hns : s1.heap.Ns mainGlobals mg) (hb : s1.heap.Ns builtinsNs mb) (hbb : ∀ x : Str, x ≠ "__name__" → mb x = bootBuiltins x) (hlim : s1.heap.NoLimit) (hg : s1.gens = #[])
    (ha : s1.heap.get? a = some { cls := .type "list", data := .seq vs.toArray }) (hi : IntsAre vs ns) (hl : ns.length ≤ sizeLine) (room : Room k callerA)
    (F : ∀ base : Heap, K.In base → base.Ns mainGlobals mg → FnG P w K mg base k fa fd [x] m) (hbind : ∀ (s : Shared) (u : Value), BindsTo s fd ⟨[u], []⟩ [(x, u)])
    (law : m [.scr ns] = some (.d (.bool true), [.scr ns])) : codeAny (model P w) callerA (.call (.ref fa) ⟨[.ref a], []⟩) (LawEnd s1) s1 := by
  have rel := vals_ints hi
  have len := hi.length
  cases hk : K.lookup a with
  | some o =>
    have e := kin a o hk
    rw [ha] at e
    cases e
    refine law_from kin hns hb hbb hlim hg ha room F hbind law (fun _ => none) ?_ (fun b u z => nomatch z) (fun b u z => nomatch z) fun z => absurd rfl z
    exact .inr ⟨_, vs.toArray, _, hk, rfl, rfl, rfl, by rw [List.size_toArray, len]; exact hl, by simpa using rel⟩
  | none =>
    have at_ : ∀ {b : Addr} {u : HO}, (if b = a then some (HO.frz { cls := .type "list", data := .seq vs.toArray } (.lst (ns.map V.int))) else none) = some u → b = a ∧ u = .frz { cls := .type "list", data := .seq vs.toArray } (.lst (ns.map V.int)) := fun {b u} z => by
      by_cases hb : b = a
      · rw [if_pos hb] at z
        cases z
        exact ⟨hb, rfl⟩
      · rw [if_neg hb] at z
        cases z
    refine law_from kin hns hb hbb hlim hg ha room F hbind law (fun b => if b = a then some (.frz { cls := .type "list", data := .seq vs.toArray } (.lst (ns.map V.int))) else none) (.inl (.inr ⟨_, if_pos rfl⟩)) (fun b u z => ?_) (fun b u z => ?_) fun _ => hk
    · obtain ⟨rfl, rfl⟩ := at_ z
      exact ⟨ha, by rw [List.length_map]; exact hl, vs, _, rel, ha⟩
    · obtain ⟨h1, h2⟩ := at_ z
      exact ⟨h1, _, _, h2⟩
end
theorem walk_d {l : PySem.W.OpenLaw} {n k : Nat} {q : Program} {loose : List Str} {XP : (Str → Option Value) → Heap → Prop} {YP : World → Heap → Prop} {d : DefRec} {K : Params → PySem.W.Frag} {m : XF} {x : Str}
    (hn : l.most = some n) (hn2 : n ≤ sizeLine) (hdf : d.params.defaults = []) (room : Room k callerA) (hY : ∀ (w : World) (h : Heap), YP w h → (K w.params).In h)
    (F : ∀ (w : World) (mg : Str → Option Value) (fa : Addr) (h : Heap), (K w.params).In h → h.Ns mainGlobals mg → mg d.name = some (.ref fa) →
      ∃ fd : FuncData, (∀ (s : Shared) (u : Value), BindsTo s fd ⟨[u], []⟩ [(x, u)]) ∧ ∀ base : Heap, (K w.params).In base → base.Ns mainGlobals mg → FnG l.prog w (K w.params) mg base k fa fd [x] m)
    (law : ∀ ns : List Int, ns.length ≤ n → m [.scr ns] = some (.d (.bool true), [.scr ns])) : PySem.W.WalkO q loose XP YP l.row.toRowW d [] (fun f vs => PySem.call f vs) := by
  refine Att.attach_call hn hdf fun w s₀ s₁ mg mb fa o pm cd doc a vs ns G Y ho hd hcd hmg hobj hints hlen hg => ?_
  have kin := hY w _ Y
  obtain ⟨fd, hb, hF⟩ := F w mg fa _ kin G.T.g hmg
  exact law_at kin G.T.g G.T.b G.T.builtins G.T.nolimit hg hobj hints (Nat.le_trans hlen hn2) room hF hb (law ns hlen)
end DL
set_option maxRecDepth 100000
set_option maxHeartbeats 2000000
/-! DL, the text's facts -/
namespace DL
open PySem PySem.Spec PyProof.Rows L2

/-- a def of the module as it stands behind the top -/
def DefEx (K : PySem.W.Frag) (x : Str) (st : Stmt) : Prop := ∃ (f : Addr) (oc : Value) (od an : Option Addr) (osl : Array (Option Value)) (kV doc pm cdv ct : Value),
  PySem.W.nsIn K mainGlobals x = some (some (.ref f)) ∧ K.lookup f = some ⟨oc, od, .func (PySem.W.fnOf x x (defArgs st) (defBody st) (defScope st) .none kV doc pm an cdv ct), osl⟩ ∧ PySem.W.codeIn K cdv x = true ∧ PySem.W.keepIn K (.ref f) = true
structure DefAt (K : PySem.W.Frag) (mg : Str → Option Value) (x : Str) (st : Stmt) (ps : List Str) (f : Addr) (fd : FuncData) : Prop where
  F : Fun K x x st f fd
  be : ∀ us : List Value, us.length = ps.length → bindArgs fd ⟨us, []⟩ = pure (ps.zip us)
  g : mg x = some (.ref f)
theorem DefAt.b {K : PySem.W.Frag} {mg : Str → Option Value} {x : Str} {st : Stmt} {ps : List Str} {f : Addr} {fd : FuncData} (h : DefAt K mg x st ps f fd) : Binds K fd ps [] := .all h.be
theorem def_at {K : PySem.W.Frag} {mg : Str → Option Value} {x : Str} {st : Stmt} {ps : List Str} {h : Heap} (X : K.In h) (G : h.Ns mainGlobals mg) (e : DefEx K x st)
    (hb : ∀ (kV doc pm : Value) (an : Option Addr) (cdv ct : Value) (us : List Value), us.length = ps.length → bindArgs (PySem.W.fnOf x x (defArgs st) (defBody st) (defScope st) .none kV doc pm an cdv ct) ⟨us, []⟩ = pure (ps.zip us)) :
    ∃ f fd, DefAt K mg x st ps f fd := by
  obtain ⟨f, oc, od, an, osl, kV, doc, pm, cdv, ct, h1, h2, h3, h4⟩ := e
  exact ⟨f, _, fun_mk h2 h3 h4, hb kV doc pm an cdv ct, PySem.W.mg_of X G h1⟩
/-- a constant of the module -/
def ConEx (K : PySem.W.Frag) (x : Str) (v : V) : Prop := ∃ u, PySem.W.nsIn K mainGlobals x = some (some u) ∧ RelV v u
theorem con_at {K : PySem.W.Frag} {mg : Str → Option Value} {x : Str} {v : V} {h : Heap} (X : K.In h) (G : h.Ns mainGlobals mg) (e : ConEx K x v) : ∃ u, mg x = some u ∧ RelV v u := by
  obtain ⟨u, h1, h2⟩ := e
  exact ⟨u, PySem.W.mg_of X G h1, h2⟩
theorem _root_.L2.Room.u64 {k : Nat} {A : Around} (r : Room k A) : A.units + 64 < cLine := r.units
theorem _root_.L2.Room.u65 {k : Nat} {A : Around} (r : Room k A) : A.units + 65 < cLine := by have := r.un; omega
theorem _root_.L2.Room.u1 {k : Nat} {A : Around} (r : Room k A) : A.units + 1 < cLine := by have := r.un; omega

theorem b_len : bootBuiltins "len" = some (.builtin "len") := by decide +kernel
theorem b_abs : bootBuiltins "abs" = some (.builtin "abs") := by decide +kernel
theorem b_ord : bootBuiltins "ord" = some (.builtin "ord") := by decide +kernel
theorem b_all : bootBuiltins "all" = some (.builtin "all") := by decide +kernel
theorem b_any : bootBuiltins "any" = some (.builtin "any") := by decide +kernel
theorem b_repr : bootBuiltins "repr" = some (.builtin "repr") := by decide +kernel
theorem b_sorted : bootBuiltins "sorted" = some (.builtin "sorted") := by decide +kernel
theorem b_isinstance : bootBuiltins "isinstance" = some (.builtin "isinstance") := by decide +kernel
theorem b_list : bootBuiltins "list" = some (.type "list") := by decide +kernel
theorem b_tuple : bootBuiltins "tuple" = some (.type "tuple") := by decide +kernel
theorem b_str : bootBuiltins "str" = some (.type "str") := by decide +kernel
theorem b_int : bootBuiltins "int" = some (.type "int") := by decide +kernel
theorem b_bool : bootBuiltins "bool" = some (.type "bool") := by decide +kernel
theorem b_dict : bootBuiltins "dict" = some (.type "dict") := by decide +kernel

/-! ### <= , upper, [::-1] of a tuple -/
def rLe : R2 := fun x y H Q => rI0 (fun i j => .bl (decide (i ≤ j))) x y H Q ∨ (∃ i j, x = .str i ∧ y = .str j ∧ Q (.bl (!decide (j.cps.toList < i.cps.toList))) H)
theorem op_leD {X : Cx} : OpR X (compareOp .LtE) rLe := op_le.or op_le_str
theorem r2_le {K : PySem.W.Frag} : R2M K rLe leD := by
  intro Φ Z σ H ρ x y d1 d2 z R rx ry e Q k
  unfold leD at e
  split at e
  · cases e; exact .inl ⟨_, _, rx.int, ry.int, ends_flat R (.bl _) k⟩
  · cases e; exact .inr ⟨_, _, rx.str, ry.str, ends_flat R (.bl _) k⟩
  · cases e
def upperD : PyData → Option PyData
  | .str a => if a.length ≤ 5592405 then some (.str (Txt.upper a)) else none
  | _ => none
theorem ed_upper {X : Cx} {e : Expr} {f : XE} {apos pos : Pos} (he : ED X e f) (hbase : attributeBase e "upper" X.env (eval e X.env) = eval e X.env := by rfl) (hline : (apos.endLine == pos.line) = true := by rfl) :
    ED X (.Call (.Attribute e "upper" apos) [] [] pos) (x1 upperD f) := by
  obtain ⟨t, p, m⟩ := he
  refine ⟨_, pe_upper p hbase hline, fun Φ Z σ H ρ d ρ' R q Q k => ?_⟩
  unfold x1 at q
  cases e1 : f ρ with
  | none => rw [e1] at q; cases q
  | some w =>
    rw [e1, Option.bind_some] at q
    cases e2 : upperD w.1 with
    | none => rw [e2] at q; cases q
    | some z =>
      rw [e2] at q
      cases q
      unfold upperD at e2
      split at e2
      · rename_i a ea
        split at e2
        · cases e2
          refine m Φ Z σ H ρ w.1 w.2 R e1 _ fun v H1 Z1 z1 R1 r1 => ?_
          rw [ea] at r1
          cases r1
          exact ⟨⟨_, rfl⟩, a, rfl, rfl, by assumption, k _ H1 Z1 z1 R1 (.str _)⟩
        · cases e2
      · cases e2
end DL
set_option maxRecDepth 100000
set_option maxHeartbeats 2000000
/-! DL, more constructs: [::-1], f(k = v), list(x) held, xs == [] -/
namespace DL
open PySem PySem.Spec PyProof.Rows L2 HT

theorem fm_congr {α β : Type} {f g : α → Option β} : ∀ {l : List α}, (∀ a ∈ l, f a = g a) → l.filterMap f = l.filterMap g
  | [], _ => rfl
  | a :: l, h => by
    rw [List.filterMap_cons, List.filterMap_cons, h a List.mem_cons_self, fm_congr fun b hb => h b (List.mem_cons_of_mem _ hb)]
theorem rev_pick (xs : Array Value) : ((List.range xs.size).filterMap fun (m : Nat) => xs[(((xs.size : Int) - 1) + (m : Int) * -1).toNat]?).toArray = xs.toList.reverse.toArray := by
  have e : ∀ m ∈ List.range xs.size, xs[(((xs.size : Int) - 1) + (m : Int) * -1).toNat]? = xs.toList.reverse[m]? := fun m hm => by
    have h := List.mem_range.mp hm
    have h2 : (((xs.size : Int) - 1) + (m : Int) * -1).toNat = xs.size - 1 - m := by omega
    rw [h2, List.getElem?_reverse (by simpa using h)]
    simp
  rw [fm_congr e]
  have := pick_run xs.toList.reverse.toArray 0 xs.size
  rw [List.filterMap_map] at this
  simp only [Function.comp_def, Nat.zero_add] at this
  have h3 : (getElem? xs.toList.reverse : Nat → Option Value) = fun x => xs.toList.reverse.toArray[x]? := by
    funext m
    simp
  rw [h3, this]
  simp only [List.drop_zero]
  rw [List.take_of_length_le (by simp)]
section
variable {prog : Program} {w : World} {A : Around} {E : Value → Shared → Prop} {s : Shared}
theorem slice_back {sl : Addr} {vs : Value} {n : Nat} {Q : Int × Int × Nat → Shared → Prop} (hs : s.heap.IsSliceOf sl .none .none vs) (ps : IsPart vs (some (-1))) (h : Q ((n : Int) - 1, -1, n) s) :
    wpAny (model prog w) A (Builtin.Slice.sliceApplied (.ref sl) (pure (n : Int))) Q E s := by
  obtain ⟨os, h1, _, h2⟩ := id hs
  unfold Builtin.Slice.sliceApplied Builtin.Slice.sliceFields
  refine wpAny_bind (wpAny_bind (wpAny_field h1 h2 (x := .none) rfl (wpAny_bind (wpAny_field h1 h2 (x := .none) rfl (wpAny_bind (wpAny_field h1 h2 (x := vs) rfl (wpAny_pure ?_)))))))
  refine wpAny_bind (slicePart_ ps ?_)
  show wpAny _ _ (if ((-1 : Int) == 0) = true then _ else _) _ _ s
  rw [if_neg (by decide)]
  refine wpAny_bind (slicePart_none (wpAny_bind (slicePart_none (wpAny_bind (wpAny_pure ?_)))))
  have e : Builtin.Slice.slicePlaces ((n : Int) - 1) (-1) (-1) = n := by
    unfold Builtin.Slice.slicePlaces
    rw [if_neg (by decide)]
    by_cases hn : ((n : Int) - 1) > -1
    · rw [if_pos hn, show (- -1 : Int) = 1 by decide, Int.ediv_one]
      omega
    · rw [if_neg hn]
      omega
  show wpAny _ _ (pure ((n : Int) - 1, (-1 : Int), Builtin.Slice.slicePlaces ((n : Int) - 1) (-1) (-1))) _ _ s
  rw [e]
  exact wpAny_pure h
theorem getItem_tuple_back {t sl : Addr} {items : Array Value} {vs : Value} {Q : Value → Shared → Prop} (ht : IsTup s.heap t items) (hs : s.heap.IsSliceOf sl .none .none vs) (ps : IsPart vs (some (-1)))
    (h : Q (.ref s.heap.objs.size) { s with heap := s.heap.push { cls := .type "tuple", data := .seq items.toList.reverse.toArray } }) (hsz : items.size ≤ sizeLine) : wpAny (model prog w) A (getItem (.ref t) (.ref sl)) Q E s := by
  have fits : sizeOk (.seq items.toList.reverse.toArray) := by
    show items.toList.reverse.toArray.size ≤ sizeLine
    simpa using hsz
  obtain ⟨os, h1, h2, _⟩ := id hs
  have isS : s.TypeIs (.ref sl) "slice" := ⟨os, h1, h2⟩
  unfold getItem
  try with_reducible refine wpAny_holding ?_
  first | refine wpAny_bind (wpAny_pure ?_) | skip
  refine wpAny_bind (wpAny_sequenceKey ht.typeIs (by decide) ?_)
  refine wpAny_bind (wpAny_callSpecial?_slot (name := Str.ofString "__getitem__") ht.typeIs PyProof.Rows.slot_tuple_getitem (wpAny_call_entry PyProof.Rows.slot_tuple_getitem ht.typeIs entry_tuple_getitem ?_ (args_tuple_getitem _ _)))
  show wpAny _ _ (Builtin.Tuple.tupleItemsOf (.ref t) >>= _) _ _ s
  refine wpAny_bind (tupleItemsOf_ ht ?_)
  refine wpAny_bind (wpAny_typeOf isS ?_)
  rw [if_pos (by decide)]
  refine wpAny_bind (slice_back hs ps ?_)
  have no : ¬ (((((items.size : Nat) : Int) - 1) == 0 && (-1 : Int) == 1 && items.size == items.size) = true) := by
    rw [show ((-1 : Int) == 1) = false by decide, Bool.and_false, Bool.false_and]
    exact Bool.false_ne_true
  show wpAny _ _ (if ((((items.size : Nat) : Int) - 1) == 0 && (-1 : Int) == 1 && items.size == items.size) = true then _ else _) _ _ s
  rw [if_neg no, rev_pick]
  first
    | exact wpAny_bind (m := Builtin.Tuple.tupleExact _) (wpAny_newObj_type (wpAny_pure ⟨_, rfl, wpAny_pure h⟩) fits)
    | exact wpAny_bind (m := Builtin.Tuple.tupleExact _) (wpAny_newObj_type (wpAny_bind (wpAny_pure (wpAny_pure ⟨_, rfl, wpAny_pure h⟩))) fits)
    | exact wpAny_bind (wpAny_bind (m := Builtin.Tuple.tupleExact _) (wpAny_newObj_type (wpAny_pure (wpAny_pure ⟨_, rfl, wpAny_pure h⟩)) fits))
    | exact wpAny_bind (wpAny_bind (m := Builtin.Tuple.tupleExact _) (wpAny_newObj_type (wpAny_pure ⟨_, rfl, wpAny_pure h⟩) fits))
end
/-- t[::-1] of a tuple -/
def tRevT (K : PySem.W.Frag) (te : TE) : TE := fun σ H Q => te σ H fun x H1 => ∃ a xs, x = .ref a ∧ SqT K H1 a xs ∧ ∀ p, H1 p = none → Q (.ref p) (upd H1 p (.tup xs.reverse))
theorem pe_revT {X : Cx} {e : Expr} {te : TE} {k : Nat} {p1 p2 p3 pos : Pos} (he : PE X e te) : PE X (.Subscript e (.Slice none none (some (.UnaryOp .USub (.Constant (.int 1) k p1) p2)) p3) pos) (tRevT X.K te) := by
  refine ⟨fun pins s σ H Q I h => Subscript_ (thn (he.run pins s σ H _ I h) fun v s1 ⟨x, H1, I1, r1, a, xs, ex, hx, q⟩ => ?_)⟩
  subst ex
  cases r1
  have minus : PO X (some (.UnaryOp .USub (.Constant (.int 1) k p1) p2)) (tPart (tUn (rU fun i => .int (-i)) (tC (.int 1)))) := po_some (pe_un un_neg pe_int)
  refine wpAny_Slice (thn (po_none.run pins s1 σ H1 (fun o H2 => o = none ∧ H2 = H1) I1 ⟨rfl, rfl⟩) fun vl s2 ⟨l, H2, I2, pl, el, e2⟩ => ?_)
  subst el e2
  cases pl
  refine thn (po_none.run pins s2 σ H2 (fun o H3 => o = none ∧ H3 = H2) I2 ⟨rfl, rfl⟩) fun vu s3 ⟨u, H3, I3, pu, eu, e3⟩ => ?_
  subst eu e3
  cases pu
  refine thn (minus.run pins s3 σ H3 (fun o H4 => o = some (-1) ∧ H4 = H3) I3 ⟨1, rfl, -1, rfl, rfl, rfl⟩) fun vs s4 ⟨o, H4, I4, ps, eo, e4⟩ => ?_
  subst eo e4
  have I5 : L2.Inv X pins σ H4 { s4 with heap := s4.heap.push { cls := .type "slice", data := .fields #[.none, .none, vs] } } := I4.kept (t' := s4.toks) fun b ob q => Heap.get?_push_of_some _ q
  obtain ⟨its, r, ht, hz⟩ := I5.tuple hx
  have hlen := r.length
  show wpAny (model X.prog X.w) X.A (subscriptTail e (.Slice none none (some (.UnaryOp .USub (.Constant (.int 1) k p1) p2)) p3) (.ref a) (.ref s4.heap.objs.size)) (EP X pins σ Q) X.xe { s4 with heap := s4.heap.push { cls := .type "slice", data := .fields #[.none, .none, vs] } }
  refine tail_any (ops := [.ref a, .ref s4.heap.objs.size]) ht.typeIs (PyProof.Rows.slot_tuple_getitem.lookup) ?_ (by with_unfolding_all rfl)
  refine getItem_tuple_back ht (Heap.IsSliceOf.new _ _ _ vs) ps ?_ (by rw [List.size_toArray]; omega)
  refine ⟨.ref _, _, I5.laid (t' := s4.toks) (o := .tup xs.reverse) (fun b ob q => Heap.get?_push_of_some _ q) (Nat.le_refl _) ?_, rfl, q _ (I5.hok.fresh (Nat.le_refl _))⟩
  exact ⟨by rw [List.length_reverse]; exact hz, _, r.reverse, ⟨_, Heap.get?_push_size _ rfl, rfl, _, rfl⟩⟩
theorem pe_orr {X : Cx} {e : Expr} {t1 t2 : TE} (h1 : PE X e t1) (h2 : PE X e t2) : PE X e (fun σ H Q => t1 σ H Q ∨ t2 σ H Q) :=
  ⟨fun pins s σ H Q I h => h.elim (h1.run pins s σ H Q I) (h2.run pins s σ H Q I)⟩
def revD : PyData → Option PyData
  | .list xs => some (.list xs.reverse)
  | .tuple xs => some (.tuple xs.reverse)
  | _ => none
theorem ed_rev {X : Cx} {e : Expr} {f : XE} {k : Nat} {p1 p2 p3 pos : Pos} (he : ED X e f) : ED X (.Subscript e (.Slice none none (some (.UnaryOp .USub (.Constant (.int 1) k p1) p2)) p3) pos) (x1 revD f) := by
  obtain ⟨t, p, m⟩ := he
  refine ⟨_, pe_orr (pe_revL p) (pe_revT p), fun Φ Z σ H ρ d ρ' R q Q k => ?_⟩
  unfold x1 at q
  cases e1 : f ρ with
  | none => rw [e1] at q; cases q
  | some w =>
    rw [e1, Option.bind_some] at q
    cases e2 : revD w.1 with
    | none => rw [e2] at q; cases q
    | some z =>
      rw [e2] at q
      cases q
      unfold revD at e2
      split at e2
      · rename_i xs ex
        cases e2
        refine .inl (m Φ Z σ H ρ w.1 w.2 R e1 _ fun v H1 Z1 z1 R1 r1 => ?_)
        rw [ex] at r1
        obtain ⟨a, vs, rfl, h, rr⟩ := Rb.lst R1.zH (.inl r1)
        exact ⟨a, vs, rfl, SqL.of h, fun p hp => ends_lst R1 rr.reverse (fun v H' Z' z' R' r' => k v H' Z' (z1.trans z') R' r') hp⟩
      · rename_i xs ex
        cases e2
        refine .inr (m Φ Z σ H ρ w.1 w.2 R e1 _ fun v H1 Z1 z1 R1 r1 => ?_)
        rw [ex] at r1
        obtain ⟨a, vs, rfl, h, rr⟩ := Rb.tup R1.zH (.inl r1)
        exact ⟨a, vs, rfl, h, fun p hp => ends_tup R1 rr.reverse (fun v H' Z' z' R' r' => k v H' Z' (z1.trans z') R' r') hp⟩
      · cases e2

/-! ### f(k = v, ..): all parameters by name, in their order -/
def KD (X : Cx) (kws : List Keyword) (r : XA) : Prop := ∃ t, PK X kws t ∧ MA X.K t r
structure KW0 (K : PySem.W.Frag) (fd : FuncData) (ps : List Str) : Prop where
  to : ∀ (s : Shared) (ws : List Value), K.In s.heap → ws.length = ps.length → BindsTo s fd ⟨[], ps.zip ws⟩ (ps.zip ws)
section
variable {X : Cx} {k : Nat} {f : Addr} {fd : FuncData} {ps : List Str} {m : XF} {x : Str} {p pos : Pos} {e : Expr} {kws : List Keyword} {r : XA} {fe : XE} {nm : Option Str} {kpos : Pos}
theorem kd_nil : KD X [] aNil := ⟨tNil, pk_nil, fun Φ Z σ H ρ as ρ' R q Q k => by
  cases q
  exact k [] H Z (Same.refl Z) R .nil⟩
theorem kd_cons (he : ED X e fe) (hr : KD X kws r) : KD X (⟨nm, e, kpos⟩ :: kws) (aCons fe r) := by
  obtain ⟨t, p, m⟩ := he
  obtain ⟨u, q, n⟩ := hr
  refine ⟨_, pk_cons p q, fun Φ Z σ H ρ as ρ' R q Q k => ?_⟩
  unfold aCons at q
  cases e1 : fe ρ with
  | none => rw [e1] at q; cases q
  | some s =>
    rw [e1, Option.bind_some] at q
    cases e2 : r s.2 with
    | none => rw [e2] at q; cases q
    | some w =>
      rw [e2] at q
      cases q
      refine m Φ Z σ H ρ s.1 s.2 R e1 _ fun v H1 Z1 z1 R1 r1 => ?_
      exact n Φ Z1 σ H1 s.2 w.1 w.2 R1 e2 _ fun vs H2 Z2 z2 R2 r2 => k _ H2 Z2 (z1.trans z2) R2 (.v (r1.mono z2) r2)
theorem cd_callK (F : FnG X.prog X.w X.K X.mg X.base k f fd ps m) (hr : Room k X.A) (hG : X.A.guards = some []) (hm : X.mg x = some (.ref f)) (hk : PySem.W.keepIn X.K (.ref f) = true) (hb : KW0 X.K fd ps) (ha : KD X kws r)
    (hg : Gl X x := by rfl) (hdb : (x == ("__debug__" : Str)) = false := by decide) (hall : (backToKw pos (keywordEach kws X.env)).all (·.1.isSome) = true := by rfl) (hks : (backToKw pos (keywordEach kws X.env)).filterMap (·.1) = ps := by rfl)
    (hpl : ((backTo pos (starEach [] X.env)).any (·.1) || (backToKw pos (keywordEach kws X.env)).any (·.1.isNone)) = false := by rfl) {ar : Nat} (har : ps.length = ar := by rfl) :
    CD X (.Call (.Name x p) [] kws pos) (arity ar m) r := by
  subst har
  obtain ⟨t, pa, ma⟩ := ha
  refine ⟨tCallG X.K ps.length (arity ps.length m) t, ⟨fun pins s σ H Q I h => ?_⟩, me_call (fun n es h e => ?_) ma⟩
  · refine wpAny_Call_Name_kw (ld_glob I hg hm ?_ hdb)
    refine PySem.W.callWith_KW0 (h₀ := X.base) I.ok.mod.kin hk hall ?_ hpl
    refine thn (pa.run pos pins s σ H _ I h) fun ws s1 ⟨zs, H1, I1, rv, hl, sp⟩ => ⟨I1.kIn, ?_⟩
    rw [hks]
    have sp' : spF X.K m zs H1 Q := by
      obtain ⟨Z, Fr, ino, ρ, d, ρ', e, io, R, q⟩ := sp
      refine ⟨Z, Fr, ino, ρ, d, ρ', ?_, io, R, q⟩
      unfold arity at e
      split at e
      · exact e
      · cases e
    refine wpAny_call (codeAny_mono (F.run X.A X.stack s1 H1 ⟨[], ps.zip ws⟩ ws zs Q hr hG I1.env0 (hb.to s1 ws I1.kIn (by rw [← rv.length]; exact hl)) rv hl sp') fun out s' hq => ?_)
    match out, hq with
    | .ok (.ret u), hq => exact I1.after hq
    | .error e, hq => exact hq.elim
    | .ok .next, hq => exact hq.elim
    | .ok .brk, hq => exact hq.elim
    | .ok .cont, hq => exact hq.elim
  · unfold arity at h
    split at h
    · omega
    · exact absurd rfl h
end
theorem kw0 {K : PySem.W.Frag} {x : Str} {st : Stmt} {f : Addr} {fd : FuncData} {ps : List Str} (F : Fun K x x st f fd)
    (h : ∀ (kV doc pm : Value) (an : Option Addr) (cdv ct : Value) (ws : List Value), ws.length = ps.length → bindArgs (PySem.W.fnOf x x (defArgs st) (defBody st) (defScope st) .none kV doc pm an cdv ct) ⟨[], ps.zip ws⟩ = pure (ps.zip ws)) : KW0 K fd ps := by
  obtain ⟨oc, od, kV, doc, pm, an, cdv, ct, osl, rfl, lk, hcd⟩ := F.ex
  exact ⟨fun s ws _ hl => .of_eq (h kV doc pm an cdv ct ws hl)⟩

/-! ### list(x), held -/
def nList (f : XE) : XN := fun ρ => (f ρ).bind fun p => match p.1 with
  | .list xs => some (.ol xs, p.2)
  | .tuple xs => some (.ol xs, p.2)
  | _ => none
theorem nd_list {X : Cx} {e : Expr} {f : XE} {p pos : Pos} (hm : X.mg "list" = none) (he : OD' X e f) (hg : Gl X "list" := by rfl) (hs : starEach [e] X.env = (false, eval e X.env) :: starEach [] X.env := by rfl) :
    ND X (.Call (.Name "list" p) [e] [] pos) (nList f) := by
  obtain ⟨t, q, m⟩ := he
  refine ⟨_, pe_callTy call_list_of hg hm b_list (pa_cons q pa_nil hs) (by decide) (by decide) hs, fun Φ Z σ H ρ o ρ' R q Q k => ?_⟩
  unfold nList at q
  cases e1 : f ρ with
  | none => rw [e1] at q; cases q
  | some w =>
    rw [e1, Option.bind_some] at q
    refine m Φ Z σ H ρ w.1 w.2 R e1 _ fun v H1 Z1 z1 R1 r1 => ?_
    split at q
    · rename_i xs ex
      cases q
      rw [ex] at r1
      obtain ⟨a, vs, rfl, h, rr⟩ := r1.lst R1.zH
      exact ⟨a, vs, rfl, .inl (SqL.of h), fun l hl => k l _ Z1 z1 (R1.laid hl) (New.of R1 hl ⟨_, upd_same, rr⟩)⟩
    · rename_i xs ex
      cases q
      rw [ex] at r1
      obtain ⟨a, vs, rfl, h, rr⟩ := r1.tup R1.zH
      exact ⟨a, vs, rfl, .inr h, fun l hl => k l _ Z1 z1 (R1.laid hl) (New.of R1 hl ⟨_, upd_same, rr⟩)⟩
    · cases q
/-- turns enough for Euclid's loop over slots 0 and 1 -/
def gcdFuel (ρ : Nv) : Nat := match ρ[1]? with
  | some (EV.d (PyData.int j)) => j.natAbs + 1
  | _ => 0
end DL
set_option maxRecDepth 100000
set_option maxHeartbeats 2000000
/-! DL: calls by place and by name, with defaults -/
namespace DL
open PySem PySem.Spec PyProof.Rows L2

/-- a flat datum as a value -/
def cV : PyData → V
  | .bool b => .bl b
  | .int i => .int i
  | .str s => .str s
  | _ => .non
theorem cV_rp {K : PySem.W.Frag} {Z : Hp} {d : PyData} (h : flatD d = true) : Rp K Z (cV d) d := by
  cases d with
  | none => exact .non
  | bool b => exact .bl b
  | int i => exact .int i
  | str s => exact .str s
  | list _ => cases h
  | tuple _ => cases h
  | dict _ => cases h
/-- which of the given values, or which default, stands at each parameter -/
abbrev Sel := List (Nat ⊕ PyData)
inductive Pk {α : Type} (r : PyData → α → Prop) (xs : List α) : Sel → List α → Prop
  | nil : Pk r xs [] []
  | at_ {i : Nat} {z : α} {s : Sel} {zs : List α} : xs[i]? = some z → Pk r xs s zs → Pk r xs (.inl i :: s) (z :: zs)
  | co {d : PyData} {z : α} {s : Sel} {zs : List α} : r d z → Pk r xs s zs → Pk r xs (.inr d :: s) (z :: zs)
theorem vals_get : ∀ {vs : List V} {us : List Value}, Vals vs us → ∀ {i : Nat} {u : Value}, us[i]? = some u → ∃ v, vs[i]? = some v ∧ RelV v u
  | _, _, .nil, i, u, h => by simp at h
  | _, _, .cons a r, 0, u, h => by
    simp at h
    subst h
    exact ⟨_, rfl, a⟩
  | _, _, .cons a r, i + 1, u, h => by
    obtain ⟨v, e, q⟩ := vals_get r (i := i) (u := u) (by simpa using h)
    exact ⟨v, by simpa using e, q⟩
theorem Pk.vals {vs : List V} {us : List Value} (r : Vals vs us) : ∀ {s : Sel} {zs : List Value}, Pk (fun d u => RelV (cV d) u) us s zs → ∃ xs, Vals xs zs ∧ Pk (fun d v => v = cV d) vs s xs
  | _, _, .nil => ⟨[], .nil, .nil⟩
  | _, _, .at_ h t => by
    obtain ⟨xs, a, b⟩ := Pk.vals r t
    obtain ⟨v, e, q⟩ := vals_get r h
    exact ⟨v :: xs, .cons q a, .at_ e b⟩
  | _, _, .co h t => by
    obtain ⟨xs, a, b⟩ := Pk.vals r t
    exact ⟨_ :: xs, .cons h a, .co rfl b⟩
def pick : Sel → List AV → Option (List AV)
  | [], _ => some []
  | .inl i :: s, as => (as[i]?).bind fun a => (pick s as).map (a :: ·)
  | .inr d :: s, as => if flatD d = true then (pick s as).map (.v d :: ·) else none
theorem ava_at {K : PySem.W.Frag} {Z : Hp} {σ : L2.St} : ∀ {xs : List V} {as : List AV}, AvA K Z σ xs as → ∀ {i : Nat} {v : V} {a : AV}, xs[i]? = some v → as[i]? = some a → ∀ {ys : List V} {bs : List AV}, AvA K Z σ ys bs → AvA K Z σ (v :: ys) (a :: bs)
  | _, _, .nil, i, v, a, h, _, _, _, _ => by simp at h
  | _, _, .v r t, 0, v, a, h, h2, _, _, q => by
    simp at h h2
    subst h h2
    exact .v r q
  | _, _, .s r t, 0, v, a, h, h2, _, _, q => by
    simp at h h2
    subst h h2
    exact .s r q
  | _, _, .v r t, i + 1, v, a, h, h2, _, _, q => ava_at t (i := i) (by simpa using h) (by simpa using h2) q
  | _, _, .s r t, i + 1, v, a, h, h2, _, _, q => ava_at t (i := i) (by simpa using h) (by simpa using h2) q
theorem ava_pick {K : PySem.W.Frag} {Z : Hp} {σ : L2.St} {xs : List V} {as : List AV} (r : AvA K Z σ xs as) {s : Sel} {zs : List V} (hp : Pk (fun d v => v = cV d) xs s zs) : ∀ {cs : List AV}, pick s as = some cs → AvA K Z σ zs cs := by
  induction hp with
  | nil => intro cs h; cases h; exact .nil
  | @at_ i z s zs e t ih =>
    intro cs h
    replace h : (as[i]?).bind (fun a => (pick s as).map (a :: ·)) = some cs := h
    cases e1 : as[i]? with
    | none => rw [e1] at h; cases h
    | some a =>
      rw [e1, Option.bind_some] at h
      cases e2 : pick s as with
      | none => rw [e2] at h; cases h
      | some bs =>
        rw [e2] at h
        cases h
        exact ava_at r e e1 (ih e2)
  | @co d z s zs e t ih =>
    intro cs h
    replace h : (if flatD d = true then (pick s as).map (.v d :: ·) else none) = some cs := h
    split at h
    · rename_i hf
      cases e2 : pick s as with
      | none => rw [e2] at h; cases h
      | some bs =>
        rw [e2] at h
        cases h
        subst e
        exact .v (cV_rp hf) (ih e2)
    · cases h
theorem AvA.append {K : PySem.W.Frag} {Z : Hp} {σ : L2.St} : ∀ {xs ys : List V} {as bs : List AV}, AvA K Z σ xs as → AvA K Z σ ys bs → AvA K Z σ (xs ++ ys) (as ++ bs)
  | _, _, _, _, .nil, q => q
  | _, _, _, _, .v r t, q => .v r (AvA.append t q)
  | _, _, _, _, .s r t, q => .s r (AvA.append t q)

/-- what such a call binds: n values by place, the names ks -/
structure PB (K : PySem.W.Frag) (fd : FuncData) (ps : List Str) (n : Nat) (ks : List Str) (s : Sel) : Prop where
  to : ∀ (sh : Shared) (us ws : List Value), K.In sh.heap → us.length = n → ws.length = ks.length → ∃ zs, BindsTo sh fd ⟨us, ks.zip ws⟩ (ps.zip zs) ∧ zs.length = ps.length ∧ Pk (fun d u => RelV (cV d) u) (us ++ ws) s zs
/-- the arguments by place, then those by name, as the parameters stand -/
def aPick (s : Sel) (r rk : XA) : XA := fun ρ => (r ρ).bind fun p => (rk p.2).bind fun q => (pick s (p.1 ++ q.1)).map fun as => (as, q.2)
def tCallP (K : PySem.W.Frag) (n nk : Nat) (s : Sel) (m : XF) (t tk : TA) : TE := fun σ H Q => t σ H fun vs H1 => tk σ H1 fun zs H2 => vs.length = n ∧ zs.length = nk ∧ ∀ xs, Pk (fun d v => v = cV d) (vs ++ zs) s xs → spF K m xs H2 Q
theorem me_callP {K : PySem.W.Frag} {n nk : Nat} {s : Sel} {m : XF} {t tk : TA} {r rk : XA} (hn : ∀ ρ p, r ρ = some p → p.1.length = n) (hk : ∀ ρ p, rk ρ = some p → p.1.length = nk) (ma : MA K t r) (mk : MA K tk rk) : MC K (tCallP K n nk s m t tk) (gCall m (aPick s r rk)) := by
  intro Φ Z σ H ρ d ρ' R q Q kk
  unfold gCall aPick at q
  cases e1 : r ρ with
  | none => rw [e1] at q; cases q
  | some a =>
    rw [e1, Option.bind_some] at q
    cases e1' : rk a.2 with
    | none => rw [e1'] at q; cases q
    | some b =>
      rw [e1', Option.bind_some] at q
      cases e1'' : pick s (a.1 ++ b.1) with
      | none => rw [e1''] at q; cases q
      | some cs =>
        rw [e1''] at q
        simp only [Option.map_some, Option.bind_some] at q
        split at q
        · rename_i nd
          cases e2 : entN cs b.2 with
          | none => rw [e2] at q; cases q
          | some es =>
            rw [e2, Option.bind_some] at q
            cases e3 : m es with
            | none => rw [e3] at q; cases q
            | some w =>
              rw [e3, Option.bind_some] at q
              cases e4 : back cs w.2 b.2 with
              | none => rw [e4] at q; cases q
              | some ρ1 =>
                rw [e4] at q
                cases q
                refine ma Φ Z σ H ρ a.1 a.2 R e1 _ fun vs H1 Z1 z1 R1 ra => ?_
                refine mk Φ Z1 σ H1 a.2 b.1 b.2 R1 e1' _ fun zs H2 Z2 z2 R2 rb => ⟨?_, ?_, fun xs hx => ?_⟩
                · rw [← hn _ _ e1, ava_len ra]
                · rw [← hk _ _ e1', ava_len rb]
                · have rc := ava_pick ((ra.mono z2).append rb) hx e1''
                  exact ⟨Z2, _, _, es, w.1, w.2, e3, ent_io e2, call_in R2 rc e2 nd, fun v H3 Z3 z3 Rc r3 => kk v H3 Z3 ((z1.trans z2).trans z3) (call_out R2 e2 nd z3 Rc e4).1 (rv_out R2 (call_out R2 e2 nd z3 Rc e4).2 r3)⟩
        · cases q
section
variable {X : Cx} {k n : Nat} {f : Addr} {fd : FuncData} {ps ks : List Str} {m : XF} {x : Str} {p pos : Pos} {e : Expr} {es : List Expr} {kws : List Keyword} {r rk : XA} {s : Sel}
theorem run_p {pins : List (Addr × Obj)} {σ : L2.St} {H : Hp} {sh : Shared} {Q : VK} {us ws : List Value} {vs zs : List V} (F : FnG X.prog X.w X.K X.mg X.base k f fd ps m) (hr : Room k X.A) (hG : X.A.guards = some []) (hb : PB X.K fd ps n ks s)
    (I : L2.Inv X pins σ H sh) (rv : Vals vs us) (rz : Vals zs ws) (l1 : vs.length = n) (l2 : zs.length = ks.length) (h : ∀ xs, Pk (fun d v => v = cV d) (vs ++ zs) s xs → spF X.K m xs H Q) : wpAny (model X.prog X.w) X.A (call (.ref f) us (ks.zip ws)) (EP X pins σ Q) X.xe sh := by
  obtain ⟨ys, hB, hl, hp⟩ := hb.to sh us ws I.kIn (rv.length.symm.trans l1) (rz.length.symm.trans l2)
  obtain ⟨xs, rx, px⟩ := Pk.vals (rv.append rz) hp
  refine wpAny_call (codeAny_mono (F.run X.A X.stack sh H ⟨us, ks.zip ws⟩ ys xs Q hr hG I.env0 hB rx (rx.length.trans hl) (h xs px)) fun out s' hq => ?_)
  match out, hq with
  | .ok (.ret u), hq => exact I.after hq
  | .error e, hq => exact hq.elim
  | .ok .next, hq => exact hq.elim
  | .ok .brk, hq => exact hq.elim
  | .ok .cont, hq => exact hq.elim
/-- f(e, ..) with defaults -/
theorem cd_callP (F : FnG X.prog X.w X.K X.mg X.base k f fd ps m) (hr : Room k X.A) (hG : X.A.guards = some []) (hm : X.mg x = some (.ref f)) (hk : PySem.W.keepIn X.K (.ref f) = true) (hb : PB X.K fd ps n [] s) (ha : AD X (e :: es) r)
    (hn : ∀ ρ p, r ρ = some p → p.1.length = n)
    (hg : Gl X x := by rfl) (hdb : (x == ("__debug__" : Str)) = false := by decide) (hs : starEach (e :: es) X.env = (false, eval e X.env) :: starEach es X.env := by rfl) (hpl : (backTo pos (starEach es X.env)).any (·.1) = false := by rfl) :
    CD X (.Call (.Name x p) (e :: es) [] pos) m (aPick s r aNil) := by
  obtain ⟨t, pa, ma⟩ := ha
  refine ⟨tCallP X.K n 0 s m t tNil, ⟨fun pins sh σ H Q I h => ?_⟩, me_callP hn (fun ρ p e => by cases e; rfl) ma (fun Φ Z σ H ρ as ρ' R q Q k => by cases q; exact k [] H Z (Same.refl Z) R .nil)⟩
  refine wpAny_Call_Name_kw (ld_glob I hg hm ?_ hdb)
  refine PySem.W.callWith_K (h₀ := X.base) I.ok.mod.kin hk (thn (pa.run pos pins sh σ H _ I h) fun us s1 ⟨vs, H1, I1, rv, q⟩ => ⟨I1.kIn, ?_⟩) hs hpl
  obtain ⟨l1, l2, q2⟩ := q
  exact run_p F hr hG hb I1 rv .nil l1 rfl q2
/-- f(k = v, ..) -/
theorem cd_callQ (F : FnG X.prog X.w X.K X.mg X.base k f fd ps m) (hr : Room k X.A) (hG : X.A.guards = some []) (hm : X.mg x = some (.ref f)) (hk : PySem.W.keepIn X.K (.ref f) = true) (hb : PB X.K fd ps 0 ks s) (ha : KD X kws rk)
    (hn : ∀ ρ p, rk ρ = some p → p.1.length = ks.length)
    (hg : Gl X x := by rfl) (hdb : (x == ("__debug__" : Str)) = false := by decide) (hall : (backToKw pos (keywordEach kws X.env)).all (·.1.isSome) = true := by rfl) (hks : (backToKw pos (keywordEach kws X.env)).filterMap (·.1) = ks := by rfl)
    (hpl : ((backTo pos (starEach [] X.env)).any (·.1) || (backToKw pos (keywordEach kws X.env)).any (·.1.isNone)) = false := by rfl) :
    CD X (.Call (.Name x p) [] kws pos) m (aPick s aNil rk) := by
  obtain ⟨t, pa, ma⟩ := ha
  refine ⟨tCallP X.K 0 ks.length s m tNil t, ⟨fun pins sh σ H Q I h => ?_⟩, me_callP (fun ρ p e => by cases e; rfl) hn (fun Φ Z σ H ρ as ρ' R q Q k => by cases q; exact k [] H Z (Same.refl Z) R .nil) ma⟩
  refine wpAny_Call_Name_kw (ld_glob I hg hm ?_ hdb)
  refine PySem.W.callWith_KW0 (h₀ := X.base) I.ok.mod.kin hk hall ?_ hpl
  refine thn (pa.run pos pins sh σ H _ I h) fun ws s1 ⟨zs, H1, I1, rv, q⟩ => ⟨I1.kIn, ?_⟩
  rw [hks]
  obtain ⟨l1, l2, q2⟩ := q
  exact run_p F hr hG hb I1 .nil rv rfl l2 q2
/-- f(e, .., k = v, ..) -/
theorem cd_callPQ (F : FnG X.prog X.w X.K X.mg X.base k f fd ps m) (hr : Room k X.A) (hG : X.A.guards = some []) (hm : X.mg x = some (.ref f)) (hk : PySem.W.keepIn X.K (.ref f) = true) (hb : PB X.K fd ps n ks s) (ha : AD X (e :: es) r) (hkw : KD X kws rk)
    (hn : ∀ ρ p, r ρ = some p → p.1.length = n) (hn2 : ∀ ρ p, rk ρ = some p → p.1.length = ks.length)
    (hg : Gl X x := by rfl) (hdb : (x == ("__debug__" : Str)) = false := by decide) (hall : (backToKw pos (keywordEach kws X.env)).all (·.1.isSome) = true := by rfl) (hks : (backToKw pos (keywordEach kws X.env)).filterMap (·.1) = ks := by rfl)
    (he : starEach (e :: es) X.env = (false, eval e X.env) :: starEach es X.env := by rfl)
    (hpl : ((backTo pos (starEach (e :: es) X.env)).any (·.1) || (backToKw pos (keywordEach kws X.env)).any (·.1.isNone)) = false := by rfl) :
    CD X (.Call (.Name x p) (e :: es) kws pos) m (aPick s r rk) := by
  obtain ⟨t, pa, ma⟩ := ha
  obtain ⟨tk, pk, mk⟩ := hkw
  refine ⟨tCallP X.K n ks.length s m t tk, ⟨fun pins sh σ H Q I h => ?_⟩, me_callP hn hn2 ma mk⟩
  refine wpAny_Call_Name_kw (ld_glob I hg hm ?_ hdb)
  refine PySem.W.callWith_KW (h₀ := X.base) I.ok.mod.kin hk hall (thn (pa.run pos pins sh σ H _ I h) fun us s1 ⟨vs, H1, I1, r, q⟩ => ?_) hpl he
  refine thn (pk.run pos pins s1 σ H1 _ I1 q) fun ws s2 ⟨zs, H2, I2, rz, l1, l2, q2⟩ => ⟨I2.kIn, ?_⟩
  rw [hks]
  exact run_p F hr hG hb I2 r rz l1 l2 q2
end
/-- how many arguments a reading makes -/
theorem ln_nil : ∀ (ρ : Nv) (p : List AV × Nv), aNil ρ = some p → p.1.length = 0 := fun ρ p e => by cases e; rfl
theorem ln_cons {f : XE} {r : XA} {n : Nat} (h : ∀ (ρ : Nv) (p : List AV × Nv), r ρ = some p → p.1.length = n) : ∀ (ρ : Nv) (p : List AV × Nv), aCons f r ρ = some p → p.1.length = n + 1 := fun ρ p e => by
  unfold aCons at e
  cases e1 : f ρ with
  | none => rw [e1] at e; cases e
  | some s =>
    rw [e1, Option.bind_some] at e
    cases e2 : r s.2 with
    | none => rw [e2] at e; cases e
    | some w => rw [e2] at e; cases e; exact congrArg Nat.succ (h _ _ e2)
theorem ln_slot {i : Nat} {r : XA} {n : Nat} (h : ∀ (ρ : Nv) (p : List AV × Nv), r ρ = some p → p.1.length = n) : ∀ (ρ : Nv) (p : List AV × Nv), aSlot i r ρ = some p → p.1.length = n + 1 := fun ρ p e => by
  unfold aSlot at e
  split at e
  · cases e2 : r ρ with
    | none => rw [e2] at e; cases e
    | some w => rw [e2] at e; cases e; exact congrArg Nat.succ (h _ _ e2)
  · cases e2 : r ρ with
    | none => rw [e2] at e; cases e
    | some w => rw [e2] at e; cases e; exact congrArg Nat.succ (h _ _ e2)
  · cases e
end DL
set_option maxRecDepth 100000
set_option maxHeartbeats 2000000
/-! DL: defs of the shape f(*v), and calls of them -/
namespace DL
open PySem PySem.Spec PyProof.Rows L2

/-- the def at f, called with any number of values -/
structure FnV (P : Program) (w : World) (K : PySem.W.Frag) (mg : Str → Option Value) (base : Heap) (k : Nat) (f : Addr) (m : XF) : Prop where
  run : ∀ (A : Around) (outer : List Env) (s : Shared) (H : Hp) (us : List Value) (vs : List V) (Q : VK), Room k A → A.guards = some [] → Env0 P w K mg base A outer s H → Vals vs us → spF K m vs H Q →
    codeAny (model P w) A (.call (.ref f) ⟨us, []⟩) (CR CX0 outer P w H s Q E0) s
theorem FnV.mono {P : Program} {w : World} {K : PySem.W.Frag} {mg : Str → Option Value} {base : Heap} {j k : Nat} {f : Addr} {m : XF} (F : FnV P w K mg base j f m) (h : j ≤ k) : FnV P w K mg base k f m :=
  ⟨fun A outer s H us vs Q hr => F.run A outer s H us vs Q (hr.mono h)⟩
def datEs : List EV → Option (List PyData)
  | [] => some []
  | .d x :: es => (datEs es).map (x :: ·)
  | _ :: _ => none
theorem datEs_map : ∀ {es : List EV} {ds : List PyData}, datEs es = some ds → es = ds.map EV.d
  | [], _, h => by cases h; rfl
  | .d x :: es, ds, h => by
    replace h : (datEs es).map (x :: ·) = some ds := h
    cases e : datEs es with
    | none => rw [e] at h; cases h
    | some r => rw [e] at h; cases h; exact congrArg _ (datEs_map e)
  | .un :: _, _, h => by cases h
  | .own _ _ :: _, _, h => by cases h
  | .scr _ :: _, _, h => by cases h
/-- what the values make a tuple -/
def starF (m : XF) : XF := fun es => (datEs es).bind fun ds => if ds.length ≤ sizeLine then (m [.d (.tuple ds)]).map fun q => (q.1, es) else none
theorem rpa_of {K : PySem.W.Frag} {Z : Hp} : ∀ {vs : List V} {ds : List PyData}, vs.length = ds.length → (∀ (i : Nat) (x : PyData), ds[i]? = some x → ∃ v, vs[i]? = some v ∧ Rp K Z v x) → RpA K Z vs ds
  | [], [], _, _ => .nil
  | [], _ :: _, h, _ => by cases h
  | _ :: _, [], h, _ => by cases h
  | v :: vs, d :: ds, hl, h => by
    obtain ⟨v', e, r⟩ := h 0 d rfl
    cases e
    refine .cons r (rpa_of (by simpa using hl) fun i x hx => ?_)
    obtain ⟨u, e, q⟩ := h (i + 1) x (by simpa using hx)
    exact ⟨u, by simpa using e, q⟩
/-- into the body: the tuple is laid -/
theorem star_in {K : PySem.W.Frag} {m : XF} {vs : List V} {H : Hp} {Q : VK} (h : spF K (starF m) vs H Q) {p : Addr} (hp : H p = none) : vs.length ≤ sizeLine ∧ spF K m [V.ref p] (upd H p (.tup vs)) Q := by
  obtain ⟨Z, Fr, ino, es, d, ρ', hm, hio, R0, hQ⟩ := h
  unfold starF at hm
  cases e1 : datEs es with
  | none => rw [e1] at hm; cases hm
  | some ds =>
    rw [e1, Option.bind_some] at hm
    split at hm
    · rename_i hle
      cases e2 : m [.d (.tuple ds)] with
      | none => rw [e2] at hm; cases hm
      | some w =>
        rw [e2] at hm
        cases hm
        have hes := datEs_map e1
        have hlen : vs.length = ds.length := by
          have := R0.len
          rw [hes, List.length_map, List.length_map] at this
          exact this.symm
        have noown : ∀ (i : Nat) o b, es[i]? ≠ some (EV.own o b) := fun i o b q => by
          rw [hes, List.getElem?_map] at q
          cases h' : ds[i]? <;> rw [h'] at q <;> cases q
        have noscr : ∀ (i : Nat) ns, es[i]? ≠ some (EV.scr ns) := fun i o q => by
          rw [hes, List.getElem?_map] at q
          cases h' : ds[i]? <;> rw [h'] at q <;> cases q
        have noino : ∀ i a, ino i ≠ some a := fun i a q => by
          obtain ⟨_, o, e⟩ := R0.ino i a q
          exact noown i o _ e
        obtain ⟨zs, R1⟩ := R0.fresh (o := .tup vs) hp
        have hra : RpA K (upd Z p (.tup vs)) vs ds := rpa_of hlen fun i x hx => by
          obtain ⟨v, e, r⟩ := R1.dat i x (by rw [hes, List.getElem?_map, hx]; rfl)
          refine ⟨v, ?_, r⟩
          rw [List.getElem?_map] at e
          cases h' : vs[i]? with
          | none => rw [h'] at e; cases e
          | some u => rw [h'] at e; cases e; rfl
        refine ⟨by rw [hlen]; exact hle, upd Z p (.tup vs), Fr, fun _ => none, [.d (.tuple ds)], w.1, w.2, e2, fun i o e => by cases i <;> simp at e, ?_, ?_⟩
        · refine
            { len := rfl
              zH := R1.zH
              zN := fun b o h _ => .inl h
              f0 := fun b h => R1.zH.free h
              fr := R1.fr
              dom := fun b h => h
              inj := fun i j b ⟨⟨o, io, e⟩, _⟩ _ => by cases i <;> simp at e
              sep := fun i b ⟨⟨o, io, e⟩, _⟩ => by cases i <;> simp at e
              dat := fun i y e => ?_
              scr := fun i l e => by cases i <;> simp at e
              own := fun i o io e => by cases i <;> simp at e
              loc := fun i o b e => by cases i <;> simp at e
              ino := fun i b e => nomatch e
              io := fun i o e => by cases i <;> simp at e }
          cases i with
          | zero =>
            simp at e
            subst e
            exact ⟨_, rfl, .tup upd_same hra⟩
          | succ i => simp at e
        · intro v H2 Z2 z2 R2 r2
          have hH : ∀ a, upd H p (.tup vs) a = none → H a = none := fun a e => by
            by_cases ha : a = p
            · subst ha; exact hp
            · rw [upd_ne ha] at e; exact e
          refine hQ v H2 Z2 (zs.trans z2)
            { len := R0.len
              zH := R2.zH
              zN := fun a o q nt => ?_
              f0 := R0.f0
              fr := R2.fr
              dom := fun a q => hH a (R2.dom a q)
              inj := fun i j a ⟨⟨o, io, e⟩, _⟩ _ => absurd e (noown i o io)
              sep := fun i a ⟨⟨o, io, e⟩, _⟩ => absurd e (noown i o io)
              dat := fun i x e => ?_
              scr := fun i ns e => absurd e (noscr i ns)
              own := fun i o io e => absurd e (noown i o io)
              loc := fun i o a e => absurd e (noown i o false)
              ino := fun i a e => absurd e (noino i a)
              io := fun i o e => absurd e (noown i o true) } ?_
          · rcases R2.zN a o q nt with q | ⟨q1, q2⟩
            · by_cases ha : a = p
              · subst ha
                exact .inr ⟨hp, R0.fr.free hp⟩
              · left
                have q' : upd Z p (.tup vs) a = some o := q
                rw [upd_ne ha] at q'
                exact q'
            · exact .inr ⟨hH a q1, q2⟩
          · obtain ⟨u, e', r⟩ := R0.dat i x e
            exact ⟨u, e', r.mono (zs.trans z2)⟩
          · cases hw : w.1 with
            | d x => rw [hw] at r2; exact r2
            | n o =>
              rw [hw] at r2
              obtain ⟨a, rfl, W⟩ := r2
              exact ⟨a, rfl, W.ob, W.z, W.fr, hH a W.h0, fun i ⟨⟨o, io, e⟩, _⟩ => noown i o io e⟩
    · cases hm
section
variable {P : Program} {w : World} {K : PySem.W.Frag} {mg : Str → Option Value} {base : Heap}
/-- THE RULE for def f(*v) -/
theorem fn_bodyV {x qual pv : Str} {st : Stmt} {f : Addr} {fd : FuncData} {N : List Str} {k : Nat} {body : XS} (F : Fun K x qual st f fd) (S : FnScope N [pv] (defScope st))
    (hbind : ∀ us : List Value, bindArgs fd ⟨us, []⟩ = (newTuple us >>= fun t => pure [(pv, t)]))
    (hb : ∀ (cdv : Value) (A : Around) (outer : List Env) (s : Shared) (H : Hp), Room k (A.deeper (envOfC qual (defScope st) s.heap.objs.size f cdv)) → A.guards = some [] →
      SSD (cxOf CX0 P w K mg base N qual (defScope st) f cdv A outer s H E0).nox (defBody st) body) : FnV P w K mg base (k + 1) f (starF (runF N.length body)) := by
  obtain ⟨oc, od, kV, doc, pm, an, cdv, ct, osl, rfl, lk, hcd⟩ := F.ex
  refine ⟨fun A outer s H us vs Q hr hG e0 rv hsp => ?_⟩
  have hn : H s.heap.objs.size = Option.none := e0.hok.fresh (Nat.le_refl _)
  have hz := (star_in hsp hn).1
  have hl2 : us.length ≤ sizeLine := by rw [← rv.length]; exact hz
  refine StX.run_bnd (CX := CX0) lk hcd S hr e0 (G := fun xs H2 => ∃ p, H p = Option.none ∧ xs = [V.ref p] ∧ H2 = upd H p (.tup vs)) (fun A' Ex Q' h => ?_) fun s2 H2 xs ⟨p, hp, ex, eH⟩ hr' => ?_
  · rw [hbind us]
    refine wpAny_bind (wpAny_newTuple (wpAny_pure ?_) hl2)
    have new : ObjOk P w (upd H s.heap.objs.size (.tup vs)) (s.heap.push ({ cls := .type "tuple", data := .seq us.toArray } : Obj)) s.heap.objs.size (.tup vs) := ⟨hz, us, rv, ⟨_, Heap.get?_push_size _ rfl, rfl, _, rfl⟩⟩
    have un := StX.un_laid (fs := frs outer) (s := s) (o := ({ cls := .type "tuple", data := .seq us.toArray } : Obj)) (u := .tup vs) hn
    exact h _ _ [V.ref s.heap.objs.size] [Value.ref s.heap.objs.size] (StX.env0_laid e0 new) un rfl (fun e s' z => z) (.cons rfl .nil) rfl ⟨_, hn, rfl, rfl⟩
  · subst ex eH
    obtain ⟨t, pt, mt⟩ := hb cdv A outer s2 (upd H p (.tup vs)) hr' hG
    refine ⟨t, pt.nox, ?_⟩
    obtain ⟨_, Z, Fr, ino, es, d, ρ', hm, hio', R0, hQ⟩ := star_in hsp hp
    have nv : N.length ≥ [V.ref p].length := by
      have h1 := congrArg List.length S.pre
      rw [List.length_take] at h1
      simp only [List.length_cons, List.length_nil] at h1 ⊢
      omega
    unfold runF at hm
    cases eb : body (es ++ List.replicate (N.length - es.length) .un) with
    | none => rw [eb] at hm; cases hm
    | some fl =>
      rw [eb] at hm
      refine mt _ Z _ _ _ fl (start_rl R0 nv) eb _ ?_
      cases fl with
      | rt d1 ρ1 =>
        cases hm
        exact fun v σ' H' Z' z R r => hQ v H' Z' z (fin_rl R0 hio' z R).1 r
      | rn o1 ρ1 =>
        cases hm
        exact fun a σ' H' Z' z R r => hQ _ H' Z' z (fin_rl R0 hio' z R).1 ⟨a, rfl, r.ob, r.z, r.fr, r.h0, fun i q => r.no i ((fin_rl R0 hio' z R).2 i a q)⟩
      | nx ρ1 =>
        cases hm
        exact fun σ' H' Z' z R => hQ .non H' Z' z (fin_rl R0 hio' z R).1 .non
      | bk ρ1 => cases hm
      | ct ρ1 => cases hm
end

/-! ### the calls -/
section
variable {X : Cx} {k : Nat} {f : Addr} {m : XF} {x : Str} {p pos sp_ : Pos} {e : Expr} {es : List Expr} {r : XA} {fe : XE}
theorem run_v {pins : List (Addr × Obj)} {σ : L2.St} {H : Hp} {s : Shared} {Q : VK} {us : List Value} {vs : List V} (F : FnV X.prog X.w X.K X.mg X.base k f m) (hr : Room k X.A) (hG : X.A.guards = some [])
    (I : L2.Inv X pins σ H s) (rv : Vals vs us) (h : spF X.K m vs H Q) : wpAny (model X.prog X.w) X.A (call (.ref f) us) (EP X pins σ Q) X.xe s := by
  refine wpAny_call (codeAny_mono (F.run X.A X.stack s H us vs Q hr hG I.env0 rv h) fun out s' hq => ?_)
  match out, hq with
  | .ok (.ret u), hq => exact I.after hq
  | .error e, hq => exact hq.elim
  | .ok .next, hq => exact hq.elim
  | .ok .brk, hq => exact hq.elim
  | .ok .cont, hq => exact hq.elim
def tCallV (K : PySem.W.Frag) (m : XF) (t : TA) : TE := fun σ H Q => t σ H fun vs H1 => spF K m vs H1 Q
theorem me_callV {K : PySem.W.Frag} {t : TA} (ma : MA K t r) : MC K (tCallV K m t) (gCall m r) := by
  intro Φ Z σ H ρ d ρ' R q Q kk
  unfold gCall at q
  cases e1 : r ρ with
  | none => rw [e1] at q; cases q
  | some a =>
    rw [e1, Option.bind_some] at q
    split at q
    · rename_i nd
      cases e2 : entN a.1 a.2 with
      | none => rw [e2] at q; cases q
      | some es =>
        rw [e2, Option.bind_some] at q
        cases e3 : m es with
        | none => rw [e3] at q; cases q
        | some w =>
          rw [e3, Option.bind_some] at q
          cases e4 : back a.1 w.2 a.2 with
          | none => rw [e4] at q; cases q
          | some ρ1 =>
            rw [e4] at q
            cases q
            refine ma Φ Z σ H ρ a.1 a.2 R e1 _ fun vs H1 Z1 z1 R1 ra => ?_
            exact ⟨Z1, _, _, es, w.1, w.2, e3, ent_io e2, call_in R1 ra e2 nd, fun v H2 Z2 z2 Rc rc => kk v H2 Z2 (z1.trans z2) (call_out R1 e2 nd z2 Rc e4).1 (rv_out R1 (call_out R1 e2 nd z2 Rc e4).2 rc)⟩
    · cases q
/-- f(e, ..) -/
theorem cd_callV (F : FnV X.prog X.w X.K X.mg X.base k f m) (hr : Room k X.A) (hG : X.A.guards = some []) (hm : X.mg x = some (.ref f)) (hk : PySem.W.keepIn X.K (.ref f) = true) (ha : AD X (e :: es) r)
    (hg : Gl X x := by rfl) (hdb : (x == ("__debug__" : Str)) = false := by decide) (hs : starEach (e :: es) X.env = (false, eval e X.env) :: starEach es X.env := by rfl) (hpl : (backTo pos (starEach es X.env)).any (·.1) = false := by rfl) :
    CD X (.Call (.Name x p) (e :: es) [] pos) m r := by
  obtain ⟨t, pa, ma⟩ := ha
  refine ⟨tCallV X.K m t, ⟨fun pins s σ H Q I h => ?_⟩, me_callV ma⟩
  refine wpAny_Call_Name_kw (ld_glob I hg hm ?_ hdb)
  exact PySem.W.callWith_K (h₀ := X.base) I.ok.mod.kin hk (thn (pa.run pos pins s σ H _ I h) fun us s1 ⟨vs, H1, I1, rv, q⟩ => ⟨I1.kIn, run_v F hr hG I1 rv q⟩) hs hpl
/-- f() -/
theorem cd_callV0 (F : FnV X.prog X.w X.K X.mg X.base k f m) (hr : Room k X.A) (hG : X.A.guards = some []) (hm : X.mg x = some (.ref f)) (hk : PySem.W.keepIn X.K (.ref f) = true)
    (hg : Gl X x := by rfl) (hdb : (x == ("__debug__" : Str)) = false := by decide) : CD X (.Call (.Name x p) [] [] pos) m aNil := by
  refine ⟨tCallV X.K m tNil, ⟨fun pins s σ H Q I h => ?_⟩, me_callV (fun Φ Z σ H ρ as ρ' R q Q k => by cases q; exact k [] H Z (Same.refl Z) R .nil)⟩
  refine wpAny_Call_Name_kw (ld_glob I hg hm ?_ hdb)
  exact PySem.W.callWith_K0 I.kIn hk (run_v F hr hG I .nil h)
/-- f(*e) -/
def aStar (fe : XE) : XA := fun ρ => (fe ρ).bind fun p => match p.1 with
  | .list ds => some (ds.map .v, p.2)
  | .tuple ds => some (ds.map .v, p.2)
  | _ => none
theorem ava_dat {K : PySem.W.Frag} {Z : Hp} {σ : L2.St} : ∀ {vs : List V} {ds : List PyData}, RpA K Z vs ds → AvA K Z σ vs (ds.map .v)
  | _, _, .nil => .nil
  | _, _, .cons r t => .v r (ava_dat t)
theorem ma_star1 {K : PySem.W.Frag} {te : TE} (m : ME K te fe) : MA K (fun σ H Q => te σ H fun y H1 => ∃ a xs, y = V.ref a ∧ (SqT K H1 a xs ∨ SqL K H1 a xs) ∧ Q xs H1) (aStar fe) := by
  intro Φ Z σ H ρ as ρ' R q Q k
  unfold aStar at q
  cases e1 : fe ρ with
  | none => rw [e1] at q; cases q
  | some w =>
    rw [e1, Option.bind_some] at q
    split at q
    · rename_i ds ew
      cases q
      refine m Φ Z σ H ρ w.1 w.2 R e1 _ fun v H1 Z1 z1 R1 r1 => ?_
      rw [ew] at r1
      obtain ⟨a, xs, rfl, h, ra⟩ := Rb.lst R1.zH (.inl r1)
      exact ⟨a, xs, rfl, .inr (SqL.of h), k _ H1 Z1 z1 R1 (ava_dat ra)⟩
    · rename_i ds ew
      cases q
      refine m Φ Z σ H ρ w.1 w.2 R e1 _ fun v H1 Z1 z1 R1 r1 => ?_
      rw [ew] at r1
      obtain ⟨a, xs, rfl, h, ra⟩ := Rb.tup R1.zH (.inl r1)
      exact ⟨a, xs, rfl, .inl h, k _ H1 Z1 z1 R1 (ava_dat ra)⟩
    · cases q
theorem cd_callVs (F : FnV X.prog X.w X.K X.mg X.base k f m) (hr : Room k X.A) (hG : X.A.guards = some []) (hm : X.mg x = some (.ref f)) (hk : PySem.W.keepIn X.K (.ref f) = true) (he : ED X e fe)
    (hg : Gl X x := by rfl) (hdb : (x == ("__debug__" : Str)) = false := by decide) (hst : starEach [.Starred e sp_] X.env = [(true, eval e X.env)] := by rfl) : CD X (.Call (.Name x p) [.Starred e sp_] [] pos) m (aStar fe) := by
  obtain ⟨te, pe, me⟩ := he
  refine ⟨_, ⟨fun pins s σ H Q I h => ?_⟩, me_callV (ma_star1 me)⟩
  refine wpAny_Call_Name_kw (ld_glob I hg hm ?_ hdb)
  refine PySem.W.callWith_S (h₀ := X.base) I.ok.mod.kin hk (thn (pe.run pins s σ H _ I h) fun v s1 ⟨y, H1, I1, ry, a, xs, ey, hxs, q⟩ => ?_) hst
  subst ey
  obtain rfl : v = Value.ref a := ry
  exact StX.star_any I1 hxs fun us s2 I2 rv => ⟨I2.kIn, run_v F hr hG I2 rv q⟩
end
end DL
set_option maxRecDepth 100000
set_option maxHeartbeats 2000000
/-! DL: defs with defaults; what their calls bind -/
namespace DL
open PySem PySem.Spec PyProof.Rows L2
section
variable {P : Program} {w : World} {K : PySem.W.Frag} {mg : Str → Option Value} {base : Heap}
/-- THE RULE for a def with defaults -/
theorem fn_bodyD {x qual : Str} {st : Stmt} {f : Addr} {fd : FuncData} {N ps : List Str} {k : Nat} {body : XS} {dvs : List V} {kws : List (Str × V)} (F : FunD K x qual (defArgs st) (defBody st) (defScope st) dvs kws f fd) (S : FnScope N ps (defScope st))
    (hb : ∀ (cdv : Value) (A : Around) (outer : List Env) (s : Shared) (H : Hp), Room k (A.deeper (envOfC qual (defScope st) s.heap.objs.size f cdv)) → A.guards = some [] →
      SSD (cxOf CX0 P w K mg base N qual (defScope st) f cdv A outer s H E0).nox (defBody st) body) : FnG P w K mg base (k + 1) f fd ps (runF N.length body) := by
  obtain ⟨oc, od, dV, kV, doc, pm, an, cdv, ct, osl, rfl, lk, hcd, _, _⟩ := F.ex
  refine ⟨fun A outer s H args us vs Q room hG e0 bnd rv hl hsp => ?_⟩
  obtain ⟨Z, Fr, ino, es, d, ρ', hm, hio', R0, hQ⟩ := hsp
  have kin : K.In s.heap := e0.mod.kin.keeps fun b o q => (e0.bs b o q).1
  have nolim : s.heap.NoLimit := e0.mod.nolimit.keeps fun b o q => (e0.bs b o q).1
  have nv : N.length ≥ vs.length := by
    have h1 := congrArg List.length S.pre
    rw [List.length_take] at h1
    omega
  have kinds : ∀ y ∈ ps.zip us, (defScope st).names.lookup y.1 = some .local ∨ ((defScope st).names.lookup y.1 = some .cell ∧ ((cellsFrom (s.heap.objs.size + 1) (defScope st).names []).lookup y.1).isSome = true) := by
    rintro ⟨n, v⟩ hy
    cases S.par n (List.of_mem_zip hy).1 with
    | inl q => exact .inl q
    | inr q => exact .inr ⟨q, PySem.W.cellsFrom_some _ _ _ (.inl q)⟩
  obtain ⟨t, pt, mt⟩ := hb cdv A outer s H (room.deeper _) hG
  have fin : ∀ {σ' : L2.St} {H' : Hp} {v : V} {u : Value} {s' : Shared}, L2.Inv (cxOf CX0 P w K mg base N qual (defScope st) f cdv A outer s H E0) [] σ' H' s' → RelV v u → Q v H' → CE outer P w H s Q u s' :=
    fun {σ' H' v u s'} J ru q => ⟨v, H', J.os, J.bare, J.base, J.hok, ru, q⟩
  have want : t { nx := fun _ H' => Q .non H', rt := Q } (L2.start N vs) H := by
    unfold runF at hm
    cases eb : body (es ++ List.replicate (N.length - es.length) .un) with
    | none => rw [eb] at hm; cases hm
    | some fl =>
      rw [eb] at hm
      refine mt _ Z _ H _ fl (start_rl R0 nv) eb _ ?_
      cases fl with
      | rt d1 ρ1 =>
        cases hm
        exact fun v σ' H' Z' z R r => hQ v H' Z' z (fin_rl R0 hio' z R).1 r
      | rn o1 ρ1 =>
        cases hm
        exact fun a σ' H' Z' z R r => hQ _ H' Z' z (fin_rl R0 hio' z R).1 ⟨a, rfl, r.ob, r.z, r.fr, r.h0, fun i q => r.no i ((fin_rl R0 hio' z R).2 i a q)⟩
      | nx ρ1 =>
        cases hm
        exact fun σ' H' Z' z R => hQ .non H' Z' z (fin_rl R0 hio' z R).1 .non
      | bk ρ1 => cases hm
      | ct ρ1 => cases hm
  refine codeAny_call_function room.depth (kin _ _ lk) rfl S.co S.gen rfl (PySem.W.codeRec_of kin hcd) (bnd _ _ _ _ ?_)
  refine wpAny_newFunctionEnv_cells S.kind kinds fun env he s1 xin => ?_
  subst he
  refine ⟨nolim.keeps xin.toInCall.keep, codeAny_func ?_⟩
  have I : L2.Inv (cxOf CX0 P w K mg base N qual (defScope st) f cdv A outer s H E0) [] (L2.start N vs) H s1 := inv_start S room.hd e0 hl rv xin
  refine wpAny_mono (pt.nox.run [] s1 (L2.start N vs) H _ I want) (fun fl s' hs => ?_) fun _ _ q => q
  match fl, hs with
  | .ret u, ⟨v, σ', H', J, ru, q⟩ => exact fin J ru q
  | .next, ⟨σ', H', J, q⟩ => exact fin (v := V.non) (u := Value.none) J rfl q
  | .brk, ⟨_, _, _, q⟩ => exact q.elim
  | .cont, ⟨_, _, _, q⟩ => exact q.elim
end
/-- a def with defaults as it stands behind the top -/
def DefExD (K : PySem.W.Frag) (x : Str) (st : Stmt) (dvs : List V) (kws : List (Str × V)) : Prop := ∃ (f : Addr) (oc : Value) (od an : Option Addr) (osl : Array (Option Value)) (dV kV doc pm cdv ct : Value),
  PySem.W.nsIn K mainGlobals x = some (some (.ref f)) ∧ K.lookup f = some ⟨oc, od, .func (PySem.W.fnOf x x (defArgs st) (defBody st) (defScope st) dV kV doc pm an cdv ct), osl⟩ ∧ PySem.W.codeIn K cdv x = true ∧ PySem.W.keepIn K (.ref f) = true ∧ DflV K dV dvs ∧ KwdV K kV kws
structure DefAtD (K : PySem.W.Frag) (mg : Str → Option Value) (x : Str) (st : Stmt) (dvs : List V) (kws : List (Str × V)) (f : Addr) (fd : FuncData) : Prop where
  F : FunD K x x (defArgs st) (defBody st) (defScope st) dvs kws f fd
  g : mg x = some (.ref f)
theorem def_atD {K : PySem.W.Frag} {mg : Str → Option Value} {x : Str} {st : Stmt} {dvs : List V} {kws : List (Str × V)} {h : Heap} (X : K.In h) (G : h.Ns mainGlobals mg) (e : DefExD K x st dvs kws) : ∃ f fd, DefAtD K mg x st dvs kws f fd := by
  obtain ⟨f, oc, od, an, osl, dV, kV, doc, pm, cdv, ct, h1, h2, h3, h4, h5, h6⟩ := e
  exact ⟨f, _, ⟨⟨oc, od, dV, kV, doc, pm, an, cdv, ct, osl, rfl, h2, h3, h5, h6⟩, h4⟩, PySem.W.mg_of X G h1⟩
theorem fun_d {K : PySem.W.Frag} {x qual : Str} {st : Stmt} {f : Addr} {fd : FuncData} (F : Fun K x qual st f fd) : FunD K x qual (defArgs st) (defBody st) (defScope st) [] [] f fd := by
  obtain ⟨oc, od, kV, doc, pm, an, cdv, ct, osl, rfl, lk, hcd⟩ := F.ex
  exact ⟨⟨oc, od, .none, kV, doc, pm, an, cdv, ct, osl, rfl, lk, hcd, .inl ⟨rfl, rfl⟩, .inl rfl⟩, F.kp⟩
section
variable {K : PySem.W.Frag} {x qual : Str} {params : Arguments} {body : List Stmt} {scope : Scope} {f : Addr} {fd : FuncData} {ps ks : List Str} {n : Nat} {s : Sel} {ds : List PyData} {dvs : List V} {kws : List (Str × V)}
/-- nothing lacks -/
theorem pb_all (F : FunD K x qual params body scope dvs kws f fd)
    (h : ∀ (dV kV doc pm : Value) (an : Option Addr) (cdv ct : Value) (us ws : List Value), us.length = n → ws.length = ks.length →
      ∃ zs, bindArgs (PySem.W.fnOf x qual params body scope dV kV doc pm an cdv ct) ⟨us, ks.zip ws⟩ = pure (ps.zip zs) ∧ zs.length = ps.length ∧ Pk (fun d u => RelV (cV d) u) (us ++ ws) s zs) : PB K fd ps n ks s := by
  obtain ⟨oc, od, dV, kV, doc, pm, an, cdv, ct, osl, rfl, lk, hcd, hD, hK⟩ := F.ex
  refine ⟨fun sh us ws hin h1 h2 => ?_⟩
  obtain ⟨zs, e, hl, hp⟩ := h dV kV doc pm an cdv ct us ws h1 h2
  exact ⟨zs, .of_eq e, hl, hp⟩
/-- a plain def -/
theorem pb_none (F : FunD K x qual params body scope [] kws f fd)
    (h : ∀ (kV doc pm : Value) (an : Option Addr) (cdv ct : Value) (us ws : List Value), us.length = n → ws.length = ks.length →
      ∃ zs, bindArgs (PySem.W.fnOf x qual params body scope .none kV doc pm an cdv ct) ⟨us, ks.zip ws⟩ = pure (ps.zip zs) ∧ zs.length = ps.length ∧ Pk (fun d u => RelV (cV d) u) (us ++ ws) s zs) : PB K fd ps n ks s := by
  obtain ⟨oc, od, dV, kV, doc, pm, an, cdv, ct, osl, rfl, lk, hcd, hD, hK⟩ := F.ex
  rcases hD with ⟨_, rfl⟩ | ⟨e, _⟩
  · refine ⟨fun sh us ws hin h1 h2 => ?_⟩
    obtain ⟨zs, e, hl, hp⟩ := h kV doc pm an cdv ct us ws h1 h2
    exact ⟨zs, .of_eq e, hl, hp⟩
  · exact absurd rfl e
/-- defaults fill up -/
theorem pb_dfl (F : FunD K x qual params body scope dvs kws f fd) (hd : dvs ≠ [])
    (h : ∀ (T : Addr) (kV doc pm : Value) (an : Option Addr) (cdv ct : Value) (us ws its : List Value), us.length = n → ws.length = ks.length → Vals dvs its →
      ∃ k zs, bindArgs (PySem.W.fnOf x qual params body scope (.ref T) kV doc pm an cdv ct) ⟨us, ks.zip ws⟩ = seqItems? (.ref T) >>= k ∧ k (some its.toArray) = pure (ps.zip zs) ∧ zs.length = ps.length ∧ Pk (fun d u => RelV (cV d) u) (us ++ ws) s zs) : PB K fd ps n ks s := by
  obtain ⟨oc, od, dV, kV, doc, pm, an, cdv, ct, osl, rfl, lk, hcd, hD, hK⟩ := F.ex
  rcases hD with ⟨e, _⟩ | ⟨_, T, o, its, m, rfl, lT, oT, rT⟩
  · exact absurd e hd
  · refine ⟨fun sh us ws hin h1 h2 => ?_⟩
    obtain ⟨k, zs, e1, e2, hl, hp⟩ := h T kV doc pm an cdv ct us ws its h1 h2 rT
    refine ⟨zs, BindsTo.of_looks fun M => ?_, hl, hp⟩
    rw [e1]
    exact looks_items hin lT oT (.of_pure e2)
/-- keyword-only defaults fill up (ms: those that lack) -/
theorem pb_kwd (F : FunD K x qual params body scope [] kws f fd) (ms : List (Str × V)) (hms : ∀ q ∈ ms, q ∈ kws) (hk : kws ≠ [])
    (h : ∀ (D : Addr) (doc pm : Value) (an : Option Addr) (cdv ct : Value) (us ws xs : List Value), us.length = n → ws.length = ks.length → Vals (ms.map (·.2)) xs →
      ∃ zs, KwChain D ((ms.map (·.1)).zip xs) (bindArgs (PySem.W.fnOf x qual params body scope .none (.ref D) doc pm an cdv ct) ⟨us, ks.zip ws⟩) (ps.zip zs) ∧ zs.length = ps.length ∧ Pk (fun d u => RelV (cV d) u) (us ++ ws) s zs) : PB K fd ps n ks s := by
  obtain ⟨oc, od, dV, kV, doc, pm, an, cdv, ct, osl, rfl, lk, hcd, hD, hK⟩ := F.ex
  rcases hD with ⟨_, rfl⟩ | ⟨e, _⟩
  · rcases hK with e | ⟨D, rfl, hq⟩
    · exact absurd e hk
    · obtain ⟨xs, hl, rk, hxs⟩ := kwd_vals (ms := ms) fun q hq' => hq q (hms q hq')
      refine ⟨fun sh us ws hin h1 h2 => ?_⟩
      obtain ⟨zs, e1, hl', hp⟩ := h D doc pm an cdv ct us ws xs h1 h2 rk
      exact ⟨zs, BindsTo.of_looks fun M => KwChain.looks hin hxs e1, hl', hp⟩
  · exact absurd rfl e
end
/-- a def f(*v) -/
structure DefAtV (K : PySem.W.Frag) (mg : Str → Option Value) (x : Str) (st : Stmt) (pv : Str) (f : Addr) (fd : FuncData) : Prop where
  F : Fun K x x st f fd
  bv : ∀ us : List Value, bindArgs fd ⟨us, []⟩ = (newTuple us >>= fun t => pure [(pv, t)])
  g : mg x = some (.ref f)
theorem def_atV {K : PySem.W.Frag} {mg : Str → Option Value} {x pv : Str} {st : Stmt} {h : Heap} (X : K.In h) (G : h.Ns mainGlobals mg) (e : DefEx K x st)
    (hb : ∀ (kV doc pm : Value) (an : Option Addr) (cdv ct : Value) (us : List Value), bindArgs (PySem.W.fnOf x x (defArgs st) (defBody st) (defScope st) .none kV doc pm an cdv ct) ⟨us, []⟩ = (newTuple us >>= fun t => pure [(pv, t)])) :
    ∃ f fd, DefAtV K mg x st pv f fd := by
  obtain ⟨f, oc, od, an, osl, kV, doc, pm, cdv, ct, h1, h2, h3, h4⟩ := e
  exact ⟨f, _, fun_mk h2 h3 h4, hb kV doc pm an cdv ct, PySem.W.mg_of X G h1⟩
end DL
set_option maxRecDepth 100000
set_option maxHeartbeats 2000000
/-! DL: xs[::k] of a list, k a constant above 0 -/
namespace DL
open PySem PySem.Spec PyProof.Rows L2
def stepL {α : Type} (k : Int) (xs : List α) : List α := (sliceRange 0 xs.length k).filterMap (xs[·]?)
theorem pick_step (items : List Value) {k : Int} (hk : 0 < k) : slicePick items.toArray none none (some k) = (stepL k items).toArray := by
  unfold slicePick stepL
  have e : sliceBounds none none (some k) items.toArray.size = (0, (items.length : Int), k) := by
    have hk' : k > 0 := hk
    simp [sliceBounds, hk']
  rw [e]
  congr 2
  funext i
  simp
theorem RpA.picks {K : PySem.W.Frag} {Z : Hp} {vs : List V} {ds : List PyData} (r : RpA K Z vs ds) : ∀ L : List Nat, RpA K Z (L.filterMap (vs[·]?)) (L.filterMap (ds[·]?))
  | [] => .nil
  | i :: L => by
    have ih := RpA.picks r L
    cases h : ds[i]? with
    | none =>
      have h' : vs[i]? = none := by
        rw [List.getElem?_eq_none_iff] at h ⊢
        rw [r.length]; exact h
      simp only [List.filterMap_cons, h, h']
      exact ih
    | some d =>
      obtain ⟨v, h', rv⟩ := r.get h
      simp only [List.filterMap_cons, h, h']
      exact .cons rv ih
theorem vals_picks {vs : List V} {us : List Value} (r : Vals vs us) : ∀ L : List Nat, Vals (L.filterMap (vs[·]?)) (L.filterMap (us[·]?))
  | [] => .nil
  | i :: L => by
    have ih := vals_picks r L
    cases h : us[i]? with
    | none =>
      have h' : vs[i]? = none := by
        rw [List.getElem?_eq_none_iff] at h ⊢
        rw [r.length]; exact h
      simp only [List.filterMap_cons, h, h']
      exact ih
    | some d =>
      obtain ⟨v, h', rv⟩ := vals_get r h
      simp only [List.filterMap_cons, h, h']
      exact .cons rv ih
def tStepL (K : PySem.W.Frag) (k : Int) (te : TE) : TE := fun σ H Q => te σ H fun x H1 => ∃ a xs, x = .ref a ∧ SqL K H1 a xs ∧ (stepL k xs).length ≤ sizeLine ∧ ∀ p, H1 p = none → Q (.ref p) (upd H1 p (.lst (stepL k xs)))
theorem pe_stepL {X : Cx} {e : Expr} {te : TE} {k : Int} {j} {p2 p3 pos : Pos} (hk : 0 < k) (he : PE X e te) : PE X (.Subscript e (.Slice none none (some (.Constant (.int k) j p2)) p3) pos) (tStepL X.K k te) := by
  refine ⟨fun pins s σ H Q I h => Subscript_ (thn (he.run pins s σ H _ I h) fun v s1 ⟨x, H1, I1, r1, a, xs, ex, hx, hz2, q⟩ => ?_)⟩
  subst ex
  cases r1
  have st : PO X (some (.Constant (.int k) j p2)) (tPart (tC (.int k))) := po_some pe_int
  refine wpAny_Slice (thn (po_none.run pins s1 σ H1 (fun o H2 => o = none ∧ H2 = H1) I1 ⟨rfl, rfl⟩) fun vl s2 ⟨l, H2, I2, pl, el, e2⟩ => ?_)
  subst el e2
  refine thn (po_none.run pins s2 σ H2 (fun o H3 => o = none ∧ H3 = H2) I2 ⟨rfl, rfl⟩) fun vu s3 ⟨u, H3, I3, pu, eu, e3⟩ => ?_
  subst eu e3
  refine thn (st.run pins s3 σ H3 (fun o H4 => o = some k ∧ H4 = H3) I3 ⟨k, rfl, rfl, rfl⟩) fun vs s4 ⟨o, H4, I4, ps, eo, e4⟩ => ?_
  subst eo e4
  have I5 : L2.Inv X pins σ H4 { s4 with heap := s4.heap.push { cls := .type "slice", data := .fields #[vl, vu, vs] } } := I4.kept (t' := s4.toks) fun b ob q => Heap.get?_push_of_some _ q
  obtain ⟨its, r, ht, hz⟩ := I5.list hx
  have hlen := r.length
  show wpAny (model X.prog X.w) X.A (subscriptTail e (.Slice none none (some (.Constant (.int k) j p2)) p3) (.ref a) (.ref s4.heap.objs.size)) (EP X pins σ Q) X.xe { s4 with heap := s4.heap.push { cls := .type "slice", data := .fields #[vl, vu, vs] } }
  refine tail_any (ops := [.ref a, .ref s4.heap.objs.size]) ht.isList.typeIs (PySem.slot_list_getitem.lookup) ?_ (by with_unfolding_all rfl)
  refine wpAny_getItem_list_slice ht.isList (Heap.IsSliceOf.new _ vl vu vs) pl pu ps (by intro q; cases q; omega) ?_ (by rw [List.size_toArray]; omega)
  rw [pick_step its hk]
  refine ⟨.ref _, _, I5.laid (t' := s4.toks) (o := .lst (stepL k xs)) (fun b ob q => Heap.get?_push_of_some _ q) (Nat.le_refl _) ?_, rfl, q _ (I5.hok.fresh (Nat.le_refl _))⟩
  refine ⟨hz2, _, 0, ?_, Heap.get?_push_size _ rfl⟩
  have e : sliceRange 0 (its.length : Int) k = sliceRange 0 (xs.length : Int) k := by rw [hlen]
  unfold stepL
  rw [e]
  exact vals_picks r _
def stepD (k : Int) : PyData → Option PyData
  | .list xs => if (stepL k xs).length ≤ sizeLine then some (.list (stepL k xs)) else none
  | _ => none
theorem ed_step {X : Cx} {e : Expr} {f : XE} {k : Int} {j} {p2 p3 pos : Pos} (he : ED X e f) (hk : 0 < k := by decide) : ED X (.Subscript e (.Slice none none (some (.Constant (.int k) j p2)) p3) pos) (x1 (stepD k) f) := by
  obtain ⟨t, p, m⟩ := he
  refine ⟨_, pe_stepL hk p, fun Φ Z σ H ρ d ρ' R q Q kk => ?_⟩
  unfold x1 at q
  cases e1 : f ρ with
  | none => rw [e1] at q; cases q
  | some w =>
    rw [e1, Option.bind_some] at q
    cases e2 : stepD k w.1 with
    | none => rw [e2] at q; cases q
    | some z =>
      rw [e2] at q
      cases q
      unfold stepD at e2
      split at e2
      · rename_i xs ex
        split at e2
        · rename_i hle
          cases e2
          refine m Φ Z σ H ρ w.1 w.2 R e1 _ fun v H1 Z1 z1 R1 r1 => ?_
          rw [ex] at r1
          obtain ⟨a, vs, rfl, h, rr⟩ := Rb.lst R1.zH (.inl r1)
          have hl : (vs.length : Int) = (xs.length : Int) := by rw [rr.length]
          have rs : RpA X.K Z1 (stepL k vs) (stepL k xs) := by
            unfold stepL
            rw [hl]
            exact rr.picks _
          exact ⟨a, vs, rfl, SqL.of h, by rw [rs.length]; exact hle, fun p hp => ends_lst R1 rs (fun v H' Z' z' R' r' => kk v H' Z' (z1.trans z') R' r') hp⟩
        · cases e2
      · cases e2
end DL
set_option maxRecDepth 100000
set_option maxHeartbeats 2000000
/-! DL: tuples of the module's top -/
namespace DL
open PySem PySem.Spec PyProof.Rows L2
mutual
inductive KT (K : PySem.W.Frag) : Value → PyData → Prop
  | non : KT K .none .none
  | bl (b : Bool) : KT K (.bool b) (.bool b)
  | int (i : Int) (t : Tok) : KT K (.int i t) (.int i)
  | str (x : Str) (t : Tok) : KT K (.str x t) (.str x)
  | tup {a : Addr} {o : Obj} {its : Array Value} {n : Nat} {ds : List PyData} : K.lookup a = some o → o.cls = .type "tuple" → o.data = .seq its n → its.size ≤ sizeLine → KTA K its.toList ds → kOk ds = true → KT K (.ref a) (.tuple ds)
inductive KTA (K : PySem.W.Frag) : List Value → List PyData → Prop
  | nil : KTA K [] []
  | cons {u : Value} {us : List Value} {d : PyData} {ds : List PyData} : KT K u d → KTA K us ds → KTA K (u :: us) (d :: ds)
end
mutual
theorem KT.rp {K : PySem.W.Frag} : ∀ {u : Value} {d : PyData}, KT K u d → ∃ v, RelV v u ∧ ∀ Z : Hp, Rp K Z v d
  | _, _, .non => ⟨.non, rfl, fun _ => .non⟩
  | _, _, .bl b => ⟨.bl b, rfl, fun _ => .bl b⟩
  | _, _, .int i t => ⟨.int i, ⟨t, rfl⟩, fun _ => .int i⟩
  | _, _, .str x t => ⟨.str x, ⟨t, rfl⟩, fun _ => .str x⟩
  | _, _, .tup (a := a) (o := o) (its := its) (n := n) h1 h2 h3 h4 h5 h6 => by
    obtain ⟨vs, r, q⟩ := KTA.rp h5
    exact ⟨.ref a, rfl, fun Z => .tuk (.inr ⟨o, its, n, h1, h2, h3, h4, r⟩) h6 (q Z)⟩
theorem KTA.rp {K : PySem.W.Frag} : ∀ {us : List Value} {ds : List PyData}, KTA K us ds → ∃ vs, Vals vs us ∧ ∀ Z : Hp, RpA K Z vs ds
  | _, _, .nil => ⟨[], .nil, fun _ => .nil⟩
  | _, _, .cons a b => by
    obtain ⟨v, r, q⟩ := KT.rp a
    obtain ⟨vs, rs, qs⟩ := KTA.rp b
    exact ⟨v :: vs, .cons r rs, fun Z => .cons (q Z) (qs Z)⟩
end
def ConT (K : PySem.W.Frag) (x : Str) (d : PyData) : Prop := ∃ u, PySem.W.nsIn K mainGlobals x = some (some u) ∧ KT K u d
def ConV (K : PySem.W.Frag) (mg : Str → Option Value) (x : Str) (d : PyData) : Prop := ∃ v u, mg x = some u ∧ RelV v u ∧ ∀ Z : Hp, Rp K Z v d
theorem con_atT {K : PySem.W.Frag} {mg : Str → Option Value} {x : Str} {d : PyData} {h : Heap} (X : K.In h) (G : h.Ns mainGlobals mg) (e : ConT K x d) : ConV K mg x d := by
  obtain ⟨u, h1, h2⟩ := e
  obtain ⟨v, r, q⟩ := h2.rp
  exact ⟨v, u, PySem.W.mg_of X G h1, r, q⟩
theorem ed_globT {X : Cx} {pos : Pos} {x : Str} {d : PyData} (h : ConV X.K X.mg x d) (hg : Gl X x := by rfl) (hd : (x == ("__debug__" : Str)) = false := by decide) : ED X (.Name x pos) (xC d) := by
  obtain ⟨v, u, hm, hu, r⟩ := h
  exact ed_glob ⟨u, hm, hu⟩ r hg hd
end DL
set_option maxRecDepth 100000
set_option maxHeartbeats 2000000
/-! DL: a, b = x, y where x, y may be new objects -/
namespace DL
open PySem PySem.Spec PyProof.Rows L2
abbrev XR := Nv → Option (Rv × Nv)
def RD (X : Cx) (e : Expr) (f : XR) : Prop := ∃ t, PE X e t ∧ MC X.K t f
def rD (f : XE) : XR := fun ρ => (f ρ).map fun p => (.d p.1, p.2)
def rN (n : XN) : XR := fun ρ => (n ρ).map fun p => (.n p.1, p.2)
theorem ED.rd {X : Cx} {e : Expr} {f : XE} (h : ED X e f) : RD X e (rD f) := by
  obtain ⟨t, p, m⟩ := h
  refine ⟨t, p, fun Φ Z σ H ρ d ρ' R q Q k => ?_⟩
  unfold rD at q
  cases e1 : f ρ with
  | none => rw [e1] at q; cases q
  | some w => rw [e1] at q; cases q; exact m Φ Z σ H ρ _ _ R e1 Q k
theorem ND.rd {X : Cx} {e : Expr} {n : XN} (h : ND X e n) : RD X e (rN n) := by
  obtain ⟨t, p, m⟩ := h
  refine ⟨t, p, fun Φ Z σ H ρ d ρ' R q Q k => ?_⟩
  unfold rN at q
  cases e1 : n ρ with
  | none => rw [e1] at q; cases q
  | some w => rw [e1] at q; cases q; exact m Φ Z σ H ρ _ _ R e1 Q fun a H' Z' z R' W => k _ H' Z' z R' ⟨a, rfl, W⟩
def Rv.new : Rv → Prop
  | .d _ => False
  | .n _ => True
section
variable {K : PySem.W.Frag}
/-- a new object is put aside while something else is read -/
theorem park {Φ : Fx} {Z : Hp} {σ : L2.St} {H : Hp} {ρ : Nv} {v : V} {r : Rv} (R : Rl K Φ Z σ H ρ) (W : RvOk K Φ Z σ H ρ v r) :
    ∃ Φ', Rl K Φ' Z σ H ρ ∧ ∀ Z2 σ2 H2 ρ2, Same Z Z2 → Rl K Φ' Z2 σ2 H2 ρ2 → Rl K Φ Z2 σ2 H2 ρ2 ∧ RvOk K Φ Z2 σ2 H2 ρ2 v r ∧
      ∀ u s, RvOk K Φ' Z2 σ2 H2 ρ2 u s → RvOk K Φ Z2 σ2 H2 ρ2 u s ∧ (r.new → s.new → u ≠ v) := by
  cases r with
  | d x => exact ⟨Φ, R, fun Z2 σ2 H2 ρ2 z R2 => ⟨R2, Rp.mono z W, fun u s q => ⟨q, fun h => h.elim⟩⟩⟩
  | n o =>
    obtain ⟨a, rfl, W⟩ := W
    obtain ⟨w, hw, hmut⟩ := W.ob.some
    refine ⟨⟨Φ.F0, Φ.H0, upd Φ.Fr a w, Φ.ino⟩, ?_, fun Z2 σ2 H2 ρ2 z R2 => ?_⟩
    · refine ⟨R.len, R.zH, fun b u e nt => ?_, R.f0, fun b u e => ?_, R.dom, R.inj, fun i b q => ?_, R.dat, R.scr, R.own, R.loc, R.ino, R.io⟩
      · rcases R.zN b u e nt with q | ⟨q1, q2⟩
        · exact .inl q
        · refine .inr ⟨q1, ?_⟩
          show upd Φ.Fr a w b = none
          have hb : b ≠ a := fun hb => by subst hb; rw [W.z] at e; cases e
          rw [upd_ne hb]; exact q2
      · have e' : upd Φ.Fr a w b = some u := e
        by_cases hb : b = a
        · subst hb; rw [upd_same] at e'; rw [hw]; exact e'
        · rw [upd_ne hb] at e'; exact R.fr b u e'
      · obtain ⟨q1, q2⟩ := R.sep i b q
        refine ⟨q1, ?_⟩
        show upd Φ.Fr a w b = none
        have hb : b ≠ a := fun hb => by subst hb; exact W.no i q
        rw [upd_ne hb]; exact q2
    · have fr2 : ∀ b, upd Φ.Fr a w b = none → b ≠ a ∧ Φ.Fr b = none := fun b e => by
        by_cases hb : b = a
        · subst hb; rw [upd_same] at e; cases e
        · rw [upd_ne hb] at e; exact ⟨hb, e⟩
      have ha2 : H2 a = some w := R2.fr a w (show upd Φ.Fr a w a = some w from upd_same)
      have za : Z2 a = none := by
        cases q : Z2 a with
        | none => rfl
        | some u =>
          rcases R2.zN a u q (fun xs e => by have h3 := R2.zH a u q; rw [ha2] at h3; cases h3; rw [e] at hmut; exact hmut) with q | ⟨_, q2⟩
          · have := R2.f0 a W.h0
            rw [show Φ.F0 a = some u from q] at this
            cases this
          · exact absurd rfl (fr2 a q2).1
      have Rb : Rl K Φ Z2 σ2 H2 ρ2 := by
        refine ⟨R2.len, R2.zH, fun b u e nt => ?_, R2.f0, fun b u e => ?_, R2.dom, R2.inj, fun i b q => ?_, R2.dat, R2.scr, R2.own, R2.loc, R2.ino, R2.io⟩
        · rcases R2.zN b u e nt with q | ⟨q1, q2⟩
          · exact .inl q
          · exact .inr ⟨q1, (fr2 b q2).2⟩
        · refine R2.fr b u ?_
          show upd Φ.Fr a w b = some u
          have hb : b ≠ a := fun hb => by subst hb; rw [W.fr] at e; cases e
          rw [upd_ne hb]; exact e
        · obtain ⟨q1, q2⟩ := R2.sep i b q
          exact ⟨q1, (fr2 b q2).2⟩
      have noa : ∀ i, ¬ AtS ρ2 σ2 i a := fun i q => absurd rfl (fr2 a (R2.sep i a q).2).1
      refine ⟨Rb, ⟨a, rfl, W.ob.move z (by rw [ha2, hw]), za, W.fr, W.h0, noa⟩, fun u s q => ?_⟩
      cases s with
      | d x => exact ⟨q, fun _ h => h.elim⟩
      | n o' =>
        obtain ⟨b, rfl, V⟩ := q
        obtain ⟨hb, hb2⟩ := fr2 b V.fr
        exact ⟨⟨b, rfl, V.ob, V.z, hb2, V.h0, V.no⟩, fun _ _ e => hb (by cases e; rfl)⟩
def putR (ρ : Nv) (i : Nat) : Rv → Option Nv
  | .d x => put ρ i x
  | .n o => if free ρ i = true then some (ρ.set i (.own o false)) else none
theorem putR_rl {Φ : Fx} {Z : Hp} {σ : L2.St} {H : Hp} {ρ ρ' : Nv} {i : Nat} {v : V} {r : Rv} (R : Rl K Φ Z σ H ρ) (W : RvOk K Φ Z σ H ρ v r) (h : putR ρ i r = some ρ') :
    Rl K Φ Z (σ.set i (some v)) H ρ' ∧ ∀ u s, RvOk K Φ Z σ H ρ u s → (r.new → s.new → u ≠ v) → RvOk K Φ Z (σ.set i (some v)) H ρ' u s := by
  have fwd : ∀ (hi : i < ρ.length) (e : EV), ρ' = ρ.set i e → ∀ b j, AtS ρ' (σ.set i (some v)) j b → (j = i ∧ v = .ref b ∧ ∃ o io, e = .own o io) ∨ AtS ρ σ j b := by
    intro hi e he b j
    rintro ⟨⟨o, io, q⟩, s⟩
    subst he
    by_cases hj : i = j
    · subst hj
      have hs : i < σ.length := R.len ▸ hi
      rw [List.getElem?_set_self hi] at q
      rw [List.getElem?_set_self hs] at s
      cases q
      cases s
      exact .inl ⟨rfl, rfl, _, _, rfl⟩
    · rw [List.getElem?_set_ne hj] at q s
      exact .inr ⟨⟨o, io, q⟩, s⟩
  cases r with
  | d x =>
    have h' : put ρ i x = some ρ' := h
    refine ⟨put_rl R W h', fun u s q _ => ?_⟩
    cases s with
    | d y => exact q
    | n o =>
      obtain ⟨b, rfl, V⟩ := q
      refine ⟨b, rfl, V.ob, V.z, V.fr, V.h0, fun j q => ?_⟩
      have h'' : (if free ρ i = true then some (ρ.set i (.d x)) else none) = some ρ' := h'
      by_cases hf : free ρ i = true
      · rw [if_pos hf] at h''
        rcases fwd (free_lt hf).1 (.d x) (Option.some.inj h'').symm b j q with ⟨_, _, _, _, e⟩ | q
        · cases e
        · exact V.no j q
      · rw [if_neg hf] at h''
        cases h''
  | n o =>
    obtain ⟨a, rfl, W⟩ := W
    have h'' : (if free ρ i = true then some (ρ.set i (.own o false)) else none) = some ρ' := h
    by_cases hf : free ρ i = true
    · rw [if_pos hf] at h''
      obtain ⟨h1, h2⟩ := free_lt hf
      obtain rfl := Option.some.inj h''
      refine ⟨R.hold h1 h2 W.ob W.z W.fr W.h0 W.no, fun u s q hne => ?_⟩
      cases s with
      | d y => exact q
      | n o' =>
        obtain ⟨b, rfl, V⟩ := q
        refine ⟨b, rfl, V.ob, V.z, V.fr, V.h0, fun j q => ?_⟩
        rcases fwd h1 _ rfl b j q with ⟨_, e, _⟩ | q
        · exact hne trivial trivial e.symm
        · exact V.no j q
    · rw [if_neg hf] at h''
      cases h''
end
def sParR (i j : Nat) (f g : XR) : XS := fun ρ => (f ρ).bind fun p => (g p.2).bind fun q => (putR q.2 i p.1).bind fun ρ1 => (putR ρ1 j q.1).map .nx
theorem sd_parR {X : Cx} {pos : Pos} {i j : Nat} {x y : Str} {a b : Expr} {fa fb : XR} {px py pt : Pos} {kt k2 pt2} (hc : X.calm = true) (hN : X.N.Nodup) (ha : RD X a fa) (hb : RD X b fb) (hi : X.N[i]? = some x := by rfl) (hj : X.N[j]? = some y := by rfl) (hij : i ≠ j := by decide)
    (hx : X.env.scope.names.lookup x = some .local := by rfl) (hy : X.env.scope.names.lookup y = some .local := by rfl)
    (hw : swappedStores [.Tuple [.Name x px, .Name y py] kt pt] (.Tuple [a, b] k2 pt2) X.env = pure (some [x, y]) := by rfl)
    (hs : swapsWithSole [.Tuple [.Name x px, .Name y py] kt pt] (.Tuple [a, b] k2 pt2) pos.line X.env = pure false := by rfl)
    (h1 : starEach [a, b] X.env = (false, eval a X.env) :: starEach [b] X.env := by rfl) (h2 : starEach [b] X.env = (false, eval b X.env) :: starEach [] X.env := by rfl) :
    SD X (.Assign [.Tuple [.Name x px, .Name y py] kt pt] (.Tuple [a, b] k2 pt2) pos) (sParR i j fa fb) := by
  obtain ⟨t, p, m⟩ := ha
  obtain ⟨t2, p2, m2⟩ := hb
  refine ⟨_, ps_par hc hN hi hj hij hx hy (pa_cons p (pa_cons p2 pa_nil h2) h1) hw hs, fun Φ Z σ H ρ r R q D k => ?_⟩
  unfold sParR at q
  cases e1 : fa ρ with
  | none => rw [e1] at q; cases q
  | some w =>
    rw [e1, Option.bind_some] at q
    cases e2 : fb w.2 with
    | none => rw [e2] at q; cases q
    | some u =>
      rw [e2, Option.bind_some] at q
      cases e3 : putR u.2 i w.1 with
      | none => rw [e3] at q; cases q
      | some ρ1 =>
        rw [e3, Option.bind_some] at q
        cases e4 : putR ρ1 j u.1 with
        | none => rw [e4] at q; cases q
        | some ρ2 =>
          rw [e4] at q
          cases q
          refine m Φ Z σ H ρ w.1 w.2 R e1 _ fun v H1 Z1 z1 R1 r1 => ?_
          obtain ⟨Φ1, P1, B1⟩ := park R1 r1
          refine m2 Φ1 Z1 σ H1 w.2 u.1 u.2 P1 e2 _ fun v2 H2 Z2 z2 R2 r2 => ?_
          obtain ⟨R3, r3, B⟩ := B1 Z2 σ H2 u.2 z2 R2
          obtain ⟨r4, ne⟩ := B v2 u.1 r2
          obtain ⟨R5, C⟩ := putR_rl R3 r3 e3
          exact ⟨v, v2, rfl, k _ H2 Z2 (z1.trans z2) (putR_rl R5 (C v2 u.1 r4 ne) e4).1⟩
def sParR3 (i j l : Nat) (f g h : XR) : XS := fun ρ => (f ρ).bind fun p => (g p.2).bind fun q => (h q.2).bind fun s => (putR s.2 i p.1).bind fun ρ1 => (putR ρ1 j q.1).bind fun ρ2 => (putR ρ2 l s.1).map .nx
theorem sd_parR3 {X : Cx} {pos : Pos} {i j l : Nat} {x y z : Str} {a b c : Expr} {fa fb fc : XR} {px py pz pt : Pos} {kt k2 pt2} (hc : X.calm = true) (hN : X.N.Nodup) (ha : RD X a fa) (hb : RD X b fb) (hc' : RD X c fc) (hi : X.N[i]? = some x := by rfl) (hj : X.N[j]? = some y := by rfl) (hl : X.N[l]? = some z := by rfl)
    (hij : i ≠ j := by decide) (hil : i ≠ l := by decide) (hjl : j ≠ l := by decide)
    (hx : X.env.scope.names.lookup x = some .local := by rfl) (hy : X.env.scope.names.lookup y = some .local := by rfl) (hz : X.env.scope.names.lookup z = some .local := by rfl)
    (hw : swappedStores [.Tuple [.Name x px, .Name y py, .Name z pz] kt pt] (.Tuple [a, b, c] k2 pt2) X.env = pure (some [x, y, z]) := by rfl)
    (hs : swapsWithSole [.Tuple [.Name x px, .Name y py, .Name z pz] kt pt] (.Tuple [a, b, c] k2 pt2) pos.line X.env = pure false := by rfl)
    (h1 : starEach [a, b, c] X.env = (false, eval a X.env) :: starEach [b, c] X.env := by rfl) (h2 : starEach [b, c] X.env = (false, eval b X.env) :: starEach [c] X.env := by rfl) (h3 : starEach [c] X.env = (false, eval c X.env) :: starEach [] X.env := by rfl) :
    SD X (.Assign [.Tuple [.Name x px, .Name y py, .Name z pz] kt pt] (.Tuple [a, b, c] k2 pt2) pos) (sParR3 i j l fa fb fc) := by
  obtain ⟨t, p, m⟩ := ha
  obtain ⟨t2, p2, m2⟩ := hb
  obtain ⟨t3, p3, m3⟩ := hc'
  refine ⟨_, ps_par3 hc hN hi hj hl hij hil hjl hx hy hz (pa_cons p (pa_cons p2 (pa_cons p3 pa_nil h3) h2) h1) hw hs, fun Φ Z σ H ρ r R q D k => ?_⟩
  unfold sParR3 at q
  cases e1 : fa ρ with
  | none => rw [e1] at q; cases q
  | some w =>
    rw [e1, Option.bind_some] at q
    cases e2 : fb w.2 with
    | none => rw [e2] at q; cases q
    | some u =>
      rw [e2, Option.bind_some] at q
      cases e2' : fc u.2 with
      | none => rw [e2'] at q; cases q
      | some s =>
        rw [e2', Option.bind_some] at q
        cases e3 : putR s.2 i w.1 with
        | none => rw [e3] at q; cases q
        | some ρ1 =>
          rw [e3, Option.bind_some] at q
          cases e4 : putR ρ1 j u.1 with
          | none => rw [e4] at q; cases q
          | some ρ2 =>
            rw [e4, Option.bind_some] at q
            cases e5 : putR ρ2 l s.1 with
            | none => rw [e5] at q; cases q
            | some ρ3 =>
              rw [e5] at q
              cases q
              refine m Φ Z σ H ρ w.1 w.2 R e1 _ fun v H1 Z1 z1 R1 r1 => ?_
              obtain ⟨Φ1, P1, B1⟩ := park R1 r1
              refine m2 Φ1 Z1 σ H1 w.2 u.1 u.2 P1 e2 _ fun v2 H2 Z2 z2 R2 r2 => ?_
              obtain ⟨Φ2, P2, B2⟩ := park R2 r2
              refine m3 Φ2 Z2 σ H2 u.2 s.1 s.2 P2 e2' _ fun v3 H3 Z3 z3 R3 r3 => ?_
              -- under Φ1
              obtain ⟨S1, s2, C2⟩ := B2 Z3 σ H3 s.2 z3 R3
              obtain ⟨s3, n32⟩ := C2 v3 s.1 r3
              -- under Φ
              obtain ⟨T1, t1, D1⟩ := B1 Z3 σ H3 s.2 (z2.trans z3) S1
              obtain ⟨t2', n21⟩ := D1 v2 u.1 s2
              obtain ⟨t3', n31⟩ := D1 v3 s.1 s3
              obtain ⟨R5, E1⟩ := putR_rl T1 t1 e3
              have a2 := E1 v2 u.1 t2' n21
              have a3 := E1 v3 s.1 t3' n31
              obtain ⟨R6, E2⟩ := putR_rl R5 a2 e4
              have b3 := E2 v3 s.1 a3 n32
              exact ⟨v, v2, v3, rfl, k _ H3 Z3 ((z1.trans z2).trans z3) (putR_rl R6 b3 e5).1⟩
end DL
set_option maxRecDepth 100000
set_option maxHeartbeats 2000000
/-! DL: zip, enumerate; an own object handed out -/
namespace DL
open PySem PySem.Spec PyProof.Rows L2 RZ
/-- the own object of slot i is given away -/
def nMove (i : Nat) : XN := fun ρ => match ρ[i]? with
  | some (.own o false) => some (o, ρ.set i .un)
  | _ => none
theorem nd_move {X : Cx} {pos : Pos} (i : Nat) {x : Str} (hN : X.N[i]? = some x := by rfl) (hv : Vis X.env.scope x := by first | exact Or.inl rfl | exact Or.inr (Or.inl rfl) | exact Or.inr (Or.inr rfl)) (hd : (x == ("__debug__" : Str)) = false := by decide)
    (hcd : (x == ("__classdict__" : Str)) = false := by decide) : ND X (.Name x pos) (nMove i) := by
  refine ⟨tVar i, pe_var hN hv hd hcd, fun Φ Z σ H ρ o ρ' R q Q k => ?_⟩
  unfold nMove at q
  split at q
  · rename_i o' e
    cases q
    obtain ⟨a, s, ob⟩ := R.own _ _ _ e
    have ai : AtS ρ σ i a := ⟨⟨o, false, e⟩, s⟩
    obtain ⟨hz, hf⟩ := R.sep i a ai
    refine ⟨_, s, k a H Z (Same.refl Z) (R.drop fun o' q => by rw [e] at q; cases q) ⟨ob, hz, hf, R.loc i o a e s, ?_⟩⟩
    rintro j ⟨⟨o2, io, q⟩, s2⟩
    have hi : i < ρ.length := (List.getElem?_eq_some_iff.mp e).1
    by_cases hj : i = j
    · subst hj
      rw [List.getElem?_set_self hi] at q
      cases q
    · rw [List.getElem?_set_ne hj] at q
      exact hj (R.inj i j a ai ⟨⟨o2, io, q⟩, s2⟩)
  · cases q

/-! ### zip -/
def zipD (ds es : List PyData) : List PyData := List.zipWith (fun x y => PyData.tuple [x, y]) ds es
theorem zipD_get {ds es : List PyData} {i : Nat} {x y : PyData} (h1 : ds[i]? = some x) (h2 : es[i]? = some y) : (zipD ds es)[i]? = some (.tuple [x, y]) := by
  unfold zipD
  rw [List.getElem?_zipWith, h1, h2]
section
variable {K : PySem.W.Frag} {Z : Hp} {a b : Addr} {xs ys : List V} {ds es : List PyData}
theorem yld_zip (ha : Z a = some (.lst xs)) (hb : Z b = some (.lst ys)) (rx : RpA K Z xs ds) (ry : RpA K Z ys es) : Yld K Z (Itz K a b) (zipD ds es) := by
  have hl : (zipD ds es).length = min ds.length es.length := List.length_zipWith
  refine ⟨fun i H z hi => ?_, fun i H z hi => ⟨xs, ys, SqL.of (z _ _ ha), SqL.of (z _ _ hb), by rw [rx.length, ry.length]; omega⟩, fun i H x H' Φ σ ρ Z2 hi z R y => ?_⟩
  · obtain ⟨v, hv, _⟩ := rx.get (List.getElem?_eq_getElem (show i < ds.length by omega))
    obtain ⟨w, hw, _⟩ := ry.get (List.getElem?_eq_getElem (show i < es.length by omega))
    exact ⟨xs, ys, v, w, SqL.of (z _ _ ha), SqL.of (z _ _ hb), hv, hw⟩
  · obtain ⟨T, v, w, rfl, hT, rfl, y1, y2⟩ := y
    have hx := y1 xs (SqL.of (R.zH _ _ (z _ _ ha)))
    have hy := y2 ys (SqL.of (R.zH _ _ (z _ _ hb)))
    obtain ⟨d, hd, rd⟩ := rx.getV hx
    obtain ⟨e, he, re⟩ := ry.getV hy
    obtain ⟨zs, R'⟩ := R.fresh (o := .tup [v, w]) hT
    exact ⟨_, _, zs, R', zipD_get hd he, .tup upd_same (.cons (rd.mono (z.trans zs)) (.cons (re.mono (z.trans zs)) .nil))⟩
theorem yld_zipT (ha : SqT K Z a xs) (hb : SqT K Z b ys) (rx : RpA K Z xs ds) (ry : RpA K Z ys es) : Yld K Z (ItzT K a b) (zipD ds es) := by
  have hl : (zipD ds es).length = min ds.length es.length := List.length_zipWith
  refine ⟨fun i H z hi => ?_, fun i H z hi => ⟨xs, ys, sqT_mono z ha, sqT_mono z hb, by rw [rx.length, ry.length]; omega⟩, fun i H x H' Φ σ ρ Z2 hi z R y => ?_⟩
  · obtain ⟨v, hv, _⟩ := rx.get (List.getElem?_eq_getElem (show i < ds.length by omega))
    obtain ⟨w, hw, _⟩ := ry.get (List.getElem?_eq_getElem (show i < es.length by omega))
    exact ⟨xs, ys, v, w, sqT_mono z ha, sqT_mono z hb, hv, hw⟩
  · obtain ⟨T, v, w, rfl, hT, rfl, y1, y2⟩ := y
    have hx := y1 xs (sqT_mono (z.trans R.zH) ha)
    have hy := y2 ys (sqT_mono (z.trans R.zH) hb)
    obtain ⟨d, hd, rd⟩ := rx.getV hx
    obtain ⟨e, he, re⟩ := ry.getV hy
    obtain ⟨zs, R'⟩ := R.fresh (o := .tup [v, w]) hT
    exact ⟨_, _, zs, R', zipD_get hd he, .tup upd_same (.cons (rd.mono (z.trans zs)) (.cons (re.mono (z.trans zs)) .nil))⟩
end
theorem Rp.lst_at {K : PySem.W.Frag} {Z : Hp} {v : V} {ds : List PyData} (h : Rp K Z v (.list ds)) : ∃ a xs, v = .ref a ∧ Z a = some (.lst xs) ∧ RpA K Z xs ds := by
  cases h with
  | lst h r => exact ⟨_, _, rfl, h, r⟩
theorem Rp.tup_at {K : PySem.W.Frag} {Z : Hp} {v : V} {ds : List PyData} (h : Rp K Z v (.tuple ds)) : ∃ a xs, v = .ref a ∧ SqT K Z a xs ∧ RpA K Z xs ds := by
  cases h with
  | tup h r => exact ⟨_, _, rfl, SqT.of h, r⟩
  | tuk h _ r => exact ⟨_, _, rfl, h, r⟩
def iZip (f g : XE) : XI := fun ρ => (f ρ).bind fun p => (g p.2).bind fun q => match p.1, q.1 with
  | .list x, .list y => some (zipD x y, q.2)
  | .tuple x, .tuple y => some (zipD x y, q.2)
  | _, _ => none
section
variable {X : Cx} {e e2 : Expr} {f g : XE} {p pos tpos : Pos} {elts : List Expr} {kk : Nat}
theorem id_zip (hm : X.mg "zip" = none) (he : ED X e f) (he2 : ED X e2 g) (hg : Gl X "zip" := by rfl)
    (hs : starEach [e, e2] X.env = (false, eval e X.env) :: starEach [e2] X.env := by rfl) (hs2 : starEach [e2] X.env = (false, eval e2 X.env) :: starEach [] X.env := by rfl) (hpl : (backTo pos (starEach [e2] X.env)).any (·.1) = false := by rfl) :
    ID' X (.Tuple elts kk tpos) (.Call (.Name "zip" p) [e, e2] [] pos) (iZip f g) := by
  obtain ⟨t, q1, m⟩ := he
  obtain ⟨t2, q2, m2⟩ := he2
  refine ⟨_, pi_zipA hg hm (pa_cons q1 (pa_cons q2 pa_nil hs2) hs) hs hpl, fun Φ Z σ H ρ ds ρ' R q R' k => ?_⟩
  unfold iZip at q
  cases e1 : f ρ with
  | none => rw [e1] at q; cases q
  | some w =>
    rw [e1, Option.bind_some] at q
    cases e2 : g w.2 with
    | none => rw [e2] at q; cases q
    | some u =>
      rw [e2, Option.bind_some] at q
      refine m Φ Z σ H ρ w.1 w.2 R e1 _ fun v H1 Z1 z1 R1 r1 => ?_
      refine m2 Φ Z1 σ H1 w.2 u.1 u.2 R1 e2 _ fun v2 H2 Z2 z2 R2 r2 => ?_
      split at q
      · rename_i x y ex ey
        cases q
        rw [ex] at r1
        rw [ey] at r2
        obtain ⟨a, xs, rfl, h1, rx⟩ := Rp.lst_at (r1.mono z2)
        obtain ⟨b, ys, rfl, h2, ry⟩ := Rp.lst_at r2
        exact ⟨a, b, xs, ys, rfl, .inl ⟨SqL.of (R2.zH _ _ h1), SqL.of (R2.zH _ _ h2), k _ H2 Z2 (z1.trans z2) R2 (yld_zip h1 h2 rx ry)⟩⟩
      · rename_i x y ex ey
        cases q
        rw [ex] at r1
        rw [ey] at r2
        obtain ⟨a, xs, rfl, h1, rx⟩ := Rp.tup_at (r1.mono z2)
        obtain ⟨b, ys, rfl, h2, ry⟩ := Rp.tup_at r2
        exact ⟨a, b, xs, ys, rfl, .inr ⟨sqT_mono R2.zH h1, sqT_mono R2.zH h2, k _ H2 Z2 (z1.trans z2) R2 (yld_zipT h1 h2 rx ry)⟩⟩
      · cases q
/-! ### enumerate of a list -/
def enuD (ds : List PyData) : List PyData := List.zipWith (fun (i : Nat) x => PyData.tuple [.int (i : Int), x]) (List.range ds.length) ds
theorem enuD_get {ds : List PyData} {i : Nat} {x : PyData} (h : ds[i]? = some x) : (enuD ds)[i]? = some (.tuple [.int (i : Int), x]) := by
  unfold enuD
  have hi := (List.getElem?_eq_some_iff.mp h).1
  rw [List.getElem?_zipWith, h, List.getElem?_range hi]
theorem yld_enum {K : PySem.W.Frag} {Z : Hp} {a : Addr} {xs : List V} {ds : List PyData} (ha : Z a = some (.lst xs)) (rx : RpA K Z xs ds) : Yld K Z (Ite K a) (enuD ds) := by
  have hl : (enuD ds).length = ds.length := by unfold enuD; rw [List.length_zipWith, List.length_range]; omega
  refine ⟨fun i H z hi => ?_, fun i H z hi => ⟨xs, SqL.of (z _ _ ha), by rw [rx.length]; omega⟩, fun i H x H' Φ σ ρ Z2 hi z R y => ?_⟩
  · obtain ⟨v, hv, _⟩ := rx.get (List.getElem?_eq_getElem (show i < ds.length by omega))
    exact ⟨xs, v, SqL.of (z _ _ ha), hv⟩
  · obtain ⟨T, v, rfl, hT, rfl, y1⟩ := y
    have hx := y1 xs (SqL.of (R.zH _ _ (z _ _ ha)))
    obtain ⟨d, hd, rd⟩ := rx.getV hx
    obtain ⟨zs, R'⟩ := R.fresh (o := .tup [.int (i : Nat), v]) hT
    exact ⟨_, _, zs, R', enuD_get hd, .tup upd_same (.cons (.int _) (.cons (rd.mono (z.trans zs)) .nil))⟩
def iEnu (f : XE) : XI := fun ρ => (f ρ).bind fun p => match p.1 with
  | .list x => some (enuD x, p.2)
  | _ => none
theorem id_enu (hm : X.mg "enumerate" = none) (he : ED X e f) (hg : Gl X "enumerate" := by rfl) (hs : starEach [e] X.env = [(false, eval e X.env)] := by rfl) :
    ID' X (.Tuple elts kk tpos) (.Call (.Name "enumerate" p) [e] [] pos) (iEnu f) := by
  obtain ⟨t, q1, m⟩ := he
  refine ⟨_, pi_enum hg hm (pa_cons q1 pa_nil hs) hs, fun Φ Z σ H ρ ds ρ' R q R' k => ?_⟩
  unfold iEnu at q
  cases e1 : f ρ with
  | none => rw [e1] at q; cases q
  | some w =>
    rw [e1, Option.bind_some] at q
    refine m Φ Z σ H ρ w.1 w.2 R e1 _ fun v H1 Z1 z1 R1 r1 => ?_
    split at q
    · rename_i x ex
      cases q
      rw [ex] at r1
      obtain ⟨a, xs, rfl, h1, rx⟩ := Rp.lst_at r1
      exact ⟨a, xs, rfl, SqL.of (R1.zH _ _ h1), k _ H1 Z1 z1 R1 (yld_enum h1 rx)⟩
    · cases q
end
end DL
set_option maxRecDepth 100000
set_option maxHeartbeats 2000000
/-! DL: sorted(xs) of a list of data that are alike -/
namespace DL
open PySem PySem.Spec PyProof.Rows L2
def allAlikeB (ds : List PyData) : Bool := ds.all fun d => ds.all fun d' => PySem.W.alike d d'
def sortableB (ds : List PyData) : Bool := (ds.all fun d => match d with | .tuple (_ :: _) => true | _ => false) || (ds.all fun d => match d with | .none => false | .tuple _ => false | _ => true)
theorem sortable_of {ds : List PyData} (h : sortableB ds = true) : PySem.W.Sortable ds := by
  unfold sortableB at h
  rw [Bool.or_eq_true] at h
  rcases h with h | h
  · refine .inl fun d hd => ?_
    have := List.all_eq_true.mp h d hd
    split at this
    · exact ⟨_, _, rfl⟩
    · cases this
  · refine .inr fun d hd => ?_
    have := List.all_eq_true.mp h d hd
    split at this
    · cases this
    · cases this
    · rename_i h1 h2
      exact ⟨fun e => h1 e, fun xs e => h2 xs e⟩
def sortD (ds : List PyData) : List PyData := ds.mergeSort (PySem.W.dataLe false id)
def sortedD : PyData → Option PyData
  | .list ds => if allAlikeB ds = true ∧ sortableB ds = true ∧ PyData.hasDictAll ds = false ∧ ds.length ≤ sizeLine ∧ PyData.depthAll ds ≤ 50 then some (.list (sortD ds)) else none
  | _ => none

theorem zip_each {α : Type} {R : Value → V × PyData → Prop} : ∀ {xs : List V} {us : List Value} {ds : List PyData}, Vals xs us → xs.length = ds.length → (∀ (v : V) (u : Value) (d : PyData), (v, d) ∈ xs.zip ds → RelV v u → R u (v, d)) → PySem.W.EachIs R us (xs.zip ds)
  | [], _, [], .nil, _, _ => .nil
  | [], _, _ :: _, _, h, _ => by cases h
  | v :: xs, _, [], _, h, _ => by cases h
  | v :: xs, _, d :: ds, .cons a r, h, k => .cons (k _ _ _ (List.mem_cons_self ..) a) (zip_each (α := α) r (by simpa using h) fun v' u' d' hm => k v' u' d' (List.mem_cons_of_mem _ hm))
theorem each_vals : ∀ {us : List Value} {bs : List (V × PyData)}, PySem.W.EachIs (fun u b => RelV b.1 u) us bs → Vals (bs.map (·.1)) us
  | _, _, .nil => .nil
  | _, _, .cons a r => .cons a (each_vals r)
def rSortedD (K : PySem.W.Frag) : List V → Hp → VK → Prop := fun vs H Q => ∃ (a : Addr) (xs : List V) (ds : List PyData), vs = [V.ref a] ∧ SqL K H a xs ∧ DpAll K H xs ds ∧ xs.length = ds.length ∧ (allAlikeB ds = true ∧ sortableB ds = true ∧ PyData.hasDictAll ds = false ∧ ds.length ≤ sizeLine ∧ PyData.depthAll ds ≤ 50) ∧
  ∀ p, H p = none → Q (.ref p) (upd H p (.lst (((xs.zip ds).mergeSort (PySem.W.dataLe false (·.2))).map (·.1))))
theorem dpAll_zip {K : PySem.W.Frag} {H : Hp} : ∀ {xs : List V} {ds : List PyData}, DpAll K H xs ds → ∀ v d, (v, d) ∈ xs.zip ds → Dp K H v d
  | [], _, _, v, d, h => by simp at h
  | x :: xs, [], h, v, d, hm => by simp at hm
  | x :: xs, y :: ds, h, v, d, hm => by
    cases h with
    | cons a b =>
      rw [List.zip_cons_cons] at hm
      rcases List.mem_cons.mp hm with e | hm
      · cases e; exact a
      · exact dpAll_zip b v d hm
theorem zip_snd {α β : Type} : ∀ {xs : List α} {ds : List β}, xs.length = ds.length → (xs.zip ds).map (·.2) = ds
  | [], [], _ => rfl
  | [], _ :: _, h => by cases h
  | _ :: _, [], h => by cases h
  | x :: xs, y :: ds, h => by simp [zip_snd (xs := xs) (ds := ds) (by simpa using h)]
theorem depth_mem {ds : List PyData} {n : Nat} (h : PyData.depthAll ds ≤ n) : ∀ d ∈ ds, d.depth ≤ n := by
  induction ds with
  | nil => intro d hd; simp at hd
  | cons x xs ih =>
    simp only [PyData.depthAll] at h
    intro d hd
    rcases List.mem_cons.mp hd with rfl | hd
    · omega
    · exact ih (by omega) d hd
theorem cr_sortedD {X : Cx} (hu : X.A.units + 64 < cLine) : CallR X (.builtin "sorted") (rSortedD X.K) := by
  intro pins s σ H vs us Q I r h
  obtain ⟨a, xs, ds, rfl, hs, hd, hl, ⟨c1, c2, c3, c4, c5⟩, q⟩ := h
  obtain ⟨its, rv, hi, _⟩ := I.list hs
  rw [Vals.ref1 r]
  have hmap := zip_snd hl
  have e : PySem.W.EachIs (fun u (b : V × PyData) => RelV b.1 u) its (xs.zip ds) := zip_each (α := Unit) rv hl fun v u d _ h => h
  have er : PySem.W.EachIs (fun u (b : V × PyData) => ∃ as, Reads s.heap u b.2 as) its (xs.zip ds) := zip_each (α := Unit) rv hl fun v u d hm h => Dp.reads I d v u (dpAll_zip hd v d hm) h
  have hal : PySem.W.AllAlike ((xs.zip ds).map (·.2)) := by
    rw [hmap]
    intro d hd' d' hd''
    exact List.all_eq_true.mp (List.all_eq_true.mp c1 d hd') d' hd''
  have hk : PySem.W.Sortable ((xs.zip ds).map (·.2)) := by rw [hmap]; exact sortable_of c2
  have hlen : (xs.zip ds).length = ds.length := by rw [List.length_zip, hl]; omega
  refine PySem.W.sorted_data (R := fun u (b : V × PyData) => RelV b.1 u) (enc := fun b : V × PyData => b.2) hi.isList e er hal hk (by rw [hlen]; exact c4) (fun b hb => ?_) fun out ho eo => ?_
  · have hm : b.2 ∈ ds := by rw [← hmap]; exact List.mem_map_of_mem hb
    have := depth_mem c5 b.2 hm
    omega
  · obtain ⟨ep, he'⟩ := PyProof.Rows.sortedAll_at s.heap its (List.toArray out)
    have rv2 := each_vals eo
    have hl2 : (((xs.zip ds).mergeSort (PySem.W.dataLe false (·.2))).map (·.1)).length ≤ sizeLine := by
      rw [List.length_map, List.length_mergeSort, hlen]; exact c4
    exact ⟨.ref _, _, I.laid (t' := s.toks) (o := .lst (((xs.zip ds).mergeSort (PySem.W.dataLe false (·.2))).map (·.1))) (fun _ _ => PyProof.Rows.sortedAll_old) (Nat.le_succ _) ⟨hl2, out, ep, rv2, he'⟩, rfl, q _ (I.hok.fresh (Nat.le_succ _))⟩
theorem rpA_zip {K : PySem.W.Frag} {Z : Hp} : ∀ {xs : List V} {ds : List PyData}, RpA K Z xs ds → ∀ b ∈ xs.zip ds, Rp K Z b.1 b.2
  | _, _, .nil, b, h => by simp at h
  | _, _, .cons a r, b, h => by
    rw [List.zip_cons_cons] at h
    rcases List.mem_cons.mp h with rfl | h
    · exact a
    · exact rpA_zip r b h
theorem rpA_of_all {K : PySem.W.Frag} {Z : Hp} : ∀ (bs : List (V × PyData)), (∀ b ∈ bs, Rp K Z b.1 b.2) → RpA K Z (bs.map (·.1)) (bs.map (·.2))
  | [], _ => .nil
  | b :: bs, h => .cons (h b List.mem_cons_self) (rpA_of_all bs fun c hc => h c (List.mem_cons_of_mem _ hc))
theorem sort_map {xs : List V} {ds : List PyData} (hl : xs.length = ds.length) : ((xs.zip ds).mergeSort (PySem.W.dataLe false (·.2))).map (·.2) = sortD ds := by
  unfold sortD
  have := List.map_mergeSort (f := fun b : V × PyData => b.2) (r := PySem.W.dataLe false (·.2)) (s := PySem.W.dataLe false id) (l := xs.zip ds) (fun a _ b _ => rfl)
  rw [this, zip_snd hl]
theorem c1_sorted {K : PySem.W.Frag} : C1M K (rSortedD K) sortedD := by
  intro Φ Z σ H ρ x d z R rx e Q k
  unfold sortedD at e
  split at e
  · split at e
    · rename_i ds hc
      cases e
      obtain ⟨a, xs, rfl, h, rr⟩ := rx.lst R.zH
      refine ⟨a, xs, ds, rfl, SqL.of h, (rr.mono R.zH).toDp hc.2.2.1, rr.length, hc, fun p hp => ?_⟩
      have hall := rpA_of_all ((xs.zip ds).mergeSort (PySem.W.dataLe false (·.2))) fun b hb => rpA_zip rr b (List.mem_mergeSort.mp hb)
      rw [sort_map rr.length] at hall
      exact ends_lst R hall k hp
    · cases e
  · cases e
end DL
set_option maxRecDepth 100000
set_option maxHeartbeats 2000000
/-! DL: sorted(d) of an own dict with tuple keys -/
namespace DL
open PySem PySem.Spec PyProof.Rows L2
section
variable {K : PySem.W.Frag} {Φ : Fx} {Z : Hp} {σ : L2.St} {H : Hp} {ρ : Nv}
/-- a tuple that is tracked may be frozen -/
theorem Rl.frzT (R : Rl K Φ Z σ H ρ) {b : Addr} {xs : List V} (h : H b = some (.tup xs)) : ∃ Z', Same Z Z' ∧ Rl K Φ Z' σ H ρ ∧ Z' b = some (.tup xs) := by
  cases hz : Z b with
  | some o =>
    have := R.zH b o hz
    rw [h] at this
    cases this
    exact ⟨Z, Same.refl Z, R, hz⟩
  | none =>
    have zs : Same Z (upd Z b (.tup xs)) := same_new hz
    have zH : Same (upd Z b (.tup xs)) H := fun c u e => by
      by_cases hc : c = b
      · subst hc; rw [upd_same] at e; rw [h]; exact e
      · rw [upd_ne hc] at e; exact R.zH c u e
    refine ⟨upd Z b (.tup xs), zs, ⟨R.len, zH, fun c u e nt => ?_, R.f0, R.fr, R.dom, R.inj, fun i c q => ?_, fun i x e => ?_, fun i ns e => ?_, fun i o io e => ?_, R.loc, R.ino, R.io⟩, upd_same⟩
    · by_cases hc : c = b
      · subst hc
        rw [upd_same] at e
        cases e
        exact absurd rfl (nt xs)
      · rw [upd_ne hc] at e; exact R.zN c u e nt
    · obtain ⟨q1, q2⟩ := R.sep i c q
      refine ⟨?_, q2⟩
      have hc : c ≠ b := fun hc => by
        subst hc
        obtain ⟨w, hw, hm⟩ := R.at_some q
        rw [h] at hw
        cases hw
        exact hm
      rw [upd_ne hc]; exact q1
    · obtain ⟨v, s, r⟩ := R.dat i x e
      exact ⟨v, s, r.mono zs⟩
    · obtain ⟨a, s, r⟩ := R.scr i ns e
      exact ⟨a, s, zs.seq r⟩
    · obtain ⟨a, s, ob⟩ := R.own i o io e
      exact ⟨a, s, ob.move zs rfl⟩
end
theorem rpA_keys {K : PySem.W.Frag} {Z : Hp} : ∀ k : List Key, RpA K Z (k.map kV) (k.map kD)
  | [] => .nil
  | .inl i :: k => .cons (.int i) (rpA_keys k)
  | .inr x :: k => .cons (.str x) (rpA_keys k)
/-- many of them -/
theorem frz_keys {K : PySem.W.Frag} {Φ : Fx} {σ : L2.St} {H : Hp} {ρ : Nv} : ∀ (bs : List (Addr × List Key)) {Z : Hp}, Rl K Φ Z σ H ρ → (∀ b ∈ bs, H b.1 = some (.tup (b.2.map kV))) →
    ∃ Z', Same Z Z' ∧ Rl K Φ Z' σ H ρ ∧ RpA K Z' (bs.map fun b => V.ref b.1) (bs.map fun b => PyData.tuple (b.2.map kD))
  | [], Z, R, _ => ⟨Z, Same.refl Z, R, .nil⟩
  | b :: bs, Z, R, h => by
    obtain ⟨Z1, z1, R1, e1⟩ := R.frzT (h b List.mem_cons_self)
    obtain ⟨Z2, z2, R2, r2⟩ := frz_keys bs R1 fun c hc => h c (List.mem_cons_of_mem _ hc)
    exact ⟨Z2, z1.trans z2, R2, .cons (.tup (z2 _ _ e1) (rpA_keys b.2)) r2⟩
theorem reads_keys {h : Heap} : ∀ {k : List Key} {us : List Value}, Vals (k.map kV) us → ReadsAll h us (k.map kD) []
  | [], _, .nil => .nil
  | .inl i :: k, _, .cons a r => by
    obtain ⟨t, rfl⟩ := a
    exact .cons (as := []) (.int i t) (reads_keys r)
  | .inr x :: k, _, .cons a r => by
    obtain ⟨t, rfl⟩ := a
    exact .cons (as := []) (.str x t) (reads_keys r)
def kTs (kvs : List (List Key × V)) : List PyData := kvs.map fun p => PyData.tuple (p.1.map kD)
def rSortedT : List V → Hp → VK → Prop := fun vs H Q => ∃ (a : Addr) (kvs : List (List Key × V)), vs = [V.ref a] ∧ H a = some (.dT kvs) ∧ (allAlikeB (kTs kvs) = true ∧ sortableB (kTs kvs) = true) ∧
  ∀ p (bs : List (Addr × List Key)), H p = none → (∀ b ∈ bs, H b.1 = some (.tup (b.2.map kV))) → bs.map (·.2) = kvs.map (·.1) →
    Q (.ref p) (upd H p (.lst ((bs.mergeSort (PySem.W.dataLe false fun b => PyData.tuple (b.2.map kD))).map fun b => V.ref b.1)))
theorem depth_keys (k : List Key) : (PyData.tuple (k.map kD)).depth = 1 := by
  have : PyData.depthAll (k.map kD) = 0 := by
    induction k with
    | nil => rfl
    | cons a k ih => cases a <;> simp [PyData.depthAll, PyData.depth, kD, ih]
  simp [PyData.depth, this]
theorem each_refs : ∀ {us : List Value} {bs : List (Addr × List Key)}, PySem.W.EachIs (fun v b => v = .ref b.1) us bs → Vals (bs.map fun b => V.ref b.1) us
  | _, _, .nil => .nil
  | _, _, .cons h t => by subst h; exact .cons rfl (each_refs t)
theorem cr_sortedT {X : Cx} (hc : X.calm = true) (hu : X.A.units + 64 < cLine) : CallR X (.builtin "sorted") rSortedT := by
  intro pins s σ H vs us Q I r h
  obtain ⟨a, kvs, rfl, hd, ⟨c1, c2⟩, q⟩ := h
  obtain ⟨u, rfl, rx⟩ := r.one
  cases rx
  obtain ⟨z, hs, ks, pr, o, es, ep, ho, hx, hdt, he, hn⟩ := (show ObjOk X.prog X.w H s.heap a (.dT kvs) from (show Rd H a (.dT kvs) from .inl hd).ok I.hok)
  have l1 : es.size = ks.length := size_of_entries he
  have l2 : kvs.length = ks.length := Paired.length pr
  have hks : ks.map (·.1) = kvs.map (·.1) := by
    clear he hn l1 l2 c1 c2 q hd z
    induction pr with
    | nil => rfl
    | cons h t ih => simp only [List.map_cons, ih, h.1]
  have hka : ∀ b ∈ ks.map (fun x => (x.2.1, x.1)), H b.1 = some (.tup (b.2.map kV)) := by
    clear he hn l1 l2 c1 c2 q hd z hks
    induction pr with
    | nil => intro b hb; simp at hb
    | cons h t ih =>
      intro b hb
      rcases List.mem_cons.mp hb with rfl | hb
      · have := h.2.1
        rw [h.1] at this
        exact this
      · exact ih b hb
  refine Calls.call_function_entry PyProof.Rows.kind_sorted PyProof.Rows.plain_sorted PyProof.Rows.entry_sorted (PyProof.Rows.args_sorted1 _) ?_
  unfold Builtin.«sorted»
  refine wpAny_bind (m := checkCount "sorted" 1 1 _) (wpAny_pure ?_)
  refine wpAny_bind (PySem.W.kdu_collect (A := X.A.in1) (kdl_raw hs hx hdt) (I.ok.hd hc) ho (by omega) fun h' tk acc hk it => ?_)
  have ea : acc.toList = ks.map fun x => Value.ref x.2.1 := by
    have hl : acc.toList.length = ks.length := by rw [Array.length_toList, it.1]; exact l1
    apply List.ext_getElem?
    intro j
    rw [List.getElem?_map]
    cases hj : acc.toList[j]? with
    | none =>
      have h1 := List.getElem?_eq_none_iff.mp hj
      rw [List.getElem?_eq_none (by omega)]
      all_goals rfl
    | some v =>
      obtain ⟨en, hen, hv⟩ := it.2 j v (by rw [← Array.getElem?_toList]; exact hj)
      have qe := entry_at he j
      rw [hen] at qe
      cases hb : ks[j]? with
      | none =>
        rw [hb] at qe
        exact nomatch (show some en = none from qe)
      | some b =>
        rw [hb] at qe
        have e2 : en = entryOfKey (tupleKind (mixKind X.prog X.w)) b := Option.some.inj qe
        rw [hv, e2]
        all_goals rfl
  have I1 : L2.Inv X pins σ H { s with heap := h', toks := tk } := I.kept hk
  have hal : acc.toList.length = ks.length := by rw [ea, List.length_map]
  refine wpAny_bind (wpAny_newList ?_ (by rw [hal]; omega))
  have hoL : (h'.push (seqObj "list" acc.toList.toArray 0)).get? h'.objs.size = some (seqObj "list" acc.toList.toArray 0) := Heap.get?_push_size _ rfl
  show wpAny _ _ _ _ _ { s with heap := h'.push (seqObj "list" acc.toList.toArray 0), toks := tk }
  have each : ∀ (R : Value → Addr × List Key → Prop), (∀ b ∈ ks.map (fun x => (x.2.1, x.1)), R (.ref b.1) b) → PySem.W.EachIs R acc.toList (ks.map fun x => (x.2.1, x.1)) := by
    intro R hR
    rw [ea]
    clear he hn l1 l2 c1 c2 q hd z hks pr hka ea it hal hoL
    induction ks with
    | nil => exact .nil
    | cons x ks ih => exact .cons (hR _ List.mem_cons_self) (ih fun b hb => hR b (List.mem_cons_of_mem _ hb))
  have hmap : (ks.map (fun x => (x.2.1, x.1))).map (fun b : Addr × List Key => PyData.tuple (b.2.map kD)) = kTs kvs := by
    unfold kTs
    rw [List.map_map]
    have : (kvs.map fun p => PyData.tuple (p.1.map kD)) = (kvs.map (·.1)).map fun k => PyData.tuple (k.map kD) := by rw [List.map_map]; rfl
    rw [this, ← hks, List.map_map]
    rfl
  refine wpAny_bind (wpAny_holding (PySem.W.list_sort_data (s := { s with heap := h'.push (seqObj "list" acc.toList.toArray 0), toks := tk }) (R := fun v (b : Addr × List Key) => v = .ref b.1) (enc := fun b : Addr × List Key => PyData.tuple (b.2.map kD)) hoL (each _ fun b _ => rfl)
    (each _ fun b hb => ?_) ?_ ?_ (by rw [List.length_map]; omega) (fun b _ => by rw [depth_keys]; have h1 : X.A.in1.units ≤ X.A.units + 1 := Nat.le_refl _; omega) fun out hol eo => ?_))
  · obtain ⟨its, rv, ⟨ob, hob, hcl, n, hdd⟩, _⟩ := I1.tuple (.inl (.inl (hka b hb)))
    exact ⟨[], .tuple (Heap.get?_push_of_some _ hob) hcl hdd (by simpa using reads_keys rv), by simp⟩
  · rw [hmap]
    intro d hd' d' hd''
    exact List.all_eq_true.mp (List.all_eq_true.mp c1 d hd') d' hd''
  · rw [hmap]; exact sortable_of c2
  · obtain ⟨e', he'⟩ := PyProof.Rows.sortedHeap_at (vs := acc.toList) (out := List.toArray out) hoL
    have rv2 : Vals (((ks.map fun x => (x.2.1, x.1)).mergeSort (PySem.W.dataLe false fun b : Addr × List Key => PyData.tuple (b.2.map kD))).map fun b => V.ref b.1) out := by
      exact each_refs eo
    have hl2 : (((ks.map fun x => (x.2.1, x.1)).mergeSort (PySem.W.dataLe false fun b : Addr × List Key => PyData.tuple (b.2.map kD))).map fun b => V.ref b.1).length ≤ sizeLine := by
      rw [List.length_map, List.length_mergeSort, List.length_map]; omega
    refine wpAny_pure ⟨_, rfl, .ref h'.objs.size, _, I1.laid (t' := tk) (o := .lst (((ks.map fun x => (x.2.1, x.1)).mergeSort (PySem.W.dataLe false fun b : Addr × List Key => PyData.tuple (b.2.map kD))).map fun b => V.ref b.1)) (fun b u e => ?_) (Nat.le_refl _) ⟨hl2, out, e', rv2, he'⟩, rfl,
      q _ (ks.map fun x => (x.2.1, x.1)) (I1.hok.fresh (Nat.le_refl _)) hka (by rw [List.map_map]; exact hks)⟩
    have hb : b < h'.objs.size := Heap.lt_size e
    rw [PyProof.Rows.sortedHeap_old (Nat.ne_of_lt hb) (by rw [size_push']; exact Nat.lt_succ_of_lt hb)]
    exact Heap.get?_push_of_some _ e
end DL
set_option maxRecDepth 100000
set_option maxHeartbeats 2000000
/-! DL: sorted(x): a list of data, a dict with tuple keys -/
namespace DL
open PySem PySem.Spec PyProof.Rows L2
def isKt : PyData → Bool
  | .tuple _ => true
  | _ => false
def sortedX : PyData → Option PyData
  | .dict kvs => if allAlikeB (kvs.map (·.1)) = true ∧ sortableB (kvs.map (·.1)) = true ∧ (kvs.map (·.1)).all isKt = true then some (.list (sortD (kvs.map (·.1)))) else none
  | d => sortedD d
def rSorted0 : List V → Hp → VK → Prop := fun xs H Q => ∃ (a : Addr), xs = [.ref a] ∧ H a = some (.dK []) ∧ ∀ p, H p = none → Q (.ref p) (upd H p (.lst []))
theorem cr_sorted0 {X : Cx} (hc : X.calm = true) : CallR X (.builtin "sorted") rSorted0 := by
  intro pins s σ H xs us Q I r h
  obtain ⟨a, rfl, hd, q⟩ := h
  refine call_sortedD hc pins s σ H _ us Q I r ⟨a, [], [], rfl, .inl hd, rfl, by decide, fun ys p hp _ hn => ?_⟩
  obtain rfl := List.Perm.eq_nil hp
  exact q p hn
def rSortedX (K : PySem.W.Frag) : List V → Hp → VK → Prop := fun vs H Q => rSortedD K vs H Q ∨ rSortedT vs H Q ∨ rSorted0 vs H Q
theorem cr_sortedX {X : Cx} (hu : X.A.units + 64 < cLine) (hc : X.calm = true := by rfl) : CallR X (.builtin "sorted") (rSortedX X.K) := (cr_sortedD hu).or ((cr_sortedT hc hu).or (cr_sorted0 hc))
theorem sort_keys {K : PySem.W.Frag} {Φ : Fx} {Z : Hp} {σ : L2.St} {H : Hp} {ρ : Nv} {Q : VK} (R : Rl K Φ Z σ H ρ) {ks : List (List Key)} (k : ∀ v H' Z', Same Z Z' → Rl K Φ Z' σ H' ρ → Rp K Z' v (.list (sortD (ks.map fun k => PyData.tuple (k.map kD)))) → Q v H')
    {p : Addr} {bs : List (Addr × List Key)} (hp : H p = none) (hb : ∀ b ∈ bs, H b.1 = some (.tup (b.2.map kV))) (hk : bs.map (·.2) = ks) :
    Q (.ref p) (upd H p (.lst ((bs.mergeSort (PySem.W.dataLe false fun b => PyData.tuple (b.2.map kD))).map fun b => V.ref b.1))) := by
  obtain ⟨Z1, z1, R1, r1⟩ := frz_keys (bs.mergeSort (PySem.W.dataLe false fun b => PyData.tuple (b.2.map kD))) R fun b hm => hb b (List.mem_mergeSort.mp hm)
  have e : (bs.mergeSort (PySem.W.dataLe false fun b => PyData.tuple (b.2.map kD))).map (fun b => PyData.tuple (b.2.map kD)) = sortD (ks.map fun k => PyData.tuple (k.map kD)) := by
    have := List.map_mergeSort (f := fun b : Addr × List Key => PyData.tuple (b.2.map kD)) (r := PySem.W.dataLe false fun b => PyData.tuple (b.2.map kD)) (s := PySem.W.dataLe false id) (l := bs) (fun a _ b _ => rfl)
    rw [this, ← hk, List.map_map]
    rfl
  rw [e] at r1
  exact ends_lst R1 r1 (fun v H' Z' z' R' r' => k v H' Z' (z1.trans z') R' r') hp
theorem kD_notKt (k : Key) : isKt (kD k) = false := by cases k <;> rfl
theorem c1_sortedX {K : PySem.W.Frag} : C1M K (rSortedX K) sortedX := by
  intro Φ Z σ H ρ x d z R rx e Q k
  unfold sortedX at e
  split at e
  · rename_i kvs
    split at e
    · rename_i hc
      cases e
      rcases rx with rx | ⟨a, o, rfl, ob, eo⟩
      · cases rx with
        | dic h r =>
          rename_i a ws ds
          cases ws with
          | nil =>
            cases r
            exact .inr (.inr ⟨a, rfl, R.zH _ _ h, fun p hp => ends_lst R .nil (fun v H' Z' z R' r => k v H' Z' z R' (by simpa [sortD] using r)) hp⟩)
          | cons w ws =>
            cases r with
            | cons r0 r =>
              have := hc.2.2
              simp [kD_notKt] at this
        | dit h r =>
          rename_i a ws ds
          have hk : ((ws.map fun p => PyData.tuple (p.1.map kD)).zip ds).map (·.1) = kTs ws := by
            have hl : ws.length = ds.length := by have := r.length; simpa using this
            unfold kTs
            rw [List.map_fst_zip (by rw [List.length_map]; omega)]
          rw [hk] at hc k
          refine .inr (.inl ⟨a, ws, rfl, R.zH _ _ h, ⟨hc.1, hc.2.1⟩, fun p bs hp hb hbk => ?_⟩)
          have e2 : kTs ws = (ws.map (·.1)).map fun k => PyData.tuple (k.map kD) := by unfold kTs; rw [List.map_map]; rfl
          rw [e2] at k
          exact sort_keys R k hp hb hbk
      · cases o with
        | ol xs => cases eo
        | od ws =>
          obtain ⟨vs, h, h1, r⟩ := ob
          cases eo
          cases ws with
          | nil =>
            cases vs with
            | nil => exact .inr (.inr ⟨a, rfl, h, fun p hp => ends_lst R .nil (fun v H' Z' z R' r => k v H' Z' z R' (by simpa [sortD] using r)) hp⟩)
            | cons v vs => cases h1
          | cons w ws =>
            have := hc.2.2
            simp [kD_notKt] at this
        | ot ws =>
          obtain ⟨vs, h, h1, r⟩ := ob
          cases eo
          have hk : ((ws.map fun p => PyData.tuple (p.1.map kD)).zip (ws.map (·.2))).map (·.1) = kTs vs := by
            unfold kTs
            have e2 : (vs.map fun p => PyData.tuple (p.1.map kD)) = (vs.map (·.1)).map fun k => PyData.tuple (k.map kD) := by rw [List.map_map]; rfl
            rw [e2, h1, List.map_fst_zip (by rw [List.length_map, List.length_map]; exact Nat.le_refl _), List.map_map]
            rfl
          rw [hk] at hc k
          refine .inr (.inl ⟨a, vs, rfl, h, ⟨hc.1, hc.2.1⟩, fun p bs hp hb hbk => ?_⟩)
          have e2 : kTs vs = (vs.map (·.1)).map fun k => PyData.tuple (k.map kD) := by unfold kTs; rw [List.map_map]; rfl
          rw [e2] at k
          exact sort_keys R k hp hb hbk
    · cases e
  · exact .inl (c1_sorted Φ Z σ H ρ x d z R rx e Q k)
end DL
set_option maxRecDepth 100000
set_option maxHeartbeats 2000000
/-! DL: comprehensions: names that are locals too; two fors; dicts -/
namespace DL
open PySem PySem.Spec PyProof.Rows L2
/-! ### names that are locals too: their slots are emptied, and filled again behind -/
def restN (ρ0 : Nv) : Nv → List Nat → Option Nv
  | ρ, [] => some ρ
  | ρ, v :: vs => match ρ0[v]? with
    | some (.d x) => if free ρ v = true then restN ρ0 (ρ.set v (.d x)) vs else none
    | some .un => restN ρ0 ρ vs
    | _ => none
def itS (it : XI) (vs : List Nat) : XI := fun ρ => (it ρ).bind fun p => (wipeN p.2 vs).map fun ρ1 => (p.1, ρ1)
def nSv (n : XN) (vs : List Nat) : XN := fun ρ => (n ρ).bind fun q => (restN ρ q.2 vs).map fun ρ2 => (q.1, ρ2)
theorem mi_s {K : PySem.W.Frag} {w : TI} {it : XI} {vs : List Nat} (m : MI K w it) : MI K w (itS it vs) := by
  intro Φ Z σ H ρ ds ρ' R q R' k
  unfold itS at q
  cases e1 : it ρ with
  | none => rw [e1] at q; cases q
  | some p =>
    rw [e1, Option.bind_some] at q
    cases e2 : wipeN p.2 vs with
    | none => rw [e2] at q; cases q
    | some ρ1 =>
      rw [e2] at q
      cases q
      exact m Φ Z σ H ρ p.1 p.2 R e1 R' fun J H1 Z1 z1 R1 y => k J H1 Z1 z1 (wipeN_rl R1 e2) y
theorem rest_rl {K : PySem.W.Frag} {Φ : Fx} {Z Z' : Hp} {σ : L2.St} {H H' : Hp} {ρ0 : Nv} (R0 : Rl K Φ Z σ H ρ0) (z : Same Z Z') : ∀ {vs : List Nat} {ρ ρ' : Nv}, Rl K Φ Z' σ H' ρ → restN ρ0 ρ vs = some ρ' → Rl K Φ Z' σ H' ρ' ∧ ∀ i a, AtS ρ' σ i a → AtS ρ σ i a
  | [], ρ, ρ', R, h => by cases h; exact ⟨R, fun _ _ h => h⟩
  | v :: vs, ρ, ρ', R, h => by
    unfold restN at h
    split at h
    · rename_i x e0
      split at h
      · rename_i hf
        obtain ⟨h1, h2⟩ := free_lt hf
        obtain ⟨u, hs, r⟩ := R0.dat v x e0
        have R1 := R.store h1 h2 (r.mono z)
        have es : σ.set v (some u) = σ := by
          have hv : v < σ.length := (List.getElem?_eq_some_iff.mp hs).1
          apply List.ext_getElem?
          intro j
          by_cases hj : v = j
          · subst hj; rw [List.getElem?_set_self hv, hs]
          · rw [List.getElem?_set_ne hj]
        rw [es] at R1
        obtain ⟨R2, at2⟩ := rest_rl R0 z R1 h
        refine ⟨R2, fun i a q => ?_⟩
        obtain ⟨⟨o, io, e⟩, s⟩ := at2 i a q
        by_cases hi : v = i
        · subst hi
          rw [List.getElem?_set_self h1] at e
          cases e
        · rw [List.getElem?_set_ne hi] at e
          exact ⟨⟨o, io, e⟩, s⟩
      · cases h
    · exact rest_rl R0 z R h
    · cases h
theorem mn_sv {K : PySem.W.Frag} {t : TE} {n : XN} {vs : List Nat} (m : MN K t n) : MN K t (nSv n vs) := by
  intro Φ Z σ H ρ o ρ' R q Q k
  unfold nSv at q
  cases e1 : n ρ with
  | none => rw [e1] at q; cases q
  | some p =>
    rw [e1, Option.bind_some] at q
    cases e2 : restN ρ p.2 vs with
    | none => rw [e2] at q; cases q
    | some ρ2 =>
      rw [e2] at q
      cases q
      refine m Φ Z σ H ρ p.1 p.2 R e1 Q fun a H1 Z1 z1 R1 w => ?_
      obtain ⟨R2, at2⟩ := rest_rl R z1 R1 e2
      exact k a H1 Z1 z1 R2 ⟨w.ob, w.z, w.fr, w.h0, fun i q => w.no i (at2 i a q)⟩
/-- [e for x in it if c], x a local too -/
def nLcS (it : XI) (g : XG) (c : XT) (e : XE) (vs : List Nat) : XN := nSv (nLc (itS it vs) g c e vs) vs
section
variable {X : Cx} {elt tg iter : Expr} {ifs : List Expr} {scope : Scope} {pos : Pos} {it : XI} {g : XG} {c : XT} {f : XE}
theorem id_s {vs : List Nat} (h : ID' X tg iter it) : ID' X tg iter (itS it vs) := by
  obtain ⟨w, p, m⟩ := h
  exact ⟨w, p, mi_s m⟩
theorem nd_sv {e : Expr} {n : XN} {vs : List Nat} (h : ND X e n) : ND X e (nSv n vs) := by
  obtain ⟨t, p, m⟩ := h
  exact ⟨t, p, mn_sv m⟩
theorem nd_lcS {vs : List Nat} (own : List (Str × Nat)) (ok : BlkOk X.N X.env.scope scope own) (hv : own.map (·.2) = vs) (hc : X.calm = true) (hN : X.N.Nodup) (hi : ID' X tg iter it)
    (hg : ∀ (s : Shared) (H : Hp) (C : Addr) (cl : List (Str × Addr)) (fp : List Addr), GD (X.blk s H scope (compEnvC scope cl C X.env) fp) tg g vs) (ht : ∀ (s : Shared) (H : Hp) (C : Addr) (cl : List (Str × Addr)) (fp : List Addr), TsD (X.blk s H scope (compEnvC scope cl C X.env) fp) ifs c)
    (he : ∀ (s : Shared) (H : Hp) (C : Addr) (cl : List (Str × Addr)) (fp : List Addr), ED (X.blk s H scope (compEnvC scope cl C X.env) fp) elt f) (hs : ∀ x, foldedSetIterable iter X.env x = pure x := by intro _; rfl) :
    ND X (.ListComp elt [⟨tg, iter, ifs, 0⟩] scope pos) (nLcS it g c f vs) := nd_sv (nd_lc own ok hv hc hN (id_s hi) hg ht he hs)
theorem sd_setLcS {vs : List Nat} (i : Nat) {y : Str} {py spos : Pos} (own : List (Str × Nat)) (ok : BlkOk X.N X.env.scope scope own) (hv : own.map (·.2) = vs) (hc : X.calm = true) (hN : X.N.Nodup) (hi : ID' X tg iter it)
    (hg : ∀ (s : Shared) (H : Hp) (C : Addr) (cl : List (Str × Addr)) (fp : List Addr), GD (X.blk s H scope (compEnvC scope cl C X.env) fp) tg g vs) (ht : ∀ (s : Shared) (H : Hp) (C : Addr) (cl : List (Str × Addr)) (fp : List Addr), TsD (X.blk s H scope (compEnvC scope cl C X.env) fp) ifs c)
    (he : ∀ (s : Shared) (H : Hp) (C : Addr) (cl : List (Str × Addr)) (fp : List Addr), ED (X.blk s H scope (compEnvC scope cl C X.env) fp) elt f)
    (hsw : swapsWith (.ListComp elt [⟨tg, iter, ifs, 0⟩] scope pos) (some (.Name y py)) spos.line X.env = pure true)
    (hy : X.N[i]? = some y := by rfl) (hyl : X.env.scope.names.lookup y = some .local := by rfl) (hs : ∀ x, foldedSetIterable iter X.env x = pure x := by intro _; rfl) :
    SD X (.Assign [.Name y py] (.ListComp elt [⟨tg, iter, ifs, 0⟩] scope pos) spos) (sSet i (xFz (nLcS it g c f vs))) ∧ SD X (.Assign [.Name y py] (.ListComp elt [⟨tg, iter, ifs, 0⟩] scope pos) spos) (sNew i (nLcS it g c f vs)) := by
  subst hv
  obtain ⟨w, p, m⟩ := hi
  have q := ps_setLc (py := py) (g := gOf X.K g _) (tt := tOfT X.K c) (te := tOf X.K f) hc hN hy hyl hsw p ok (fun s H C cl fp => (hg s H C cl fp).pg) (fun s H C cl fp => (ht s H C cl fp).pts) (fun s H C cl fp => (he s H C cl fp).pe) hs
  exact ⟨⟨_, q, ms_asg (me_fz (mn_sv (mn_lc (mi_s m) mg_of mt_of me_of)))⟩, ⟨_, q, ms_asgN (mn_sv (mn_lc (mi_s m) mg_of mt_of me_of))⟩⟩
end

/-! ### the turns of a comprehension's loop -/
theorem lc_turns {K : PySem.W.Frag} {g : TG} {tt : TT} {te : TE} {gf : XG} {c : XT} {e : XE} {vs : List Nat} (mg : MG K g gf vs) (mc : MT K tt c) (me : ME K te e) {Φ : Fx} {D : Addr} (frD : Φ.Fr D = none) (f0D : Φ.F0 D = none) {Z1 : Hp} {σ : L2.St} {J : It} {ds : List PyData}
    (y : Yld K Z1 J ds) {H1 : Hp} {ρ1 : Nv} {us0 : List V} {acc0 : List PyData} (start : Rl K (Φ.keep D (.lst us0)) Z1 σ H1 ρ1) (hu : unAt ρ1 vs = true) (ra0 : RpA K Z1 us0 acc0) {s : List PyData × Nv} (e2 : lcL gf c e vs ds ρ1 acc0 = some s) {Qd : Hp → Prop}
    (fin : ∀ H' Z' us, Same Z1 Z' → Rl K (Φ.keep D (.lst us)) Z' σ H' s.2 → unAt s.2 vs = true → RpA K Z' us s.1 → Qd H') :
    ∃ W : Nat → Nat → Hp → Prop, (∃ m, W 0 m H1) ∧ ∀ i m H, W i m H →
      (J.stop i H ∧ Qd H) ∨ (J.go i H ∧ ∃ Nx : Hp → Prop, (∀ H', Nx H' → ∃ m', m' < m ∧ W (i + 1) m' H') ∧ ∀ x H', J.yld i H x H' → g x (wipe σ vs) H' fun σ2 H2 => wipe σ2 vs = wipe σ vs ∧ tt σ2 H2 fun b H3 =>
        if b = true then te σ2 H3 fun y H4 => ∃ acc, H4 D = some (.lst acc) ∧ acc.length < sizeLine ∧ Nx (upd H4 D (.lst (acc ++ [y]))) else Nx H3) := by
  have zD : ∀ {o Z' σ' H' ρ'}, (∀ xs, o ≠ .tup xs) → Rl K (Φ.keep D o) Z' σ' H' ρ' → Z' D = none := fun {o Z' σ' H' ρ'} no R' => by
    cases hz : Z' D with
    | none => rfl
    | some u =>
      rcases R'.zN D u hz (fun xs e => by have h1 := R'.zH D u hz; have h2 := R'.fr D o upd_same; rw [h1] at h2; cases h2; exact no xs e) with h | ⟨_, h⟩
      · rw [show (Φ.keep D o).F0 D = Φ.F0 D from rfl, f0D] at h
        cases h
      · have h : upd Φ.Fr D o D = none := h
        rw [upd_same] at h
        cases h
  refine ⟨fun i m H' => m = ds.length - i ∧ i ≤ ds.length ∧ ∃ Z' ρ' acc us, Same Z1 Z' ∧ Rl K (Φ.keep D (.lst us)) Z' σ H' ρ' ∧ unAt ρ' vs = true ∧ RpA K Z' us acc ∧ lcL gf c e vs (ds.drop i) ρ' acc = some s,
    ⟨ds.length, by simp, Nat.zero_le _, Z1, ρ1, acc0, us0, Same.refl Z1, start, hu, ra0, by simpa using e2⟩, ?_⟩
  rintro i m H' ⟨rfl, hi, Z', ρ', acc, us, z', R', hu', ra, q'⟩
  by_cases hlt : i < ds.length
  · refine .inr ⟨y.go i H' (z'.trans R'.zH) hlt, fun H2 => i + 1 ≤ ds.length ∧ ∃ Z' ρ' acc us, Same Z1 Z' ∧ Rl K (Φ.keep D (.lst us)) Z' σ H2 ρ' ∧ unAt ρ' vs = true ∧ RpA K Z' us acc ∧ lcL gf c e vs (ds.drop (i + 1)) ρ' acc = some s,
      fun H2 ⟨h1, h2⟩ => ⟨ds.length - (i + 1), by omega, rfl, h1, h2⟩, fun x H2 yl => ?_⟩
    obtain ⟨Z3, d, z3, R3, hd, rd⟩ := y.item i H' x H2 _ σ ρ' Z' hlt z' R' yl
    have ed : ds.drop i = d :: ds.drop (i + 1) := by
      rw [List.drop_eq_getElem_cons hlt]
      congr 1
      rw [List.getElem?_eq_getElem hlt] at hd
      exact Option.some.inj hd
    rw [ed] at q'
    unfold lcL at q'
    cases e3 : gf d ρ' with
    | none => rw [e3] at q'; cases q'
    | some ρ2 =>
      rw [e3, Option.bind_some] at q'
      have R3w : Rl K (Φ.keep D (.lst us)) Z3 (wipe σ vs) H2 ρ' := reslot_un R3 hu' (wipe_length σ vs) fun j hj => wipe_ne hj
      refine mg _ Z3 (wipe σ vs) H2 ρ' x d ρ2 R3w rd e3 _ fun σ3 R4 l3 s3 => ⟨?_, ?_⟩
      · exact wipe_eq (l3.trans (wipe_length σ vs)) fun j hj => (s3 j hj).trans (wipe_ne hj)
      have l3' : σ3.length = σ.length := l3.trans (wipe_length σ vs)
      have s3' : ∀ j, j ∉ vs → σ[j]? = σ3[j]? := fun j hj => ((s3 j hj).trans (wipe_ne hj)).symm
      cases e4 : c ρ2 with
      | none => rw [e4] at q'; cases q'
      | some p =>
        rw [e4, Option.bind_some] at q'
        refine mc _ Z3 σ3 H2 ρ2 p.1 p.2 R4 e4 _ fun H5 Z5 z5 R5 => ?_
        by_cases hp : p.1 = true
        · rw [if_pos hp] at q' ⊢
          cases e5 : e p.2 with
          | none => rw [e5] at q'; cases q'
          | some w =>
            rw [e5, Option.bind_some] at q'
            split at q'
            · rename_i hal
              cases e6 : wipeN w.2 vs with
              | none => rw [e6] at q'; cases q'
              | some ρ4 =>
                rw [e6, Option.bind_some] at q'
                refine me _ Z5 σ3 H5 p.2 w.1 w.2 R5 e5 _ fun v H6 Z6 z6 R6 r6 => ?_
                obtain ⟨_, hDl, _⟩ := R6.unkeep frD
                have ra6 : RpA K Z6 us acc := ((ra.mono z3).mono z5).mono z6
                refine ⟨us, hDl, by rw [ra.length]; exact hal, hlt, Z6, ρ4, acc ++ [w.1], us ++ [v], ((z'.trans z3).trans z5).trans z6, ?_, wipeN_unAt e6, ra6.append (.cons r6 .nil), q'⟩
                exact reslot_un (wipeN_rl (R6.rekeep frD (zD (fun _ e => by cases e) R6)) e6) (wipeN_unAt e6) l3'.symm s3'
            · cases q'
        · rw [if_neg hp] at q' ⊢
          cases e6 : wipeN p.2 vs with
          | none => rw [e6] at q'; cases q'
          | some ρ4 =>
            rw [e6, Option.bind_some] at q'
            refine ⟨hlt, Z5, ρ4, acc, us, (z'.trans z3).trans z5, ?_, wipeN_unAt e6, (ra.mono z3).mono z5, q'⟩
            exact reslot_un (wipeN_rl R5 e6) (wipeN_unAt e6) l3'.symm s3'
  · have ei : i = ds.length := by omega
    subst ei
    rw [List.drop_length] at q'
    cases q'
    exact .inl ⟨y.stop _ H' (z'.trans R'.zH) rfl, fin H' Z' us z' R' hu' ra⟩

/-! ### two fors -/
def lc2L (g : XG) (c : XT) (it1 : XI) (g1 : XG) (c1 : XT) (e : XE) (vs vs1 : List Nat) : List PyData → Nv → List PyData → Option (List PyData × Nv)
  | [], ρ, acc => some (acc, ρ)
  | d :: ds, ρ, acc => (g d ρ).bind fun ρ1 => (c ρ1).bind fun p => if p.1 = true then
      (it1 p.2).bind fun w => if unAt w.2 vs1 = true then (lcL g1 c1 e vs1 w.1 w.2 acc).bind fun q => (wipeN q.2 vs).bind fun ρ2 => lc2L g c it1 g1 c1 e vs vs1 ds ρ2 q.1 else none
    else (wipeN p.2 vs).bind fun ρ2 => lc2L g c it1 g1 c1 e vs vs1 ds ρ2 acc
def nLc2 (it : XI) (g : XG) (c : XT) (it1 : XI) (g1 : XG) (c1 : XT) (e : XE) (vs vs1 : List Nat) : XN := fun ρ => (it ρ).bind fun p => if unAt p.2 vs = true then (lc2L g c it1 g1 c1 e vs vs1 p.1 p.2 []).map fun q => (.ol q.1, q.2) else none
theorem mn_lc2 {K : PySem.W.Frag} {w w1 : TI} {g g1 : TG} {tt tt1 : TT} {te : TE} {it it1 : XI} {gf gf1 : XG} {c c1 : XT} {e : XE} {vs vs1 : List Nat} (mi : MI K w it) (mg : MG K g gf vs) (mc : MT K tt c) (mi1 : MI K w1 it1) (mg1 : MG K g1 gf1 vs1) (mc1 : MT K tt1 c1) (me : ME K te e) :
    MN K (tLc2 w g tt w1 g1 tt1 te vs vs1) (nLc2 it gf c it1 gf1 c1 e vs vs1) := by
  intro Φ Z σ H ρ o ρ' R q Q k
  unfold nLc2 at q
  cases e1 : it ρ with
  | none => rw [e1] at q; cases q
  | some p =>
    rw [e1, Option.bind_some] at q
    obtain ⟨ds, ρ1⟩ := p
    split at q
    · rename_i hu
      cases e2 : lc2L gf c it1 gf1 c1 e vs vs1 ds ρ1 [] with
      | none => rw [e2] at q; cases q
      | some s =>
        rw [e2] at q
        cases q
        refine mi Φ Z σ H ρ ds ρ1 R e1 _ fun J H1 Z1 z1 R1 y D hD => ?_
        have frD : Φ.Fr D = none := R1.fr.free hD
        have f0D : Φ.F0 D = none := R1.f0 D (R1.dom D hD)
        have zD : ∀ {o Z' σ' H' ρ'}, (∀ xs, o ≠ .tup xs) → Rl K (Φ.keep D o) Z' σ' H' ρ' → Z' D = none := fun {o Z' σ' H' ρ'} no R' => by
          cases hz : Z' D with
          | none => rfl
          | some u =>
            rcases R'.zN D u hz (fun xs e => by have h1 := R'.zH D u hz; have h2 := R'.fr D o upd_same; rw [h1] at h2; cases h2; exact no xs e) with h | ⟨_, h⟩
            · rw [show (Φ.keep D o).F0 D = Φ.F0 D from rfl, f0D] at h
              cases h
            · have h : upd Φ.Fr D o D = none := h
              rw [upd_same] at h
              cases h
        have start : Rl K (Φ.keep D (.lst [])) Z1 σ (upd H1 D (.lst [])) ρ1 := by
          have R2 := R1.laid (o := .lst []) hD
          refine R2.keep upd_same (R1.zH.free hD) (fun i hi => ?_) fun a u e => ne_of_none (R1.zH a u e) hD
          obtain ⟨u, hu, _⟩ := R1.at_some hi
          rw [hD] at hu
          cases hu
        refine ⟨fun i m H' => m = ds.length - i ∧ i ≤ ds.length ∧ ∃ Z' ρ' acc us, Same Z1 Z' ∧ Rl K (Φ.keep D (.lst us)) Z' σ H' ρ' ∧ unAt ρ' vs = true ∧ RpA K Z' us acc ∧ lc2L gf c it1 gf1 c1 e vs vs1 (ds.drop i) ρ' acc = some s,
          ⟨ds.length, by simp, Nat.zero_le _, Z1, ρ1, [], [], Same.refl Z1, start, hu, .nil, by simpa using e2⟩, ?_⟩
        rintro i m H' ⟨rfl, hi, Z', ρ', acc, us, z', R', hu', ra, q'⟩
        by_cases hlt : i < ds.length
        · refine .inr ⟨y.go i H' (z'.trans R'.zH) hlt, fun H2 => i + 1 ≤ ds.length ∧ ∃ Z' ρ' acc us, Same Z1 Z' ∧ Rl K (Φ.keep D (.lst us)) Z' σ H2 ρ' ∧ unAt ρ' vs = true ∧ RpA K Z' us acc ∧ lc2L gf c it1 gf1 c1 e vs vs1 (ds.drop (i + 1)) ρ' acc = some s,
            fun H2 ⟨h1, h2⟩ => ⟨ds.length - (i + 1), by omega, rfl, h1, h2⟩, fun x H2 yl => ?_⟩
          obtain ⟨Z3, d, z3, R3, hd, rd⟩ := y.item i H' x H2 _ σ ρ' Z' hlt z' R' yl
          have ed : ds.drop i = d :: ds.drop (i + 1) := by
            rw [List.drop_eq_getElem_cons hlt]
            congr 1
            rw [List.getElem?_eq_getElem hlt] at hd
            exact Option.some.inj hd
          rw [ed] at q'
          unfold lc2L at q'
          cases e3 : gf d ρ' with
          | none => rw [e3] at q'; cases q'
          | some ρ2 =>
            rw [e3, Option.bind_some] at q'
            have R3w : Rl K (Φ.keep D (.lst us)) Z3 (wipe σ vs) H2 ρ' := reslot_un R3 hu' (wipe_length σ vs) fun j hj => wipe_ne hj
            refine mg _ Z3 (wipe σ vs) H2 ρ' x d ρ2 R3w rd e3 _ fun σ3 R4 l3 s3 => ⟨?_, ?_⟩
            · exact wipe_eq (l3.trans (wipe_length σ vs)) fun j hj => (s3 j hj).trans (wipe_ne hj)
            have l3' : σ3.length = σ.length := l3.trans (wipe_length σ vs)
            have s3' : ∀ j, j ∉ vs → σ[j]? = σ3[j]? := fun j hj => ((s3 j hj).trans (wipe_ne hj)).symm
            cases e4 : c ρ2 with
            | none => rw [e4] at q'; cases q'
            | some p =>
              rw [e4, Option.bind_some] at q'
              refine mc _ Z3 σ3 H2 ρ2 p.1 p.2 R4 e4 _ fun H5 Z5 z5 R5 => ?_
              by_cases hp : p.1 = true
              · rw [if_pos hp] at q' ⊢
                cases e5 : it1 p.2 with
                | none => rw [e5] at q'; cases q'
                | some v =>
                  rw [e5, Option.bind_some] at q'
                  split at q'
                  · rename_i hu1
                    cases e6 : lcL gf1 c1 e vs1 v.1 v.2 acc with
                    | none => rw [e6] at q'; cases q'
                    | some r =>
                      rw [e6, Option.bind_some] at q'
                      cases e7 : wipeN r.2 vs with
                      | none => rw [e7] at q'; cases q'
                      | some ρ4 =>
                        rw [e7, Option.bind_some] at q'
                        refine mi1 _ Z5 σ3 H5 p.2 v.1 v.2 R5 e5 _ fun J1 H6 Z6 z6 R6 y1 => ?_
                        have ra6 : RpA K Z6 us acc := ((ra.mono z3).mono z5).mono z6
                        refine lc_turns mg1 mc1 me frD f0D y1 R6 hu1 ra6 e6 fun H7 Z7 us7 z7 R7 _ ra7 => ?_
                        refine ⟨hlt, Z7, ρ4, r.1, us7, (((z'.trans z3).trans z5).trans z6).trans z7, ?_, wipeN_unAt e7, ra7, q'⟩
                        exact reslot_un (wipeN_rl R7 e7) (wipeN_unAt e7) l3'.symm s3'
                  · cases q'
              · rw [if_neg hp] at q' ⊢
                cases e6 : wipeN p.2 vs with
                | none => rw [e6] at q'; cases q'
                | some ρ4 =>
                  rw [e6, Option.bind_some] at q'
                  refine ⟨hlt, Z5, ρ4, acc, us, (z'.trans z3).trans z5, ?_, wipeN_unAt e6, (ra.mono z3).mono z5, q'⟩
                  exact reslot_un (wipeN_rl R5 e6) (wipeN_unAt e6) l3'.symm s3'
        · have ei : i = ds.length := by omega
          subst ei
          rw [List.drop_length] at q'
          cases q'
          obtain ⟨R7, hDl, hn⟩ := R'.unkeep frD
          exact .inl ⟨y.stop _ H' (z'.trans R'.zH) rfl, k D H' Z' (z1.trans z') R7 ⟨⟨us, hDl, ra⟩, zD (fun _ e => by cases e) R', frD, R1.dom D hD, hn⟩⟩
    · cases q
def tiOf (K : PySem.W.Frag) (f : XI) : TI := fun σ H R' => ∃ (Φ : Fx) (Z : Hp) (ρ : Nv) (ds : List PyData) (ρ' : Nv), Rl K Φ Z σ H ρ ∧ f ρ = some (ds, ρ') ∧ ∀ J H' Z', Same Z Z' → Rl K Φ Z' σ H' ρ' → Yld K Z' J ds → R' J H'
theorem mi_of {K : PySem.W.Frag} {f : XI} : MI K (tiOf K f) f := fun Φ Z σ H ρ d ρ' R q Q k => ⟨Φ, Z, ρ, d, ρ', R, q, k⟩
theorem ID'.pi {X : Cx} {tg e : Expr} {f : XI} (h : ID' X tg e f) : PI X tg e (tiOf X.K f) := by
  obtain ⟨t, p, m⟩ := h
  exact ⟨fun pins s σ H Q I ⟨Φ, Z, ρ, ds, ρ', R, q, k⟩ => p.run pins s σ H Q I (m Φ Z σ H ρ ds ρ' R q Q k)⟩
section
variable {X : Cx} {elt tg iter tg1 iter1 : Expr} {ifs ifs1 : List Expr} {scope : Scope} {pos : Pos} {it it1 : XI} {g g1 : XG} {c c1 : XT} {f : XE}
theorem nd_lc2 {vs vs1 : List Nat} (own : List (Str × Nat)) (ok : BlkOk X.N X.env.scope scope own) (hv : own.map (·.2) = vs) (hv1 : ∀ i ∈ vs1, i ∈ own.map (·.2)) (hc : X.calm = true) (hN : X.N.Nodup) (hi : ID' X tg iter it)
    (hg : ∀ (s : Shared) (H : Hp) (C : Addr) (cl : List (Str × Addr)) (fp : List Addr), GD (X.blk s H scope (compEnvC scope cl C X.env) fp) tg g vs) (ht : ∀ (s : Shared) (H : Hp) (C : Addr) (cl : List (Str × Addr)) (fp : List Addr), TsD (X.blk s H scope (compEnvC scope cl C X.env) fp) ifs c)
    (hi1 : ∀ (s : Shared) (H : Hp) (C : Addr) (cl : List (Str × Addr)) (fp : List Addr), ID' (X.blk s H scope (compEnvC scope cl C X.env) fp) tg1 iter1 it1)
    (hg1 : ∀ (s : Shared) (H : Hp) (C : Addr) (cl : List (Str × Addr)) (fp : List Addr), GD (X.blk s H scope (compEnvC scope cl C X.env) fp) tg1 g1 vs1) (ht1 : ∀ (s : Shared) (H : Hp) (C : Addr) (cl : List (Str × Addr)) (fp : List Addr), TsD (X.blk s H scope (compEnvC scope cl C X.env) fp) ifs1 c1)
    (he : ∀ (s : Shared) (H : Hp) (C : Addr) (cl : List (Str × Addr)) (fp : List Addr), ED (X.blk s H scope (compEnvC scope cl C X.env) fp) elt f) (hs : ∀ x, foldedSetIterable iter X.env x = pure x := by intro _; rfl) (hs1 : ∀ env x, foldedSetIterable iter1 env x = pure x := by intro _ _; rfl) :
    ND X (.ListComp elt [⟨tg, iter, ifs, 0⟩, ⟨tg1, iter1, ifs1, 0⟩] scope pos) (nLc2 it g c it1 g1 c1 f vs vs1) := by
  subst hv
  obtain ⟨w, p, m⟩ := hi
  exact ⟨_, pe_lc2 (g := gOf X.K g _) (tt := tOfT X.K c) (wi1 := tiOf X.K it1) (g1 := gOf X.K g1 _) (tt1 := tOfT X.K c1) (te := tOf X.K f) hc hN p ok hv1 (fun s H C cl fp => (hg s H C cl fp).pg) (fun s H C cl fp => (ht s H C cl fp).pts) (fun s H C cl fp => (hi1 s H C cl fp).pi)
    (fun s H C cl fp => (hg1 s H C cl fp).pg) (fun s H C cl fp => (ht1 s H C cl fp).pts) (fun s H C cl fp => (he s H C cl fp).pe) hs hs1, mn_lc2 m mg_of mt_of mi_of mg_of mt_of me_of⟩
theorem sd_setLc2 {vs vs1 : List Nat} (i : Nat) {y : Str} {py spos : Pos} (own : List (Str × Nat)) (ok : BlkOk X.N X.env.scope scope own) (hv : own.map (·.2) = vs) (hv1 : ∀ i ∈ vs1, i ∈ own.map (·.2)) (hc : X.calm = true) (hN : X.N.Nodup) (hi : ID' X tg iter it)
    (hg : ∀ (s : Shared) (H : Hp) (C : Addr) (cl : List (Str × Addr)) (fp : List Addr), GD (X.blk s H scope (compEnvC scope cl C X.env) fp) tg g vs) (ht : ∀ (s : Shared) (H : Hp) (C : Addr) (cl : List (Str × Addr)) (fp : List Addr), TsD (X.blk s H scope (compEnvC scope cl C X.env) fp) ifs c)
    (hi1 : ∀ (s : Shared) (H : Hp) (C : Addr) (cl : List (Str × Addr)) (fp : List Addr), ID' (X.blk s H scope (compEnvC scope cl C X.env) fp) tg1 iter1 it1)
    (hg1 : ∀ (s : Shared) (H : Hp) (C : Addr) (cl : List (Str × Addr)) (fp : List Addr), GD (X.blk s H scope (compEnvC scope cl C X.env) fp) tg1 g1 vs1) (ht1 : ∀ (s : Shared) (H : Hp) (C : Addr) (cl : List (Str × Addr)) (fp : List Addr), TsD (X.blk s H scope (compEnvC scope cl C X.env) fp) ifs1 c1)
    (he : ∀ (s : Shared) (H : Hp) (C : Addr) (cl : List (Str × Addr)) (fp : List Addr), ED (X.blk s H scope (compEnvC scope cl C X.env) fp) elt f)
    (hsw : swapsWith (.ListComp elt [⟨tg, iter, ifs, 0⟩, ⟨tg1, iter1, ifs1, 0⟩] scope pos) (some (.Name y py)) spos.line X.env = pure true)
    (hy : X.N[i]? = some y := by rfl) (hyl : X.env.scope.names.lookup y = some .local := by rfl) (hs : ∀ x, foldedSetIterable iter X.env x = pure x := by intro _; rfl) (hs1 : ∀ env x, foldedSetIterable iter1 env x = pure x := by intro _ _; rfl) :
    SD X (.Assign [.Name y py] (.ListComp elt [⟨tg, iter, ifs, 0⟩, ⟨tg1, iter1, ifs1, 0⟩] scope pos) spos) (sSet i (xFz (nLc2 it g c it1 g1 c1 f vs vs1))) ∧ SD X (.Assign [.Name y py] (.ListComp elt [⟨tg, iter, ifs, 0⟩, ⟨tg1, iter1, ifs1, 0⟩] scope pos) spos) (sNew i (nLc2 it g c it1 g1 c1 f vs vs1)) := by
  subst hv
  obtain ⟨w, p, m⟩ := hi
  have q := ps_setLc2 (py := py) (g := gOf X.K g _) (tt := tOfT X.K c) (wi1 := tiOf X.K it1) (g1 := gOf X.K g1 _) (tt1 := tOfT X.K c1) (te := tOf X.K f) hc hN hy hyl hsw p ok hv1 (fun s H C cl fp => (hg s H C cl fp).pg) (fun s H C cl fp => (ht s H C cl fp).pts) (fun s H C cl fp => (hi1 s H C cl fp).pi)
    (fun s H C cl fp => (hg1 s H C cl fp).pg) (fun s H C cl fp => (ht1 s H C cl fp).pts) (fun s H C cl fp => (he s H C cl fp).pe) hs hs1
  exact ⟨⟨_, q, ms_asg (me_fz (mn_lc2 m mg_of mt_of mi_of mg_of mt_of me_of))⟩, ⟨_, q, ms_asgN (mn_lc2 m mg_of mt_of mi_of mg_of mt_of me_of)⟩⟩
end
end DL
set_option maxRecDepth 100000
set_option maxHeartbeats 2000000
/-! DL: chains of three comparisons; raise that is not reached; defs of the shape f(**d) -/
namespace DL
open PySem PySem.Spec PyProof.Rows L2

/-! ### a op b op c op d -/
def xChain3 (g g1 g2 : PyData → PyData → Option PyData) (a b c d : XE) : XE := fun ρ => (a ρ).bind fun p => (b p.2).bind fun q => (g p.1 q.1).bind fun z => match z with
  | .bool true => (c q.2).bind fun r => (g1 q.1 r.1).bind fun z => match z with
    | .bool true => (d r.2).bind fun s => (g2 r.1 s.1).map fun z => (z, s.2)
    | .bool false => some (.bool false, r.2)
    | _ => none
  | .bool false => some (.bool false, q.2)
  | _ => none
def tChain3 (r r1 r2 : R2) (ta tb tc td : TE) : TE := fun σ H Q => ta σ H fun x H1 => tb σ H1 fun y H2 => r x y H2 fun z H3 => ∃ k, z = .bl k ∧
  (if k = true then tc σ H3 fun w H4 => r1 y w H4 fun z H5 => ∃ k, z = .bl k ∧ (if k = true then td σ H5 fun u H6 => r2 w u H6 Q else Q (.bl false) H5) else Q (.bl false) H3)
section
variable {X : Cx} {a b c d : Expr} {fa fb fc fd : XE} {g g1 g2 : PyData → PyData → Option PyData} {r r1 r2 : R2} {pos : Pos} {ta tb tc td : TE}
theorem pe_chain3 {op op1 op2 : CmpOp} (ho : OpR X (compareOp op) r) (ho1 : OpR X (compareOp op1) r1) (ho2 : OpR X (compareOp op2) r2) (ha : PE X a ta) (hb : PE X b tb) (hc : PE X c tc) (hd : PE X d td)
    (hm : lastMarks [op, op1, op2] [b, c, d] = false := by with_unfolding_all rfl) : PE X (.Compare a [op, op1, op2] [b, c, d] pos) (tChain3 r r1 r2 ta tb tc td) := by
  refine ⟨fun pins s σ H Q I h => ?_⟩
  refine Compare_chain (thn (ha.run pins s σ H _ I h) fun v s1 ⟨x, H1, I1, q1, k1⟩ => chain_link (thn (hb.run pins s1 σ H1 _ I1 k1) fun u s2 ⟨y, H2, I2, q2, k2⟩ =>
    thn (ho pins s2 σ H2 x y v u _ I2 q1 q2 k2) fun dd s3 ⟨z, H3, I3, q3, k, e, k3⟩ => ?_)) hm
  subst e
  cases q3
  refine wpAny_truthy_bool ?_
  cases k with
  | false => exact ite_ff ⟨.bl false, H3, I3, rfl, k3⟩
  | true =>
    refine ite_tt (chain_link (thn (hc.run pins s3 σ H3 _ I3 k3) fun w' s4 ⟨z', H4, I4, q4, k4⟩ => thn (ho1 pins s4 σ H4 y z' u w' _ I4 q2 q4 k4) fun d2 s5 ⟨z2, H5, I5, q5, k5, e5, k6⟩ => ?_))
    subst e5
    cases q5
    refine wpAny_truthy_bool ?_
    cases k5 with
    | false => exact ite_ff ⟨.bl false, H5, I5, rfl, k6⟩
    | true => exact ite_tt (chain_last (thn (hd.run pins s5 σ H5 _ I5 k6) fun w2 s6 ⟨z3, H6, I6, q6, k7⟩ => ho2 pins s6 σ H6 z' z3 w' w2 Q I6 q4 q6 k7))
theorem me_chain3 {K : PySem.W.Frag} (hr : R2M K r g) (hr1 : R2M K r1 g1) (hr2 : R2M K r2 g2) (ha : ME K ta fa) (hb : ME K tb fb) (hc : ME K tc fc) (hd : MO K td fd) : ME K (tChain3 r r1 r2 ta tb tc td) (xChain3 g g1 g2 fa fb fc fd) := by
  intro Φ Z σ H ρ dd ρ' R q Q k
  unfold xChain3 at q
  cases e1 : fa ρ with
  | none => rw [e1] at q; cases q
  | some p =>
    rw [e1, Option.bind_some] at q
    cases e2 : fb p.2 with
    | none => rw [e2] at q; cases q
    | some s =>
      rw [e2, Option.bind_some] at q
      cases e3 : g p.1 s.1 with
      | none => rw [e3] at q; cases q
      | some z =>
        rw [e3, Option.bind_some] at q
        refine ha Φ Z σ H ρ p.1 p.2 R e1 _ fun x H1 Z1 z1 R1 r1' => ?_
        refine hb Φ Z1 σ H1 p.2 s.1 s.2 R1 e2 _ fun y H2 Z2 z2 R2 r2' => ?_
        refine hr Φ Z2 σ H2 s.2 x y p.1 s.1 _ R2 (.inl (r1'.mono z2)) (.inl r2') e3 _ fun v H' Z' z' R' r' => ?_
        split at q
        · cases r'
          refine ⟨true, rfl, ?_⟩
          rw [if_pos rfl]
          cases e4 : fc s.2 with
          | none => rw [e4] at q; cases q
          | some u =>
            rw [e4, Option.bind_some] at q
            cases e5 : g1 s.1 u.1 with
            | none => rw [e5] at q; cases q
            | some w =>
              rw [e5, Option.bind_some] at q
              refine hc Φ Z' σ H' s.2 u.1 u.2 R' e4 _ fun y' H3 Z3 z3 R3 r3 => ?_
              refine hr1 Φ Z3 σ H3 u.2 y y' s.1 u.1 _ R3 (.inl ((r2'.mono z').mono z3)) (.inl r3) e5 _ fun v H4 Z4 z4 R4 r4 => ?_
              split at q
              · cases r4
                refine ⟨true, rfl, ?_⟩
                rw [if_pos rfl]
                cases e6 : fd u.2 with
                | none => rw [e6] at q; cases q
                | some t =>
                  rw [e6, Option.bind_some] at q
                  cases e7 : g2 u.1 t.1 with
                  | none => rw [e7] at q; cases q
                  | some x' =>
                    rw [e7] at q
                    cases q
                    refine hd Φ Z4 σ H4 u.2 t.1 t.2 R4 e6 _ fun y2 H5 Z5 z5 R5 r5 => ?_
                    exact hr2 Φ Z5 σ H5 t.2 y' y2 u.1 t.1 _ R5 (.inl ((r3.mono z4).mono z5)) r5 e7 Q fun v H6 Z6 z6 R6 r6 => k v H6 Z6 ((((((z1.trans z2).trans z').trans z3).trans z4).trans z5).trans z6) R6 r6
              · cases r4
                cases q
                refine ⟨false, rfl, ?_⟩
                rw [if_neg Bool.false_ne_true]
                exact k _ H4 Z4 ((((z1.trans z2).trans z').trans z3).trans z4) R4 (.bl false)
              · cases q
        · cases r'
          cases q
          refine ⟨false, rfl, ?_⟩
          rw [if_neg Bool.false_ne_true]
          exact k _ H' Z' ((z1.trans z2).trans z') R' (.bl false)
        · cases q
theorem ed_chain3 {op op1 op2 : CmpOp} (ho : OpR X (compareOp op) r) (ho1 : OpR X (compareOp op1) r1) (ho2 : OpR X (compareOp op2) r2) (hr : R2M X.K r g) (hr1 : R2M X.K r1 g1) (hr2 : R2M X.K r2 g2) (ha : ED X a fa) (hb : ED X b fb) (hc : ED X c fc) (hd : OD' X d fd) (hm : lastMarks [op, op1, op2] [b, c, d] = false := by with_unfolding_all rfl) :
    ED X (.Compare a [op, op1, op2] [b, c, d] pos) (xChain3 g g1 g2 fa fb fc fd) := by
  obtain ⟨ta, pa, ma⟩ := ha
  obtain ⟨tb, pb, mb⟩ := hb
  obtain ⟨tc, pc, mc⟩ := hc
  obtain ⟨td, pd, md⟩ := hd
  exact ⟨_, pe_chain3 ho ho1 ho2 pa pb pc pd hm, me_chain3 hr hr1 hr2 ma mb mc md⟩
end

/-! ### a statement that is not reached -/
def sStuck : XS := fun _ => none
theorem sd_stuck {X : Cx} (st : Stmt) : SD X st sStuck := ⟨fun _ _ _ => False, ⟨fun pins s σ H D I h => h.elim⟩, fun Φ Z σ H ρ r R q D k => nomatch q⟩

/-! ### d.get of an own dict -/
def xOg1 (i : Nat) (g : XE) : XE := fun ρ => match ρ[i]? with
  | some (.own (.od _) _) => (g ρ).bind fun q => match q.2[i]?, keyD q.1 with
    | some (.own (.od kvs) _), some k => some ((getD' kvs k).getD .none, q.2)
    | _, _ => none
  | _ => none
def xOg2 (i : Nat) (g h : XE) : XE := fun ρ => match ρ[i]? with
  | some (.own (.od _) _) => (g ρ).bind fun q => (h q.2).bind fun r => match r.2[i]?, keyD q.1 with
    | some (.own (.od kvs) _), some k => some ((getD' kvs k).getD r.1, r.2)
    | _, _ => none
  | _ => none
theorem look_own {K : PySem.W.Frag} {Z : Hp} {k : Key} : ∀ {vs : List (Key × V)} {kvs : List (Key × PyData)}, vs.map (·.1) = kvs.map (·.1) → RpA K Z (vs.map (·.2)) (kvs.map (·.2)) → (∃ v d, valV vs k = some v ∧ getD' kvs k = some d ∧ Rp K Z v d) ∨ (valV vs k = none ∧ getD' kvs k = none)
  | [], [], _, _ => .inr ⟨rfl, rfl⟩
  | [], _ :: _, e, _ => by cases e
  | _ :: _, [], e, _ => by cases e
  | (a, v) :: vs, (b, d) :: kvs, e, r => by
    rw [List.map_cons, List.map_cons] at e
    injection e with e1 e2
    have e1 : a = b := e1
    subst e1
    rw [List.map_cons, List.map_cons] at r
    cases r with
    | cons r1 r2 =>
      have ih := look_own (k := k) e2 r2
      by_cases h : a = k
      · subst h
        exact .inl ⟨v, d, by simp [valV], by simp [getD'], r1⟩
      · have e1 : valV ((a, v) :: vs) k = valV vs k := by simp [valV, List.find?_cons, h]
        have e2 : getD' ((a, d) :: kvs) k = getD' kvs k := by simp [getD', List.find?_cons, h]
        rw [e1, e2]
        exact ih
section
variable {X : Cx} {e f2 : Expr} {g h : XE} {apos cpos vpos : Pos}
theorem ed_og1 (i : Nat) {x : Str} (hu : X.A.units + 1 < cLine) (he : ED X e g) (m : M1 X (.Name x vpos) "get" apos e cpos) (hN : X.N[i]? = some x := by rfl) (hv : Vis X.env.scope x := by first | exact Or.inl rfl | exact Or.inr (Or.inl rfl) | exact Or.inr (Or.inr rfl)) (hd : (x == ("__debug__" : Str)) = false := by decide)
    (hcd : (x == ("__classdict__" : Str)) = false := by decide) : ED X (.Call (.Attribute (.Name x vpos) "get" apos) [e] [] cpos) (xOg1 i g) := by
  obtain ⟨t2, p2, mt2⟩ := he
  refine ⟨_, pe_dget1 hu (pe_var hN hv hd hcd) p2 m, fun Φ Z σ H ρ d ρ' R q Q k => ?_⟩
  unfold xOg1 at q
  split at q
  · rename_i kvs0 io0 e0
    obtain ⟨a, s, vs0, h0, _, _⟩ := R.own _ _ _ e0
    cases e2 : g ρ with
    | none => rw [e2] at q; cases q
    | some u =>
      rw [e2, Option.bind_some] at q
      split at q
      · rename_i kvs io kk eo ek
        cases q
        refine ⟨_, s, a, rfl, .inl ⟨vs0, .inl h0⟩, mt2 Φ Z σ H ρ u.1 u.2 R e2 _ fun y H2 Z2 z2 R2 r2 => ?_⟩
        obtain ⟨a2, s2, vs, h2, hk, hr⟩ := R2.own _ _ _ eo
        rw [s] at s2
        cases s2
        have ey := keyD_rp r2 ek
        subst ey
        rcases look_own (k := kk) hk hr with ⟨v, d, l1, l2, l3⟩ | ⟨l1, l2⟩
        · exact ⟨_, DGet.k h2, k _ H2 Z2 z2 R2 (by rw [l1, l2]; exact l3)⟩
        · exact ⟨_, DGet.k h2, k _ H2 Z2 z2 R2 (by rw [l1, l2]; exact .non)⟩
      · cases q
  · cases q
theorem ed_og2 (i : Nat) {x : Str} (hu : X.A.units + 1 < cLine) (he : ED X e g) (hf : ED X f2 h) (m : M2 X (.Name x vpos) "get" apos e f2 cpos) (hN : X.N[i]? = some x := by rfl) (hv : Vis X.env.scope x := by first | exact Or.inl rfl | exact Or.inr (Or.inl rfl) | exact Or.inr (Or.inr rfl)) (hd : (x == ("__debug__" : Str)) = false := by decide)
    (hcd : (x == ("__classdict__" : Str)) = false := by decide) : ED X (.Call (.Attribute (.Name x vpos) "get" apos) [e, f2] [] cpos) (xOg2 i g h) := by
  obtain ⟨t2, p2, mt2⟩ := he
  obtain ⟨t3, p3, mt3⟩ := hf
  refine ⟨_, pe_dget2 hu (pe_var hN hv hd hcd) p2 p3 m, fun Φ Z σ H ρ d ρ' R q Q k => ?_⟩
  unfold xOg2 at q
  split at q
  · rename_i kvs0 io0 e0
    obtain ⟨a, s, vs0, h0, _, _⟩ := R.own _ _ _ e0
    cases e2 : g ρ with
    | none => rw [e2] at q; cases q
    | some u =>
      rw [e2, Option.bind_some] at q
      cases e3 : h u.2 with
      | none => rw [e3] at q; cases q
      | some w =>
        rw [e3, Option.bind_some] at q
        split at q
        · rename_i kvs io kk eo ek
          cases q
          refine ⟨_, s, a, rfl, .inl ⟨vs0, .inl h0⟩, mt2 Φ Z σ H ρ u.1 u.2 R e2 _ fun y H2 Z2 z2 R2 r2 => mt3 Φ Z2 σ H2 u.2 w.1 w.2 R2 e3 _ fun y3 H3 Z3 z3 R3 r3 => ?_⟩
          obtain ⟨a2, s2, vs, h2, hk, hr⟩ := R3.own _ _ _ eo
          rw [s] at s2
          cases s2
          have ey := keyD_rp r2 ek
          subst ey
          rcases look_own (k := kk) hk hr with ⟨v, d, l1, l2, l3⟩ | ⟨l1, l2⟩
          · exact ⟨_, DGet.k h2, k _ H3 Z3 (z2.trans z3) R3 (by rw [l1, l2]; exact l3)⟩
          · exact ⟨_, DGet.k h2, k _ H3 Z3 (z2.trans z3) R3 (by rw [l1, l2]; exact r3.mono (Same.refl _))⟩
        · cases q
  · cases q
end

/-! ### sorted(d) of a dict with few text keys -/
def leS (a b : Str) : Bool := !decide (b.cps.toList < a.cps.toList)
theorem leS_iff (a b : Str) : leS a b = true ↔ a.cps.toList ≤ b.cps.toList := by
  unfold leS
  rw [Bool.not_eq_true', decide_eq_false_iff_not]
  exact List.not_lt
theorem leS_trans (a b c : Str) (h : leS a b = true) (h2 : leS b c = true) : leS a c = true := (leS_iff a c).mpr (List.le_trans ((leS_iff a b).mp h) ((leS_iff b c).mp h2))
theorem leS_total (a b : Str) : (leS a b || leS b a) = true := by
  rw [Bool.or_eq_true, leS_iff, leS_iff]
  exact List.le_total _ _
theorem leS_anti (a b : Str) (h : leS a b = true) (h2 : leS b a = true) : a = b := PySem.W.str_of_cps (List.le_antisymm ((leS_iff a b).mp h) ((leS_iff b a).mp h2))
def srtS (ks : List Str) : List Str := ks.mergeSort leS
theorem rising_pw : ∀ (l : List Str) (p : Str), risingS p l = true → (p :: l).Pairwise fun a b => leS a b = true
  | [], p, _ => List.pairwise_singleton _ _
  | x :: r, p, h => by
    have h' : (!ltCps x.cps.toList p.cps.toList && risingS x r) = true := h
    rw [Bool.and_eq_true] at h'
    have h1 : leS p x = true := by unfold leS; rw [← ltCps_eq]; exact h'.1
    have ih := rising_pw r x h'.2
    refine List.pairwise_cons.mpr ⟨fun y hy => ?_, ih⟩
    rcases List.mem_cons.mp hy with rfl | hy
    · exact h1
    · exact leS_trans _ _ _ h1 ((List.pairwise_cons.mp ih).1 y hy)
theorem sortedS_eq {ys ks : List Str} (hp : ys.Perm ks) (h : sortedS ys = true) : ys = srtS ks := by
  have h1 : ys.Pairwise fun a b => leS a b = true := by
    cases ys with
    | nil => exact List.Pairwise.nil
    | cons x r => exact rising_pw r x h
  have h2 : (srtS ks).Pairwise fun a b => leS a b = true := List.pairwise_mergeSort leS_trans leS_total ks
  exact List.Perm.eq_of_pairwise (fun a b _ _ h h' => leS_anti a b h h') h1 h2 (hp.trans (List.mergeSort_perm ks leS).symm)
def skeys : List (PyData × PyData) → Option (List Str)
  | [] => some []
  | (.str x, _) :: r => (skeys r).map (x :: ·)
  | _ => none
def sortedKX : PyData → Option PyData
  | .dict ps => (skeys ps).bind fun ks => if ks.length < 64 then some (.list ((srtS ks).map PyData.str)) else none
  | _ => none
def rSortedK : List V → Hp → VK → Prop := fun xs H Q => (∃ (a : Addr) (kvs : List (Key × V)) (ks : List Str), xs = [.ref a] ∧ Rd H a (.dK kvs) ∧ kvs.map (·.1) = ks.map Sum.inr ∧ ks.length < 64 ∧
    ∀ p, H p = none → Q (.ref p) (upd H p (.lst ((srtS ks).map V.str)))) ∨ rSortedT xs H Q
theorem cr_sortedK {X : Cx} (hu : X.A.units + 64 < cLine) (hc : X.calm = true := by rfl) : CallR X (.builtin "sorted") rSortedK := by
  intro pins s σ H xs us Q I r h
  rcases h with ⟨a, kvs, ks, rfl, hd, hk, hl, q⟩ | h
  · exact call_sortedD hc pins s σ H _ us Q I r ⟨a, kvs, ks, rfl, hd, hk, hl, fun ys p hp hs hn => by rw [sortedS_eq hp hs]; exact q p hn⟩
  · exact cr_sortedT hc hu pins s σ H xs us Q I r h
theorem rpa_strs {K : PySem.W.Frag} {Z : Hp} : ∀ l : List Str, RpA K Z (l.map V.str) (l.map PyData.str)
  | [] => .nil
  | x :: l => .cons (.str x) (rpa_strs l)
theorem skeys_zip : ∀ {ks : List Key} {ds : List PyData} {ss : List Str}, ks.length = ds.length → skeys ((ks.map kD).zip ds) = some ss → ks = ss.map Sum.inr
  | [], _, ss, _, h => by
    simp [skeys] at h
    subst h; rfl
  | _ :: _, [], _, h, _ => by cases h
  | .inl i :: ks, d :: ds, ss, hl, h => by simp [skeys, kD] at h
  | .inr x :: ks, d :: ds, ss, hl, h => by
    simp only [List.map_cons, kD, List.zip_cons_cons, skeys] at h
    cases e : skeys ((ks.map kD).zip ds) with
    | none => rw [e] at h; cases h
    | some r =>
      rw [e] at h
      cases h
      rw [skeys_zip (by simpa using hl) e]
      rfl
theorem skeys_tup : ∀ {ks : List (List Key)} {ds : List PyData} {ss : List Str}, ks.length = ds.length → skeys ((ks.map fun k => PyData.tuple (k.map kD)).zip ds) = some ss → ks = [] ∧ ss = []
  | [], _, ss, _, h => by
    simp [skeys] at h
    exact ⟨rfl, h⟩
  | _ :: _, [], _, h, _ => by cases h
  | _ :: _, _ :: _, _, _, h => by simp [skeys] at h
theorem c1_sortedK {K : PySem.W.Frag} : C1M K rSortedK sortedKX := by
  intro Φ Z σ H ρ x d z R rx e Q k
  unfold sortedKX at e
  split at e
  · rename_i ps
    cases es : skeys ps with
    | none => rw [es] at e; cases e
    | some ks =>
      rw [es, Option.bind_some] at e
      split at e
      · rename_i hl
        cases e
        have fin : ∀ p, H p = none → Q (.ref p) (upd H p (.lst ((srtS ks).map V.str))) := fun p hp => ends_lst R (rpa_strs _) k hp
        have fin0 : ks = [] → ∀ p, H p = none → Q (.ref p) (upd H p (.lst [])) := fun e p hp => by
          subst e
          have := fin p hp
          simpa [srtS] using this
        have emp : ∀ (a : Addr) (kvs : List (List Key × V)), kvs = [] → ks = [] → H a = some (.dT kvs) → rSortedT [V.ref a] H Q := fun a kvs e1 e2 hh => by
          subst e1
          refine ⟨a, [], rfl, hh, ⟨rfl, rfl⟩, fun p bs hp hb hbk => ?_⟩
          have : bs = [] := by simpa using hbk
          subst this
          have := fin0 e2 p hp
          simpa using this
        rcases rx with rx | ⟨a, o, rfl, ob, eo⟩
        · generalize ed : PyData.dict ps = dd at rx
          cases rx with
          | dic h r =>
            cases ed
            rename_i a ws ds
            have hlen : ws.length = ds.length := by have := r.length; simpa using this
            have e2 : (ws.map fun p => kD p.1) = (ws.map (·.1)).map kD := by rw [List.map_map]; rfl
            rw [e2] at es
            exact .inl ⟨a, ws, ks, rfl, .inl (R.zH _ _ h), skeys_zip (by simpa using hlen) es, hl, fin⟩
          | dit h r =>
            cases ed
            rename_i a ws ds
            have hlen : ws.length = ds.length := by have := r.length; simpa using this
            have e2 : (ws.map fun p => PyData.tuple (p.1.map kD)) = (ws.map (·.1)).map fun k => PyData.tuple (k.map kD) := by rw [List.map_map]; rfl
            rw [e2] at es
            obtain ⟨h1, h2⟩ := skeys_tup (by simpa using hlen) es
            have : ws = [] := by simpa using h1
            exact .inr (emp a ws this h2 (R.zH _ _ h))
          | _ => cases ed
        · cases o with
          | ol xs => cases eo
          | od ws =>
            obtain ⟨vs, h, h1, r⟩ := ob
            cases eo
            have e2 : (ws.map fun p => kD p.1) = (ws.map (·.1)).map kD := by rw [List.map_map]; rfl
            rw [e2] at es
            have := skeys_zip (by simp) es
            exact .inl ⟨a, vs, ks, rfl, .inl h, h1.trans this, hl, fin⟩
          | ot ws =>
            obtain ⟨vs, h, h1, r⟩ := ob
            cases eo
            have e2 : (ws.map fun p => PyData.tuple (p.1.map kD)) = (ws.map (·.1)).map fun k => PyData.tuple (k.map kD) := by rw [List.map_map]; rfl
            rw [e2] at es
            obtain ⟨q1, q2⟩ := skeys_tup (by simp) es
            rw [q1] at h1
            have : vs = [] := by simpa using h1
            exact .inr (emp a vs this q2 h)
      · cases e
  · cases e
end DL
set_option maxRecDepth 100000
set_option maxHeartbeats 2000000
/-! DL: defs of the shape f(**d), and calls of them -/
namespace DL
open PySem PySem.Spec PyProof.Rows L2
section
variable {prog : Program} {w : World} {A : Around} {E : Value → Shared → Prop} {d : Addr}
theorem ns_new {s : Shared} {kvs : List (Key × Value)} {k : Str} {v : Value} {Q : Unit → Shared → Prop} (hm : s.heap.DictOf (mixKind prog w) d kvs) (hn : Sum.inr k ∉ kvs.map (·.1))
    (h : ∀ h', h'.DictOf (mixKind prog w) d (kvs ++ [(.inr k, v)]) → Heap.SameBut d s.heap h' → h'.objs.size = s.heap.objs.size → Q () { s with heap := h', toks := s.toks + 1 }) : wpAny (model prog w) A (nsSet d k v) Q E s := by
  obtain ⟨o, es, ep, ho, hc, hd, hk, hp, hnd⟩ := hm
  have hno : ∀ e ∈ es, e.key.isStr k = false ∧ e.refKey = false := fun e he => by
    obtain ⟨kk, h1, h2⟩ := hk e he
    have hs : (mixKind prog w).is (.inr k) e.key = e.key.isStr k := (mixKind prog w).strs (.inr k) k 0 e.key (mixKind_str prog w k 0)
    constructor
    · rw [← hs]
      cases hb : (mixKind prog w).is (.inr k) e.key with
      | false => rfl
      | true =>
        exfalso
        have hi := hp.findIdx (.inr k)
        have : (kvs.findIdx? fun kv => decide (kv.1 = .inr k)) = none := by
          rw [List.findIdx?_eq_none_iff]
          intro x hx
          rw [decide_eq_false_iff_not]
          intro e
          exact hn (e ▸ List.mem_map_of_mem hx)
        rw [this] at hi
        have := List.findIdx?_eq_none_iff.mp hi e (Array.mem_toList_iff.mpr he)
        rw [hb] at this
        cases this
    · rcases keyIs_shape (show keyIs kk e.key = true from h1) with ⟨i, t, _, e1⟩ | ⟨x, t, _, e1⟩ <;> simp [DictEntry.refKey, e1]
  have c : aRefKeyMayBeTheName k es = false := by
    rw [aRefKeyMayBeTheName_at]
    have : es.any (·.refKey) = false := by rw [Array.any_eq_false']; intro e he; rw [(hno e he).2]; exact Bool.false_ne_true
    rw [this, Bool.and_false]
  have hi : es.findIdx? (·.key.isStr k) = none := by
    rw [Array.findIdx?_eq_none_iff]
    intro e he
    exact (hno e he).1
  unfold nsSet
  refine wpAny_bind (wpAny_bind (wpAny_askSetting (wpAny_pure (wpAny_bind (wpAny_mkText (wpAny_bind (wpAny_loadPart ho ?_)))))))
  simp only [hd, c]
  refine wpAny_updatePart ho ?_
  have hput : ∀ (hh : Int) (key : Value), Obj.putName k hh key v o = ⟨o.cls, o.dict, .dict (es.push ⟨hh, key, v⟩) (ep + 1), o.slots⟩ := fun hh key => by
    obtain ⟨c1, d1, dt, sl⟩ := o
    simp only at hd
    subst hd
    simp only [Obj.putName_eq, Obj.putNameByArray, hi]
  refine h _ ⟨_, es.push ⟨(mixKind prog w).hash (.inr k), .str k s.toks, v⟩, ep + 1, Heap.get?_update_self _ ho (by rw [hput]; rfl), ?_, ?_, hk.push (mixKind_str prog w k s.toks) v, ?_, ?_⟩ (Heap.SameBut.update ..) ?_
  · rw [hput]; exact hc
  · rw [hput]; rfl
  · have := hp.append (mixKind_str prog w k s.toks) ((mixKind prog w).hash (.inr k)) v
    simpa using this
  · rw [List.map_append, List.nodup_append]
    refine ⟨hnd, by simp, fun a ha b hb => ?_⟩
    simp at hb
    subst hb
    exact fun e => hn (e ▸ ha)
  · exact (Heap.SameBut.update ..).1
end
section
variable {prog : Program} {w : World} {A : Around} {E : Value → Shared → Prop} {d : Addr}
theorem ns_fill {Q : PUnit → Shared → Prop} : ∀ (ex : List (Str × Value)) (s : Shared) (kvs : List (Key × Value)), s.heap.DictOf (mixKind prog w) d kvs → (∀ x ∈ ex, Sum.inr x.1 ∉ kvs.map (·.1)) → (ex.map (·.1)).Nodup →
    (∀ h', h'.DictOf (mixKind prog w) d (kvs ++ ex.map fun x => (.inr x.1, x.2)) → Heap.SameBut d s.heap h' → Q ⟨⟩ { s with heap := h', toks := s.toks + ex.length }) →
    wpAny (model prog w) A (forIn ex PUnit.unit fun x _ => (nsSet d x.1 x.2 >>= fun _ => pure (ForInStep.yield PUnit.unit))) Q E s
  | [], s, kvs, hm, _, _, h => by
    rw [List.forIn_nil]
    refine wpAny_pure (h s.heap (by simpa using hm) ⟨rfl, fun _ _ => rfl⟩)
  | x :: r, s, kvs, hm, hn, hd, h => by
    obtain ⟨hn1, hn2⟩ := List.nodup_cons.mp (show (x.1 :: r.map (·.1)).Nodup from hd)
    rw [List.forIn_cons]
    refine wpAny_bind (wpAny_bind (ns_new hm (hn x List.mem_cons_self) fun h' hm' sb sz => wpAny_pure ?_))
    show wpAny (model prog w) A (forIn r PUnit.unit fun x _ => (nsSet d x.1 x.2 >>= fun _ => pure (ForInStep.yield PUnit.unit))) Q E { s with heap := h', toks := s.toks + 1 }
    refine ns_fill r { s with heap := h', toks := s.toks + 1 } _ hm' (fun y hy => ?_) hn2 fun h'' hm'' sb' => ?_
    · rw [List.map_append, List.mem_append, not_or]
      refine ⟨hn y (List.mem_cons_of_mem _ hy), ?_⟩
      simp only [List.map_cons, List.map_nil, List.mem_singleton]
      intro e
      injection e with e
      exact hn1 (e ▸ List.mem_map_of_mem hy)
    · have t1 : s.toks + 1 + r.length = s.toks + (r.length + 1) := by omega
      show Q ⟨⟩ { s with heap := h'', toks := s.toks + 1 + r.length }
      rw [t1]
      refine h h'' ?_ ⟨sb'.1.trans sb.1, fun b hb => (sb'.2 b hb).trans (sb.2 b hb)⟩
      rw [List.append_assoc] at hm''
      exact hm''
end
/-- the def at f, called with keywords alone -/
structure FnK (P : Program) (w : World) (K : PySem.W.Frag) (mg : Str → Option Value) (base : Heap) (k : Nat) (f : Addr) (fd : FuncData) (pv : Str) (m : XF) : Prop where
  run : ∀ (A : Around) (outer : List Env) (s : Shared) (H : Hp) (ks : List Str) (us : List Value) (vs : List V) (Q : VK), Room k A → A.guards = some [] → Env0 P w K mg base A outer s H → Vals vs us → vs.length = ks.length → ks.Nodup → ks.length ≤ 1000 →
    bindArgs fd ⟨[], ks.zip us⟩ = ((alloc ({ cls := .type "dict", data := .dict #[] } : Obj) : Sem Addr) >>= fun d => forIn (ks.zip us) PUnit.unit (fun x _ => (nsSet d x.1 x.2 >>= fun _ => pure (ForInStep.yield PUnit.unit))) >>= fun _ => pure [(pv, Value.ref d)]) →
    (∀ p, H p = none → spF K m [V.ref p] (upd H p (.dK ((ks.map Sum.inr).zip vs))) Q) →
    codeAny (model P w) A (.call (.ref f) ⟨[], ks.zip us⟩) (CR CX0 outer P w H s Q E0) s
theorem FnK.mono {P : Program} {w : World} {K : PySem.W.Frag} {mg : Str → Option Value} {base : Heap} {j k : Nat} {f : Addr} {fd : FuncData} {pv : Str} {m : XF} (F : FnK P w K mg base j f fd pv m) (h : j ≤ k) : FnK P w K mg base k f fd pv m :=
  ⟨fun A outer s H ks us vs Q hr => F.run A outer s H ks us vs Q (hr.mono h)⟩
/-- what the keywords make a dict -/
def kwF (ks : List Str) (m : XF) : XF := fun es => (datEs es).bind fun ds => if ds.length = ks.length then (m [.own (.od ((ks.map Sum.inr).zip ds)) true]).map fun q => (q.1, es) else none
theorem rl_oneK {K : PySem.W.Frag} {Z Fr H : Hp} {p : Addr} {kvs : List (Key × PyData)} {vs : List (Key × V)} (hp : H p = none) (zH : Same Z H) (fr : Same Fr H) (hk : vs.map (·.1) = kvs.map (·.1)) (hr : RpA K Z (vs.map (·.2)) (kvs.map (·.2))) :
    Rl K ⟨Z, upd H p (.dK vs), Fr, fun i => if i = 0 then some p else none⟩ Z ([V.ref p].map some) (upd H p (.dK vs)) [.own (.od kvs) true] := by
  have only : ∀ (i : Nat) e, ([EV.own (.od kvs) true] : Nv)[i]? = some e → i = 0 ∧ e = .own (.od kvs) true := fun i e h => by
    cases i with
    | zero => simp at h; exact ⟨rfl, h.symm⟩
    | succ i => simp at h
  have slot : ∀ i a, AtS [.own (.od kvs) true] ([V.ref p].map some) i a → i = 0 ∧ a = p := fun i a ⟨⟨o, io, e⟩, s⟩ => by
    obtain ⟨rfl, _⟩ := only i _ e
    simp at s
    exact ⟨rfl, s.symm⟩
  refine
    { len := rfl
      zH := zH.trans (same_new hp)
      zN := fun b o h _ => .inl h
      f0 := fun b h => (zH.trans (same_new hp)).free h
      fr := fr.trans (same_new hp)
      dom := fun b h => h
      inj := fun i j b h1 h2 => (slot i b h1).1.trans (slot j b h2).1.symm
      sep := fun i b h => by
        obtain ⟨rfl, rfl⟩ := slot i b h
        exact ⟨zH.free hp, fr.free hp⟩
      dat := fun i y e => nomatch (only i _ e).2
      scr := fun i l e => nomatch (only i _ e).2
      own := fun i o io e => by
        obtain ⟨rfl, e⟩ := only i _ e
        cases e
        exact ⟨p, rfl, vs, upd_same, hk, hr⟩
      loc := fun i o b e => nomatch (only i _ e).2
      ino := fun i b e => by
        by_cases hi : i = 0
        · subst hi
          simp at e
          subst e
          exact ⟨rfl, _, rfl⟩
        · simp [hi] at e
      io := fun i o e => by
        obtain ⟨rfl, _⟩ := only i _ e
        exact ⟨p, rfl⟩ }
/-- into the body: the dict is laid -/
theorem kw_in {K : PySem.W.Frag} {m : XF} {vs : List V} {H : Hp} {Q : VK} {ks : List Str} (h : spF K (kwF ks m) vs H Q) {p : Addr} (hp : H p = none) : vs.length = ks.length ∧ spF K m [V.ref p] (upd H p (.dK ((ks.map Sum.inr).zip vs))) Q := by
  obtain ⟨Z, Fr, ino, es, d, ρ', hm, hio, R0, hQ⟩ := h
  unfold kwF at hm
  cases e1 : datEs es with
  | none => rw [e1] at hm; cases hm
  | some ds =>
    rw [e1, Option.bind_some] at hm
    split at hm
    · rename_i hle
      cases e2 : m [.own (.od ((ks.map Sum.inr).zip ds)) true] with
      | none => rw [e2] at hm; cases hm
      | some w =>
        rw [e2] at hm
        cases hm
        have hes := datEs_map e1
        have hlen : vs.length = ds.length := by
          have := R0.len
          rw [hes, List.length_map, List.length_map] at this
          exact this.symm
        have noown : ∀ (i : Nat) o b, es[i]? ≠ some (EV.own o b) := fun i o b q => by
          rw [hes, List.getElem?_map] at q
          cases h' : ds[i]? <;> rw [h'] at q <;> cases q
        have noscr : ∀ (i : Nat) ns, es[i]? ≠ some (EV.scr ns) := fun i o q => by
          rw [hes, List.getElem?_map] at q
          cases h' : ds[i]? <;> rw [h'] at q <;> cases q
        have noino : ∀ i a, ino i ≠ some a := fun i a q => by
          obtain ⟨_, o, e⟩ := R0.ino i a q
          exact noown i o _ e
        have hra : RpA K Z vs ds := rpa_of hlen fun i x hx => by
          obtain ⟨v, e, r⟩ := R0.dat i x (by rw [hes, List.getElem?_map, hx]; rfl)
          refine ⟨v, ?_, r⟩
          rw [List.getElem?_map] at e
          cases h' : vs[i]? with
          | none => rw [h'] at e; cases e
          | some u => rw [h'] at e; cases e; rfl
        have k1 : ((ks.map Sum.inr).zip vs).map (·.1) = (((ks.map Sum.inr).zip ds).map (·.1) : List Key) := by
          rw [List.map_fst_zip (by simp; omega), List.map_fst_zip (by simp; omega)]
        have k2 : RpA K Z (((ks.map (Sum.inr (α := Int))).zip vs).map (·.2)) (((ks.map (Sum.inr (α := Int))).zip ds).map (·.2)) := by
          rw [List.map_snd_zip (by simp; omega), List.map_snd_zip (by simp; omega)]
          exact hra
        refine ⟨by omega, Z, Fr, _, _, w.1, w.2, e2, fun i o e => by cases i <;> simp at e, rl_oneK hp R0.zH R0.fr k1 k2, ?_⟩
        intro v H2 Z2 z2 R2 r2
        have hH : ∀ a, upd H p (.dK ((ks.map Sum.inr).zip vs)) a = none → H a = none := fun a e => by
          by_cases ha : a = p
          · subst ha; exact hp
          · rw [upd_ne ha] at e; exact e
        refine hQ v H2 Z2 z2
          { len := R0.len
            zH := R2.zH
            zN := fun a o q nt => ?_
            f0 := R0.f0
            fr := R2.fr
            dom := fun a q => hH a (R2.dom a q)
            inj := fun i j a ⟨⟨o, io, e⟩, _⟩ _ => absurd e (noown i o io)
            sep := fun i a ⟨⟨o, io, e⟩, _⟩ => absurd e (noown i o io)
            dat := fun i x e => ?_
            scr := fun i ns e => absurd e (noscr i ns)
            own := fun i o io e => absurd e (noown i o io)
            loc := fun i o a e => absurd e (noown i o false)
            ino := fun i a e => absurd e (noino i a)
            io := fun i o e => absurd e (noown i o true) } ?_
        · rcases R2.zN a o q nt with q | ⟨q1, q2⟩
          · exact .inl q
          · exact .inr ⟨hH a q1, q2⟩
        · obtain ⟨u, e', r⟩ := R0.dat i x e
          exact ⟨u, e', r.mono z2⟩
        · cases hw : w.1 with
          | d x => rw [hw] at r2; exact r2
          | n o =>
            rw [hw] at r2
            obtain ⟨a, rfl, W⟩ := r2
            exact ⟨a, rfl, W.ob, W.z, W.fr, hH a W.h0, fun i ⟨⟨o, io, e⟩, _⟩ => noown i o io e⟩
    · cases hm
section
variable {P : Program} {w : World} {K : PySem.W.Frag} {mg : Str → Option Value} {base : Heap}
theorem env0_laid2 {A : Around} {outer : List Env} {s : Shared} {H : Hp} {u : HO} {h' : Heap} {tk : Tok} (e0 : Env0 P w K mg base A outer s H) (kp : ∀ b x, s.heap.get? b = some x → h'.get? b = some x) (sz : s.heap.objs.size ≤ h'.objs.size) (new : ObjOk P w (upd H s.heap.objs.size u) h' s.heap.objs.size u) :
    Env0 P w K mg base A outer { s with heap := h', toks := tk } (upd H s.heap.objs.size u) := by
  refine ⟨e0.frames, e0.mod, fun b x e => ⟨kp b x (e0.bs b x e).1, ?_⟩, ?_, Heap.FunFrames.of_keeps (fun b x e _ => ⟨x, kp b x e, rfl⟩) e0.funs, fun b hb => ?_, e0.hok.laid kp (Nat.le_refl _) new, e0.bare⟩
  · rw [upd_ne (Nat.ne_of_lt (Heap.lt_size (e0.bs b x e).1))]
    exact (e0.bs b x e).2
  · show base.objs.size ≤ h'.objs.size
    exact Nat.le_trans e0.bsz sz
  · obtain ⟨_, x, hx, _⟩ := e0.funs.mem hb
    rw [upd_ne (Nat.ne_of_lt (Heap.lt_size hx))]
    exact e0.frf b hb
theorem kv_zip : ∀ {ks : List Str} {vs : List V} {us : List Value}, Vals vs us → KV ((ks.map (Sum.inr (α := Int))).zip vs) ((ks.zip us).map fun x => (Sum.inr x.1, x.2))
  | [], _, _, _ => .nil
  | _ :: _, [], [], .nil => .nil
  | k :: ks, v :: vs, u :: us, .cons a r => .cons ⟨rfl, a⟩ (kv_zip r)
/-- THE RULE for def f(**d) -/
theorem fn_bodyK {x qual pv : Str} {st : Stmt} {f : Addr} {fd : FuncData} {N : List Str} {k : Nat} {body : XS} (F : Fun K x qual st f fd) (S : FnScope N [pv] (defScope st))
    (hb : ∀ (cdv : Value) (A : Around) (outer : List Env) (s : Shared) (H : Hp), Room k (A.deeper (envOfC qual (defScope st) s.heap.objs.size f cdv)) → A.guards = some [] →
      SSD (cxOf CX0 P w K mg base N qual (defScope st) f cdv A outer s H E0).nox (defBody st) body) : FnK P w K mg base (k + 1) f fd pv (runF N.length body) := by
  obtain ⟨oc, od, kV, doc, pm, an, cdv, ct, osl, rfl, lk, hcd⟩ := F.ex
  refine ⟨fun A outer s H ks us vs Q hr hG e0 rv hlk hnd h1000 hbind hsp => ?_⟩
  have hn : H s.heap.objs.size = Option.none := e0.hok.fresh (Nat.le_refl _)
  refine StX.run_bnd (CX := CX0) lk hcd S hr e0 (G := fun xs H2 => ∃ p, H p = Option.none ∧ xs = [V.ref p] ∧ H2 = upd H p (.dK ((ks.map Sum.inr).zip vs))) (fun A' Ex Q' h => ?_) fun s2 H2 xs ⟨p, hp, ex, eH⟩ hr' => ?_
  · rw [hbind]
    refine wpAny_bind (wpAny_alloc ?_)
    have hne : (ks.zip us).map (·.1) = ks := by rw [List.map_fst_zip (by rw [← rv.length]; omega)]
    refine wpAny_bind (ns_fill (ks.zip us) { s with heap := s.heap.push ({ cls := .type "dict", data := .dict #[] } : Obj) } [] (Heap.DictOf.new s.heap) (fun x _ => by simp) (by rw [hne]; exact hnd) fun h' hd sb => wpAny_pure ?_)
    have kp : ∀ b o, s.heap.get? b = some o → h'.get? b = some o := fun b o e => by
      rw [sb.2 b (Nat.ne_of_lt (Heap.lt_size e))]
      exact Heap.get?_push_of_some _ e
    have sz : s.heap.objs.size ≤ h'.objs.size := by
      have h1 := sb.1
      have h2 : (s.heap.push ({ cls := .type "dict", data := .dict #[] } : Obj)).objs.size = s.heap.objs.size + 1 := Heap.size_push ..
      simp only at h1
      omega
    have new : ObjOk P w (upd H s.heap.objs.size (.dK ((ks.map Sum.inr).zip vs))) h' s.heap.objs.size (.dK ((ks.map Sum.inr).zip vs)) := by
      refine ⟨?_, ?_, _, kv_zip rv, by simpa using hd⟩
      · rw [List.length_zip, List.length_map]
        have : sizeLine = 16777216 := rfl
        omega
      · have := StX.env0_big e0
        exact beq_eq_false_iff_ne.mpr (Nat.ne_of_gt this)
    have un : Un (frs outer) [] H (upd H s.heap.objs.size (.dK ((ks.map Sum.inr).zip vs))) s.heap h' := Un.laid kp (Nat.le_refl _) hn
    exact h { s with heap := h', toks := s.toks + (ks.zip us).length } (upd H s.heap.objs.size (.dK ((ks.map Sum.inr).zip vs))) [V.ref s.heap.objs.size] [Value.ref s.heap.objs.size] (env0_laid2 (s := s) e0 kp sz new) un rfl (fun e s' z => z) (.cons rfl .nil) rfl ⟨_, hn, rfl, rfl⟩
  · subst ex eH
    obtain ⟨t, pt, mt⟩ := hb cdv A outer s2 _ hr' hG
    refine ⟨t, pt.nox, ?_⟩
    obtain ⟨Z, Fr, ino, es, d, ρ', hm, hio', R0, hQ⟩ := hsp p hp
    have nv : N.length ≥ [V.ref p].length := by
      have h1 := congrArg List.length S.pre
      rw [List.length_take] at h1
      simp only [List.length_cons, List.length_nil] at h1 ⊢
      omega
    unfold runF at hm
    cases eb : body (es ++ List.replicate (N.length - es.length) .un) with
    | none => rw [eb] at hm; cases hm
    | some fl =>
      rw [eb] at hm
      refine mt _ Z _ _ _ fl (start_rl R0 nv) eb _ ?_
      cases fl with
      | rt d1 ρ1 =>
        cases hm
        exact fun v σ' H' Z' z R r => hQ v H' Z' z (fin_rl R0 hio' z R).1 r
      | rn o1 ρ1 =>
        cases hm
        exact fun a σ' H' Z' z R r => hQ _ H' Z' z (fin_rl R0 hio' z R).1 ⟨a, rfl, r.ob, r.z, r.fr, r.h0, fun i q => r.no i ((fin_rl R0 hio' z R).2 i a q)⟩
      | nx ρ1 =>
        cases hm
        exact fun σ' H' Z' z R => hQ .non H' Z' z (fin_rl R0 hio' z R).1 .non
      | bk ρ1 => cases hm
      | ct ρ1 => cases hm
end
/-- how a call with these keywords binds -/
def KB (fd : FuncData) (pv : Str) (ks : List Str) : Prop := ∀ us : List Value, us.length = ks.length → bindArgs fd ⟨[], ks.zip us⟩ = ((alloc ({ cls := .type "dict", data := .dict #[] } : Obj) : Sem Addr) >>= fun d => forIn (ks.zip us) PUnit.unit (fun x _ => (nsSet d x.1 x.2 >>= fun _ => pure (ForInStep.yield PUnit.unit))) >>= fun _ => pure [(pv, Value.ref d)])
structure DefAtK (K : PySem.W.Frag) (mg : Str → Option Value) (x : Str) (st : Stmt) (f : Addr) (fd : FuncData) : Prop where
  F : Fun K x x st f fd
  g : mg x = some (.ref f)
  kb : ∃ kV doc pm : Value, ∃ an : Option Addr, ∃ cdv ct : Value, fd = PySem.W.fnOf x x (defArgs st) (defBody st) (defScope st) .none kV doc pm an cdv ct
theorem def_atK {K : PySem.W.Frag} {mg : Str → Option Value} {x : Str} {st : Stmt} {h : Heap} (X : K.In h) (G : h.Ns mainGlobals mg) (e : DefEx K x st) : ∃ f fd, DefAtK K mg x st f fd := by
  obtain ⟨f, oc, od, an, osl, kV, doc, pm, cdv, ct, h1, h2, h3, h4⟩ := e
  exact ⟨f, _, fun_mk h2 h3 h4, PySem.W.mg_of X G h1, kV, doc, pm, an, cdv, ct, rfl⟩
section
variable {X : Cx} {k : Nat} {f : Addr} {fd : FuncData} {pv : Str} {m : XF} {x : Str} {p pos : Pos} {ks : List Str} {kws : List Keyword} {rk : XA}
theorem run_k {pins : List (Addr × Obj)} {σ : L2.St} {H : Hp} {s : Shared} {Q : VK} {us : List Value} {vs : List V} (F : FnK X.prog X.w X.K X.mg X.base k f fd pv m) (hr : Room k X.A) (hG : X.A.guards = some []) (hb : KB fd pv ks) (hd : ks.Nodup) (hl : ks.length ≤ 1000)
    (I : L2.Inv X pins σ H s) (rv : Vals vs us) (h : spF X.K (kwF ks m) vs H Q) : wpAny (model X.prog X.w) X.A (call (.ref f) [] (ks.zip us)) (EP X pins σ Q) X.xe s := by
  have hlen : vs.length = ks.length := by
    have hn : H s.heap.objs.size = Option.none := I.hok.fresh (Nat.le_refl _)
    exact (kw_in h hn).1
  refine wpAny_call (codeAny_mono (F.run X.A X.stack s H ks us vs Q hr hG I.env0 rv hlen hd hl (hb us (by rw [← rv.length]; exact hlen)) fun q hq => (kw_in h hq).2) fun out s' hq => ?_)
  match out, hq with
  | .ok (.ret u), hq => exact I.after hq
  | .error e, hq => exact hq.elim
  | .ok .next, hq => exact hq.elim
  | .ok .brk, hq => exact hq.elim
  | .ok .cont, hq => exact hq.elim
def tCallK (K : PySem.W.Frag) (ks : List Str) (m : XF) (t : TA) : TE := fun σ H Q => t σ H fun vs H1 => spF K (kwF ks m) vs H1 Q
theorem me_callK {K : PySem.W.Frag} {t : TA} (ma : MA K t rk) : MC K (tCallK K ks m t) (gCall (kwF ks m) rk) := me_callV ma
/-- f(k = v, ..) of def f(**d) -/
theorem cd_callKD (F : FnK X.prog X.w X.K X.mg X.base k f fd pv m) (hr : Room k X.A) (hG : X.A.guards = some []) (hm : X.mg x = some (.ref f)) (hk : PySem.W.keepIn X.K (.ref f) = true) (hb : KB fd pv ks) (ha : KD X kws rk)
    (hg : Gl X x := by rfl) (hdb : (x == ("__debug__" : Str)) = false := by decide) (hall : (backToKw pos (keywordEach kws X.env)).all (·.1.isSome) = true := by rfl) (hks : (backToKw pos (keywordEach kws X.env)).filterMap (·.1) = ks := by rfl)
    (hpl : ((backTo pos (starEach [] X.env)).any (·.1) || (backToKw pos (keywordEach kws X.env)).any (·.1.isNone)) = false := by rfl) (hd : ks.Nodup := by decide) (hl : ks.length ≤ 1000 := by decide) :
    CD X (.Call (.Name x p) [] kws pos) (kwF ks m) rk := by
  obtain ⟨t, pa, ma⟩ := ha
  refine ⟨tCallK X.K ks m t, ⟨fun pins sh σ H Q I h => ?_⟩, me_callK ma⟩
  refine wpAny_Call_Name_kw (ld_glob I hg hm ?_ hdb)
  refine PySem.W.callWith_KW0 (h₀ := X.base) I.ok.mod.kin hk hall ?_ hpl
  refine thn (pa.run pos pins sh σ H _ I h) fun ws s1 ⟨zs, H1, I1, rv, q⟩ => ⟨I1.kIn, ?_⟩
  rw [hks]
  exact run_k F hr hG hb hd hl I1 rv q
/-- f() of def f(**d) -/
theorem cd_callKD0 (F : FnK X.prog X.w X.K X.mg X.base k f fd pv m) (hr : Room k X.A) (hG : X.A.guards = some []) (hm : X.mg x = some (.ref f)) (hk : PySem.W.keepIn X.K (.ref f) = true) (hb : KB fd pv [])
    (hg : Gl X x := by rfl) (hdb : (x == ("__debug__" : Str)) = false := by decide) : CD X (.Call (.Name x p) [] [] pos) (kwF [] m) aNil := by
  refine ⟨tCallK X.K [] m tNil, ⟨fun pins s σ H Q I h => ?_⟩, me_callK (fun Φ Z σ H ρ as ρ' R q Q k => by cases q; exact k [] H Z (Same.refl Z) R .nil)⟩
  refine wpAny_Call_Name_kw (ld_glob I hg hm ?_ hdb)
  exact PySem.W.callWith_K0 I.kIn hk (run_k F hr hG hb List.nodup_nil (Nat.zero_le _) I .nil h)
end
theorem GD.mono {X : Cx} {e : Expr} {f : XG} {vs ws : List Nat} (h : GD X e f vs) (hs : ∀ i ∈ vs, i ∈ ws) : GD X e f ws := by
  obtain ⟨g, p, m⟩ := h
  exact ⟨g, p, fun Φ Z σ H ρ v d ρ' R r q Q k => m Φ Z σ H ρ v d ρ' R r q Q fun σ' R' l s => k σ' R' l fun j hj => s j fun hi => hj (hs j hi)⟩
/-- two fors, names that are locals too -/
def nLc2S (it : XI) (g : XG) (c : XT) (it1 : XI) (g1 : XG) (c1 : XT) (e : XE) (vs vs1 : List Nat) : XN := nSv (nLc2 (itS it vs) g c it1 g1 c1 e vs vs1) vs
section
variable {X : Cx} {elt tg iter tg1 iter1 : Expr} {ifs ifs1 : List Expr} {scope : Scope} {pos : Pos} {it it1 : XI} {g g1 : XG} {c c1 : XT} {f : XE}
theorem nd_lc2S {vs vs1 : List Nat} (own : List (Str × Nat)) (ok : BlkOk X.N X.env.scope scope own) (hv : own.map (·.2) = vs) (hv1 : ∀ i ∈ vs1, i ∈ own.map (·.2)) (hc : X.calm = true) (hN : X.N.Nodup) (hi : ID' X tg iter it)
    (hg : ∀ (s : Shared) (H : Hp) (C : Addr) (cl : List (Str × Addr)) (fp : List Addr), GD (X.blk s H scope (compEnvC scope cl C X.env) fp) tg g vs) (ht : ∀ (s : Shared) (H : Hp) (C : Addr) (cl : List (Str × Addr)) (fp : List Addr), TsD (X.blk s H scope (compEnvC scope cl C X.env) fp) ifs c)
    (hi1 : ∀ (s : Shared) (H : Hp) (C : Addr) (cl : List (Str × Addr)) (fp : List Addr), ID' (X.blk s H scope (compEnvC scope cl C X.env) fp) tg1 iter1 it1)
    (hg1 : ∀ (s : Shared) (H : Hp) (C : Addr) (cl : List (Str × Addr)) (fp : List Addr), GD (X.blk s H scope (compEnvC scope cl C X.env) fp) tg1 g1 vs1) (ht1 : ∀ (s : Shared) (H : Hp) (C : Addr) (cl : List (Str × Addr)) (fp : List Addr), TsD (X.blk s H scope (compEnvC scope cl C X.env) fp) ifs1 c1)
    (he : ∀ (s : Shared) (H : Hp) (C : Addr) (cl : List (Str × Addr)) (fp : List Addr), ED (X.blk s H scope (compEnvC scope cl C X.env) fp) elt f) (hs : ∀ x, foldedSetIterable iter X.env x = pure x := by intro _; rfl) (hs1 : ∀ env x, foldedSetIterable iter1 env x = pure x := by intro _ _; rfl) :
    ND X (.ListComp elt [⟨tg, iter, ifs, 0⟩, ⟨tg1, iter1, ifs1, 0⟩] scope pos) (nLc2S it g c it1 g1 c1 f vs vs1) := nd_sv (nd_lc2 own ok hv hv1 hc hN (id_s hi) hg ht hi1 hg1 ht1 he hs hs1)
theorem sd_setLc2S {vs vs1 : List Nat} (i : Nat) {y : Str} {py spos : Pos} (own : List (Str × Nat)) (ok : BlkOk X.N X.env.scope scope own) (hv : own.map (·.2) = vs) (hv1 : ∀ i ∈ vs1, i ∈ own.map (·.2)) (hc : X.calm = true) (hN : X.N.Nodup) (hi : ID' X tg iter it)
    (hg : ∀ (s : Shared) (H : Hp) (C : Addr) (cl : List (Str × Addr)) (fp : List Addr), GD (X.blk s H scope (compEnvC scope cl C X.env) fp) tg g vs) (ht : ∀ (s : Shared) (H : Hp) (C : Addr) (cl : List (Str × Addr)) (fp : List Addr), TsD (X.blk s H scope (compEnvC scope cl C X.env) fp) ifs c)
    (hi1 : ∀ (s : Shared) (H : Hp) (C : Addr) (cl : List (Str × Addr)) (fp : List Addr), ID' (X.blk s H scope (compEnvC scope cl C X.env) fp) tg1 iter1 it1)
    (hg1 : ∀ (s : Shared) (H : Hp) (C : Addr) (cl : List (Str × Addr)) (fp : List Addr), GD (X.blk s H scope (compEnvC scope cl C X.env) fp) tg1 g1 vs1) (ht1 : ∀ (s : Shared) (H : Hp) (C : Addr) (cl : List (Str × Addr)) (fp : List Addr), TsD (X.blk s H scope (compEnvC scope cl C X.env) fp) ifs1 c1)
    (he : ∀ (s : Shared) (H : Hp) (C : Addr) (cl : List (Str × Addr)) (fp : List Addr), ED (X.blk s H scope (compEnvC scope cl C X.env) fp) elt f)
    (hsw : swapsWith (.ListComp elt [⟨tg, iter, ifs, 0⟩, ⟨tg1, iter1, ifs1, 0⟩] scope pos) (some (.Name y py)) spos.line X.env = pure true)
    (hy : X.N[i]? = some y := by rfl) (hyl : X.env.scope.names.lookup y = some .local := by rfl) (hs : ∀ x, foldedSetIterable iter X.env x = pure x := by intro _; rfl) (hs1 : ∀ env x, foldedSetIterable iter1 env x = pure x := by intro _ _; rfl) :
    SD X (.Assign [.Name y py] (.ListComp elt [⟨tg, iter, ifs, 0⟩, ⟨tg1, iter1, ifs1, 0⟩] scope pos) spos) (sSet i (xFz (nLc2S it g c it1 g1 c1 f vs vs1))) ∧ SD X (.Assign [.Name y py] (.ListComp elt [⟨tg, iter, ifs, 0⟩, ⟨tg1, iter1, ifs1, 0⟩] scope pos) spos) (sNew i (nLc2S it g c it1 g1 c1 f vs vs1)) := by
  subst hv
  obtain ⟨w, p, m⟩ := hi
  have q := ps_setLc2 (py := py) (g := gOf X.K g _) (tt := tOfT X.K c) (wi1 := tiOf X.K it1) (g1 := gOf X.K g1 _) (tt1 := tOfT X.K c1) (te := tOf X.K f) hc hN hy hyl hsw p ok hv1 (fun s H C cl fp => (hg s H C cl fp).pg) (fun s H C cl fp => (ht s H C cl fp).pts) (fun s H C cl fp => (hi1 s H C cl fp).pi)
    (fun s H C cl fp => (hg1 s H C cl fp).pg) (fun s H C cl fp => (ht1 s H C cl fp).pts) (fun s H C cl fp => (he s H C cl fp).pe) hs hs1
  exact ⟨⟨_, q, ms_asg (me_fz (mn_sv (mn_lc2 (mi_s m) mg_of mt_of mi_of mg_of mt_of me_of)))⟩, ⟨_, q, ms_asgN (mn_sv (mn_lc2 (mi_s m) mg_of mt_of mi_of mg_of mt_of me_of))⟩⟩
end
end DL
set_option maxRecDepth 100000
set_option maxHeartbeats 2000000
/-! DLZb: -k in looks, x is not True, sorted(set([])) -/
namespace DL
open PySem L2
def b1 (g : PyData → Option PyData) (a : XB) : XB := fun ρ => (a ρ).bind g
section
variable {X : Cx} {e : Expr} {pos : Pos}
theorem bd_neg {a : XB} (h : BD X e a) : BD X (.UnaryOp .USub e pos) (b1 negD a) := by
  obtain ⟨t, p, m⟩ := h
  refine ⟨_, pe_un un_neg p, fun Φ Z σ H ρ d R q Q k => ?_⟩
  unfold b1 at q
  cases e1 : a ρ with
  | none => rw [e1] at q; cases q
  | some s =>
    rw [e1, Option.bind_some] at q
    refine m Φ Z σ H ρ s R e1 _ fun v r1 => ?_
    unfold negD at q
    split at q
    · rename_i i
      cases q
      exact ⟨i, r1.int, k _ (.inl (.int _))⟩
    · cases q
/-- x is b, x is not b of bools -/
def isBlX (neg : Bool) (x y : PyData) : Option PyData := match x, y with
  | .bool a, .bool b => some (.bool (if neg then !decide (a = b) else decide (a = b)))
  | _, _ => none
theorem r2_isBl {K : PySem.W.Frag} : R2M K rIsB (isBlX false) := by
  intro Φ Z σ H ρ x y d1 d2 z R rx ry q Q k
  unfold isBlX at q
  split at q
  · rename_i a b
    cases q
    exact ⟨a, b, rx.bl, ry.bl, k _ H Z (Same.refl Z) R (.bl _)⟩
  · cases q
theorem r2_notBl {K : PySem.W.Frag} : R2M K rNotB (isBlX true) := by
  intro Φ Z σ H ρ x y d1 d2 z R rx ry q Q k
  unfold isBlX at q
  split at q
  · rename_i a b
    cases q
    exact ⟨a, b, rx.bl, ry.bl, k _ H Z (Same.refl Z) R (.bl _)⟩
  · cases q
/-- sorted(set(e)), e an empty list -/
def xSS (f : XE) : XE := fun ρ => (f ρ).bind fun p => match p.1 with
  | .list [] => some (.list [], p.2)
  | _ => none
theorem ed_ss {f : XE} {p1 p2 q1 q2 : Pos} (hc : X.calm = true) (hu : X.A.units + 64 < cLine) (h1 : X.mg "sorted" = none) (h2 : X.mg "set" = none) (h : ED X e f) (g1 : Gl X "sorted" := by rfl) (g2 : Gl X "set" := by rfl)
    (s1 : starEach [e] X.env = (false, eval e X.env) :: starEach [] X.env := by rfl) (s2 : starEach [(.Call (.Name "set" p2) [e] [] q2 : Expr)] X.env = (false, eval (.Call (.Name "set" p2) [e] [] q2) X.env) :: starEach [] X.env := by rfl) :
    ED X (.Call (.Name "sorted" p1) [.Call (.Name "set" p2) [e] [] q2] [] q1) (xSS f) := by
  obtain ⟨t, pt, m⟩ := h
  refine ⟨_, pe_callB (L2.cr_sortedT hc) g1 h1 (show bootBuiltins "sorted" = some (.builtin "sorted") by decide +kernel) (pa_cons (pe_callTy (cr_setOfT hc hu) g2 h2 (show bootBuiltins "set" = some (.type "set") by decide +kernel) (pa_cons pt pa_nil s1) (by decide) (by decide) s1) pa_nil s2) (by decide) (by decide) s2, fun Φ Z σ H ρ d ρ' R q Q k => ?_⟩
  unfold xSS at q
  cases e1 : f ρ with
  | none => rw [e1] at q; cases q
  | some s =>
    rw [e1, Option.bind_some] at q
    split at q
    · rename_i hs
      cases q
      refine m Φ Z σ H ρ s.1 s.2 R e1 _ fun v H1 Z1 z1 R1 r1 => ?_
      rw [hs] at r1
      obtain ⟨a, vs, rfl, ha, q1⟩ := Rb.lst R1.zH (.inl r1)
      cases q1
      refine ⟨a, [], rfl, SqL.of ha, (fun p hp => nomatch hp), by decide, fun b L hb hL _ => ?_⟩
      have L0 : L = [] := List.eq_nil_iff_forall_not_mem.mpr fun p hp => nomatch hL p hp
      subst L0
      refine ⟨b, [], 1, 1, rfl, upd_same, (fun p hp => nomatch hp), by decide, (fun p hp => nomatch hp), fun L' p pm _ _ _ hp => ?_⟩
      have L0 : L' = [] := pm.eq_nil
      subst L0
      have R2 := R1.laid (o := SetTO X.prog X.w b []) hb
      obtain ⟨zs, R3⟩ := R2.fresh (o := .lst []) hp
      exact k (.ref p) _ _ (z1.trans zs) R3 (.lst upd_same .nil)
    · cases q
end
end DL
set_option maxRecDepth 100000
set_option maxHeartbeats 4000000
/-! DLZc: enumerate of a list or of a tuple -/
namespace DL
open PySem PySem.Spec PyProof.Rows L2
open AutoSeq1 (wpAny_loadPart')
theorem en_new {v : Value} {ob : Obj} {W : Heap → Prop} (B : Begins v ob W) :
    Meets (Builtin.«enumerate.__new__» ⟨[.type "enumerate", v], []⟩) (fun _ R s => W s.heap ∧
      R (.ok (.ret (.ref (s.heap.push ob).objs.size))) { s with heap := (s.heap.push ob).push { cls := .type "enumerate", data := .fields #[.none, .bool false, .ref s.heap.objs.size, rawInt 0, .none, .none] } }) :=
  .of_wp fun prog w A R s0 hw => by
    obtain ⟨hp, gn, dr, tk, os⟩ := s0; obtain ⟨w1, hw⟩ := hw
    have sb := sub_enumerate; have itr : ∀ {A' : Around} {E Q : Value → Shared → Prop}, Q (.ref hp.objs.size) ⟨hp.push ob, gn, dr, tk, os⟩ → wpAny (model prog w) A' (pyIter v) Q E ⟨hp, gn, dr, tk, os⟩ := fun q => B.iter prog w _ _ ⟨hp, gn, dr, tk, os⟩ _ w1 q
    wp_walk using itr
    refine wpAny_stack_any fun _st => wpAny_pure ?_
    split
    · rename_i c1 _ _ _ _ _
      cases (c1 == Value.type "enumerate") <;> (wp_walk using itr; exact ⟨_, rfl, hw⟩)
    · wp_walk using itr
      exact ⟨_, rfl, hw⟩
section
variable {prog : Program} {w : World} {A : Around} {E : Value → Shared → Prop} {s : Shared}
theorem en_call {v : Value} {ob : Obj} {W : Heap → Prop} {Q : Value → Shared → Prop} (B : Begins v ob W) (w1 : W s.heap)
    (k : ∀ h1, IsEnum h1 (s.heap.objs.size + 1) s.heap.objs.size 0 .none → h1.get? s.heap.objs.size = some ob → (∀ b o, s.heap.get? b = some o → h1.get? b = some o) → Q (.ref (s.heap.objs.size + 1)) { s with heap := h1 }) :
    wpAny (model prog w) A (call (.type "enumerate") [v]) Q E s := by
  refine callType_new F.called_enumerate (by decide) (F.typeCall_enumerate_1 _) (F.newCall_enumerate_1 _) (fun o => F.args_object_init_2 o _) F.entry_enumerate_new (en_new B) ⟨w1, ?_⟩
  have sz : (s.heap.push ob).objs.size = s.heap.objs.size + 1 := Heap.size_push ..
  show _ ∧ _; rw [sz]
  have ie := Heap.get?_push_size (s.heap.push ob) (o := { cls := .type "enumerate", data := .fields #[.none, .bool false, .ref s.heap.objs.size, rawInt 0, .none, .none] }) rfl
  rw [sz] at ie
  exact ⟨⟨_, ie, rfl⟩, k _ ie (Heap.get?_push_of_some _ (Heap.get?_push_size _ B.free)) fun b o x => Heap.get?_push_of_some _ (Heap.get?_push_of_some _ x)⟩
end
/-- the tuple at a, each item in a new pair -/
def Itet (K : PySem.W.Frag) (a : Addr) (xs : List V) : It :=
  ⟨fun i H => SqT K H a xs ∧ i < xs.length, fun i H v H' => ∃ T x, v = .ref T ∧ H T = none ∧ H' = upd H T (.tup [.int (i : Nat), x]) ∧ xs[i]? = some x, fun i H => SqT K H a xs ∧ i = xs.length⟩
theorem turn_enumT {P : Program} {w : World} {K : PySem.W.Frag} {elts : List Expr} {kk : Nat} {tpos : Pos} {xs : List V} (a e it : Addr) (na : a ≠ it) :
    Turn P w K (.Tuple elts kk tpos) (Itet K a xs) [e, it] e (fun i h => (∃ old, IsEnum h e it ((i : Nat) : Int) old) ∧ h.IsTupleIter it a i ∧ e ≠ it ∧ e ≠ a) where
  mem := List.mem_cons_self
  obj := fun i h st b hb => by
    obtain ⟨⟨old, h1⟩, ⟨o, h2, h3, h4⟩, _⟩ := st
    rcases List.mem_cons.mp hb with rfl | hb
    · exact ⟨_, h1, fun v q => nomatch q⟩
    · rw [List.mem_singleton.mp hb]; exact ⟨o, h2, fun v q => by rw [h4] at q; cases q⟩
  keep := fun i h h1 st k => by
    obtain ⟨⟨old, q1⟩, q2, q3, q4⟩ := st
    exact ⟨⟨old, k e List.mem_cons_self _ q1⟩, q2.at fun o q => k it (List.mem_cons_of_mem _ List.mem_cons_self) o q, q3, q4⟩
  item := by
    intro X hP hw hK hc i pins s σ H E I hf st hg
    subst hP hw hK
    obtain ⟨⟨old, h1⟩, h2, h3, h4⟩ := st
    obtain ⟨hq, hi⟩ := hg
    obtain ⟨its, rv, tp, hz⟩ := I.tuple hq
    have hlen : its.toArray.size = xs.length := by rw [rv.length]; simp
    have D := Draws.tuple (prog := X.prog) (w := X.w) (A := X.A.in1) (I.ok.hd hc) it a na its.toArray
    have el : e < s.heap.objs.size := Heap.lt_size h1
    have il : it < s.heap.objs.size := by obtain ⟨_, q, _⟩ := h2; exact Heap.lt_size q
    refine wpAny_pyNext_enum_itemD D h1 ⟨h2, tp⟩ (by rw [hlen]; exact hi) h3 (by simp [h3, h4]) fun u h5 tk hu ho hst hT hsz hk => ?_
    obtain ⟨x, hx, rx⟩ : ∃ x, xs[i]? = some x ∧ RelV x u := by
      obtain ⟨u1, hu1, ru⟩ := rv.get (List.getElem?_eq_getElem hi)
      have : u1 = u := by simpa [hu1] using hu
      exact ⟨_, List.getElem?_eq_getElem hi, this ▸ ru⟩
    refine ⟨_, rfl, wpAny_letOwnedTupleGo_enum (s := { s with heap := h5, toks := tk + 1 }) ho fun h6 hen sb => ?_⟩
    have hT2 : h6.get? s.heap.objs.size = some { cls := .type "tuple", data := .seq #[.int i tk, u] } := (sb.2 _ (Nat.ne_of_gt el)).trans hT
    have new : ObjOk X.prog X.w (upd H s.heap.objs.size (.tup [.int (i : Nat), x])) h6 s.heap.objs.size (.tup [.int (i : Nat), x]) := ⟨by show 2 ≤ sizeLine; decide, [.int i tk, u], .cons ⟨_, rfl⟩ (.cons rx .nil), ⟨_, hT2, rfl, _, rfl⟩⟩
    have I1 : Inv X pins σ (upd H s.heap.objs.size (.tup [.int (i : Nat), x])) { s with heap := h6, toks := tk + 1 } :=
      I.turnedNew (ch := [e, it]) (fun b ob hb q => (sb.2 b (fun z => hb (by simp [z]))).trans (hk b ob (fun z => hb (by simp [z])) (fun z => hb (by simp [z])) q)) hf (Nat.le_refl _) new
    have nw : H s.heap.objs.size = none := I.hok.fresh (Nat.le_refl _)
    refine ⟨.ref s.heap.objs.size, _, I1, rfl, ⟨_, x, rfl, nw, rfl, hx⟩, ⟨⟨u, by rw [show ((i + 1 : Nat) : Int) = (i : Int) + 1 by omega]; exact hen⟩, hst.1.at fun o q => (sb.2 it (Ne.symm h3)).trans q, h3, h4⟩, fun b hb => ?_⟩
    have hne : b ≠ s.heap.objs.size := by
      rcases List.mem_cons.mp hb with rfl | hb
      · exact Nat.ne_of_lt el
      · rw [List.mem_singleton.mp hb]; exact Nat.ne_of_lt il
    rw [upd_ne hne]; exact (hf b hb).1
  done := by
    intro X hP hw hK hc i pins s σ H E I hf st hg
    subst hP hw hK
    obtain ⟨⟨old, h1⟩, h2, h3, h4⟩ := st
    obtain ⟨hq, hi⟩ := hg
    obtain ⟨its, rv, tp, hz⟩ := I.tuple hq
    obtain ⟨f0, f1, f2, f3, f4, f5⟩ := hf it (List.mem_cons_of_mem _ List.mem_cons_self)
    have hlen : its.toArray.size = xs.length := by rw [rv.length]; simp
    have D := Draws.tuple (prog := X.prog) (w := X.w) (A := X.A.in1) (I.ok.hd hc) it a na its.toArray
    exact wpAny_pyNext_enum_endD D h1 ⟨by rw [hlen, ← hi]; exact h2, tp⟩ fun h5 eb => ⟨rfl, I.turned (t' := s.toks) (fun b o hb q => eb b o hb q) f0 f1 f3 f4 f5⟩
  self := fun A i s Q E st h => let ⟨⟨_, h1⟩, _⟩ := st; wpAny_pyIter_enum h1 h
/-- enumerate(x), x a list or a tuple -/
def iEnumA (K : PySem.W.Frag) (ta : TA) : TI := fun σ H R => ta σ H fun vs H1 => ∃ a xs, vs = [.ref a] ∧ ((SqL K H1 a xs ∧ R (Ite K a) H1) ∨ (SqT K H1 a xs ∧ R (Itet K a xs) H1))
theorem pi_enumA {X : Cx} {e : Expr} {ta : TA} {p pos tpos : Pos} {elts : List Expr} {kk : Nat} (hg : Gl X "enumerate") (hm : X.mg "enumerate" = none) (ha : PA X [e] ta) (hs : starEach [e] X.env = [(false, eval e X.env)] := by rfl) :
    PI X (.Tuple elts kk tpos) (.Call (.Name "enumerate" p) [e] [] pos) (iEnumA X.K ta) := by
  refine ⟨fun pins s σ H R I h => Call_ (ld_blt I hg hm boot_enumerate (PyProof.Rows.callWith_type1 (thn (ha.run pos pins s σ H _ I h) fun us s1 ⟨vs, H1, I1, r1, q1⟩ => ?_) hs rfl))⟩
  obtain ⟨a, xs, rfl, q1⟩ := q1
  cases r1 with
  | cons r rr =>
    cases rr
    cases r
    have fp : ∀ b : Addr, s1.heap.objs.size ≤ b → FpOk X pins H1 b := fun b hb => I1.fpOk hb (I1.hok.fresh hb)
    have fps : ∀ b ∈ ([s1.heap.objs.size + 1, s1.heap.objs.size] : List Addr), FpOk X pins H1 b := fun b hb => by
      rcases List.mem_cons.mp hb with rfl | hb
      · exact fp _ (Nat.le_add_right _ _)
      · rw [List.mem_singleton.mp hb]; exact fp _ (Nat.le_refl _)
    rcases q1 with ⟨hq, q⟩ | ⟨hq, q⟩
    · obtain ⟨its, rv, pl, hz⟩ := I1.list hq
      refine call_enumerate_list pl.isList fun h1 he hit hsz hk => wpAny_pyIter_enum he ?_
      exact ⟨s1.heap.objs.size + 1, [s1.heap.objs.size + 1, s1.heap.objs.size], _, _, H1, rfl, I1.kept (t' := s1.toks) hk, turn_enum a _ _, ⟨⟨.none, he⟩, hit, Nat.succ_ne_self _⟩, fps, q⟩
    · obtain ⟨its, rv, tp, hz⟩ := I1.tuple hq
      have al : a < s1.heap.objs.size := by obtain ⟨_, q, _⟩ := tp; exact Heap.lt_size q
      refine en_call (begins_tuple a its.toArray) tp fun h1 he ho hk => wpAny_pyIter_enum he ?_
      exact ⟨s1.heap.objs.size + 1, [s1.heap.objs.size + 1, s1.heap.objs.size], _, _, H1, rfl, I1.kept (t' := s1.toks) hk, turn_enumT a _ _ (Nat.ne_of_lt al), ⟨⟨.none, he⟩, ⟨_, ho, rfl, rfl⟩, Nat.succ_ne_self _, Nat.ne_of_gt (Nat.lt_succ_of_lt al)⟩, fps, q⟩
theorem yld_enumT {K : PySem.W.Frag} {Z : Hp} {a : Addr} {xs : List V} {ds : List PyData} (ha : SqT K Z a xs) (rx : RpA K Z xs ds) : Yld K Z (Itet K a xs) (enuD ds) := by
  have hl : (enuD ds).length = ds.length := by unfold enuD; rw [List.length_zipWith, List.length_range, Nat.min_self]
  have hx : xs.length = ds.length := rx.length
  refine ⟨fun i H z hi => ⟨sqT_mono z ha, by omega⟩, fun i H z hi => ⟨sqT_mono z ha, by omega⟩, fun i H x H' Φ σ ρ Z2 hi z R y => ?_⟩
  obtain ⟨T, v, rfl, hT, rfl, y1⟩ := y
  obtain ⟨d, hd, rd⟩ := rx.getV y1
  obtain ⟨zs, R1⟩ := R.fresh (o := .tup [.int (i : Nat), v]) hT
  exact ⟨_, _, zs, R1, enuD_get hd, .tup upd_same (.cons (.int _) (.cons (rd.mono (z.trans zs)) .nil))⟩
def iEnuA (f : XE) : XI := fun ρ => (f ρ).bind fun p => match p.1 with
  | .list x => some (enuD x, p.2)
  | .tuple x => some (enuD x, p.2)
  | _ => none
theorem id_enuA {X : Cx} {e : Expr} {f : XE} {p pos tpos : Pos} {elts : List Expr} {kk : Nat} (hm : X.mg "enumerate" = none) (he : ED X e f) (hg : Gl X "enumerate" := by rfl) (hs : starEach [e] X.env = [(false, eval e X.env)] := by rfl) :
    ID' X (.Tuple elts kk tpos) (.Call (.Name "enumerate" p) [e] [] pos) (iEnuA f) := by
  obtain ⟨t, q1, m⟩ := he
  refine ⟨_, pi_enumA hg hm (pa_cons q1 pa_nil hs) hs, fun Φ Z σ H ρ ds ρ1 R q R' k => ?_⟩
  unfold iEnuA at q
  cases e1 : f ρ with
  | none => rw [e1] at q; cases q
  | some w =>
    rw [e1, Option.bind_some] at q
    refine m Φ Z σ H ρ w.1 w.2 R e1 _ fun v H1 Z1 z1 R1 r1 => ?_
    split at q
    · rename_i x ex
      cases q
      rw [ex] at r1
      obtain ⟨a, xs, rfl, h1, rx⟩ := Rp.lst_at r1
      exact ⟨a, xs, rfl, .inl ⟨SqL.of (R1.zH _ _ h1), k _ H1 Z1 z1 R1 (yld_enum h1 rx)⟩⟩
    · rename_i x ex
      cases q
      rw [ex] at r1
      obtain ⟨a, xs, rfl, h1, rx⟩ := Rp.tup_at r1
      exact ⟨a, xs, rfl, .inr ⟨sqT_mono R1.zH h1, k _ H1 Z1 z1 R1 (yld_enumT h1 rx)⟩⟩
    · cases q
end DL
set_option maxRecDepth 100000
set_option maxHeartbeats 2000000
/-! DLZd: a flat answer from an own object that stays one's own -/
namespace DL
open PySem L2
/-- no slot but i holds an own object -/
def onlyO (ρ : Nv) (i : Nat) : Bool := (List.range ρ.length).all fun j => j == i || match ρ[j]? with
  | some (.own _ _) => false
  | _ => true
def xKeep (i : Nat) (f : XE) : XE := fun ρ => match ρ[i]? with
  | some (.own o false) => if onlyO ρ i = true then (f (ρ.set i (.d (odD o)))).bind fun p => if flatD p.1 = true then some (p.1, ρ) else none else none
  | _ => none
theorem rp_flat {K : PySem.W.Frag} {Z Z' : Hp} {v : V} {d : PyData} (h : Rp K Z v d) (hf : flatD d = true) : Rp K Z' v d := by
  cases h with
  | non => exact .non
  | bl b => exact .bl b
  | int i => exact .int i
  | str x => exact .str x
  | _ => cases hf
theorem ed_keep {X : Cx} {e : Expr} {f : XE} (i : Nat) (h : ED X e f) : ED X e (xKeep i f) := by
  obtain ⟨t, p, m⟩ := h
  refine ⟨t, p, fun Φ Z σ H ρ d ρ' R q Q k => ?_⟩
  unfold xKeep at q
  split at q
  · rename_i o e0
    split at q
    · rename_i ho
      cases e1 : f (ρ.set i (.d (odD o))) with
      | none => rw [e1] at q; cases q
      | some s =>
        rw [e1, Option.bind_some] at q
        split at q
        · rename_i hf
          cases q
          obtain ⟨a, s0, ob⟩ := R.own i o false e0
          obtain ⟨a1, Z1, s1, z1, R1, r1⟩ := R.read e0
          rw [s0] at s1
          obtain rfl : a = a1 := by cases s1; rfl
          have only : ∀ j o1 b, ρ[j]? = some (EV.own o1 b) → j = i := fun j o1 b ej => by
            unfold onlyO at ho
            have hj : j < ρ.length := (List.getElem?_eq_some_iff.mp ej).1
            have := List.all_eq_true.mp ho j (List.mem_range.mpr hj)
            rw [ej] at this
            simpa using this
          refine m Φ Z1 σ H (ρ.set i (.d (odD o))) s.1 s.2 R1 e1 Q fun v H2 Z2 z2 R2 r2 => k v H2 Z (Same.refl Z) ?_ (rp_flat r2 hf)
          have zz : Same Z H2 := (z1.trans z2).trans R2.zH
          have ha : H2 a = H a := by
            have : ∃ u, Z1 a = some u := by
              have nt : ∀ ds, odD o ≠ .tuple ds := fun ds => by cases o <;> exact fun e => nomatch e
              have nf : flatD (odD o) = false := by cases o <;> rfl
              generalize odD o = dd at r1 nt nf
              cases r1 with
              | lst h _ => exact ⟨_, h⟩
              | tup h _ => exact ⟨_, h⟩
              | tuk _ _ _ => exact absurd rfl (nt _)
              | dic h _ => exact ⟨_, h⟩
              | dit h _ => exact ⟨_, h⟩
            obtain ⟨u, hu⟩ := this
            rw [R1.zH _ _ hu, R2.zH _ _ (z2 _ _ hu)]
          refine ⟨R.len, zz, R.zN, R.f0, R2.fr, R2.dom, R.inj, R.sep, R.dat, R.scr, fun j o1 b ej => ?_, R.loc, R.ino, R.io⟩
          obtain rfl := only j o1 b ej
          rw [e0] at ej
          cases ej
          exact ⟨a, s0, ob.move (Same.refl Z) ha⟩
        · cases q
    · cases q
  · cases q
end DL
set_option maxRecDepth 100000
set_option maxHeartbeats 4000000
/-! DL, a dict of one's own whose values are lists of one's own: slot j; the mirror holds it as .own (.od kvs) false, each value .list xs. -/
namespace DL
open PySem L2

section
variable {K : PySem.W.Frag} {Φ : Fx} {Z : Hp} {σ : St} {H : Hp} {ρ : Nv}
/-- what must stay is said anew at the places P, where nobody else looks -/
theorem Rl.reframe (R : Rl K Φ Z σ H ρ) {H2 Fr2 : Hp} (P : Addr → Prop) (hS : ∀ c, ¬ P c → H2 c = H c ∧ Fr2 c = Φ.Fr c) (hz : ∀ c, P c → Z c = none) (h2 : ∀ c, P c → ∃ u, H2 c = some u ∧ (Fr2 c = none ∨ Fr2 c = some u)) (hn : ∀ i a, AtS ρ σ i a → ¬ P a) :
    Rl K { Φ with Fr := Fr2 } Z σ H2 ρ := by
  have zP : ∀ c u, Z c = some u → ¬ P c := fun c u e p => by rw [hz c p] at e; cases e
  refine ⟨R.len, fun a w e => ?_, fun a w e nt => ?_, R.f0, fun a w e => ?_, fun a e => ?_, R.inj, fun i a q => ?_, R.dat, R.scr, fun i o' io e => ?_, R.loc, R.ino, R.io⟩
  · rw [(hS a (zP a w e)).1]
    exact R.zH a w e
  · rcases R.zN a w e nt with q | ⟨q1, q2⟩
    · exact .inl q
    · exact .inr ⟨q1, (hS a (zP a w e)).2.trans q2⟩
  · have e : Fr2 a = some w := e
    by_cases hp : P a
    · obtain ⟨u, hu, h | h⟩ := h2 a hp
      · rw [h] at e; cases e
      · rw [h] at e; cases e; exact hu
    · rw [(hS a hp).2] at e
      rw [(hS a hp).1]
      exact R.fr a w e
  · by_cases hp : P a
    · obtain ⟨u, hu, _⟩ := h2 a hp
      rw [hu] at e; cases e
    · rw [(hS a hp).1] at e
      exact R.dom a e
  · exact ⟨(R.sep i a q).1, (hS a (hn i a q)).2.trans (R.sep i a q).2⟩
  · obtain ⟨a, s, ob⟩ := R.own i o' io e
    exact ⟨a, s, ob.move (Same.refl Z) (hS a (hn i a ⟨⟨o', io, e⟩, s⟩)).1⟩
/-- less must stay -/
theorem Rl.weakFr {Fr2 : Hp} (R : Rl K Φ Z σ H ρ) (h : Same Fr2 Φ.Fr) : Rl K { Φ with Fr := Fr2 } Z σ H ρ := by
  refine ⟨R.len, R.zH, fun a w e nt => ?_, R.f0, h.trans R.fr, R.dom, R.inj, fun i a q => ⟨(R.sep i a q).1, h.free (R.sep i a q).2⟩, R.dat, R.scr, R.own, R.loc, R.ino, R.io⟩
  rcases R.zN a w e nt with q | ⟨q1, q2⟩
  · exact .inl q
  · exact .inr ⟨q1, h.free q2⟩
/-- what must stay and is no tuple is not frozen, where it is new -/
theorem Rl.frZ (R : Rl K Φ Z σ H ρ) {c : Addr} {u : HO} (h : Φ.Fr c = some u) (nt : ∀ xs, u ≠ .tup xs) (h0 : Φ.H0 c = none) : Z c = none := by
  cases hz : Z c with
  | none => rfl
  | some w =>
    have e1 := R.zH c w hz
    have e2 := R.fr c u h
    have e : w = u := Option.some.inj (e1.symm.trans e2)
    rcases R.zN c w hz (by rw [e]; exact nt) with q | ⟨_, q⟩
    · rw [R.f0 c h0] at q; cases q
    · rw [h] at q; cases q
theorem Rl.frN (R : Rl K Φ Z σ H ρ) {c : Addr} {u : HO} (h : Φ.Fr c = some u) : ∀ i, ¬ AtS ρ σ i c := fun i q => by
  have := (R.sep i c q).2
  rw [h] at this
  cases this
end

/-- the inner lists -/
inductive InL (K : PySem.W.Frag) (Z Fr : Hp) : List (Key × V) → List (Key × PyData) → List Addr → Prop
  | nil : InL K Z Fr [] [] []
  | cons {k : Key} {b : Addr} {ws : List V} {xs : List PyData} {vs : List (Key × V)} {kvs : List (Key × PyData)} {bs : List Addr} : Fr b = some (.lst ws) → RpA K Z ws xs → b ∉ bs → InL K Z Fr vs kvs bs → InL K Z Fr ((k, .ref b) :: vs) ((k, .list xs) :: kvs) (b :: bs)
section
variable {K : PySem.W.Frag} {Z Fr : Hp}
theorem InL.mono {Z' Fr' : Hp} (z : Same Z Z') : ∀ {vs : List (Key × V)} {kvs : List (Key × PyData)} {bs : List Addr}, InL K Z Fr vs kvs bs → (∀ b ∈ bs, Fr' b = Fr b) → InL K Z' Fr' vs kvs bs
  | _, _, _, .nil, _ => .nil
  | _, _, _, .cons h r n t, e => .cons ((e _ (by simp)).trans h) (r.mono z) n (t.mono z fun b hb => e b (by simp [hb]))
theorem InL.keys : ∀ {vs : List (Key × V)} {kvs : List (Key × PyData)} {bs : List Addr}, InL K Z Fr vs kvs bs → vs.map (·.1) = kvs.map (·.1)
  | _, _, _, .nil => rfl
  | _, _, _, .cons _ _ _ t => by simp [t.keys]
theorem InL.fr : ∀ {vs : List (Key × V)} {kvs : List (Key × PyData)} {bs : List Addr}, InL K Z Fr vs kvs bs → ∀ b ∈ bs, ∃ ws, Fr b = some (.lst ws)
  | _, _, _, .nil, _, h => by cases h
  | _, _, _, .cons (ws := ws) h r n t, c, hc => by
    rcases List.mem_cons.mp hc with rfl | hc
    · exact ⟨ws, h⟩
    · exact t.fr c hc
theorem InL.nodup : ∀ {vs : List (Key × V)} {kvs : List (Key × PyData)} {bs : List Addr}, InL K Z Fr vs kvs bs → bs.Nodup
  | _, _, _, .nil => List.nodup_nil
  | _, _, _, .cons h r n t => List.nodup_cons.mpr ⟨n, t.nodup⟩
/-- what stands under a key -/
theorem InL.get : ∀ {vs : List (Key × V)} {kvs : List (Key × PyData)} {bs : List Addr}, InL K Z Fr vs kvs bs → ∀ k : Key, (valV vs k).isSome = (getD' kvs k).isSome ∧ ∀ z, getD' kvs k = some z → ∃ b ws xs, valV vs k = some (.ref b) ∧ b ∈ bs ∧ z = .list xs ∧ Fr b = some (.lst ws) ∧ RpA K Z ws xs
  | _, _, _, .nil, k => ⟨rfl, fun z e => by simp [getD'] at e⟩
  | _, _, _, .cons (k := k') (b := b) (ws := ws) (xs := xs) (vs := vs) (kvs := kvs) (bs := bs) h r n t, k => by
    have ih := t.get k
    by_cases hk : k' = k
    · subst hk
      refine ⟨by simp [valV, getD'], fun z e => ⟨b, ws, xs, by simp [valV], by simp, ?_, h, r⟩⟩
      simp [getD'] at e
      exact e.symm
    · have e1 : valV ((k', V.ref b) :: vs) k = valV vs k := by simp [valV, hk]
      have e2 : getD' ((k', PyData.list xs) :: kvs) k = getD' kvs k := by simp [getD', hk]
      rw [e1, e2]
      refine ⟨ih.1, fun z e => ?_⟩
      obtain ⟨b2, ws2, xs2, h1, h2, h3, h4, h5⟩ := ih.2 z e
      exact ⟨b2, ws2, xs2, h1, by simp [h2], h3, h4, h5⟩
/-- the inner list under k grows -/
def appL (kvs : List (Key × PyData)) (k : Key) (d : PyData) : Option (List (Key × PyData)) := match getD' kvs k with
  | some (.list xs) => if xs.length < sizeLine then some (putD kvs k (.list (xs ++ [d]))) else none
  | _ => none
theorem putD_ne {kvs : List (Key × PyData)} {k k' : Key} {d x : PyData} (h : k' ≠ k) (hs : (getD' kvs k).isSome = true) : putD ((k', x) :: kvs) k d = (k', x) :: putD kvs k d := by
  have ha : (kvs.any fun kv => decide (kv.1 = k)) = true := by
    rw [List.any_eq_true]
    unfold getD' at hs
    rw [Option.isSome_map, List.find?_isSome] at hs
    obtain ⟨p, hp, e⟩ := hs
    exact ⟨p, hp, e⟩
  simp [putD, h, ha]
theorem putD_eq {kvs : List (Key × PyData)} {k : Key} {d x : PyData} (h : k ∉ kvs.map (·.1)) : putD ((k, x) :: kvs) k d = (k, d) :: kvs := by
  have : (kvs.map fun kv => if kv.1 = k then (kv.1, d) else kv) = kvs := by
    conv => rhs; rw [← List.map_id kvs]
    refine List.map_congr_left fun kv hkv => ?_
    rw [if_neg (fun e => h (by rw [← e]; exact List.mem_map_of_mem hkv))]
    rfl
  simp [putD, this]
theorem InL.app {v : V} {d : PyData} (rv : Rp K Z v d) : ∀ {vs : List (Key × V)} {kvs : List (Key × PyData)} {bs : List Addr}, InL K Z Fr vs kvs bs → (kvs.map (·.1)).Nodup → ∀ {k : Key} {b : Addr} {ws : List V} {xs : List PyData},
    valV vs k = some (.ref b) → getD' kvs k = some (.list xs) → Fr b = some (.lst ws) → RpA K Z ws xs → InL K Z (upd Fr b (.lst (ws ++ [v]))) vs (putD kvs k (.list (xs ++ [d]))) bs
  | _, _, _, .nil, _, k, b, ws, xs, e, _, _, _ => by simp [valV] at e
  | _, _, _, .cons (k := k') (b := b') (ws := ws') (xs := xs') (vs := vs) (kvs := kvs) (bs := bs) h r n t, nd, k, b, ws, xs, e, e2, h2, r2 => by
    rw [List.map_cons, List.nodup_cons] at nd
    by_cases hk : k' = k
    · subst hk
      simp [valV] at e
      subst e
      rw [putD_eq nd.1]
      refine .cons upd_same (r2.append (.cons rv .nil)) n (t.mono (Same.refl Z) fun c hc => ?_)
      rw [upd_ne (by rintro rfl; exact n hc)]
    · have e' : valV vs k = some (.ref b) := by simpa [valV, hk] using e
      have e2' : getD' kvs k = some (.list xs) := by simpa [getD', hk] using e2
      rw [putD_ne hk (by rw [e2']; rfl)]
      obtain ⟨b2, ws2, xs2, g1, g2, _⟩ := (t.get k).2 _ e2'
      rw [e'] at g1
      cases g1
      refine .cons ?_ r n (t.app rv nd.2 e' e2' h2 r2)
      rw [upd_ne (by rintro rfl; exact n g2)]
      exact h
end

/-- a lock: the object, where it is, what it holds -/
abbrev Lk := Obj × Addr × List (Key × V)
def LkOk : Option Lk → Hp → Addr → List (Key × V) → Prop
  | none, Fr, a, vs => Fr a = some (.dK vs)
  | some (o, a', vs'), Fr, a, vs => a = a' ∧ vs = vs' ∧ Fr a = some (.frz o (.dK vs))
/-- slot j holds a dict of lists, all of one's own; lk: the dict is locked -/
def NR (K : PySem.W.Frag) (j : Nat) (lk : Option Lk) (Φ : Fx) (Z : Hp) (σ : St) (H : Hp) (ρ : Nv) : Prop := ∃ (Fr : Hp) (a : Addr) (vs : List (Key × V)) (kvs : List (Key × PyData)) (bs : List Addr),
  ρ[j]? = some (.own (.od kvs) false) ∧ σ[j]? = some (some (.ref a)) ∧ LkOk lk Fr a vs ∧ InL K Z Fr vs kvs bs ∧ (kvs.map (·.1)).Nodup ∧ a ∉ bs ∧ (∀ c, c ∈ a :: bs → Φ.Fr c = none ∧ Φ.H0 c = none) ∧ Same Φ.Fr Fr ∧
  Rl K { Φ with Fr := Fr } Z σ H (ρ.set j .un)
section
variable {K : PySem.W.Frag} {j : Nat} {lk : Option Lk} {Φ : Fx} {Z : Hp} {σ : St} {H : Hp} {ρ : Nv}
theorem set_back {ρ : Nv} {j : Nat} {x : EV} (h : ρ[j]? = some .un) : (ρ.set j x).set j .un = ρ := by
  rw [List.set_set]
  apply List.ext_getElem?
  intro i
  by_cases hi : j = i
  · subst hi
    rw [List.getElem?_set_self (List.getElem?_eq_some_iff.mp h).1, h]
  · rw [List.getElem?_set_ne hi]
theorem LkOk.rd {lk : Option Lk} {Fr : Hp} {a : Addr} {vs : List (Key × V)} (h : LkOk lk Fr a vs) : ∃ u, Fr a = some u ∧ (∀ xs, u ≠ .tup xs) ∧ (∀ xs, u ≠ .lst xs) ∧ ∀ H : Hp, H a = some u → Rd H a (.dK vs) := by
  cases lk with
  | none => exact ⟨_, h, (fun _ e => by cases e), (fun _ e => by cases e), (fun H e => .inl e)⟩
  | some l =>
    obtain ⟨o, a', vs'⟩ := l
    obtain ⟨rfl, rfl, h⟩ := h
    exact ⟨_, h, (fun _ e => by cases e), (fun _ e => by cases e), (fun H e => .inr ⟨_, e⟩)⟩
theorem LkOk.other {lk : Option Lk} {Fr : Hp} {a b : Addr} {vs : List (Key × V)} {u : HO} (h : LkOk lk Fr a vs) (hb : a ≠ b) : LkOk lk (upd Fr b u) a vs := by
  cases lk with
  | none => exact (upd_ne hb).trans h
  | some l =>
    obtain ⟨o, a', vs'⟩ := l
    obtain ⟨h1, h2, h⟩ := h
    exact ⟨h1, h2, (upd_ne hb).trans h⟩
/-- a step that leaves slot j -/
theorem NR.opn (R : NR K j lk Φ Z σ H ρ) : ∃ (Φ' : Fx) (x : EV), ρ[j]? = some x ∧ Rl K Φ' Z σ H (ρ.set j .un) ∧ ∀ Z' σ' H' ρ', Same Z Z' → σ'[j]? = σ[j]? → ρ'[j]? = some EV.un → Rl K Φ' Z' σ' H' ρ' → NR K j lk Φ Z' σ' H' (ρ'.set j x) := by
  obtain ⟨Fr, a, vs, kvs, bs, h1, h2, h3, h4, h5, h6, h7, h8, R⟩ := R
  refine ⟨_, _, h1, R, fun Z' σ' H' ρ' z hs hu R' => ⟨Fr, a, vs, kvs, bs, List.getElem?_set_self (List.getElem?_eq_some_iff.mp hu).1, hs.trans h2, h3, h4.mono z (fun _ _ => rfl), h5, h6, h7, h8, ?_⟩⟩
  rw [set_back hu]
  exact R'
end
end DL
set_option maxRecDepth 100000
set_option maxHeartbeats 4000000
/-! DL, statements beside a dict of lists of one's own (slot j). -/
namespace DL
open PySem L2

/-- what has nothing to do with slot j -/
def lftE {α : Type} (j : Nat) (f : Nv → Option (α × Nv)) : Nv → Option (α × Nv) := fun ρ => match ρ[j]? with
  | some x => match f (ρ.set j .un) with
    | some p => match p.2[j]? with
      | some .un => some (p.1, p.2.set j x)
      | _ => none
    | none => none
  | none => none
def lftG (j : Nat) (g : XG) : XG := fun d ρ => match ρ[j]? with
  | some x => match g d (ρ.set j .un) with
    | some ρ' => match ρ'[j]? with
      | some .un => some (ρ'.set j x)
      | _ => none
    | none => none
  | none => none
theorem lftE_inv {α : Type} {j : Nat} {f : Nv → Option (α × Nv)} {ρ : Nv} {d : α} {ρ' : Nv} (h : lftE j f ρ = some (d, ρ')) : ∃ x ρ1, ρ[j]? = some x ∧ f (ρ.set j .un) = some (d, ρ1) ∧ ρ1[j]? = some EV.un ∧ ρ' = ρ1.set j x := by
  unfold lftE at h
  split at h
  · rename_i x ex
    split at h
    · rename_i p ep
      split at h
      · rename_i eu
        cases h
        exact ⟨x, p.2, ex, ep, eu, rfl⟩
      · cases h
    · cases h
  · cases h
theorem lftG_inv {j : Nat} {g : XG} {d : PyData} {ρ ρ' : Nv} (h : lftG j g d ρ = some ρ') : ∃ x ρ1, ρ[j]? = some x ∧ g d (ρ.set j .un) = some ρ1 ∧ ρ1[j]? = some EV.un ∧ ρ' = ρ1.set j x := by
  unfold lftG at h
  split at h
  · rename_i x ex
    split at h
    · rename_i p ep
      split at h
      · rename_i eu
        cases h
        exact ⟨x, p, ex, ep, eu, rfl⟩
      · cases h
    · cases h
  · cases h
def NT (K : PySem.W.Frag) (j : Nat) (lk : Option Lk) (t : TT) (f : XT) : Prop := ∀ (Φ : Fx) (Z : Hp) (σ : St) (H : Hp) (ρ : Nv) (d : Bool) (ρ' : Nv), NR K j lk Φ Z σ H ρ → f ρ = some (d, ρ') →
  ∀ Q : Bool → Hp → Prop, (∀ H' Z', Same Z Z' → NR K j lk Φ Z' σ H' ρ' → Q d H') → t σ H Q
def NFlE (K : PySem.W.Frag) (j : Nat) (lk : Option Lk) (Φ : Fx) (Z : Hp) (D : Ends) : Fl → Prop
  | .nx ρ' => ∀ σ' H' Z', Same Z Z' → NR K j lk Φ Z' σ' H' ρ' → D.nx σ' H'
  | .rt d ρ' => ∀ v σ' H' Z', Same Z Z' → Rl K Φ Z' σ' H' ρ' → Rp K Z' v d → D.rt v H'
  | .rn o ρ' => ∀ a σ' H' Z', Same Z Z' → Rl K Φ Z' σ' H' ρ' → New K Φ Z' σ' H' ρ' a o → D.rt (.ref a) H'
  | .bk ρ' => ∀ σ' H' Z', Same Z Z' → NR K j lk Φ Z' σ' H' ρ' → D.bk σ' H'
  | .ct ρ' => ∀ σ' H' Z', Same Z Z' → NR K j lk Φ Z' σ' H' ρ' → D.ct σ' H'
theorem NFlE.mono {K : PySem.W.Frag} {j : Nat} {lk : Option Lk} {Φ : Fx} {Z Z' : Hp} {D : Ends} {f : Fl} (z : Same Z Z') (h : NFlE K j lk Φ Z D f) : NFlE K j lk Φ Z' D f := by
  cases f with
  | nx ρ => exact fun σ' H' Z2 z2 => h σ' H' Z2 (z.trans z2)
  | rt d ρ => exact fun v σ' H' Z2 z2 => h v σ' H' Z2 (z.trans z2)
  | rn o ρ => exact fun v σ' H' Z2 z2 => h v σ' H' Z2 (z.trans z2)
  | bk ρ => exact fun σ' H' Z2 z2 => h σ' H' Z2 (z.trans z2)
  | ct ρ => exact fun σ' H' Z2 z2 => h σ' H' Z2 (z.trans z2)
def NMS (K : PySem.W.Frag) (j : Nat) (lk : Option Lk) (t : TS) (f : XS) : Prop := ∀ (Φ : Fx) (Z : Hp) (σ : St) (H : Hp) (ρ : Nv) (r : Fl), NR K j lk Φ Z σ H ρ → f ρ = some r → ∀ D : Ends, NFlE K j lk Φ Z D r → t D σ H
def NSD (X : Cx) (j : Nat) (lk : Option Lk) (st : Stmt) (f : XS) : Prop := ∃ t, PS X st t ∧ NMS X.K j lk t f
def NSSD (X : Cx) (j : Nat) (lk : Option Lk) (st : List Stmt) (f : XS) : Prop := ∃ t, PSs X st t ∧ NMS X.K j lk t f
def NTD (X : Cx) (j : Nat) (lk : Option Lk) (e : Expr) (f : XT) : Prop := ∃ t, PT X e t ∧ NT X.K j lk t f
def NWD (X : Cx) (j : Nat) (lk : Option Lk) (e : Expr) (f : XT) : Prop := ∃ t, PW X e t ∧ NT X.K j lk t f

/-! ### lifts -/
section
variable {K : PySem.W.Frag} {j : Nat} {lk : Option Lk}
theorem nt_lift {t : TT} {f : XT} (m : MT K t f) : NT K j lk t (lftE j f) := by
  intro Φ Z σ H ρ d ρ' R q Q k
  obtain ⟨x, ρ1, ex, ef, eu, rfl⟩ := lftE_inv q
  obtain ⟨Φ', x', ex', R1, cl⟩ := R.opn
  rw [ex] at ex'
  cases ex'
  exact m Φ' Z σ H _ d ρ1 R1 ef Q fun H' Z' z R' => k H' Z' z (cl Z' σ H' ρ1 z rfl eu R')
/-- a datum is computed -/
theorem ne_lift {t : TE} {f : XE} (m : ME K t f) {Φ : Fx} {Z : Hp} {σ : St} {H : Hp} {ρ : Nv} {d : PyData} {ρ' : Nv} (R : NR K j lk Φ Z σ H ρ) (q : lftE j f ρ = some (d, ρ')) {Q : VK} (k : ∀ v H' Z', Same Z Z' → NR K j lk Φ Z' σ H' ρ' → Rp K Z' v d → Q v H') : t σ H Q := by
  obtain ⟨x, ρ1, ex, ef, eu, rfl⟩ := lftE_inv q
  obtain ⟨Φ', x', ex', R1, cl⟩ := R.opn
  rw [ex] at ex'
  cases ex'
  exact m Φ' Z σ H _ d ρ1 R1 ef Q fun v H' Z' z R' r => k v H' Z' z (cl Z' σ H' ρ1 z rfl eu R') r
end

/-! ### statements -/
section
variable {X : Cx} {j : Nat} {lk : Option Lk} {e c : Expr} {st : Stmt} {rest a b : List Stmt} {f : XE} {g h : XS} {t : XT} {pos : Pos}
theorem nssd_nil : NSSD X j lk [] sNil := ⟨_, pss_nil, fun Φ Z σ H ρ r R q D k => by
  cases q
  exact k σ H Z (Same.refl Z) R⟩
theorem nms_seq {K : PySem.W.Frag} {t u : TS} (m : NMS K j lk t g) (n : NMS K j lk u h) : NMS K j lk (tSeq t u) (sSeq g h) := by
  intro Φ Z σ H ρ r R q D k
  unfold sSeq at q
  cases e1 : g ρ with
  | none => rw [e1] at q; cases q
  | some s =>
    rw [e1, Option.bind_some] at q
    cases s with
    | nx ρ1 => exact m Φ Z σ H ρ _ R e1 _ fun σ1 H1 Z1 z1 R1 => n Φ Z1 σ1 H1 ρ1 r R1 q D (k.mono z1)
    | rt d ρ1 => cases q; exact m Φ Z σ H ρ _ R e1 _ k
    | rn d ρ1 => cases q; exact m Φ Z σ H ρ _ R e1 _ k
    | bk ρ1 => cases q; exact m Φ Z σ H ρ _ R e1 _ k
    | ct ρ1 => cases q; exact m Φ Z σ H ρ _ R e1 _ k
theorem nssd_cons (h1 : NSD X j lk st g) (h2 : NSSD X j lk rest h) : NSSD X j lk (st :: rest) (sSeq g h) := by
  obtain ⟨t, p, m⟩ := h1
  obtain ⟨u, q, n⟩ := h2
  exact ⟨_, pss_cons p q, nms_seq m n⟩
theorem nssd_one (h1 : NSD X j lk st g) : NSSD X j lk [st] g := by
  obtain ⟨t, p, m⟩ := h1
  exact ⟨_, pss_one p, m⟩
theorem nsd_if (hc : NTD X j lk c t) (ha : NSSD X j lk a g) (hb : NSSD X j lk b h) : NSD X j lk (.If c a b pos) (sIf t g h) := by
  obtain ⟨tc, pc, mc⟩ := hc
  obtain ⟨ta, pa, ma⟩ := ha
  obtain ⟨tb, pb, mb⟩ := hb
  refine ⟨_, ps_if pc pa pb, fun Φ Z σ H ρ r R q D k => ?_⟩
  unfold sIf at q
  cases e1 : t ρ with
  | none => rw [e1] at q; cases q
  | some s =>
    rw [e1, Option.bind_some] at q
    refine mc Φ Z σ H ρ s.1 s.2 R e1 _ fun H1 Z1 z1 R1 => ?_
    by_cases hp : s.1 = true
    · rw [if_pos hp] at q ⊢
      exact ma Φ Z1 σ H1 s.2 r R1 q D (k.mono z1)
    · rw [if_neg hp] at q ⊢
      exact mb Φ Z1 σ H1 s.2 r R1 q D (k.mono z1)
theorem ntd_lift (hc : TD X c t) : NTD X j lk c (lftE j t) := by
  obtain ⟨tc, pc, mc⟩ := hc
  exact ⟨tc, pc, nt_lift mc⟩
theorem nwd_and1 (h : NTD X j lk c t) : NWD X j lk (.BoolOp .And [c] pos) t := by obtain ⟨t, p, m⟩ := h; exact ⟨t, pw_and1 p, m⟩
theorem nwd_and {b : Expr} {rs : List Expr} {ta tb : XT} (ha : NTD X j lk c ta) (hb : NWD X j lk (.BoolOp .And (b :: rs) pos) tb) : NWD X j lk (.BoolOp .And (c :: b :: rs) pos) (xAndT ta tb) := by
  obtain ⟨t, p, m⟩ := ha
  obtain ⟨u, q, n⟩ := hb
  refine ⟨_, pw_and p q, fun Φ Z σ H ρ d ρ' R q Q k => ?_⟩
  unfold xAndT at q
  cases e1 : ta ρ with
  | none => rw [e1] at q; cases q
  | some p =>
    rw [e1, Option.bind_some] at q
    refine m Φ Z σ H ρ p.1 p.2 R e1 _ fun H1 Z1 z1 R1 => ?_
    by_cases hp : p.1 = true
    · rw [if_pos hp] at q ⊢
      exact n Φ Z1 σ H1 p.2 d ρ' R1 q Q fun H2 Z2 z2 R2 => k H2 Z2 (z1.trans z2) R2
    · rw [if_neg hp] at q ⊢
      cases q
      exact k H1 Z1 z1 R1
theorem NWD.td (h : NWD X j lk c t) : NTD X j lk c t := by obtain ⟨t, p, m⟩ := h; exact ⟨t, p.pt, m⟩
/-- a flat statement that leaves slot j -/
def nx1 (s : XS) : Nv → Option (Unit × Nv) := fun ρ => match s ρ with
  | some (.nx ρ') => some ((), ρ')
  | _ => none
def sLft (j : Nat) (s : XS) : XS := fun ρ => (lftE j (nx1 s) ρ).map fun p => .nx p.2
/-- .. its end open -/
def JD (X : Cx) (j : Nat) (st : Stmt) (s : XS) : Prop := ∃ t, PS X st t ∧ ∀ (Φ : Fx) (Z : Hp) (σ : St) (H : Hp) (ρ ρ' : Nv), Rl X.K Φ Z σ H ρ → s ρ = some (.nx ρ') → ∀ D : Ends, (∀ σ' H' Z', Same Z Z' → σ'[j]? = σ[j]? → Rl X.K Φ Z' σ' H' ρ' → D.nx σ' H') → t D σ H
theorem nsd_lift {s : XS} (h : JD X j st s) : NSD X j lk st (sLft j s) := by
  obtain ⟨t, p, m⟩ := h
  refine ⟨t, p, fun Φ Z σ H ρ r R q D k => ?_⟩
  unfold sLft at q
  cases e1 : lftE j (nx1 s) ρ with
  | none => rw [e1] at q; cases q
  | some w =>
    rw [e1] at q
    cases q
    obtain ⟨x, ρ1, ex, ef, eu, e5⟩ := lftE_inv (d := w.1) (ρ' := w.2) e1
    obtain ⟨Φ', x', ex', R1, cl⟩ := R.opn
    rw [ex] at ex'
    cases ex'
    unfold nx1 at ef
    split at ef
    · rename_i ρ2 es
      cases ef
      refine m Φ' Z σ H _ _ R1 es D fun σ' H' Z' z hj R' => k σ' H' Z' z ?_
      rw [e5]
      exact cl Z' σ' H' _ z hj eu R'
    · cases ef
theorem kd_set (i : Nat) {x : Str} {pos' : Pos} (hij : i ≠ j) (hN : X.N.Nodup) (he : ED X e f) (hi : X.N[i]? = some x := by rfl) (hx : Loc X.env.scope x := by first | exact Or.inl rfl | exact Or.inr rfl) (hs : swapsWith e (some (.Name x pos')) pos.line X.env = pure false := by rfl)
    (hf : X.fn x = true ∨ X.env.scope.names.lookup x = some .local := by first | exact .inl rfl | exact .inr rfl) : JD X j (.Assign [.Name x pos'] e pos) (sSet i f) := by
  obtain ⟨t, p, m⟩ := he
  refine ⟨_, ps_set hN hi hx p hs hf, fun Φ Z σ H ρ r R q D k => ?_⟩
  unfold sSet at q
  cases e1 : f ρ with
  | none => rw [e1] at q; cases q
  | some s =>
    rw [e1, Option.bind_some] at q
    cases e2 : put s.2 i s.1 with
    | none => rw [e2] at q; cases q
    | some ρ1 =>
      rw [e2] at q
      cases q
      exact m Φ Z σ H ρ s.1 s.2 R e1 _ fun v H1 Z1 z1 R1 r1 => k _ H1 Z1 z1 (List.getElem?_set_ne hij) (put_rl R1 r1 e2)
theorem kd_new (i : Nat) {n : XN} {x : Str} {pos' : Pos} (hij : i ≠ j) (hN : X.N.Nodup) (he : ND X e n) (hi : X.N[i]? = some x := by rfl) (hx : Loc X.env.scope x := by first | exact Or.inl rfl | exact Or.inr rfl) (hs : swapsWith e (some (.Name x pos')) pos.line X.env = pure false := by rfl)
    (hf : X.fn x = true ∨ X.env.scope.names.lookup x = some .local := by first | exact .inl rfl | exact .inr rfl) : JD X j (.Assign [.Name x pos'] e pos) (sNew i n) := by
  obtain ⟨t, p, m⟩ := he
  refine ⟨_, ps_set hN hi hx p hs hf, fun Φ Z σ H ρ r R q D k => ?_⟩
  unfold sNew at q
  cases e1 : n ρ with
  | none => rw [e1] at q; cases q
  | some s =>
    rw [e1, Option.bind_some] at q
    split at q
    · rename_i hfr
      cases q
      obtain ⟨h1, h2⟩ := free_lt hfr
      exact m Φ Z σ H ρ s.1 s.2 R e1 _ fun a H1 Z1 z1 R1 w => k _ H1 Z1 z1 (List.getElem?_set_ne hij) (R1.hold h1 h2 w.ob w.z w.fr w.h0 w.no)
    · cases q
theorem kd_drop (he : ED X e f) (hs : swapsWith e none pos.line X.env = pure false := by rfl) : JD X j (.Expr e pos) (sDrop f) := by
  obtain ⟨t, p, m⟩ := he
  refine ⟨_, ps_expr p hs, fun Φ Z σ H ρ r R q D k => ?_⟩
  unfold sDrop at q
  cases e1 : f ρ with
  | none => rw [e1] at q; cases q
  | some s =>
    rw [e1] at q
    cases q
    exact m Φ Z σ H ρ s.1 s.2 R e1 _ fun v H1 Z1 z1 R1 r1 => k σ H1 Z1 z1 rfl R1

/-! ### loops -/
theorem nms_for {K : PySem.W.Frag} {w : TI} {g : TG} {tb : TS} {it : XI} {gf : XG} {vs : List Nat} {b : XS} (hv : j ∉ vs) (mi : MI K w it) (mg : MG K g gf vs) (mb : NMS K j lk tb b) : NMS K j lk (tFor w g tb) (sFor (lftE j it) (lftG j gf) b) := by
  intro Φ Z σ H ρ r R q D k
  unfold sFor at q
  cases e1 : lftE j it ρ with
  | none => rw [e1] at q; cases q
  | some p =>
    rw [e1, Option.bind_some] at q
    obtain ⟨ds, ρ1⟩ := p
    obtain ⟨x, ρ0, ex, ef, eu, rfl⟩ := lftE_inv e1
    obtain ⟨Φ', x', ex', R0, cl⟩ := R.opn
    rw [ex] at ex'
    cases ex'
    refine mi Φ' Z σ H _ ds ρ0 R0 ef _ fun J H1 Z1 z1 R1' y => ?_
    have R1 := cl Z1 σ H1 ρ0 z1 rfl eu R1'
    have k1 := k.mono z1
    refine ⟨fun i m σ' H' => m = ds.length - i ∧ i ≤ ds.length ∧ ∃ Z' ρ', Same Z1 Z' ∧ NR K j lk Φ Z' σ' H' ρ' ∧ forL (lftG j gf) b (ds.drop i) ρ' = some r, ⟨ds.length, by simp, Nat.zero_le _, Z1, _, Same.refl Z1, R1, by simpa using q⟩, ?_⟩
    rintro i m σ' H' ⟨rfl, hi, Z', ρ', z', R', q'⟩
    obtain ⟨Φ2, x2, ex2, R2, cl2⟩ := R'.opn
    by_cases hlt : i < ds.length
    · refine .inr ⟨y.go i H' (z'.trans R2.zH) hlt, fun σ2 H2 => i + 1 ≤ ds.length ∧ ∃ Z' ρ', Same Z1 Z' ∧ NR K j lk Φ Z' σ2 H2 ρ' ∧ forL (lftG j gf) b (ds.drop (i + 1)) ρ' = some r, fun σ2 H2 ⟨h1, h2⟩ => ⟨ds.length - (i + 1), by omega, rfl, h1, h2⟩, fun xx H2 yl => ?_⟩
      obtain ⟨Z3, d, z3, R3, hd, rd⟩ := y.item i H' xx H2 Φ2 σ' _ Z' hlt z' R2 yl
      have ed : ds.drop i = d :: ds.drop (i + 1) := by
        rw [List.drop_eq_getElem_cons hlt]
        congr 1
        rw [List.getElem?_eq_getElem hlt] at hd
        exact Option.some.inj hd
      rw [ed] at q'
      unfold forL at q'
      cases e2 : lftG j gf d ρ' with
      | none => rw [e2] at q'; cases q'
      | some ρ2 =>
        rw [e2, Option.bind_some] at q'
        obtain ⟨x3, ρ3, ex3, eg, eu3, rfl⟩ := lftG_inv e2
        rw [ex2] at ex3
        cases ex3
        cases e3 : b (ρ3.set j x2) with
        | none => rw [e3] at q'; cases q'
        | some f =>
          rw [e3, Option.bind_some] at q'
          refine mg Φ2 Z3 σ' H2 _ xx d ρ3 R3 rd eg _ fun σ3 R4 _ s4 => ?_
          refine mb Φ Z3 σ3 H2 _ f (cl2 Z3 σ3 H2 ρ3 z3 (s4 j hv) eu3 R4) e3 _ ?_
          cases f with
          | nx ρ4 => exact fun σ4 H4 Z4 z4 R5 => ⟨hlt, Z4, ρ4, (z'.trans z3).trans z4, R5, q'⟩
          | ct ρ4 => exact fun σ4 H4 Z4 z4 R5 => ⟨hlt, Z4, ρ4, (z'.trans z3).trans z4, R5, q'⟩
          | bk ρ4 =>
            cases q'
            exact fun σ4 H4 Z4 z4 R5 => k1 σ4 H4 Z4 ((z'.trans z3).trans z4) R5
          | rt dd ρ4 =>
            cases q'
            exact fun v σ4 H4 Z4 z4 R5 rr => k1 v σ4 H4 Z4 ((z'.trans z3).trans z4) R5 rr
          | rn dd ρ4 =>
            cases q'
            exact fun v σ4 H4 Z4 z4 R5 rr => k1 v σ4 H4 Z4 ((z'.trans z3).trans z4) R5 rr
    · have e : i = ds.length := by omega
      subst e
      rw [List.drop_length] at q'
      cases q'
      exact .inl ⟨y.stop _ H' (z'.trans R2.zH) rfl, k1 σ' H' Z' z' R'⟩
theorem nsd_for {tg : Expr} {body : List Stmt} {it : XI} {gf : XG} {vs : List Nat} {b : XS} (hv : j ∉ vs) (hp : PassesOwn (model X.prog X.w) X.A X.env X.xe) (hc : X.calm = true) (hi : ID' X tg e it) (hg : GD X tg gf vs) (hb : NSSD X j lk body b) (hs : ∀ x, foldedSetIterable e X.env x = pure x := by intro _; rfl) :
    NSD X j lk (.For tg e body [] pos) (sFor (lftE j it) (lftG j gf) b) := by
  obtain ⟨w, p, m⟩ := hi
  obtain ⟨t, q, n⟩ := hg
  obtain ⟨u, r, o⟩ := hb
  exact ⟨_, ps_for hp hc p q r hs, nms_for hv m n o⟩
theorem nms_wh {K : PySem.W.Frag} {tc : TT} {tb : TS} {n : Nv → Nat} {c : XT} {b : XS} (mc : NT K j lk tc c) (mb : NMS K j lk tb b) : NMS K j lk (tWhile tc tb) (sWh n c b) := by
  intro Φ Z σ H ρ r R q D k
  refine ⟨fun m σ' H' => ∃ Z' ρ', Same Z Z' ∧ NR K j lk Φ Z' σ' H' ρ' ∧ whL c b m ρ' = some r, ⟨n ρ, Z, ρ, Same.refl Z, R, q⟩, ?_⟩
  rintro m σ' H' ⟨Z', ρ', z', R', q'⟩
  cases m with
  | zero => cases q'
  | succ m =>
    unfold whL at q'
    cases e1 : c ρ' with
    | none => rw [e1] at q'; cases q'
    | some p =>
      rw [e1, Option.bind_some] at q'
      refine mc Φ Z' σ' H' ρ' p.1 p.2 R' e1 _ fun H1 Z1 z1 R1 => ?_
      by_cases hp : p.1 = true
      · rw [if_pos hp] at q' ⊢
        cases e2 : b p.2 with
        | none => rw [e2] at q'; cases q'
        | some f =>
          rw [e2, Option.bind_some] at q'
          refine ⟨fun σ2 H2 => ∃ Z' ρ', Same Z Z' ∧ NR K j lk Φ Z' σ2 H2 ρ' ∧ whL c b m ρ' = some r, fun σ2 H2 h => ⟨m, Nat.lt_succ_self m, h⟩, ?_⟩
          refine mb Φ Z1 σ' H1 p.2 f R1 e2 _ ?_
          cases f with
          | nx ρ4 => exact fun σ4 H4 Z4 z4 R5 => ⟨Z4, ρ4, (z'.trans z1).trans z4, R5, q'⟩
          | ct ρ4 => exact fun σ4 H4 Z4 z4 R5 => ⟨Z4, ρ4, (z'.trans z1).trans z4, R5, q'⟩
          | bk ρ4 =>
            cases q'
            exact fun σ4 H4 Z4 z4 R5 => k σ4 H4 Z4 ((z'.trans z1).trans z4) R5
          | rt dd ρ4 =>
            cases q'
            exact fun v σ4 H4 Z4 z4 R5 rr => k v σ4 H4 Z4 ((z'.trans z1).trans z4) R5 rr
          | rn dd ρ4 =>
            cases q'
            exact fun v σ4 H4 Z4 z4 R5 rr => k v σ4 H4 Z4 ((z'.trans z1).trans z4) R5 rr
      · rw [if_neg hp] at q' ⊢
        cases q'
        exact k σ' H1 Z1 (z'.trans z1) R1
theorem nsd_wh {body : List Stmt} {b : XS} (n : Nv → Nat) (hp : PassesOwn (model X.prog X.w) X.A X.env X.xe) (hc : NTD X j lk c t) (hb : NSSD X j lk body b) : NSD X j lk (.While c body [] pos) (sWh n t b) := by
  obtain ⟨w, p, m⟩ := hc
  obtain ⟨u, r, o⟩ := hb
  exact ⟨_, ps_while hp p r, nms_wh m o⟩
end
end DL
set_option maxRecDepth 100000
set_option maxHeartbeats 4000000
/-! DL, the dict of lists itself: looks, append, return, the walk over its keys. -/
namespace DL
open PySem L2

/-! ### looks -/
def nHasK (j : Nat) (f : XE) : XT := fun ρ => (lftE j f ρ).bind fun p => match p.2[j]? with
  | some (.own (.od kvs) false) => (keyD p.1).map fun k => ((getD' kvs k).isSome, p.2)
  | _ => none
def nNotIn (j : Nat) (fe fk : XE) : XT := fun ρ => (lftE j fe ρ).bind fun p => (lftE j fk p.2).bind fun q => match q.2[j]? with
  | some (.own (.od kvs) false) => (keyD q.1).bind fun k => (getD' kvs k).bind fun z => match notInD p.1 z with
    | some (.bool b) => some (b, q.2)
    | _ => none
  | _ => none
def nApp (j : Nat) (fk fe : XE) : XS := fun ρ => (lftE j fk ρ).bind fun p => match p.2[j]? with
  | some (.own (.od kvs) false) => (keyD p.1).bind fun k => match getD' kvs k with
    | some (.list xs) => if xs.length < sizeLine then (lftE j fe p.2).map fun q => .nx (q.2.set j (.own (.od (putD kvs k (.list (xs ++ [q.1])))) false)) else none
    | _ => none
  | _ => none
def nRet (j : Nat) : XS := fun ρ => match ρ[j]? with
  | some (.own (.od kvs) false) => some (.rn (.od kvs) (ρ.set j .un))
  | _ => none
section
variable {X : Cx} {j : Nat} {lk : Option Lk} {e ek : Expr} {f fe fk : XE} {pos vpos spos apos cpos : Pos}
theorem ntd_has {x : Str} (hu : X.A.units + 1 < cLine) (he : ED X e f) (hN : X.N[j]? = some x := by rfl) (hv : Vis X.env.scope x := by first | exact Or.inl rfl | exact Or.inr (Or.inl rfl) | exact Or.inr (Or.inr rfl)) (hd : (x == ("__debug__" : Str)) = false := by decide)
    (hcd : (x == ("__classdict__" : Str)) = false := by decide) : NTD X j lk (.Compare e [.In] [.Name x vpos] pos) (nHasK j f) := by
  obtain ⟨t, p, m⟩ := he
  refine ⟨_, pt_cmp (pc_din hu p (pe_var hN hv hd hcd)) (by rfl), fun Φ Z σ H ρ d ρ' R q Q k => ?_⟩
  unfold nHasK at q
  cases e1 : lftE j f ρ with
  | none => rw [e1] at q; cases q
  | some w =>
    rw [e1, Option.bind_some] at q
    refine ne_lift m R e1 fun v H1 Z1 z1 R1 r1 => ?_
    split at q
    · rename_i kvs e2
      cases e3 : keyD w.1 with
      | none => rw [e3] at q; cases q
      | some kk =>
        rw [e3] at q
        cases q
        have R1' := R1
        obtain ⟨Fr, a, vs, kvs', bs, h1, h2, h3, h4, h5, h6, h7, h8, R2⟩ := R1
        rw [e2] at h1
        cases h1
        obtain ⟨u, hu1, _, _, hrd⟩ := h3.rd
        rw [keyD_rp r1 e3]
        exact ⟨_, h2, a, _, rfl, .inl ⟨vs, kk, hrd H1 (R2.fr a u hu1), rfl, rfl⟩, _, rfl, by rw [(h4.get kk).1]; exact k H1 Z1 z1 R1'⟩
    · cases q
theorem ntd_notIn {x : Str} (hu : X.A.units + 65 < cLine) (he : ED X e fe) (hk : ED X ek fk) (hN : X.N[j]? = some x := by rfl) (hv : Vis X.env.scope x := by first | exact Or.inl rfl | exact Or.inr (Or.inl rfl) | exact Or.inr (Or.inr rfl)) (hd : (x == ("__debug__" : Str)) = false := by decide)
    (hcd : (x == ("__classdict__" : Str)) = false := by decide) (hs : NoSl ek := by intro _ _; rfl) (hm : behindInMarks .NotIn (.Subscript (.Name x vpos) ek spos) = false := by first | rfl | exact nobehind _ (by decide) (by decide)) :
    NTD X j lk (.Compare e [.NotIn] [.Subscript (.Name x vpos) ek spos] pos) (nNotIn j fe fk) := by
  obtain ⟨t, p, m⟩ := he
  obtain ⟨t2, p2, m2⟩ := hk
  refine ⟨_, pt_cmpR (op_notInA hu) p (pe_dget (by omega) (pe_var hN hv hd hcd) p2 hs) hm, fun Φ Z σ H ρ d ρ' R q Q k => ?_⟩
  unfold nNotIn at q
  cases e1 : lftE j fe ρ with
  | none => rw [e1] at q; cases q
  | some w =>
    rw [e1, Option.bind_some] at q
    cases e2 : lftE j fk w.2 with
    | none => rw [e2] at q; cases q
    | some w2 =>
      rw [e2, Option.bind_some] at q
      refine ne_lift m R e1 fun v H1 Z1 z1 R1 r1 => ?_
      have sj : ∃ a : Addr, σ[j]? = some (some (V.ref a)) := by
        obtain ⟨_, a, _, _, _, _, h2, _⟩ := R1
        exact ⟨a, h2⟩
      obtain ⟨a0, sa⟩ := sj
      refine ⟨_, sa, ne_lift m2 R1 e2 fun y H2 Z2 z2 R2 r2 => ?_⟩
      split at q
      · rename_i kvs e3
        cases e4 : keyD w2.1 with
        | none => rw [e4] at q; cases q
        | some kk =>
          rw [e4, Option.bind_some] at q
          cases e5 : getD' kvs kk with
          | none => rw [e5] at q; cases q
          | some z =>
            rw [e5, Option.bind_some] at q
            split at q
            · rename_i b e6
              cases q
              have R2' := R2
              obtain ⟨Φ', x', ex', R3, cl⟩ := R2'.opn
              obtain ⟨Fr, a, vs, kvs', bs, h1, h2, h3, h4, h5, h6, h7, h8, R4⟩ := R2
              rw [e3] at h1
              cases h1
              rw [sa] at h2
              cases h2
              obtain ⟨u, hu1, _, _, hrd⟩ := h3.rd
              obtain ⟨b2, ws, xs, g1, g2, rfl, g4, g5⟩ := (h4.get kk).2 z e5
              rw [keyD_rp r2 e4]
              refine ⟨a0, .ref b2, rfl, .inl ⟨vs, kk, hrd H2 (R4.fr a0 u hu1), rfl, g1.symm⟩, ?_⟩
              refine r2_notIn _ Z2 σ H2 _ v (.ref b2) w.1 (.list xs) (.bool d) R4 (.inl (r1.mono z2)) (.inr ⟨b2, .ol xs, rfl, ⟨ws, R4.fr b2 _ g4, g5⟩, rfl⟩) e6 _ fun v3 H3 Z3 z3 R5 r3 => ?_
              cases r3
              refine ⟨_, rfl, k H3 Z3 ((z1.trans z2).trans z3) ⟨Fr, a0, vs, kvs, bs, e3, sa, h3, h4.mono z3 (fun _ _ => rfl), h5, h6, h7, h8, R5⟩⟩
            · cases q
      · cases q

/-! ### d[k].append(v) -/
theorem nsd_app {x : Str} (hu : X.A.units + 1 < cLine) (hk : ED X ek fk) (he : ED X e fe) (hN : X.N[j]? = some x := by rfl) (hv : Vis X.env.scope x := by first | exact Or.inl rfl | exact Or.inr (Or.inl rfl) | exact Or.inr (Or.inr rfl)) (hd : (x == ("__debug__" : Str)) = false := by decide)
    (hcd : (x == ("__classdict__" : Str)) = false := by decide) (hns : NoSl ek := by intro _ _; rfl)
    (hbase : attributeBase (.Subscript (.Name x vpos) ek spos) "append" X.env (eval (.Subscript (.Name x vpos) ek spos) X.env) = eval (.Subscript (.Name x vpos) ek spos) X.env := by rfl)
    (hfew : ((backTo cpos (starEach [e] X.env)).all (fun x => !x.1) && (backToKw cpos (keywordEach [] X.env)).all (fun x => x.1.isSome) && decide ([e].length + ([] : List Keyword).length + (if ([] : List Keyword).isEmpty then 0 else 1) < 30)) = true := by rfl)
    (hline : (apos.endLine == cpos.line) = true := by rfl) (hs : starEach [e] X.env = (false, eval e X.env) :: starEach [] X.env := by rfl) (hplain : (backTo cpos (starEach [] X.env)).any (·.1) = false := by rfl)
    (hsw : swapsWith (.Call (.Attribute (.Subscript (.Name x vpos) ek spos) "append" apos) [e] [] cpos) none pos.line X.env = pure false := by rfl) :
    NSD X j lk (.Expr (.Call (.Attribute (.Subscript (.Name x vpos) ek spos) "append" apos) [e] [] cpos) pos) (nApp j fk fe) := by
  obtain ⟨t, p, m⟩ := hk
  obtain ⟨t2, p2, m2⟩ := he
  refine ⟨_, ps_expr (pe_bm PySem.F.plainAttrs_list PySem.F.slot_list_append PySem.F.type_list_append mt_append (pe_dget hu (pe_var hN hv hd hcd) p hns) (pa_cons p2 pa_nil hs) hbase hfew hline hs hplain) hsw, fun Φ Z σ H ρ r R q D k => ?_⟩
  unfold nApp at q
  cases e1 : lftE j fk ρ with
  | none => rw [e1] at q; cases q
  | some w =>
    rw [e1, Option.bind_some] at q
    have sj : ∃ a : Addr, σ[j]? = some (some (V.ref a)) := by
      obtain ⟨_, a, _, _, _, _, h2, _⟩ := R
      exact ⟨a, h2⟩
    obtain ⟨a0, sa⟩ := sj
    refine ⟨_, sa, ne_lift m R e1 fun y H1 Z1 z1 R1 r1 => ?_⟩
    split at q
    · rename_i kvs e2
      cases e3 : keyD w.1 with
      | none => rw [e3] at q; cases q
      | some kk =>
        rw [e3, Option.bind_some] at q
        split at q
        · rename_i xs e4
          split at q
          · rename_i hl
            cases e5 : lftE j fe w.2 with
            | none => rw [e5] at q; cases q
            | some w2 =>
              rw [e5] at q
              cases q
              have R1' := R1
              obtain ⟨Fr, a, vs, kvs', bs, h1, h2, h3, h4, h5, h6, h7, h8, R2⟩ := R1'
              rw [e2] at h1
              cases h1
              rw [sa] at h2
              cases h2
              obtain ⟨u, hu1, _, _, hrd⟩ := h3.rd
              obtain ⟨b, ws, xs', g1, g2, g3, g4, g5⟩ := (h4.get kk).2 _ e4
              cases g3
              rw [keyD_rp r1 e3]
              refine ⟨a0, .ref b, rfl, .inl ⟨vs, kk, hrd H1 (R2.fr a0 u hu1), rfl, g1.symm⟩, .inl ⟨rfl, ws, SqL.of (R2.fr b _ g4)⟩, ?_⟩
              obtain ⟨x2, ρ2, f1, f2, f3, f4⟩ := lftE_inv (d := w2.1) (ρ' := w2.2) e5
              rw [e2] at f1
              cases f1
              refine m2 _ Z1 σ H1 _ w2.1 ρ2 R2 f2 _ fun v H2 Z2 z2 R3 r2 => ?_
              have hb2 : H2 b = some (.lst ws) := R3.fr b _ g4
              refine ⟨b, ws, v, rfl, rfl, hb2, by rw [g5.length]; exact hl, ?_⟩
              have hb0 := h7 b (by simp [g2])
              have ab : a0 ≠ b := fun e => h6 (e ▸ g2)
              refine k σ _ Z2 (z1.trans z2) ⟨upd Fr b (.lst (ws ++ [v])), a0, vs, putD kvs kk (.list (xs ++ [w2.1])), bs, ?_, sa, h3.other ab, ?_, ?_, h6, h7, ?_, ?_⟩
              · rw [f4, List.set_set]
                exact List.getElem?_set_self (List.getElem?_eq_some_iff.mp f3).1
              · exact (h4.mono z2 (fun _ _ => rfl)).app r2 h5 g1 e4 g4 (g5.mono z2)
              · have : (putD kvs kk (PyData.list (xs ++ [w2.1]))).map (·.1) = kvs.map (·.1) := by
                  have ha : (kvs.any fun kv => decide (kv.1 = kk)) = true := by
                    rw [List.any_eq_true]
                    have hs := congrArg Option.isSome e4
                    unfold getD' at hs
                    rw [Option.isSome_map, List.find?_isSome.mpr] at hs
                    · unfold getD' at e4
                      cases e6 : kvs.find? (fun kv => decide (kv.1 = kk)) with
                      | none => rw [e6] at e4; cases e4
                      | some pp => exact ⟨pp, List.mem_of_find?_eq_some e6, by simpa using List.find?_some e6⟩
                    · unfold getD' at e4
                      cases e6 : kvs.find? (fun kv => decide (kv.1 = kk)) with
                      | none => rw [e6] at e4; cases e4
                      | some pp => exact ⟨pp, List.mem_of_find?_eq_some e6, by simpa using List.find?_some e6⟩
                  unfold putD
                  rw [if_pos ha, List.map_map]
                  refine List.map_congr_left fun kv _ => ?_
                  show (if kv.1 = kk then (kv.1, _) else kv).1 = kv.1
                  split <;> rfl
                rw [this]
                exact h5
              · intro c u' hc
                show upd Fr b _ c = _
                rw [upd_ne (by rintro rfl; rw [hb0.1] at hc; cases hc)]
                exact h8 c u' hc
              · rw [f4, List.set_set, set_back f3]
                refine (R3.reframe (Fr2 := upd Fr b (.lst (ws ++ [v]))) (H2 := upd H2 b (.lst (ws ++ [v]))) (fun c => c = b) (fun c hc => ⟨upd_ne hc, upd_ne hc⟩) (fun c hc => ?_) (fun c hc => ?_) fun i a hi hc => ?_)
                · subst hc
                  exact R3.frZ (u := .lst ws) g4 (fun _ e => by cases e) hb0.2
                · subst hc
                  exact ⟨_, upd_same, .inr upd_same⟩
                · subst hc
                  exact R3.frN (u := .lst ws) g4 i hi
          · cases q
        · cases q
    · cases q

/-! ### return d -/
theorem frzL {K : PySem.W.Frag} {Φ : Fx} {σ : St} {H Fr : Hp} {ρ : Nv} : ∀ {vs : List (Key × V)} {kvs : List (Key × PyData)} {bs : List Addr} {Z : Hp}, Rl K Φ Z σ H ρ → InL K Z Fr vs kvs bs → (∀ b ∈ bs, H b = Fr b ∧ Z b = none ∧ Φ.H0 b = none ∧ Φ.Fr b = none ∧ ∀ i, ¬ AtS ρ σ i b) →
    ∃ Z', Same Z Z' ∧ Rl K Φ Z' σ H ρ ∧ RpA K Z' (vs.map (·.2)) (kvs.map (·.2)) ∧ ∀ c, c ∉ bs → Z' c = Z c
  | _, _, _, Z, R, .nil, _ => ⟨Z, Same.refl Z, R, .nil, fun _ _ => rfl⟩
  | _, _, _, Z, R, .cons (b := b) (ws := ws) (bs := bs) h r n t, hb => by
    obtain ⟨b1, b2, b3, b4, b5⟩ := hb b (by simp)
    obtain ⟨z1, R1⟩ := R.freeze (o := .lst ws) (b1.trans h) b2 b3 b4 b5
    obtain ⟨Z', z2, R2, rr, hc⟩ := frzL R1 (t.mono z1 (fun _ _ => rfl)) fun c hc => by
      obtain ⟨c1, c2, c3, c4, c5⟩ := hb c (by simp [hc])
      exact ⟨c1, by rw [upd_ne (by rintro rfl; exact n hc)]; exact c2, c3, c4, c5⟩
    refine ⟨Z', z1.trans z2, R2, .cons (.lst (z2 _ _ upd_same) (r.mono (z1.trans z2))) rr, fun c hn => ?_⟩
    rw [List.mem_cons, not_or] at hn
    rw [hc c hn.2, upd_ne hn.1]
theorem nsd_ret {x : Str} (hN : X.N[j]? = some x := by rfl) (hv : Vis X.env.scope x := by first | exact Or.inl rfl | exact Or.inr (Or.inl rfl) | exact Or.inr (Or.inr rfl)) (hd : (x == ("__debug__" : Str)) = false := by decide)
    (hcd : (x == ("__classdict__" : Str)) = false := by decide) : NSD X j none (.Return (some (.Name x vpos)) pos) (nRet j) := by
  refine ⟨_, ps_ret (pe_var hN hv hd hcd), fun Φ Z σ H ρ r R q D k => ?_⟩
  unfold nRet at q
  split at q
  · rename_i kvs e1
    cases q
    obtain ⟨Fr, a, vs, kvs', bs, h1, h2, h3, h4, h5, h6, h7, h8, R1⟩ := R
    rw [e1] at h1
    cases h1
    have h3 : Fr a = some (.dK vs) := h3
    have R2 : Rl X.K Φ Z σ H (ρ.set j .un) := R1.weakFr (Fr2 := Φ.Fr) h8
    have fz : ∀ c ∈ bs, ∃ ws, Fr c = some (.lst ws) := fun c hc => h4.fr c hc
    obtain ⟨Z', z, R3, rr, hc⟩ := frzL R2 h4 fun c hc => by
      obtain ⟨ws, hw⟩ := fz c hc
      obtain ⟨c1, c2⟩ := h7 c (by simp [hc])
      exact ⟨(R1.fr c _ hw).trans hw.symm, R1.frZ (u := .lst ws) hw (fun _ e => by cases e) c2, c2, c1, fun i hi => R1.frN (u := .lst ws) hw i hi⟩
    obtain ⟨c1, c2⟩ := h7 a (by simp)
    exact ⟨_, h2, k a σ H Z' z R3 ⟨⟨vs, R1.fr a _ h3, h4.keys, rr⟩, (hc a h6).trans (R1.frZ (u := .dK vs) h3 (fun _ e => by cases e) c2), c1, c2, fun i hi => R1.frN (u := .dK vs) h3 i hi⟩⟩
  · cases q
end
end DL
set_option maxRecDepth 100000
set_option maxHeartbeats 4000000
/-! DL, the dict of lists: the walk over its keys under a lock; its making. -/
namespace DL
open PySem L2

/-! ### for k in d -/
def tOfS (K : PySem.W.Frag) (j : Nat) (b : XS) : TS := fun D σ H => ∃ (lk : Lk) (Φ : Fx) (Z : Hp) (ρ : Nv) (r : Fl), NR K j (some lk) Φ Z σ H ρ ∧ b ρ = some r ∧ NFlE K j (some lk) Φ Z D r
theorem nssd_of {X : Cx} {j : Nat} {st : List Stmt} {b : XS} (h : ∀ lk, NSSD X j (some lk) st b) : PSs X st (tOfS X.K j b) := ⟨fun pins s σ H D I q => by
  obtain ⟨lk, Φ, Z, ρ, r, R, e, k⟩ := q
  obtain ⟨t, p, m⟩ := h lk
  exact p.run pins s σ H D I (m Φ Z σ H ρ r R e D k)⟩
theorem rp_key {K : PySem.W.Frag} {Z : Hp} : ∀ k : Key, Rp K Z (kV k) (kD k)
  | .inl i => .int i
  | .inr x => .str x
theorem NR.locked {K : PySem.W.Frag} {j : Nat} {od : Obj} {a : Addr} {vs : List (Key × V)} {Φ : Fx} {Z : Hp} {σ : St} {H : Hp} {ρ : Nv} (R : NR K j (some (od, a, vs)) Φ Z σ H ρ) : ∃ (Fr : Hp) (kvs : List (Key × PyData)) (bs : List Addr),
    ρ[j]? = some (.own (.od kvs) false) ∧ σ[j]? = some (some (.ref a)) ∧ Fr a = some (.frz od (.dK vs)) ∧ InL K Z Fr vs kvs bs ∧ (kvs.map (·.1)).Nodup ∧ a ∉ bs ∧ (∀ c, c ∈ a :: bs → Φ.Fr c = none ∧ Φ.H0 c = none) ∧ Same Φ.Fr Fr ∧ Rl K { Φ with Fr := Fr } Z σ H (ρ.set j .un) := by
  obtain ⟨Fr, a', vs', kvs', bs, g1, g2, ⟨ea, ev, g3⟩, g4, g5, g6, g7, g8, R⟩ := R
  rw [ea] at g2 g3 g6 g7
  rw [ev] at g3 g4
  exact ⟨Fr, kvs', bs, g1, g2, g3, g4, g5, g6, g7, g8, R⟩
def sForK (j : Nat) (g : XG) (b : XS) : XS := fun ρ => match ρ[j]? with
  | some (.own (.od kvs) false) => match forL (lftG j g) b (kvs.map fun p => kD p.1) ρ with
    | some (.nx ρ') => some (.nx ρ')
    | _ => none
  | _ => none
section
variable {X : Cx} {j : Nat}
theorem nsd_forK {x : Str} {tg : Expr} {body : List Stmt} {gf : XG} {ws : List Nat} {b : XS} {vpos pos : Pos} (hv : j ∉ ws) (hp : PassesOwn (model X.prog X.w) X.A X.env X.xe) (hc : X.calm = true) (hg : GD X tg gf ws) (hb : ∀ lk, NSSD X j (some lk) body b)
    (hN : X.N[j]? = some x := by rfl) (hvi : Vis X.env.scope x := by first | exact Or.inl rfl | exact Or.inr (Or.inl rfl) | exact Or.inr (Or.inr rfl)) (hd : (x == ("__debug__" : Str)) = false := by decide)
    (hcd : (x == ("__classdict__" : Str)) = false := by decide) (hs : ∀ y, foldedSetIterable (.Name x vpos) X.env y = pure y := by intro _; rfl) :
    NSD X j none (.For tg (.Name x vpos) body [] pos) (sForK j gf b) := by
  obtain ⟨g, p, m⟩ := hg
  refine ⟨_, ps_lock (ps_for hp hc (pi_keys (pe_var hN hvi hd hcd)) p (nssd_of hb) hs), fun Φ Z σ H ρ r R q D k => ?_⟩
  unfold sForK at q
  split at q
  · rename_i kvs e1
    split at q
    · rename_i ρe eF
      cases q
      obtain ⟨Fr, a, vs, kvs', bs, h1, h2, h3, h4, h5, h6, h7, h8, R1⟩ := R
      rw [e1] at h1
      cases h1
      have h3 : Fr a = some (.dK vs) := h3
      have ha0 := h7 a (by simp)
      refine ⟨a, .dK vs, R1.fr a _ h3, trivial, fun od => ?_⟩
      have relk : ∀ {Fr : Hp} {Z σ H ρ} {u w : HO} (u0 : ∀ xs, u ≠ .tup xs), Fr a = some u → Rl X.K { Φ with Fr := Fr } Z σ H ρ → Rl X.K { Φ with Fr := upd Fr a w } Z σ (upd H a w) ρ := fun {Fr Z σ H ρ u w} u0 hu R =>
        R.reframe (Fr2 := upd Fr a w) (H2 := upd H a w) (fun c => c = a) (fun c hc => ⟨upd_ne hc, upd_ne hc⟩) (fun c hc => by subst hc; exact R.frZ (u := u) hu u0 ha0.2) (fun c hc => by subst hc; exact ⟨_, upd_same, .inr upd_same⟩) fun i c hi hc => by subst hc; exact R.frN (u := u) hu i hi
      have sm : ∀ {Fr : Hp} {w : HO}, Same Φ.Fr Fr → Same Φ.Fr (upd Fr a w) := fun {Fr w} h c u hc => by
        rw [upd_ne (by rintro rfl; rw [ha0.1] at hc; cases hc)]
        exact h c u hc
      have start : NR X.K j (some (od, a, vs)) Φ Z σ (upd H a (.frz od (.dK vs))) ρ :=
        ⟨upd Fr a (.frz od (.dK vs)), a, vs, kvs, bs, e1, h2, ⟨rfl, rfl, upd_same⟩, h4.mono (Fr' := upd Fr a (.frz od (.dK vs))) (Same.refl Z) (fun c hc => upd_ne (by rintro rfl; exact h6 hc)), h5, h6, h7, sm h8, relk (fun _ e => by cases e) h3 R1⟩
      refine ⟨_, h2, a, od, rfl, .inl ⟨vs, upd_same, ?_⟩⟩
      have hkeys : (kvs.map fun p => kD p.1) = vs.map fun p => kD p.1 := by
        have := congrArg (List.map kD) h4.keys
        simpa [List.map_map, Function.comp_def] using this.symm
      rw [hkeys] at eF
      -- the frame while it is locked
      have atL : ∀ {Z σ H ρ}, NR X.K j (some (od, a, vs)) Φ Z σ H ρ → H a = some (.frz od (.dK vs)) := fun {Z σ H ρ} R => by
        obtain ⟨Fr, kvs', bs, g1, g2, g3, g4, g5, g6, g7, g8, R⟩ := R.locked
        exact R.fr a _ g3
      have fin : ∀ σ' H' Z', Same Z Z' → NR X.K j (some (od, a, vs)) Φ Z' σ' H' ρe → H' a = some (.frz od (.dK vs)) ∧ D.nx σ' (upd H' a (.dK vs)) := fun σ' H' Z' z R => by
        refine ⟨atL R, k σ' _ Z' z ?_⟩
        obtain ⟨Fr, kvs', bs, g1, g2, g3, g4, g5, g6, g7, g8, R⟩ := R.locked
        exact ⟨upd Fr a (.dK vs), a, vs, kvs', bs, g1, g2, upd_same, g4.mono (Fr' := upd Fr a (.dK vs)) (Same.refl Z') (fun c hc => upd_ne (by rintro rfl; exact g6 hc)), g5, g6, g7, sm g8, relk (fun _ e => by cases e) g3 R⟩
      refine ⟨fun i m σ' H' => m = vs.length - i ∧ i ≤ vs.length ∧ ∃ Z' ρ', Same Z Z' ∧ NR X.K j (some (od, a, vs)) Φ Z' σ' H' ρ' ∧ forL (lftG j gf) b ((vs.map fun p => kD p.1).drop i) ρ' = some (.nx ρe), ⟨vs.length, by simp, Nat.zero_le _, Z, ρ, Same.refl Z, start, by simpa using eF⟩, ?_⟩
      rintro i m' σ' H' ⟨rfl, hi, Z', ρ', z', R', q'⟩
      by_cases hlt : i < vs.length
      · refine .inr ⟨⟨atL R', hlt⟩, fun σ2 H2 => i + 1 ≤ vs.length ∧ ∃ Z' ρ', Same Z Z' ∧ NR X.K j (some (od, a, vs)) Φ Z' σ2 H2 ρ' ∧ forL (lftG j gf) b ((vs.map fun p => kD p.1).drop (i + 1)) ρ' = some (.nx ρe), fun σ2 H2 ⟨h1, h2⟩ => ⟨vs.length - (i + 1), by omega, rfl, h1, h2⟩, fun xx H2 yl => ?_⟩
        obtain ⟨rfl, kk, vv, hkv, rfl⟩ := yl
        have ed : (vs.map fun p => kD p.1).drop i = kD kk :: (vs.map fun p => kD p.1).drop (i + 1) := by
          rw [List.drop_eq_getElem_cons (by simpa using hlt)]
          congr 1
          rw [List.getElem?_eq_getElem hlt] at hkv
          simp [Option.some.inj hkv]
        rw [ed] at q'
        unfold forL at q'
        cases e2 : lftG j gf (kD kk) ρ' with
        | none => rw [e2] at q'; cases q'
        | some ρ2 =>
          rw [e2, Option.bind_some] at q'
          obtain ⟨Φ2, x2, ex2, R2, cl2⟩ := R'.opn
          obtain ⟨x3, ρ3, ex3, eg, eu3, rfl⟩ := lftG_inv e2
          rw [ex2] at ex3
          cases ex3
          cases e3 : b (ρ3.set j x2) with
          | none => rw [e3] at q'; cases q'
          | some f =>
            rw [e3, Option.bind_some] at q'
            refine m Φ2 Z' σ' H2 _ (kV kk) (kD kk) ρ3 R2 (rp_key kk) eg _ fun σ3 R4 _ s4 => ?_
            refine ⟨(od, a, vs), Φ, Z', ρ3.set j x2, f, cl2 Z' σ3 H2 ρ3 (Same.refl _) (s4 j hv) eu3 R4, e3, ?_⟩
            cases f with
            | nx ρ4 => exact fun σ4 H4 Z4 z4 R5 => ⟨hlt, Z4, ρ4, z'.trans z4, R5, q'⟩
            | ct ρ4 => exact fun σ4 H4 Z4 z4 R5 => ⟨hlt, Z4, ρ4, z'.trans z4, R5, q'⟩
            | bk ρ4 =>
              cases q'
              exact fun σ4 H4 Z4 z4 R5 => fin σ4 H4 Z4 (z'.trans z4) R5
            | rt dd ρ4 => cases q'
            | rn dd ρ4 => cases q'
      · have e : i = vs.length := by omega
        subst e
        rw [List.drop_of_length_le (by simp)] at q'
        cases q'
        exact .inl ⟨⟨atL R', Nat.le_refl _⟩, fin σ' H' Z' z' R'⟩
    · cases q
  · cases q
end

/-! ### its making -/
/-- made, held by no slot -/
def NC (K : PySem.W.Frag) (Φ : Fx) (Z : Hp) (σ : St) (H : Hp) (ρ : Nv) (a : Addr) (kvs : List (Key × PyData)) : Prop := ∃ (Fr : Hp) (vs : List (Key × V)) (bs : List Addr),
  Fr a = some (.dK vs) ∧ InL K Z Fr vs kvs bs ∧ (kvs.map (·.1)).Nodup ∧ a ∉ bs ∧ (∀ c, c ∈ a :: bs → Φ.Fr c = none ∧ Φ.H0 c = none) ∧ Same Φ.Fr Fr ∧ Rl K { Φ with Fr := Fr } Z σ H ρ
abbrev XNN := Nv → Option (List (Key × PyData) × Nv)
def MNN (K : PySem.W.Frag) (t : TE) (f : XNN) : Prop := ∀ (Φ : Fx) (Z : Hp) (σ : St) (H : Hp) (ρ : Nv) (kvs : List (Key × PyData)) (ρ' : Nv), Rl K Φ Z σ H ρ → f ρ = some (kvs, ρ') →
  ∀ Q : VK, (∀ a H' Z', Same Z Z' → NC K Φ Z' σ H' ρ' a kvs → Q (.ref a) H') → t σ H Q
def sNest (j : Nat) (f : XNN) : XS := fun ρ => (f ρ).bind fun p => if free p.2 j = true then some (.nx (p.2.set j (.own (.od p.1) false))) else none
def sEnd (s : XS) : XS := fun ρ => match s ρ with
  | some (.rn o ρ') => some (.rn o ρ')
  | some (.rt o ρ') => some (.rt o ρ')
  | _ => none
theorem ssd_nest {X : Cx} {j : Nat} {x : Str} {e : Expr} {t : TE} {f : XNN} {rest : List Stmt} {b : XS} {pos pos' : Pos} (hN : X.N.Nodup) (he : PE X e t) (hm : MNN X.K t f) (hr : NSSD X j none rest b) (hi : X.N[j]? = some x := by rfl) (hx : Loc X.env.scope x := by first | exact Or.inl rfl | exact Or.inr rfl) (hs : swapsWith e (some (.Name x pos')) pos.line X.env = pure false := by rfl)
    (hf : X.fn x = true ∨ X.env.scope.names.lookup x = some .local := by first | exact .inl rfl | exact .inr rfl) :
    SSD X (.Assign [.Name x pos'] e pos :: rest) (sEnd (sSeq (sNest j f) b)) := by
  obtain ⟨u, q, n⟩ := hr
  refine ⟨_, pss_cons (ps_set hN hi hx he hs hf) q, fun Φ Z σ H ρ r R q D k => ?_⟩
  have q : (sSeq (sNest j f) b ρ = some r ∧ (∀ D', FlE X.K Φ Z D' r → NFlE X.K j none Φ Z D' r)) := by
    unfold sEnd at q
    split at q
    · rename_i o ρ' e; cases q; exact ⟨e, fun D' h => h⟩
    · rename_i o ρ' e; cases q; exact ⟨e, fun D' h => h⟩
    · cases q
  obtain ⟨q, up⟩ := q
  unfold sSeq sNest at q
  cases e1 : f ρ with
  | none => rw [e1] at q; cases q
  | some w =>
    rw [e1, Option.bind_some] at q
    split at q
    · rename_i hfr
      rw [Option.bind_some] at q
      obtain ⟨f1, f2⟩ := free_lt hfr
      refine hm Φ Z σ H ρ w.1 w.2 R e1 _ fun a H1 Z1 z1 C => ?_
      obtain ⟨Fr, vs, bs, g3, g4, g5, g6, g7, g8, R1⟩ := C
      have R2 : Rl X.K { Φ with Fr := Fr } Z1 σ H1 (w.2.set j .un) := R1.drop f2
      have hjs : j < σ.length := R1.len ▸ f1
      have R3 : Rl X.K { Φ with Fr := Fr } Z1 (σ.set j (some (V.ref a))) H1 (w.2.set j .un) := R2.reslot (by simp) fun i ⟨e', he', hne⟩ => by
        rw [List.getElem?_set_ne]
        rintro rfl
        rw [List.getElem?_set_self f1] at he'
        cases he'
        exact hne rfl
      refine n Φ Z1 (σ.set j (some (V.ref a))) H1 (w.2.set j (.own (.od w.1) false)) r ⟨Fr, a, vs, w.1, bs, List.getElem?_set_self f1, List.getElem?_set_self hjs, g3, g4, g5, g6, g7, g8, ?_⟩ q D ((up D k).mono z1)
      rw [List.set_set]
      exact R3
    · cases q
end DL
set_option maxRecDepth 100000
set_option maxHeartbeats 4000000
/-! DL, the making of a dict of lists: dict([(k, []) for ..]) and {k: [] for ..}. -/
namespace DL
open PySem L2

section
variable {K : PySem.W.Frag} {Z Fr : Hp}
theorem InL.snoc {k : Key} {b : Addr} {ws : List V} {xs : List PyData} (hb : Fr b = some (.lst ws)) (r : RpA K Z ws xs) : ∀ {vs : List (Key × V)} {kvs : List (Key × PyData)} {bs : List Addr}, InL K Z Fr vs kvs bs → b ∉ bs → InL K Z Fr (vs ++ [(k, .ref b)]) (kvs ++ [(k, .list xs)]) (bs ++ [b])
  | _, _, _, .nil, _ => .cons hb r (by simp) .nil
  | _, _, _, .cons h r' n t, hn => by
    rw [List.mem_cons, not_or] at hn
    refine .cons h r' ?_ (t.snoc hb r hn.2)
    intro hm
    rcases List.mem_append.mp hm with hm | hm
    · exact n hm
    · exact hn.1 (by simpa using hm : _ = b).symm
end
theorem nodup_snoc {kvs : List (Key × PyData)} {k : Key} {d : PyData} (h : (kvs.map (·.1)).Nodup) (hk : getD' kvs k = none) : ((kvs ++ [(k, d)]).map (·.1)).Nodup := by
  rw [List.map_append, List.nodup_append]
  refine ⟨h, by simp, fun a ha b hb => ?_⟩
  have hb : b = k := by simpa using hb
  subst hb
  rintro rfl
  obtain ⟨p, hp, rfl⟩ := List.mem_map.mp ha
  unfold getD' at hk
  rw [Option.map_eq_none_iff, List.find?_eq_none] at hk
  exact hk p hp (by simp)
theorem putK_new {vs : List (Key × V)} {k : Key} {v : V} (h : k ∉ vs.map (·.1)) : putK vs k v = vs ++ [(k, v)] := by
  unfold putK
  rw [if_neg]
  rw [List.any_eq_true]
  rintro ⟨p, hp, e⟩
  exact h (by have : p.1 = k := by simpa using e
              rw [← this]; exact List.mem_map_of_mem hp)
theorem notin_of {kvs : List (Key × PyData)} {k : Key} (hk : getD' kvs k = none) : k ∉ kvs.map (·.1) := by
  intro h
  obtain ⟨p, hp, e⟩ := List.mem_map.mp h
  unfold getD' at hk
  rw [Option.map_eq_none_iff, List.find?_eq_none] at hk
  exact hk p hp (by simpa using e)
theorem mergeK_new : ∀ {more vs : List (Key × V)}, ((vs ++ more).map (·.1)).Nodup → mergeK vs more = vs ++ more
  | [], vs, _ => by simp [mergeK]
  | (k, v) :: more, vs, h => by
    have hk : k ∉ vs.map (·.1) := by
      rw [List.map_append, List.nodup_append] at h
      intro hk
      exact h.2.2 k hk k (by simp) rfl
    show mergeK (putK vs k v) more = _
    rw [putK_new hk, mergeK_new (by simpa using h)]
    simp

/-- round by round: the keys -/
def dcL (g : XG) (fk : XE) (vs : List Nat) : List PyData → Nv → List (Key × PyData) → Option (List (Key × PyData) × Nv)
  | [], ρ, acc => some (acc, ρ)
  | d :: ds, ρ, acc => (g d ρ).bind fun ρ1 => (fk ρ1).bind fun p => (keyD p.1).bind fun k => if acc.length < sizeLine ∧ getD' acc k = none then (wipeN p.2 vs).bind fun ρ2 => dcL g fk vs ds ρ2 (acc ++ [(k, .list [])]) else none
def nPairs (it : XI) (g : XG) (fk : XE) (vs : List Nat) : XNN := fun ρ => (it ρ).bind fun p => if unAt p.2 vs = true then dcL g fk vs p.1 p.2 [] else none
def dictR (K : PySem.W.Frag) : List V → Hp → VK → Prop := fun xs H Q => ∃ (a : Addr) (ps : List Addr) (kvs : List (Key × V)), xs = [.ref a] ∧ SqL K H a (ps.map V.ref) ∧ Paired (fun p kv => SqT K H p [kV kv.1, kv.2]) ps kvs ∧ ∀ p, H p = none → Q (.ref p) (upd H p (.dK (mergeK [] kvs)))
/-- the list of pairs under way -/
def CI (K : PySem.W.Frag) (Φ : Fx) (Z : Hp) (σ : St) (H : Hp) (ρ : Nv) (D : Addr) (ts : List Addr) (acc : List (Key × PyData)) : Prop := ∃ (Fr : Hp) (vs : List (Key × V)) (bs : List Addr),
  Fr D = some (.lst (ts.map V.ref)) ∧ Paired (fun t kv => Fr t = some (.tup [kV kv.1, kv.2])) ts vs ∧ InL K Z Fr vs acc bs ∧ (acc.map (·.1)).Nodup ∧ D ∉ bs ∧ (∀ c, c ∈ D :: bs → Φ.Fr c = none ∧ Φ.H0 c = none) ∧ Same Φ.Fr Fr ∧ Rl K { Φ with Fr := Fr } Z σ H ρ
theorem len_inl {K : PySem.W.Frag} {Z Fr : Hp} : ∀ {vs : List (Key × V)} {kvs : List (Key × PyData)} {bs : List Addr}, InL K Z Fr vs kvs bs → vs.length = kvs.length
  | _, _, _, .nil => rfl
  | _, _, _, .cons _ _ _ t => by simp [len_inl t]
theorem CI.add {K : PySem.W.Frag} {Φ : Fx} {Z : Hp} {σ : St} {H : Hp} {ρ : Nv} {D : Addr} {ts : List Addr} {acc : List (Key × PyData)} (C : CI K Φ Z σ H ρ D ts acc) {k : Key} (hk : getD' acc k = none) {p t : Addr} (hp : H p = none) (ht : upd H p (.lst []) t = none) :
    CI K Φ Z σ (upd (upd (upd H p (.lst [])) t (.tup [kV k, .ref p])) D (.lst (ts.map V.ref ++ [.ref t]))) ρ D (ts ++ [t]) (acc ++ [(k, .list [])]) := by
  obtain ⟨Fr, vs, bs, h1, h2, h3, h4, h5, h6, h7, R⟩ := C
  have hD0 := h6 D (by simp)
  have hDH : H D = some (.lst (ts.map V.ref)) := R.fr D _ h1
  have tp : t ≠ p := by rintro rfl; rw [upd_same] at ht; cases ht
  have ht0 : H t = none := by rw [upd_ne tp] at ht; exact ht
  have pD : p ≠ D := ne_of_none hDH hp |>.symm
  have tD : t ≠ D := ne_of_none hDH ht0 |>.symm
  have frp : Fr p = none := R.fr.free hp
  have frt : Fr t = none := R.fr.free ht0
  let Fr2 := upd (upd (upd Fr p (.lst [])) t (.tup [kV k, .ref p])) D (.lst (ts.map V.ref ++ [.ref t]))
  have keep : ∀ c u, Fr c = some u → c ≠ D → Fr2 c = some u := fun c u hc hcD => by
    show upd _ _ _ c = _
    rw [upd_ne hcD, upd_ne (ne_of_none hc frt), upd_ne (ne_of_none hc frp)]
    exact hc
  have keepS : ∀ c, c ≠ D → c ≠ t → c ≠ p → Fr2 c = Fr c ∧ (upd (upd (upd H p (.lst [])) t (.tup [kV k, .ref p])) D (.lst (ts.map V.ref ++ [.ref t]))) c = H c := fun c c1 c2 c3 => by
    constructor
    · show upd _ _ _ c = _
      rw [upd_ne c1, upd_ne c2, upd_ne c3]
    · rw [upd_ne c1, upd_ne c2, upd_ne c3]
  have bsfr : ∀ b ∈ bs, Fr2 b = Fr b := fun b hb => by
    obtain ⟨ws, hw⟩ := h3.fr b hb
    rw [keep b _ hw (by rintro rfl; exact h5 hb), hw]
  have e2 : Fr2 p = some (.lst []) := by
    show upd _ _ _ p = _
    rw [upd_ne pD, upd_ne (Ne.symm tp), upd_same]
  have e3 : Fr2 t = some (.tup [kV k, .ref p]) := by
    show upd _ _ _ t = _
    rw [upd_ne tD, upd_same]
  have pbs : p ∉ bs := fun hb => by
    obtain ⟨ws, hw⟩ := h3.fr p hb
    rw [frp] at hw
    cases hw
  refine ⟨Fr2, vs ++ [(k, .ref p)], bs ++ [p], ?_, ?_, (h3.mono (Same.refl Z) bsfr).snoc e2 .nil pbs, nodup_snoc h4 hk, ?_, ?_, ?_, ?_⟩
  · show upd _ _ _ D = _
    rw [upd_same, List.map_append]
    rfl
  · exact Paired.snoc (Paired.mono (fun t' kv hh => keep t' _ hh (by rintro rfl; rw [h1] at hh; cases hh)) h2) e3
  · rw [List.mem_append, not_or]
    exact ⟨h5, by simpa using Ne.symm pD⟩
  · intro c hc
    rcases List.mem_cons.mp hc with rfl | hc
    · exact hD0
    · rcases List.mem_append.mp hc with hc | hc
      · exact h6 c (by simp [hc])
      · have : c = p := by simpa using hc
        subst this
        exact ⟨h7.free frp, R.dom _ hp⟩
  · intro c u hc
    have : Fr c = some u := h7 c u hc
    exact keep c u this (by rintro rfl; rw [hD0.1] at hc; cases hc)
  · refine R.reframe (Fr2 := Fr2) (fun c => c = D ∨ c = t ∨ c = p) (fun c hc => ?_) (fun c hc => ?_) (fun c hc => ?_) fun i c hi hc => ?_
    · rw [not_or, not_or] at hc
      obtain ⟨q1, q2⟩ := keepS c hc.1 hc.2.1 hc.2.2
      exact ⟨q2, q1⟩
    · rcases hc with rfl | rfl | rfl
      · exact R.frZ (u := .lst (ts.map V.ref)) h1 (fun _ e => by cases e) hD0.2
      · exact R.zH.free ht0
      · exact R.zH.free hp
    · rcases hc with rfl | rfl | rfl
      · exact ⟨_, upd_same, .inr upd_same⟩
      · exact ⟨_, by rw [upd_ne tD, upd_same], .inr e3⟩
      · exact ⟨_, by rw [upd_ne pD, upd_ne (Ne.symm tp), upd_same], .inr e2⟩
    · rcases hc with rfl | rfl | rfl
      · exact R.frN (u := .lst (ts.map V.ref)) h1 i hi
      · obtain ⟨u, hu, _⟩ := R.at_some hi
        rw [ht0] at hu; cases hu
      · obtain ⟨u, hu, _⟩ := R.at_some hi
        rw [hp] at hu; cases hu
theorem CI.rl {K : PySem.W.Frag} {Φ : Fx} {Z : Hp} {σ : St} {H : Hp} {ρ : Nv} {D : Addr} {ts : List Addr} {acc : List (Key × PyData)} (C : CI K Φ Z σ H ρ D ts acc) : ∃ Φ' : Fx, Rl K Φ' Z σ H ρ ∧ ∀ Z' σ' H' ρ', Same Z Z' → Rl K Φ' Z' σ' H' ρ' → CI K Φ Z' σ' H' ρ' D ts acc := by
  obtain ⟨Fr, vs, bs, h1, h2, h3, h4, h5, h6, h7, R⟩ := C
  exact ⟨_, R, fun Z' σ' H' ρ' z R' => ⟨Fr, vs, bs, h1, h2, h3.mono z (fun _ _ => rfl), h4, h5, h6, h7, R'⟩⟩
theorem mnn_pairs {K : PySem.W.Frag} {w : TI} {g : TG} {tk : TE} {it : XI} {gf : XG} {fk : XE} {vs : List Nat} (mi : MI K w it) (mg : MG K g gf vs) (me : ME K tk fk) :
    MNN K (tCB (dictR K) (tCons (tLc w g tYes (tTup (tCons tk (tCons (tLst tNil) tNil))) vs) tNil)) (nPairs it gf fk vs) := by
  intro Φ Z σ H ρ kvs ρe R q Q k
  unfold nPairs at q
  cases e1 : it ρ with
  | none => rw [e1] at q; cases q
  | some p =>
    rw [e1, Option.bind_some] at q
    obtain ⟨ds, ρ1⟩ := p
    split at q
    · rename_i hu
      refine mi Φ Z σ H ρ ds ρ1 R e1 _ fun J H1 Z1 z1 R1 y D hD => ?_
      have start : CI K Φ Z1 σ (upd H1 D (.lst [])) ρ1 D [] [] := by
        have frD : Φ.Fr D = none := R1.fr.free hD
        refine ⟨upd Φ.Fr D (.lst []), [], [], upd_same, .nil, .nil, List.nodup_nil, by simp, fun c hc => ?_, same_new frD, ?_⟩
        · have : c = D := by simpa using hc
          subst this
          exact ⟨frD, R1.dom _ hD⟩
        · have R2 := R1.laid (o := .lst []) hD
          refine R2.keep upd_same (R1.zH.free hD) (fun i hi => ?_) fun a u e => ne_of_none (R1.zH a u e) hD
          obtain ⟨u, hu, _⟩ := R1.at_some hi
          rw [hD] at hu
          cases hu
      refine ⟨fun i m H' => m = ds.length - i ∧ i ≤ ds.length ∧ ∃ Z' ρ' ts acc, Same Z1 Z' ∧ CI K Φ Z' σ H' ρ' D ts acc ∧ unAt ρ' vs = true ∧ dcL gf fk vs (ds.drop i) ρ' acc = some (kvs, ρe),
        ⟨ds.length, by simp, Nat.zero_le _, Z1, ρ1, [], [], Same.refl Z1, start, hu, by simpa using q⟩, ?_⟩
      rintro i m H' ⟨rfl, hi, Z', ρ', ts, acc, z', C, hu', q'⟩
      obtain ⟨Φ', R', cl⟩ := C.rl
      by_cases hlt : i < ds.length
      · refine .inr ⟨y.go i H' (z'.trans R'.zH) hlt, fun H2 => i + 1 ≤ ds.length ∧ ∃ Z' ρ' ts acc, Same Z1 Z' ∧ CI K Φ Z' σ H2 ρ' D ts acc ∧ unAt ρ' vs = true ∧ dcL gf fk vs (ds.drop (i + 1)) ρ' acc = some (kvs, ρe),
          fun H2 ⟨h1, h2⟩ => ⟨ds.length - (i + 1), by omega, rfl, h1, h2⟩, fun x H2 yl => ?_⟩
        obtain ⟨Z3, d, z3, R3, hd, rd⟩ := y.item i H' x H2 _ σ ρ' Z' hlt z' R' yl
        have ed : ds.drop i = d :: ds.drop (i + 1) := by
          rw [List.drop_eq_getElem_cons hlt]
          congr 1
          rw [List.getElem?_eq_getElem hlt] at hd
          exact Option.some.inj hd
        rw [ed] at q'
        unfold dcL at q'
        cases e3 : gf d ρ' with
        | none => rw [e3] at q'; cases q'
        | some ρ2 =>
          rw [e3, Option.bind_some] at q'
          have R3w : Rl K Φ' Z3 (wipe σ vs) H2 ρ' := reslot_un R3 hu' (wipe_length σ vs) fun j hj => wipe_ne hj
          refine mg _ Z3 (wipe σ vs) H2 ρ' x d ρ2 R3w rd e3 _ fun σ3 R4 l3 s3 => ⟨?_, ?_⟩
          · exact wipe_eq (l3.trans (wipe_length σ vs)) fun j hj => (s3 j hj).trans (wipe_ne hj)
          have l3' : σ3.length = σ.length := l3.trans (wipe_length σ vs)
          have s3' : ∀ j, j ∉ vs → σ[j]? = σ3[j]? := fun j hj => ((s3 j hj).trans (wipe_ne hj)).symm
          simp only [tYes, if_true]
          cases e4 : fk ρ2 with
          | none => rw [e4] at q'; cases q'
          | some p =>
            rw [e4, Option.bind_some] at q'
            cases e5 : keyD p.1 with
            | none => rw [e5] at q'; cases q'
            | some kk =>
              rw [e5, Option.bind_some] at q'
              split at q'
              · rename_i hal
                cases e6 : wipeN p.2 vs with
                | none => rw [e6] at q'; cases q'
                | some ρ4 =>
                  rw [e6, Option.bind_some] at q'
                  refine me _ Z3 σ3 H2 ρ2 p.1 p.2 R4 e4 _ fun v H6 Z6 z6 R6 r6 => ⟨by simp [sizeLine], fun pp hpp => ⟨by simp [sizeLine], fun t ht => ?_⟩⟩
                  have R7 : Rl K Φ' Z6 σ H6 ρ4 := reslot_un (wipeN_rl R6 e6) (wipeN_unAt e6) l3'.symm s3'
                  have C7 := cl Z6 σ H6 ρ4 (z3.trans z6) R7
                  rw [keyD_rp r6 e5]
                  have tp : D ≠ pp := by
                    obtain ⟨Fr, vs', bs, h1, h2, h3, h4, h5, h6, h7, RR⟩ := C7
                    exact ne_of_none (RR.fr D _ h1) hpp
                  have tt : D ≠ t := by
                    obtain ⟨Fr, vs', bs, h1, h2, h3, h4, h5, h6, h7, RR⟩ := C7
                    exact ne_of_none (by rw [upd_ne tp]; exact RR.fr D _ h1) ht
                  have lts : ts.length = acc.length := by
                    obtain ⟨Fr, vs', bs, h1, h2, h3, h4, h5, h6, h7, RR⟩ := C7
                    rw [h2.length, len_inl h3]
                  refine ⟨ts.map V.ref, ?_, by rw [List.length_map, lts]; exact hal.1, hlt, Z6, ρ4, ts ++ [t], acc ++ [(kk, .list [])], (z'.trans z3).trans z6, C7.add hal.2 hpp ht, wipeN_unAt e6, q'⟩
                  obtain ⟨Fr, vs', bs, h1, h2, h3, h4, h5, h6, h7, RR⟩ := C7
                  rw [upd_ne tt, upd_ne tp]
                  exact RR.fr D _ h1
              · cases q'
      · have ei : i = ds.length := by omega
        subst ei
        rw [List.drop_length] at q'
        cases q'
        refine .inl ⟨y.stop _ H' (z'.trans R'.zH) rfl, ?_⟩
        obtain ⟨Fr, vs', bs, h1, h2, h3, h4, h5, h6, h7, RR⟩ := C
        refine ⟨D, ts, vs', rfl, SqL.of (RR.fr D _ h1), Paired.mono (fun t kv hh => SqT.of (RR.fr t _ hh)) h2, fun a ha => ?_⟩
        have hm : mergeK [] vs' = vs' := by
          have := mergeK_new (more := vs') (vs := []) (by simpa [h3.keys] using h4)
          simpa using this
        rw [hm]
        have fra : Fr a = none := RR.fr.free ha
        have f0a : Φ.Fr a = none := h7.free fra
        have abs : a ∉ bs := fun hb => by
          obtain ⟨ws, hw⟩ := h3.fr a hb
          rw [fra] at hw
          cases hw
        refine k a _ Z' (z1.trans z') ⟨upd Fr a (.dK vs'), vs', bs, upd_same, h3.mono (Fr' := upd Fr a (.dK vs')) (Same.refl Z') (fun c hc => upd_ne (by rintro rfl; exact abs hc)), h4, abs, fun c hc => ?_, ?_, ?_⟩
        · rcases List.mem_cons.mp hc with rfl | hc
          · exact ⟨f0a, RR.dom _ ha⟩
          · exact h6 c (by simp [hc])
        · intro c u hc
          rw [upd_ne (by rintro rfl; rw [f0a] at hc; cases hc)]
          exact h7 c u hc
        · refine RR.reframe (Fr2 := upd Fr a (.dK vs')) (H2 := upd H' a (.dK vs')) (fun c => c = a) (fun c hc => ⟨upd_ne hc, upd_ne hc⟩) (fun c hc => ?_) (fun c hc => ?_) fun i c hi hc => ?_
          · subst hc
            exact RR.zH.free ha
          · subst hc
            exact ⟨_, upd_same, .inr upd_same⟩
          · subst hc
            obtain ⟨u, hu, _⟩ := RR.at_some hi
            rw [ha] at hu
            cases hu
    · cases q
end DL
set_option maxRecDepth 100000
set_option maxHeartbeats 4000000
/-! DL, x = dict([(k, []) for ..]); for k, v in f(..).items(). -/
namespace DL
open PySem L2

section
variable {X : Cx} {tg iter ke : Expr} {scope : Scope} {it : XI} {g : XG} {fk : XE} {rest : List Stmt} {b : XS} {pos pos' pos2 p cpos tpos lpos : Pos} {kk : Nat}
theorem ssd_pairs {vs : List Nat} (j : Nat) {x : Str} (own : List (Str × Nat)) (ok : BlkOk X.N X.env.scope scope own) (hv : own.map (·.2) = vs) (hc : X.calm = true) (hN : X.N.Nodup) (hi : ID' X tg iter it)
    (hg : ∀ (s : Shared) (H : Hp) (C : Addr) (cl : List (Str × Addr)) (fp : List Addr), GD (X.blk s H scope (compEnvC scope cl C X.env) fp) tg g vs)
    (hk : ∀ (s : Shared) (H : Hp) (C : Addr) (cl : List (Str × Addr)) (fp : List Addr), ED (X.blk s H scope (compEnvC scope cl C X.env) fp) ke fk) (hm : X.mg "dict" = none) (hr : NSSD X j none rest b)
    (hj : X.N[j]? = some x := by rfl) (hx : Loc X.env.scope x := by first | exact Or.inl rfl | exact Or.inr rfl)
    (hf : X.fn x = true ∨ X.env.scope.names.lookup x = some .local := by first | exact .inl rfl | exact .inr rfl)
    (hgl : Gl X "dict" := by rfl) (hs : ∀ x, foldedSetIterable iter X.env x = pure x := by intro _; rfl)
    (h1 : starEach [(.ListComp (.Tuple [ke, .List [] lpos] kk tpos) [⟨tg, iter, [], 0⟩] scope cpos : Expr)] X.env = (false, eval (.ListComp (.Tuple [ke, .List [] lpos] kk tpos) [⟨tg, iter, [], 0⟩] scope cpos) X.env) :: starEach [] X.env := by rfl)
    (h2 : (backTo pos2 (starEach [] X.env)).any (·.1) = false := by rfl)
    (h3 : ∀ (s : Shared) (H : Hp) (C : Addr) (cl : List (Str × Addr)) (fp : List Addr), starEach [ke, .List [] lpos] (X.blk s H scope (compEnvC scope cl C X.env) fp).env = (false, eval ke (X.blk s H scope (compEnvC scope cl C X.env) fp).env) :: starEach [.List [] lpos] (X.blk s H scope (compEnvC scope cl C X.env) fp).env := by intro _ _ _ _ _; rfl)
    (hsw : swapsWith (.Call (.Name "dict" p) [.ListComp (.Tuple [ke, .List [] lpos] kk tpos) [⟨tg, iter, [], 0⟩] scope cpos] [] pos2) (some (.Name x pos')) pos.line X.env = pure false := by rfl) :
    SSD X (.Assign [.Name x pos'] (.Call (.Name "dict" p) [.ListComp (.Tuple [ke, .List [] lpos] kk tpos) [⟨tg, iter, [], 0⟩] scope cpos] [] pos2) pos :: rest) (sEnd (sSeq (sNest j (nPairs it g fk vs)) b)) := by
  subst hv
  obtain ⟨w, q, m⟩ := hi
  have pl : PE X (.ListComp (.Tuple [ke, .List [] lpos] kk tpos) [⟨tg, iter, [], 0⟩] scope cpos) (tLc w (gOf X.K g (own.map (·.2))) tYes (tTup (tCons (tOf X.K fk) (tCons (tLst tNil) tNil))) (own.map (·.2))) :=
    pe_lc hc hN q ok (fun s H C cl fp => (hg s H C cl fp).pg) (fun s H C cl fp => pts_nil) (fun s H C cl fp => pe_tup (pa_cons (hk s H C cl fp).pe (pa_cons (pe_lst pa_nil) pa_nil rfl) (h3 s H C cl fp))) hs
  have pc := pe_callTy (p := p) (pos := pos2) (call_dictP hc) hgl hm (show bootBuiltins "dict" = some (.type "dict") by decide +kernel) (pa_cons pl pa_nil h1) (by decide) (by decide) h1 h2
  exact ssd_nest hN pc (mnn_pairs m mg_of me_of) hr hj hx hsw hf
end

/-! ### for k, v in f(..).items() -/
def tLockF (t : TE) : TE := fun σ H Q => t σ H fun x H' => ∃ d u, x = .ref d ∧ H' d = some u ∧ Mut (some u) ∧ ∀ od, Q x (upd H' d (.frz od u))
theorem pe_lockF {X : Cx} {e : Expr} {t : TE} (h : PE X e t) : PE X e (tLockF t) := by
  refine ⟨fun pins s σ H Q I hw => ?_⟩
  refine thn (h.run pins s σ H _ I hw) fun v s1 ⟨x, H1, I1, r, d, u, ex, hd, mu, q⟩ => ?_
  obtain ⟨od, I2⟩ := I1.lock hd mu
  exact ⟨x, _, I2, r, q od⟩
def sForI (n : XN) (g : XG) (b : XS) : XS := fun ρ => (n ρ).bind fun p => match p.1 with
  | .od kvs => forL g b (kvs.map fun kv => .tuple [kD kv.1, kv.2]) p.2
  | _ => none
theorem sd_forItems {X : Cx} {e : Expr} {n : XN} {g : XG} {ws : List Nat} {body : List Stmt} {b : XS} {elts : List Expr} {kk : Nat} {tpos apos cpos pos : Pos} (hp : PassesOwn (model X.prog X.w) X.A X.env X.xe) (hc : X.calm = true) (he : ND X e n) (hg : GD X (.Tuple elts kk tpos) g ws) (hb : SSD X body b)
    (hbase : attributeBase e "items" X.env (eval e X.env) = eval e X.env := by rfl) (hline : (apos.endLine == cpos.line) = true := by rfl) (hs : ∀ x, foldedSetIterable (.Call (.Attribute e "items" apos) [] [] cpos) X.env x = pure x := by intro _; rfl) :
    SD X (.For (.Tuple elts kk tpos) (.Call (.Attribute e "items" apos) [] [] cpos) body [] pos) (sForI n g b) := by
  obtain ⟨t, p, m⟩ := he
  obtain ⟨tg, pg, mg⟩ := hg
  obtain ⟨tb, pb, mb⟩ := hb
  refine ⟨_, ps_for hp hc (pi_items (pe_lockF p) hbase hline) pg pb hs, fun Φ Z σ H ρ r R q D k => ?_⟩
  unfold sForI at q
  cases e1 : n ρ with
  | none => rw [e1] at q; cases q
  | some w =>
    rw [e1, Option.bind_some] at q
    refine m Φ Z σ H ρ w.1 w.2 R e1 _ fun a H1 Z1 z1 R1 nw => ?_
    split at q
    · rename_i kvs e2
      rw [e2] at nw
      obtain ⟨⟨vs, hd, hk, rv⟩, nz, nf, n0, nn⟩ := nw
      refine ⟨a, .dK vs, rfl, hd, trivial, fun od => ⟨a, od, vs, rfl, upd_same, ?_⟩⟩
      have start : Rl X.K (Φ.keep a (.frz od (.dK vs))) Z1 σ (upd H1 a (.frz od (.dK vs))) w.2 :=
        R1.reframe (Fr2 := upd Φ.Fr a (.frz od (.dK vs))) (H2 := upd H1 a (.frz od (.dK vs))) (fun c => c = a) (fun c hc => ⟨upd_ne hc, upd_ne hc⟩) (fun c hc => by subst hc; exact nz) (fun c hc => by subst hc; exact ⟨_, upd_same, .inr upd_same⟩) fun i c hi hc => by subst hc; exact nn i hi
      have k1 := k.mono z1
      have lvs : vs.length = kvs.length := len_keys hk
      refine ⟨fun i m' σ' H' => m' = vs.length - i ∧ i ≤ vs.length ∧ ∃ Z' ρ', Same Z1 Z' ∧ Rl X.K (Φ.keep a (.frz od (.dK vs))) Z' σ' H' ρ' ∧ forL g b ((kvs.map fun kv => PyData.tuple [kD kv.1, kv.2]).drop i) ρ' = some r, ⟨vs.length, by simp, Nat.zero_le _, Z1, w.2, Same.refl Z1, start, by simpa using q⟩, ?_⟩
      rintro i m' σ' H' ⟨rfl, hi, Z', ρ', z', R', q'⟩
      have ha : H' a = some (.frz od (.dK vs)) := R'.fr a _ upd_same
      by_cases hlt : i < vs.length
      · refine .inr ⟨⟨ha, hlt⟩, fun σ2 H2 => i + 1 ≤ vs.length ∧ ∃ Z' ρ', Same Z1 Z' ∧ Rl X.K (Φ.keep a (.frz od (.dK vs))) Z' σ2 H2 ρ' ∧ forL g b ((kvs.map fun kv => PyData.tuple [kD kv.1, kv.2]).drop (i + 1)) ρ' = some r, fun σ2 H2 ⟨h1, h2⟩ => ⟨vs.length - (i + 1), by omega, rfl, h1, h2⟩, fun xx H2 yl => ?_⟩
        obtain ⟨T, kk', v, hkv, rfl, hT, rfl⟩ := yl
        obtain ⟨z3, R3⟩ := R'.fresh (o := .tup [kV kk', v]) hT
        have hvi : (vs.map (·.2))[i]? = some v := by rw [List.getElem?_map, hkv]; rfl
        obtain ⟨d, hd', rd⟩ := rv.getV hvi
        have hki : (kvs.map (·.1))[i]? = some kk' := by rw [← hk, List.getElem?_map, hkv]; rfl
        have hlt2 : i < kvs.length := lvs ▸ hlt
        have e1' : kvs[i].1 = kk' := by
          rw [List.getElem?_map, List.getElem?_eq_getElem hlt2] at hki
          exact Option.some.inj hki
        have e2' : kvs[i].2 = d := by
          rw [List.getElem?_map, List.getElem?_eq_getElem hlt2] at hd'
          exact Option.some.inj hd'
        have ed : (kvs.map fun kv => PyData.tuple [kD kv.1, kv.2]).drop i = .tuple [kD kk', d] :: (kvs.map fun kv => PyData.tuple [kD kv.1, kv.2]).drop (i + 1) := by
          rw [List.drop_eq_getElem_cons (by simpa using hlt2)]
          congr 1
          simp [e1', e2']
        rw [ed] at q'
        unfold forL at q'
        cases e3 : g (.tuple [kD kk', d]) ρ' with
        | none => rw [e3] at q'; cases q'
        | some ρ2 =>
          rw [e3, Option.bind_some] at q'
          cases e4 : b ρ2 with
          | none => rw [e4] at q'; cases q'
          | some f =>
            rw [e4, Option.bind_some] at q'
            have rT : Rp X.K (upd Z' T (.tup [kV kk', v])) (.ref T) (.tuple [kD kk', d]) := .tup upd_same (.cons (rp_key kk') (.cons ((rd.mono z').mono z3) .nil))
            refine mg _ _ σ' _ ρ' _ _ ρ2 R3 rT e3 _ fun σ3 R4 _ _ => ?_
            refine mb _ _ σ3 _ ρ2 f R4 e4 _ ?_
            have zz : ∀ {Z4}, Same (upd Z' T (.tup [kV kk', v])) Z4 → Same Z1 Z4 := fun z4 => (z'.trans z3).trans z4
            cases f with
            | nx ρ4 => exact fun σ4 H4 Z4 z4 R5 => ⟨hlt, Z4, ρ4, zz z4, R5, q'⟩
            | ct ρ4 => exact fun σ4 H4 Z4 z4 R5 => ⟨hlt, Z4, ρ4, zz z4, R5, q'⟩
            | bk ρ4 =>
              cases q'
              exact fun σ4 H4 Z4 z4 R5 => k1 σ4 H4 Z4 (zz z4) (R5.unkeep nf).1
            | rt dd ρ4 =>
              cases q'
              exact fun v σ4 H4 Z4 z4 R5 rr => k1 v σ4 H4 Z4 (zz z4) (R5.unkeep nf).1 rr
            | rn dd ρ4 =>
              cases q'
              refine fun v σ4 H4 Z4 z4 R5 rr => k1 v σ4 H4 Z4 (zz z4) (R5.unkeep nf).1 ⟨rr.ob, rr.z, ?_, rr.h0, rr.no⟩
              have : upd Φ.Fr a (.frz od (.dK vs)) v = none := rr.fr
              by_cases hv : v = a
              · subst hv; exact nf
              · rw [upd_ne hv] at this; exact this
      · have e : i = vs.length := by omega
        subst e
        rw [List.drop_of_length_le (by simp [lvs])] at q'
        cases q'
        exact .inl ⟨⟨ha, Nat.le_refl _⟩, k1 σ' H' Z' z' (R'.unkeep nf).1⟩
    · cases q
end DL
namespace DL
open PySem L2
/-- own == [], own != [] -/
def xEmp (b : Bool) (i : Nat) : XE := fun ρ => match ρ[i]? with
  | some (.own (.ol xs) _) => ((if b = true then eqD else neD) (.list xs) (.list [])).map fun z => (z, ρ)
  | _ => none
theorem me_emp {K : PySem.W.Frag} {r : R2} {b : Bool} {i : Nat} (hr : R2M K r (if b = true then eqD else neD)) : ME K (tOp r (tVar i) (tLst tNil)) (xEmp b i) := by
  intro Φ Z σ H ρ d ρ' R q Q k
  unfold xEmp at q
  split at q
  · rename_i xs io e1
    cases e2 : (if b = true then eqD else neD) (.list xs) (.list []) with
    | none => rw [e2] at q; cases q
    | some z =>
      rw [e2] at q
      cases q
      obtain ⟨a, vs, s, h, rv⟩ := R.lst e1
      refine ⟨_, s, by simp [sizeLine], fun p hp => ?_⟩
      obtain ⟨z1, R1⟩ := R.fresh (o := .lst []) hp
      obtain ⟨a', vs', s', h', rv'⟩ := R1.lst e1
      rw [s] at s'
      cases s'
      exact hr Φ _ σ _ ρ (.ref a) (.ref p) (.list xs) (.list []) d R1 (.inr ⟨a, .ol xs, rfl, ⟨vs', h', rv'⟩, rfl⟩) (.inl (.lst upd_same .nil)) e2 Q fun v H' Z' z' R' r' => k v H' Z' (z1.trans z') R' r'
  · cases q
section
variable {X : Cx} {pos vpos lpos : Pos}
theorem td_empN (i : Nat) {x : Str} (hu : X.A.units + 64 < cLine) (hN : X.N[i]? = some x := by rfl) (hv : Vis X.env.scope x := by first | exact Or.inl rfl | exact Or.inr (Or.inl rfl) | exact Or.inr (Or.inr rfl)) (hd : (x == ("__debug__" : Str)) = false := by decide)
    (hcd : (x == ("__classdict__" : Str)) = false := by decide) (hm : behindInMarks .NotEq (.List [] lpos) = false := by first | rfl | exact nobehind _ (by decide) (by decide)) : TD X (.Compare (.Name x vpos) [.NotEq] [.List [] lpos] pos) (tst (xEmp false i)) :=
  ⟨_, pt_cmpR (op_neX hu) (pe_var hN hv hd hcd) (pe_lst pa_nil) hm, mt_tst (me_emp (b := false) r2_ne)⟩
theorem td_emp (i : Nat) {x : Str} (hu : X.A.units + 64 < cLine) (hN : X.N[i]? = some x := by rfl) (hv : Vis X.env.scope x := by first | exact Or.inl rfl | exact Or.inr (Or.inl rfl) | exact Or.inr (Or.inr rfl)) (hd : (x == ("__debug__" : Str)) = false := by decide)
    (hcd : (x == ("__classdict__" : Str)) = false := by decide) (hm : behindInMarks .Eq (.List [] lpos) = false := by first | rfl | exact nobehind _ (by decide) (by decide)) : TD X (.Compare (.Name x vpos) [.Eq] [.List [] lpos] pos) (tst (xEmp true i)) :=
  ⟨_, pt_cmpR (op_eqX hu) (pe_var hN hv hd hcd) (pe_lst pa_nil) hm, mt_tst (me_emp (b := true) r2_eq)⟩
end
end DL
namespace DL
open PySem L2
/-- list(d), d of one's own -/
def xListK (i : Nat) : XE := fun ρ => match ρ[i]? with
  | some (.own (.od kvs) _) => some (.list (kvs.map fun p => kD p.1), ρ)
  | _ => none
theorem rpA_keysL {K : PySem.W.Frag} {Z : Hp} : ∀ vs : List (Key × V), RpA K Z (vs.map fun kv => kV kv.1) (vs.map fun kv => kD kv.1)
  | [] => .nil
  | kv :: vs => .cons (rp_key kv.1) (rpA_keysL vs)
theorem ed_listK {X : Cx} {p vpos pos : Pos} (i : Nat) {x : Str} (hm : X.mg "list" = none) (hc : X.calm = true := by rfl) (hg : Gl X "list" := by rfl) (hN : X.N[i]? = some x := by rfl) (hv : Vis X.env.scope x := by first | exact Or.inl rfl | exact Or.inr (Or.inl rfl) | exact Or.inr (Or.inr rfl)) (hd : (x == ("__debug__" : Str)) = false := by decide)
    (hcd : (x == ("__classdict__" : Str)) = false := by decide) (hs : starEach [(.Name x vpos : Expr)] X.env = (false, eval (.Name x vpos) X.env) :: starEach [] X.env := by rfl) (hpl : (backTo pos (starEach [] X.env)).any (·.1) = false := by rfl) :
    ED X (.Call (.Name "list" p) [.Name x vpos] [] pos) (xListK i) := by
  refine ⟨_, pe_callTy (p := p) (pos := pos) (call_listD hc) hg hm (show bootBuiltins "list" = some (.type "list") by decide +kernel) (pa_cons (pe_var hN hv hd hcd) pa_nil hs) (by decide) (by decide) hs hpl, fun Φ Z σ H ρ d ρ' R q Q k => ?_⟩
  unfold xListK at q
  split at q
  · rename_i kvs io e1
    cases q
    obtain ⟨a, vs, s, h, e, rv⟩ := R.dct e1
    refine ⟨_, s, a, vs, rfl, .inl h, fun l hl => ?_⟩
    have : (kvs.map fun p => kD p.1) = vs.map fun p => kD p.1 := by
      have := congrArg (List.map kD) e
      simpa [List.map_map, Function.comp_def] using this.symm
    rw [this] at k
    exact ends_lst R (rpA_keysL vs) k hl
  · cases q
end DL
set_option maxRecDepth 100000
set_option maxHeartbeats 4000000
namespace K18
open PySem PySem.Spec PyProof.Rows L2 DL
def topS (i : Nat) : Stmt := PySem.Challenge.pw_stackorder_k18_active_and_follows.main.body.getD i (.Pass ⟨0, 0, 0, 0⟩)
structure Txt (K : PySem.W.Frag) (mg : Str → Option Value) (A : Nat → Addr) (D : Nat → FuncData) : Prop where
  d_l_feed : DefAt K mg "_law_feed" (topS 5) ["_law_script"] (A 5) (D 5)
  d_active_names : DefAt K mg "active_names" (topS 1) ["plan"] (A 1) (D 1)
  d_names_behind : DefAt K mg "names_behind" (topS 2) ["pairs", "name"] (A 2) (D 2)
  d_follows_of : DefAt K mg "follows_of" (topS 3) ["plan"] (A 3) (D 3)
  d_l_by_hand : DefAt K mg "_law_by_hand" (topS 22) [] (A 22) (D 22)
  d_l_many : DefAt K mg "_law_many" (topS 21) ["_law_script", "_law_count"] (A 21) (D 21)
  d_l_draw : DefAt K mg "_law_draw" (topS 6) ["_law_feed_here", "_law_many_here"] (A 6) (D 6)
  d_l_any : DefAt K mg "_law_any" (topS 7) ["_law_feed_here", "_law_some"] (A 7) (D 7)
  d_l_gcd : DefAt K mg "_law_gcd" (topS 8) ["_law_one", "_law_other"] (A 8) (D 8)
  d_l_fraction : DefAt K mg "_law_fraction" (topS 9) ["_law_over", "_law_under"] (A 9) (D 9)
  d_l_add : DefAt K mg "_law_add" (topS 10) ["_law_one", "_law_other"] (A 10) (D 10)
  d_l_times : DefAt K mg "_law_times" (topS 11) ["_law_one", "_law_other"] (A 11) (D 11)
  d_l_less : DefAt K mg "_law_less" (topS 12) ["_law_one", "_law_other"] (A 12) (D 12)
  d_l_larger : DefAt K mg "_law_larger" (topS 14) ["_law_one", "_law_other"] (A 14) (D 14)
  d_l_smaller : DefAt K mg "_law_smaller" (topS 13) ["_law_one", "_law_other"] (A 13) (D 13)
  d_l_made : DefAt K mg "_law_made" (topS 15) ["_law_rule", "_law_x"] (A 15) (D 15)
  d_l_normal : DefAt K mg "_law_normal" (topS 16) ["_law_factor", "_law_plus", "_law_low", "_law_high"] (A 16) (D 16)
  d_l_clause : DefAt K mg "_law_clause" (topS 17) ["_law_feed_here"] (A 17) (D 17)
  d_l_plan : DefAt K mg "_law_plan" (topS 18) ["_law_feed_here", "_law_most"] (A 18) (D 18)
  d_l_behind : DefAt K mg "_law_behind" (topS 20) ["_law_agreed"] (A 20) (D 20)
  d_l_active : DefAt K mg "_law_active" (topS 19) ["_law_agreed"] (A 19) (D 19)
  d_law : DefAt K mg "law" (topS 23) ["_law_script"] (A 23) (D 23)
  q_follows_of_0_plan : PB K (D 3) ["plan"] 0 ["plan"] [.inl 0]
  q_active_names_0_plan : PB K (D 1) ["plan"] 0 ["plan"] [.inl 0]
  n_abs : mg "abs" = none
  n_dict : mg "dict" = none
  n_len : mg "len" = none
  n_list : mg "list" = none
  n_range : mg "range" = none
  n_repr : mg "repr" = none
  n_sorted : mg "sorted" = none
  n_tuple : mg "tuple" = none
section
variable {P : Program} {w : World} {K : PySem.W.Frag} {mg : Str → Option Value} {base : Heap} {A : Nat → Addr} {D : Nat → FuncData}
/-! _law_feed -/
abbrev s_l_feed : Stmt := topS 5
abbrev N_l_feed : List Str := ["_law_script"]
theorem sc_l_feed : FnScope N_l_feed ["_law_script"] (defScope s_l_feed) := ⟨rfl, rfl, rfl, by decide +kernel, rfl, by decide +kernel, by decide +kernel⟩
def b_l_feed : XS := sRetO (nDisp [(xC (.str "cells"), x1 listD (xScr 0 none (some 63))), (xC (.str "next"), xC (.int 0)), (xC (.str "rest"), xC (.int 0)), (xC (.str "draws"), xC (.int 0))])
def m_l_feed : XF := runF 1 b_l_feed
theorem ok_l_feed (T : Txt K mg A D) : FnG P w K mg base 1 (A 5) (D 5) ["_law_script"] m_l_feed :=
  fn_body T.d_l_feed.F sc_l_feed fun cdv A outer s H room hG => ssd_one (sd_retO (nd_disp (psd_cons (ed_str) (ed_t1 call_list_of c1_list T.n_list b_list (ED.od (ed_scrTo 0))) (psd_cons (ed_str) (ed_int) (psd_cons (ed_str) (ed_int) (psd_cons (ed_str) (ed_int) (psd_nil)))))))
/-! active_names -/
abbrev s_active_names : Stmt := topS 1
abbrev N_active_names : List Str := ["plan", "name", "clause", "is_on"]
theorem sc_active_names : FnScope N_active_names ["plan"] (defScope s_active_names) := ⟨rfl, rfl, rfl, by decide +kernel, rfl, by decide +kernel, by decide +kernel⟩
def b_active_names : XS := sRet (x1 tupleD (xFz (nLc (iOf (x2 idxD (xVar 0) (xC (.int 0)))) (gTp 3 (gsCons (gNm 1) (gsCons (gNm 2) (gsCons (gNm 3) (gsNil))))) (xTru (xVar 3)) (xVar 1) [1, 2, 3])))
def m_active_names : XF := runF 4 b_active_names
theorem ok_active_names (T : Txt K mg A D) : FnG P w K mg base 1 (A 1) (D 1) ["plan"] m_active_names :=
  fn_body T.d_active_names.F sc_active_names fun cdv A outer s H room hG => ssd_one (sd_ret (ed_t1 call_tuple_of c1_tuple T.n_tuple b_tuple (ED.od (ND.ed (nd_lc (vs := [1, 2, 3]) [("name", 1), ("clause", 2), ("is_on", 3)] (blkOk_by (own := [("name", 1), ("clause", 2), ("is_on", 3)]) (N := N_active_names) (sc := defScope s_active_names) (by decide +kernel)) rfl rfl sc_active_names.nd (id_seq (ed_ix (ed_var 0) (ED.od (ed_int)))) (fun _ _ _ _ _ => gd_tup rfl (gsd_cons (gd_name 1 sc_active_names.nd) (gsd_cons (gd_name 2 sc_active_names.nd) (gsd_cons (gd_name 3 sc_active_names.nd) (gsd_nil))))) (fun _ _ _ _ _ => tsd_one (td_tru (ED.od (ed_var 3)))) (fun _ _ _ _ _ => ed_var 1))))))
/-! names_behind -/
abbrev s_names_behind : Stmt := topS 2
abbrev N_names_behind : List Str := ["pairs", "name", "found", "waiting", "own", "first", "second"]
theorem sc_names_behind : FnScope N_names_behind ["pairs", "name"] (defScope s_names_behind) := ⟨rfl, rfl, rfl, by decide +kernel, rfl, by decide +kernel, by decide +kernel⟩
def b_names_behind : XS := sSeq (sParR 2 3 (rN (nDk)) (rN (nLst (aCons (xVar 1) (aNil))))) (sSeq (sWh (fun _ => 1000) (tst (xEmp false 3)) (sSeq (sSet 4 (xPop 3)) (sFor (iOf (xVar 0)) (gTp 2 (gsCons (gNm 5) (gsCons (gNm 6) (gsNil)))) (sIf (xAndT (tst (x2 eqD (xVar 5) (xVar 4))) (tst (xHas true 2 (xVar 6)))) (sSeq (sPut 2 (xVar 6) (xC (.bool true))) (sDrop (xApp 3 (xVar 6)))) (sNil))))) (sRet (xListK 2)))
def m_names_behind : XF := runF 7 b_names_behind
theorem ok_names_behind (T : Txt K mg A D) : FnG P w K mg base 1 (A 2) (D 2) ["pairs", "name"] m_names_behind :=
  fn_body T.d_names_behind.F sc_names_behind fun cdv A outer s H room hG => ssd_cons (sd_parR rfl sc_names_behind.nd (ND.rd (nd_dk)) (ND.rd (nd_lst (ad_cons (ed_var 1) (ad_nil))))) (ssd_cons (sd_wh (fun _ => 1000) PassesOwn.never (td_empN 3 room.u64) (ssd_cons (sd_set 4 sc_names_behind.nd (ed_pop 3)) (ssd_one (sd_for PassesOwn.never rfl (id_seq (ed_var 0)) (gd_tup rfl (gsd_cons (gd_name 5 sc_names_behind.nd) (gsd_cons (gd_name 6 sc_names_behind.nd) (gsd_nil)))) (ssd_one (sd_if (WD.td (wd_and (td_cmp (op_eqX room.u64) r2_eq (ed_var 5) (ED.od (ed_var 4))) (wd_and1 (td_hasN 2 room.u1 (ed_var 6))))) (ssd_cons (sd_put 2 room.u1 (ed_var 6) (ed_bl)) (ssd_one (sd_drop (ed_app 3 (ed_var 6))))) (ssd_nil))))))) (ssd_one (sd_ret (ed_listK 2 T.n_list))))
/-! follows_of -/
abbrev s_follows_of : Stmt := topS 3
abbrev N_follows_of : List Str := ["plan", "rows", "pairs", "row", "second"]
theorem sc_follows_of : FnScope N_follows_of ["plan"] (defScope s_follows_of) := ⟨rfl, rfl, rfl, by decide +kernel, rfl, by decide +kernel, by decide +kernel⟩
def b_follows_of : XS := sSeq (sAsg (xVar 0) (gTp 2 (gsCons (gNm 1) (gsCons (gNm 2) (gsNil))))) (sRet (x1 tupleD (x1 sortedX (xFz (nLc2 (iOf (xVar 1)) (gNm 3) (cYes) (iOf (xCall (arity 2 m_names_behind) (aCons (xVar 2) (aCons (x2 idxD (xVar 3) (xC (.int 0))) (aNil))))) (gNm 4) (cYes) (xTup (aCons (x2 idxD (xVar 3) (xC (.int 0))) (aCons (xVar 4) (aNil)))) [3, 4] [4])))))
def m_follows_of : XF := runF 5 b_follows_of
theorem ok_follows_of (T : Txt K mg A D) : FnG P w K mg base 2 (A 3) (D 3) ["plan"] m_follows_of :=
  fn_body T.d_follows_of.F sc_follows_of fun cdv A outer s H room hG => ssd_cons (sd_asg (ed_var 0) (gd_tup rfl (gsd_cons (gd_name 1 sc_follows_of.nd) (gsd_cons (gd_name 2 sc_follows_of.nd) (gsd_nil))))) (ssd_one (sd_ret (ed_t1 call_tuple_of c1_tuple T.n_tuple b_tuple (ED.od (ed_c1 (cr_sortedX room.u64) c1_sortedX T.n_sorted b_sorted (ED.od (ND.ed (nd_lc2 (vs := [3, 4]) (vs1 := [4]) [("row", 3), ("second", 4)] (blkOk_by (own := [("row", 3), ("second", 4)]) (N := N_follows_of) (sc := defScope s_follows_of) (by decide +kernel)) rfl (by decide) rfl sc_follows_of.nd (id_seq (ed_var 1)) (fun _ _ _ _ _ => GD.mono (gd_name 3 sc_follows_of.nd) (by decide)) (fun _ _ _ _ _ => tsd_nil) (fun _ _ _ _ _ => id_seq (CD.ed (cd_call (ok_names_behind T) (room.mono (by decide)) hG T.d_names_behind.g T.d_names_behind.F.kp T.d_names_behind.b (ad_cons (ed_var 2) (ad_cons (ed_ix (ed_var 3) (ED.od (ed_int))) (ad_nil)))))) (fun _ _ _ _ _ => gd_name 4 sc_follows_of.nd) (fun _ _ _ _ _ => tsd_nil) (fun _ _ _ _ _ => ed_tup (ad_cons (ed_ix (ed_var 3) (ED.od (ed_int))) (ad_cons (ed_var 4) (ad_nil))))))))))))
/-! _law_by_hand -/
abbrev s_l_by_hand : Stmt := topS 22
abbrev N_l_by_hand : List Str := ["_law_add_here", "_law_rules", "_law_agreed"]
theorem sc_l_by_hand : FnScope N_l_by_hand [] (defScope s_l_by_hand) := ⟨rfl, rfl, rfl, by decide +kernel, rfl, by decide +kernel, by decide +kernel⟩
def b_l_by_hand : XS := sSeq (sSet 0 (xTup (aCons (xTup (aCons (xC (.int 1)) (aCons (xC (.int 1)) (aNil)))) (aCons (xTup (aCons (xC (.int 5)) (aCons (xC (.int 1)) (aNil)))) (aCons (xC .none) (aCons (xC .none) (aNil))))))) (sSeq (sSet 1 (xTup (aCons (xTup (aCons (xC (.str "a")) (aCons (xVar 0) (aCons (xC (.bool true)) (aNil))))) (aCons (xTup (aCons (xC (.str "b")) (aCons (xVar 0) (aCons (xC (.bool false)) (aNil))))) (aCons (xTup (aCons (xC (.str "c")) (aCons (xVar 0) (aCons (xC (.bool true)) (aNil))))) (aCons (xTup (aCons (xC (.str "d")) (aCons (xVar 0) (aCons (xC (.bool true)) (aNil))))) (aNil))))))) (sSeq (sSet 2 (xTup (aCons (xVar 1) (aCons (xTup (aCons (xTup (aCons (xC (.str "a")) (aCons (xC (.str "b")) (aNil)))) (aCons (xTup (aCons (xC (.str "b")) (aCons (xC (.str "d")) (aNil)))) (aNil)))) (aNil))))) (sSeq (sIf (tst (x2 neD (x1 reprD (xCall (arity 1 m_active_names) (aCons (xVar 2) (aNil)))) (x1 reprD (xTup (aCons (xC (.str "a")) (aCons (xC (.str "c")) (aCons (xC (.str "d")) (aNil)))))))) (sRet (xC (.bool false))) (sNil)) (sSeq (sIf (tst (x2 neD (x1 reprD (xCall (arity 1 m_follows_of) (aCons (xVar 2) (aNil)))) (x1 reprD (xTup (aCons (xTup (aCons (xC (.str "a")) (aCons (xC (.str "b")) (aNil)))) (aCons (xTup (aCons (xC (.str "a")) (aCons (xC (.str "d")) (aNil)))) (aCons (xTup (aCons (xC (.str "b")) (aCons (xC (.str "d")) (aNil)))) (aNil)))))))) (sRet (xC (.bool false))) (sNil)) (sRet (xAnd (x2 eqD (xCall (arity 1 m_active_names) (aCons (xTup (aCons (xTup (aNil)) (aCons (xTup (aNil)) (aNil)))) (aNil))) (xTup (aNil))) (xAnd (x2 eqD (xCall (arity 1 m_follows_of) (aCons (xTup (aCons (xTup (aNil)) (aCons (xTup (aNil)) (aNil)))) (aNil))) (xTup (aNil))) (x2 eqD (xCall (arity 1 m_follows_of) (aCons (xTup (aCons (xVar 1) (aCons (xTup (aNil)) (aNil)))) (aNil))) (xTup (aNil))))))))))
def m_l_by_hand : XF := runF 3 b_l_by_hand
theorem ok_l_by_hand (T : Txt K mg A D) : FnG P w K mg base 3 (A 22) (D 22) [] m_l_by_hand :=
  fn_body T.d_l_by_hand.F sc_l_by_hand fun cdv A outer s H room hG => ssd_cons (sd_set 0 sc_l_by_hand.nd (ed_tup (ad_cons (ed_tup (ad_cons (ed_int) (ad_cons (ed_int) (ad_nil)))) (ad_cons (ed_tup (ad_cons (ed_int) (ad_cons (ed_int) (ad_nil)))) (ad_cons (ed_non) (ad_cons (ed_non) (ad_nil))))))) (ssd_cons (sd_set 1 sc_l_by_hand.nd (ed_tup (ad_cons (ed_tup (ad_cons (ed_str) (ad_cons (ed_var 0) (ad_cons (ed_bl) (ad_nil))))) (ad_cons (ed_tup (ad_cons (ed_str) (ad_cons (ed_var 0) (ad_cons (ed_bl) (ad_nil))))) (ad_cons (ed_tup (ad_cons (ed_str) (ad_cons (ed_var 0) (ad_cons (ed_bl) (ad_nil))))) (ad_cons (ed_tup (ad_cons (ed_str) (ad_cons (ed_var 0) (ad_cons (ed_bl) (ad_nil))))) (ad_nil))))))) (ssd_cons (sd_set 2 sc_l_by_hand.nd (ed_tup (ad_cons (ed_var 1) (ad_cons (ed_tup (ad_cons (ed_tup (ad_cons (ed_str) (ad_cons (ed_str) (ad_nil)))) (ad_cons (ed_tup (ad_cons (ed_str) (ad_cons (ed_str) (ad_nil)))) (ad_nil)))) (ad_nil))))) (ssd_cons (sd_if (td_cmp (op_neX room.u64) r2_ne (ed_c1 (call_reprD hG room.u64) c1_repr T.n_repr b_repr (ED.od (CD.ed (cd_call (ok_active_names T) (room.mono (by decide)) hG T.d_active_names.g T.d_active_names.F.kp T.d_active_names.b (ad_cons (ed_var 2) (ad_nil)))))) (ED.od (ed_c1 (call_reprD hG room.u64) c1_repr T.n_repr b_repr (ED.od (ed_tup (ad_cons (ed_str) (ad_cons (ed_str) (ad_cons (ed_str) (ad_nil))))))))) (ssd_one (sd_ret (ed_bl))) (ssd_nil)) (ssd_cons (sd_if (td_cmp (op_neX room.u64) r2_ne (ed_c1 (call_reprD hG room.u64) c1_repr T.n_repr b_repr (ED.od (CD.ed (cd_call (ok_follows_of T) (room.mono (by decide)) hG T.d_follows_of.g T.d_follows_of.F.kp T.d_follows_of.b (ad_cons (ed_var 2) (ad_nil)))))) (ED.od (ed_c1 (call_reprD hG room.u64) c1_repr T.n_repr b_repr (ED.od (ed_tup (ad_cons (ed_tup (ad_cons (ed_str) (ad_cons (ed_str) (ad_nil)))) (ad_cons (ed_tup (ad_cons (ed_str) (ad_cons (ed_str) (ad_nil)))) (ad_cons (ed_tup (ad_cons (ed_str) (ad_cons (ed_str) (ad_nil)))) (ad_nil))))))))) (ssd_one (sd_ret (ed_bl))) (ssd_nil)) (ssd_one (sd_ret (ed_and (ed_cmp (op_eqX room.u64) r2_eq (CD.ed (cd_call (ok_active_names T) (room.mono (by decide)) hG T.d_active_names.g T.d_active_names.F.kp T.d_active_names.b (ad_cons (ed_tup (ad_cons (ed_tup (ad_nil)) (ad_cons (ed_tup (ad_nil)) (ad_nil)))) (ad_nil)))) (ED.od (ed_tup (ad_nil)))) (ed_and (ed_cmp (op_eqX room.u64) r2_eq (CD.ed (cd_call (ok_follows_of T) (room.mono (by decide)) hG T.d_follows_of.g T.d_follows_of.F.kp T.d_follows_of.b (ad_cons (ed_tup (ad_cons (ed_tup (ad_nil)) (ad_cons (ed_tup (ad_nil)) (ad_nil)))) (ad_nil)))) (ED.od (ed_tup (ad_nil)))) (ed_one (ed_cmp (op_eqX room.u64) r2_eq (CD.ed (cd_call (ok_follows_of T) (room.mono (by decide)) hG T.d_follows_of.g T.d_follows_of.F.kp T.d_follows_of.b (ad_cons (ed_tup (ad_cons (ed_var 1) (ad_cons (ed_tup (ad_nil)) (ad_nil)))) (ad_nil)))) (ED.od (ed_tup (ad_nil)))))))))))))
/-! _law_many -/
abbrev s_l_many : Stmt := topS 21
abbrev N_l_many : List Str := ["_law_script", "_law_count"]
theorem sc_l_many : FnScope N_l_many ["_law_script", "_law_count"] (defScope s_l_many) := ⟨rfl, rfl, rfl, by decide +kernel, rfl, by decide +kernel, by decide +kernel⟩
def b_l_many : XS := sRet (xIf (tst (xScrCmp neD 0 (xLst (aNil)))) (xVar 1) (xC (.int 1)))
def m_l_many : XF := runF 2 b_l_many
theorem ok_l_many (T : Txt K mg A D) : FnG P w K mg base 1 (A 21) (D 21) ["_law_script", "_law_count"] m_l_many :=
  fn_body T.d_l_many.F sc_l_many fun cdv A outer s H room hG => ssd_one (sd_ret (ed_if (td_scrNe 0 room.u64 (ed_lst (ad_nil))) (ed_var 1) (ed_int)))
/-! _law_draw -/
abbrev s_l_draw : Stmt := topS 6
abbrev N_l_draw : List Str := ["_law_feed_here", "_law_many_here", "_law_digit", "_law_place", "_law_cell", "_law_mixed"]
theorem sc_l_draw : FnScope N_l_draw ["_law_feed_here", "_law_many_here"] (defScope s_l_draw) := ⟨rfl, rfl, rfl, by decide +kernel, rfl, by decide +kernel, by decide +kernel⟩
def b_l_draw : XS := sSeq (sPut 0 (xC (.str "draws")) (x2 addD (xGet 0 (xC (.str "draws"))) (xC (.int 1)))) (sSeq (sIf (tst (x2 eqD (xGet 0 (xC (.str "cells"))) (xLst (aNil)))) (sRet (x2 modD (xGet 0 (xC (.str "draws"))) (xVar 1))) (sNil)) (sSeq (sIf (tst (x2 gtD (xGet 0 (xC (.str "rest"))) (xC (.int 0)))) (sSeq (sSet 2 (x2 modD (xGet 0 (xC (.str "rest"))) (xVar 1))) (sSeq (sPut 0 (xC (.str "rest")) (x2 fdivD (xGet 0 (xC (.str "rest"))) (xVar 1))) (sRet (xVar 2)))) (sNil)) (sSeq (sSet 3 (xGet 0 (xC (.str "next")))) (sSeq (sPut 0 (xC (.str "next")) (x2 addD (xVar 3) (xC (.int 1)))) (sSeq (sSet 4 (x2 idxD (xGet 0 (xC (.str "cells"))) (x2 modD (xVar 3) (x1 lenD (xGet 0 (xC (.str "cells"))))))) (sSeq (sIf (xAndT (tst (x2 geD (xVar 4) (x2 powD (xC (.int 10)) (xC (.int 18))))) (tst (x2 ltD (xVar 3) (x1 lenD (xGet 0 (xC (.str "cells"))))))) (sSeq (sPut 0 (xC (.str "rest")) (x2 fdivD (xVar 4) (xVar 1))) (sRet (x2 modD (xVar 4) (xVar 1)))) (sNil)) (sSeq (sSet 5 (x2 modD (x2 addD (x2 addD (x2 modD (xVar 4) (xC (.int 1000001611))) (x2 mulD (xC (.int 91283)) (xGet 0 (xC (.str "draws"))))) (xC (.int 601))) (xC (.int 2147483563)))) (sSeq (sSet 5 (x2 modD (x2 addD (x2 addD (x2 powD (xVar 5) (xC (.int 3))) (x2 mulD (xC (.int 7100327)) (xGet 0 (xC (.str "draws"))))) (xC (.int 307))) (xC (.int 2147483497)))) (sRet (x2 modD (x2 fdivD (x2 modD (x2 addD (x2 powD (xVar 5) (xC (.int 3))) (x2 mulD (xC (.int 311)) (xVar 5))) (xC (.int 2147483489))) (xC (.int 32))) (xVar 1)))))))))))
def m_l_draw : XF := runF 6 b_l_draw
theorem ok_l_draw (T : Txt K mg A D) : FnG P w K mg base 1 (A 6) (D 6) ["_law_feed_here", "_law_many_here"] m_l_draw :=
  fn_body T.d_l_draw.F sc_l_draw fun cdv A outer s H room hG => ssd_cons (sd_put 0 room.u1 (ed_str) (ed_bin op_addD r2_add (ed_get 0 room.u1 (ed_str)) (ED.od (ed_int)))) (ssd_cons (sd_if (td_cmp (op_eqX room.u64) r2_eq (ed_get 0 room.u1 (ed_str)) (ED.od (ed_lst (ad_nil)))) (ssd_one (sd_ret (ed_bin op_modD r2_mod (ed_get 0 room.u1 (ed_str)) (ED.od (ed_var 1))))) (ssd_nil)) (ssd_cons (sd_if (td_cmp op_gt r2_gt (ed_get 0 room.u1 (ed_str)) (ED.od (ed_int))) (ssd_cons (sd_set 2 sc_l_draw.nd (ed_bin op_modD r2_mod (ed_get 0 room.u1 (ed_str)) (ED.od (ed_var 1)))) (ssd_cons (sd_put 0 room.u1 (ed_str) (ed_bin op_fdivD r2_fdiv (ed_get 0 room.u1 (ed_str)) (ED.od (ed_var 1)))) (ssd_one (sd_ret (ed_var 2))))) (ssd_nil)) (ssd_cons (sd_set 3 sc_l_draw.nd (ed_get 0 room.u1 (ed_str))) (ssd_cons (sd_put 0 room.u1 (ed_str) (ed_bin op_addD r2_add (ed_var 3) (ED.od (ed_int)))) (ssd_cons (sd_set 4 sc_l_draw.nd (ed_ix (ed_get 0 room.u1 (ed_str)) (ED.od (ed_bin op_modD r2_mod (ed_var 3) (ED.od (ed_c1 call_len c1_len T.n_len b_len (ED.od (ed_get 0 room.u1 (ed_str))))))))) (ssd_cons (sd_if (WD.td (wd_and (td_cmp op_ge r2_ge (ed_var 4) (ED.od (ed_bin op_pow r2_pow (ed_int) (ED.od (ed_int))))) (wd_and1 (td_cmp op_ltD r2_lt (ed_var 3) (ED.od (ed_c1 call_len c1_len T.n_len b_len (ED.od (ed_get 0 room.u1 (ed_str))))))))) (ssd_cons (sd_put 0 room.u1 (ed_str) (ed_bin op_fdivD r2_fdiv (ed_var 4) (ED.od (ed_var 1)))) (ssd_one (sd_ret (ed_bin op_modD r2_mod (ed_var 4) (ED.od (ed_var 1)))))) (ssd_nil)) (ssd_cons (sd_set 5 sc_l_draw.nd (ed_bin op_modD r2_mod (ed_bin op_addD r2_add (ed_bin op_addD r2_add (ed_bin op_modD r2_mod (ed_var 4) (ED.od (ed_int))) (ED.od (ed_bin op_mulD r2_mul (ed_int) (ED.od (ed_get 0 room.u1 (ed_str)))))) (ED.od (ed_int))) (ED.od (ed_int)))) (ssd_cons (sd_set 5 sc_l_draw.nd (ed_bin op_modD r2_mod (ed_bin op_addD r2_add (ed_bin op_addD r2_add (ed_bin op_pow r2_pow (ed_var 5) (ED.od (ed_int))) (ED.od (ed_bin op_mulD r2_mul (ed_int) (ED.od (ed_get 0 room.u1 (ed_str)))))) (ED.od (ed_int))) (ED.od (ed_int)))) (ssd_one (sd_ret (ed_bin op_modD r2_mod (ed_bin op_fdivD r2_fdiv (ed_bin op_modD r2_mod (ed_bin op_addD r2_add (ed_bin op_pow r2_pow (ed_var 5) (ED.od (ed_int))) (ED.od (ed_bin op_mulD r2_mul (ed_int) (ED.od (ed_var 5))))) (ED.od (ed_int))) (ED.od (ed_int))) (ED.od (ed_var 1)))))))))))))
/-! _law_any -/
abbrev s_l_any : Stmt := topS 7
abbrev N_l_any : List Str := ["_law_feed_here", "_law_some"]
theorem sc_l_any : FnScope N_l_any ["_law_feed_here", "_law_some"] (defScope s_l_any) := ⟨rfl, rfl, rfl, by decide +kernel, rfl, by decide +kernel, by decide +kernel⟩
def b_l_any : XS := sRet (x2 idxD (xVar 1) (xCall (arity 2 m_l_draw) (aSlot 0 (aCons (x1 lenD (xVar 1)) (aNil)))))
def m_l_any : XF := runF 2 b_l_any
theorem ok_l_any (T : Txt K mg A D) : FnG P w K mg base 2 (A 7) (D 7) ["_law_feed_here", "_law_some"] m_l_any :=
  fn_body T.d_l_any.F sc_l_any fun cdv A outer s H room hG => ssd_one (sd_ret (ed_ix (ed_var 1) (ED.od (CD.ed (cd_call (ok_l_draw T) (room.mono (by decide)) hG T.d_l_draw.g T.d_l_draw.F.kp T.d_l_draw.b (ad_slot 0 (ad_cons (ed_c1 call_len c1_len T.n_len b_len (ED.od (ed_var 1))) (ad_nil))))))))
/-! _law_gcd -/
abbrev s_l_gcd : Stmt := topS 8
abbrev N_l_gcd : List Str := ["_law_one", "_law_other"]
theorem sc_l_gcd : FnScope N_l_gcd ["_law_one", "_law_other"] (defScope s_l_gcd) := ⟨rfl, rfl, rfl, by decide +kernel, rfl, by decide +kernel, by decide +kernel⟩
def b_l_gcd : XS := sSeq (sPar 0 1 (x1 absD (xVar 0)) (x1 absD (xVar 1))) (sSeq (sWh (gcdFuel) (tst (x2 neD (xVar 1) (xC (.int 0)))) (sPar 0 1 (xVar 1) (x2 modD (xVar 0) (xVar 1)))) (sRet (xVar 0)))
def m_l_gcd : XF := runF 2 b_l_gcd
theorem ok_l_gcd (T : Txt K mg A D) : FnG P w K mg base 1 (A 8) (D 8) ["_law_one", "_law_other"] m_l_gcd :=
  fn_body T.d_l_gcd.F sc_l_gcd fun cdv A outer s H room hG => ssd_cons (sd_par rfl sc_l_gcd.nd (ed_c1 call_abs c1_abs T.n_abs b_abs (ED.od (ed_var 0))) (ed_c1 call_abs c1_abs T.n_abs b_abs (ED.od (ed_var 1)))) (ssd_cons (sd_wh (gcdFuel) PassesOwn.never (td_cmp (op_neX room.u64) r2_ne (ed_var 1) (ED.od (ed_int))) (ssd_one (sd_par rfl sc_l_gcd.nd (ed_var 1) (ed_bin op_modD r2_mod (ed_var 0) (ED.od (ed_var 1)))))) (ssd_one (sd_ret (ed_var 0))))
/-! _law_fraction -/
abbrev s_l_fraction : Stmt := topS 9
abbrev N_l_fraction : List Str := ["_law_over", "_law_under", "_law_common"]
theorem sc_l_fraction : FnScope N_l_fraction ["_law_over", "_law_under"] (defScope s_l_fraction) := ⟨rfl, rfl, rfl, by decide +kernel, rfl, by decide +kernel, by decide +kernel⟩
def b_l_fraction : XS := sSeq (sIf (tst (x2 ltD (xVar 1) (xC (.int 0)))) (sPar 0 1 (x2 subD (xC (.int 0)) (xVar 0)) (x2 subD (xC (.int 0)) (xVar 1))) (sNil)) (sSeq (sSet 2 (xCall (arity 2 m_l_gcd) (aCons (xVar 0) (aCons (xVar 1) (aNil))))) (sRet (xTup (aCons (x2 fdivD (xVar 0) (xVar 2)) (aCons (x2 fdivD (xVar 1) (xVar 2)) (aNil))))))
def m_l_fraction : XF := runF 3 b_l_fraction
theorem ok_l_fraction (T : Txt K mg A D) : FnG P w K mg base 2 (A 9) (D 9) ["_law_over", "_law_under"] m_l_fraction :=
  fn_body T.d_l_fraction.F sc_l_fraction fun cdv A outer s H room hG => ssd_cons (sd_if (td_cmp op_ltD r2_lt (ed_var 1) (ED.od (ed_int))) (ssd_one (sd_par rfl sc_l_fraction.nd (ed_bin op_subD r2_sub (ed_int) (ED.od (ed_var 0))) (ed_bin op_subD r2_sub (ed_int) (ED.od (ed_var 1))))) (ssd_nil)) (ssd_cons (sd_set 2 sc_l_fraction.nd (CD.ed (cd_call (ok_l_gcd T) (room.mono (by decide)) hG T.d_l_gcd.g T.d_l_gcd.F.kp T.d_l_gcd.b (ad_cons (ed_var 0) (ad_cons (ed_var 1) (ad_nil)))))) (ssd_one (sd_ret (ed_tup (ad_cons (ed_bin op_fdivD r2_fdiv (ed_var 0) (ED.od (ed_var 2))) (ad_cons (ed_bin op_fdivD r2_fdiv (ed_var 1) (ED.od (ed_var 2))) (ad_nil)))))))
/-! _law_add -/
abbrev s_l_add : Stmt := topS 10
abbrev N_l_add : List Str := ["_law_one", "_law_other"]
theorem sc_l_add : FnScope N_l_add ["_law_one", "_law_other"] (defScope s_l_add) := ⟨rfl, rfl, rfl, by decide +kernel, rfl, by decide +kernel, by decide +kernel⟩
def b_l_add : XS := sRet (xCall (arity 2 m_l_fraction) (aCons (x2 addD (x2 mulD (x2 idxD (xVar 0) (xC (.int 0))) (x2 idxD (xVar 1) (xC (.int 1)))) (x2 mulD (x2 idxD (xVar 1) (xC (.int 0))) (x2 idxD (xVar 0) (xC (.int 1))))) (aCons (x2 mulD (x2 idxD (xVar 0) (xC (.int 1))) (x2 idxD (xVar 1) (xC (.int 1)))) (aNil))))
def m_l_add : XF := runF 2 b_l_add
theorem ok_l_add (T : Txt K mg A D) : FnG P w K mg base 3 (A 10) (D 10) ["_law_one", "_law_other"] m_l_add :=
  fn_body T.d_l_add.F sc_l_add fun cdv A outer s H room hG => ssd_one (sd_ret (CD.ed (cd_call (ok_l_fraction T) (room.mono (by decide)) hG T.d_l_fraction.g T.d_l_fraction.F.kp T.d_l_fraction.b (ad_cons (ed_bin op_addD r2_add (ed_bin op_mulD r2_mul (ed_ix (ed_var 0) (ED.od (ed_int))) (ED.od (ed_ix (ed_var 1) (ED.od (ed_int))))) (ED.od (ed_bin op_mulD r2_mul (ed_ix (ed_var 1) (ED.od (ed_int))) (ED.od (ed_ix (ed_var 0) (ED.od (ed_int))))))) (ad_cons (ed_bin op_mulD r2_mul (ed_ix (ed_var 0) (ED.od (ed_int))) (ED.od (ed_ix (ed_var 1) (ED.od (ed_int))))) (ad_nil))))))
/-! _law_times -/
abbrev s_l_times : Stmt := topS 11
abbrev N_l_times : List Str := ["_law_one", "_law_other"]
theorem sc_l_times : FnScope N_l_times ["_law_one", "_law_other"] (defScope s_l_times) := ⟨rfl, rfl, rfl, by decide +kernel, rfl, by decide +kernel, by decide +kernel⟩
def b_l_times : XS := sRet (xCall (arity 2 m_l_fraction) (aCons (x2 mulD (x2 idxD (xVar 0) (xC (.int 0))) (x2 idxD (xVar 1) (xC (.int 0)))) (aCons (x2 mulD (x2 idxD (xVar 0) (xC (.int 1))) (x2 idxD (xVar 1) (xC (.int 1)))) (aNil))))
def m_l_times : XF := runF 2 b_l_times
theorem ok_l_times (T : Txt K mg A D) : FnG P w K mg base 3 (A 11) (D 11) ["_law_one", "_law_other"] m_l_times :=
  fn_body T.d_l_times.F sc_l_times fun cdv A outer s H room hG => ssd_one (sd_ret (CD.ed (cd_call (ok_l_fraction T) (room.mono (by decide)) hG T.d_l_fraction.g T.d_l_fraction.F.kp T.d_l_fraction.b (ad_cons (ed_bin op_mulD r2_mul (ed_ix (ed_var 0) (ED.od (ed_int))) (ED.od (ed_ix (ed_var 1) (ED.od (ed_int))))) (ad_cons (ed_bin op_mulD r2_mul (ed_ix (ed_var 0) (ED.od (ed_int))) (ED.od (ed_ix (ed_var 1) (ED.od (ed_int))))) (ad_nil))))))
/-! _law_less -/
abbrev s_l_less : Stmt := topS 12
abbrev N_l_less : List Str := ["_law_one", "_law_other"]
theorem sc_l_less : FnScope N_l_less ["_law_one", "_law_other"] (defScope s_l_less) := ⟨rfl, rfl, rfl, by decide +kernel, rfl, by decide +kernel, by decide +kernel⟩
def b_l_less : XS := sRet (x2 ltD (x2 mulD (x2 idxD (xVar 0) (xC (.int 0))) (x2 idxD (xVar 1) (xC (.int 1)))) (x2 mulD (x2 idxD (xVar 1) (xC (.int 0))) (x2 idxD (xVar 0) (xC (.int 1)))))
def m_l_less : XF := runF 2 b_l_less
theorem ok_l_less (T : Txt K mg A D) : FnG P w K mg base 1 (A 12) (D 12) ["_law_one", "_law_other"] m_l_less :=
  fn_body T.d_l_less.F sc_l_less fun cdv A outer s H room hG => ssd_one (sd_ret (ed_cmp op_ltD r2_lt (ed_bin op_mulD r2_mul (ed_ix (ed_var 0) (ED.od (ed_int))) (ED.od (ed_ix (ed_var 1) (ED.od (ed_int))))) (ED.od (ed_bin op_mulD r2_mul (ed_ix (ed_var 1) (ED.od (ed_int))) (ED.od (ed_ix (ed_var 0) (ED.od (ed_int))))))))
/-! _law_larger -/
abbrev s_l_larger : Stmt := topS 14
abbrev N_l_larger : List Str := ["_law_one", "_law_other"]
theorem sc_l_larger : FnScope N_l_larger ["_law_one", "_law_other"] (defScope s_l_larger) := ⟨rfl, rfl, rfl, by decide +kernel, rfl, by decide +kernel, by decide +kernel⟩
def b_l_larger : XS := sRet (xIf (xTru (xCall (arity 2 m_l_less) (aCons (xVar 0) (aCons (xVar 1) (aNil))))) (xVar 1) (xVar 0))
def m_l_larger : XF := runF 2 b_l_larger
theorem ok_l_larger (T : Txt K mg A D) : FnG P w K mg base 2 (A 14) (D 14) ["_law_one", "_law_other"] m_l_larger :=
  fn_body T.d_l_larger.F sc_l_larger fun cdv A outer s H room hG => ssd_one (sd_ret (ed_if (td_tru (ED.od (CD.ed (cd_call (ok_l_less T) (room.mono (by decide)) hG T.d_l_less.g T.d_l_less.F.kp T.d_l_less.b (ad_cons (ed_var 0) (ad_cons (ed_var 1) (ad_nil))))))) (ed_var 1) (ed_var 0)))
/-! _law_smaller -/
abbrev s_l_smaller : Stmt := topS 13
abbrev N_l_smaller : List Str := ["_law_one", "_law_other"]
theorem sc_l_smaller : FnScope N_l_smaller ["_law_one", "_law_other"] (defScope s_l_smaller) := ⟨rfl, rfl, rfl, by decide +kernel, rfl, by decide +kernel, by decide +kernel⟩
def b_l_smaller : XS := sRet (xIf (xTru (xCall (arity 2 m_l_less) (aCons (xVar 0) (aCons (xVar 1) (aNil))))) (xVar 0) (xVar 1))
def m_l_smaller : XF := runF 2 b_l_smaller
theorem ok_l_smaller (T : Txt K mg A D) : FnG P w K mg base 2 (A 13) (D 13) ["_law_one", "_law_other"] m_l_smaller :=
  fn_body T.d_l_smaller.F sc_l_smaller fun cdv A outer s H room hG => ssd_one (sd_ret (ed_if (td_tru (ED.od (CD.ed (cd_call (ok_l_less T) (room.mono (by decide)) hG T.d_l_less.g T.d_l_less.F.kp T.d_l_less.b (ad_cons (ed_var 0) (ad_cons (ed_var 1) (ad_nil))))))) (ed_var 0) (ed_var 1)))
/-! _law_made -/
abbrev s_l_made : Stmt := topS 15
abbrev N_l_made : List Str := ["_law_rule", "_law_x", "_law_y"]
theorem sc_l_made : FnScope N_l_made ["_law_rule", "_law_x"] (defScope s_l_made) := ⟨rfl, rfl, rfl, by decide +kernel, rfl, by decide +kernel, by decide +kernel⟩
def b_l_made : XS := sSeq (sSet 2 (xCall (arity 2 m_l_add) (aCons (xCall (arity 2 m_l_times) (aCons (x2 idxD (xVar 0) (xC (.int 0))) (aCons (xVar 1) (aNil)))) (aCons (x2 idxD (xVar 0) (xC (.int 1))) (aNil))))) (sSeq (sIf (tst (x2 notNonD (x2 idxD (xVar 0) (xC (.int 2))) (xC .none))) (sSet 2 (xCall (arity 2 m_l_larger) (aCons (xVar 2) (aCons (x2 idxD (xVar 0) (xC (.int 2))) (aNil))))) (sNil)) (sRet (xIf (tst (x2 isNonD (x2 idxD (xVar 0) (xC (.int 3))) (xC .none))) (xVar 2) (xCall (arity 2 m_l_smaller) (aCons (xVar 2) (aCons (x2 idxD (xVar 0) (xC (.int 3))) (aNil)))))))
def m_l_made : XF := runF 3 b_l_made
theorem ok_l_made (T : Txt K mg A D) : FnG P w K mg base 4 (A 15) (D 15) ["_law_rule", "_law_x"] m_l_made :=
  fn_body T.d_l_made.F sc_l_made fun cdv A outer s H room hG => ssd_cons (sd_set 2 sc_l_made.nd (CD.ed (cd_call (ok_l_add T) (room.mono (by decide)) hG T.d_l_add.g T.d_l_add.F.kp T.d_l_add.b (ad_cons (CD.ed (cd_call (ok_l_times T) (room.mono (by decide)) hG T.d_l_times.g T.d_l_times.F.kp T.d_l_times.b (ad_cons (ed_ix (ed_var 0) (ED.od (ed_int))) (ad_cons (ed_var 1) (ad_nil))))) (ad_cons (ed_ix (ed_var 0) (ED.od (ed_int))) (ad_nil)))))) (ssd_cons (sd_if (td_cmp op_notN r2_notN (ed_ix (ed_var 0) (ED.od (ed_int))) (ED.od (ed_non))) (ssd_one (sd_set 2 sc_l_made.nd (CD.ed (cd_call (ok_l_larger T) (room.mono (by decide)) hG T.d_l_larger.g T.d_l_larger.F.kp T.d_l_larger.b (ad_cons (ed_var 2) (ad_cons (ed_ix (ed_var 0) (ED.od (ed_int))) (ad_nil))))))) (ssd_nil)) (ssd_one (sd_ret (ed_if (td_cmp op_isN r2_isN (ed_ix (ed_var 0) (ED.od (ed_int))) (ED.od (ed_non))) (ed_var 2) (CD.ed (cd_call (ok_l_smaller T) (room.mono (by decide)) hG T.d_l_smaller.g T.d_l_smaller.F.kp T.d_l_smaller.b (ad_cons (ed_var 2) (ad_cons (ed_ix (ed_var 0) (ED.od (ed_int))) (ad_nil)))))))))
/-! _law_normal -/
abbrev s_l_normal : Stmt := topS 16
abbrev N_l_normal : List Str := ["_law_factor", "_law_plus", "_law_low", "_law_high"]
theorem sc_l_normal : FnScope N_l_normal ["_law_factor", "_law_plus", "_law_low", "_law_high"] (defScope s_l_normal) := ⟨rfl, rfl, rfl, by decide +kernel, rfl, by decide +kernel, by decide +kernel⟩
def b_l_normal : XS := sSeq (sIf (xOrT (tst (x2 eqD (xVar 0) (xTup (aCons (xC (.int 0)) (aCons (xC (.int 1)) (aNil)))))) (xAndT (tst (x2 notNonD (xVar 2) (xC .none))) (tst (x2 eqD (xVar 2) (xVar 3))))) (sRet (xTup (aCons (xTup (aCons (xC (.int 0)) (aCons (xC (.int 1)) (aNil)))) (aCons (xCall (arity 2 m_l_made) (aCons (xTup (aCons (xVar 0) (aCons (xVar 1) (aCons (xVar 2) (aCons (xVar 3) (aNil)))))) (aCons (xTup (aCons (xC (.int 0)) (aCons (xC (.int 1)) (aNil)))) (aNil)))) (aCons (xC .none) (aCons (xC .none) (aNil))))))) (sNil)) (sRet (xTup (aCons (xVar 0) (aCons (xVar 1) (aCons (xVar 2) (aCons (xVar 3) (aNil)))))))
def m_l_normal : XF := runF 4 b_l_normal
theorem ok_l_normal (T : Txt K mg A D) : FnG P w K mg base 5 (A 16) (D 16) ["_law_factor", "_law_plus", "_law_low", "_law_high"] m_l_normal :=
  fn_body T.d_l_normal.F sc_l_normal fun cdv A outer s H room hG => ssd_cons (sd_if (WD.td (wd_or (td_cmp (op_eqX room.u64) r2_eq (ed_var 0) (ED.od (ed_tup (ad_cons (ed_int) (ad_cons (ed_int) (ad_nil)))))) (wd_or1 (WD.td (wd_and (td_cmp op_notN r2_notN (ed_var 2) (ED.od (ed_non))) (wd_and1 (td_cmp (op_eqX room.u64) r2_eq (ed_var 2) (ED.od (ed_var 3))))))))) (ssd_one (sd_ret (ed_tup (ad_cons (ed_tup (ad_cons (ed_int) (ad_cons (ed_int) (ad_nil)))) (ad_cons (CD.ed (cd_call (ok_l_made T) (room.mono (by decide)) hG T.d_l_made.g T.d_l_made.F.kp T.d_l_made.b (ad_cons (ed_tup (ad_cons (ed_var 0) (ad_cons (ed_var 1) (ad_cons (ed_var 2) (ad_cons (ed_var 3) (ad_nil)))))) (ad_cons (ed_tup (ad_cons (ed_int) (ad_cons (ed_int) (ad_nil)))) (ad_nil))))) (ad_cons (ed_non) (ad_cons (ed_non) (ad_nil)))))))) (ssd_nil)) (ssd_one (sd_ret (ed_tup (ad_cons (ed_var 0) (ad_cons (ed_var 1) (ad_cons (ed_var 2) (ad_cons (ed_var 3) (ad_nil))))))))
/-! _law_clause -/
abbrev s_l_clause : Stmt := topS 17
abbrev N_l_clause : List Str := ["_law_feed_here", "_law_way", "_law_plus", "_law_factor", "_law_low", "_law_high"]
theorem sc_l_clause : FnScope N_l_clause ["_law_feed_here"] (defScope s_l_clause) := ⟨rfl, rfl, rfl, by decide +kernel, rfl, by decide +kernel, by decide +kernel⟩
def b_l_clause : XS := sSeq (sPar 1 2 (xCall (arity 2 m_l_draw) (aSlot 0 (aCons (xC (.int 7)) (aNil)))) (xCall (arity 2 m_l_any) (aSlot 0 (aCons (xLst (aCons (xTup (aCons (xC (.int 5)) (aCons (xC (.int 1)) (aNil)))) (aCons (xTup (aCons (x1 negD (xC (.int 3))) (aCons (xC (.int 1)) (aNil)))) (aCons (xTup (aCons (xC (.int 0)) (aCons (xC (.int 1)) (aNil)))) (aCons (xTup (aCons (xC (.int 1)) (aCons (xC (.int 2)) (aNil)))) (aCons (xTup (aCons (x1 negD (xC (.int 7))) (aCons (xC (.int 2)) (aNil)))) (aCons (xTup (aCons (xC (.int 10)) (aCons (xC (.int 1)) (aNil)))) (aNil)))))))) (aNil))))) (sSeq (sSet 3 (xCall (arity 2 m_l_any) (aSlot 0 (aCons (xLst (aCons (xTup (aCons (xC (.int 2)) (aCons (xC (.int 1)) (aNil)))) (aCons (xTup (aCons (xC (.int 1)) (aCons (xC (.int 2)) (aNil)))) (aCons (xTup (aCons (xC (.int 9)) (aCons (xC (.int 10)) (aNil)))) (aCons (xTup (aCons (xC (.int 1)) (aCons (xC (.int 1)) (aNil)))) (aCons (xTup (aCons (xC (.int 5)) (aCons (xC (.int 3)) (aNil)))) (aNil))))))) (aNil))))) (sSeq (sSet 4 (xCall (arity 2 m_l_any) (aSlot 0 (aCons (xLst (aCons (xTup (aCons (xC (.int 0)) (aCons (xC (.int 1)) (aNil)))) (aCons (xTup (aCons (xC (.int 3)) (aCons (xC (.int 1)) (aNil)))) (aCons (xTup (aCons (x1 negD (xC (.int 4))) (aCons (xC (.int 1)) (aNil)))) (aCons (xTup (aCons (xC (.int 13)) (aCons (xC (.int 2)) (aNil)))) (aNil)))))) (aNil))))) (sSeq (sSet 5 (xCall (arity 2 m_l_add) (aCons (xVar 4) (aCons (xCall (arity 2 m_l_any) (aSlot 0 (aCons (xLst (aCons (xTup (aCons (xC (.int 1)) (aCons (xC (.int 1)) (aNil)))) (aCons (xTup (aCons (xC (.int 10)) (aCons (xC (.int 1)) (aNil)))) (aCons (xTup (aCons (xC (.int 0)) (aCons (xC (.int 1)) (aNil)))) (aCons (xTup (aCons (xC (.int 7)) (aCons (xC (.int 3)) (aNil)))) (aNil)))))) (aNil)))) (aNil))))) (sSeq (sIf (tst (x2 eqD (xVar 1) (xC (.int 0)))) (sRet (xTup (aCons (xTup (aCons (xC (.int 1)) (aCons (xC (.int 1)) (aNil)))) (aCons (xVar 2) (aCons (xC .none) (aCons (xC .none) (aNil))))))) (sNil)) (sSeq (sIf (tst (x2 eqD (xVar 1) (xC (.int 1)))) (sRet (xTup (aCons (xVar 3) (aCons (xTup (aCons (xC (.int 0)) (aCons (xC (.int 1)) (aNil)))) (aCons (xC .none) (aCons (xC .none) (aNil))))))) (sNil)) (sSeq (sIf (tst (x2 eqD (xVar 1) (xC (.int 2)))) (sRet (xTup (aCons (xTup (aCons (xC (.int 1)) (aCons (xC (.int 1)) (aNil)))) (aCons (xTup (aCons (xC (.int 0)) (aCons (xC (.int 1)) (aNil)))) (aCons (xC .none) (aCons (xVar 5) (aNil))))))) (sNil)) (sSeq (sIf (tst (x2 eqD (xVar 1) (xC (.int 3)))) (sRet (xTup (aCons (xTup (aCons (xC (.int 1)) (aCons (xC (.int 1)) (aNil)))) (aCons (xTup (aCons (xC (.int 0)) (aCons (xC (.int 1)) (aNil)))) (aCons (xVar 4) (aCons (xC .none) (aNil))))))) (sNil)) (sSeq (sIf (tst (x2 eqD (xVar 1) (xC (.int 4)))) (sRet (xCall (arity 4 m_l_normal) (aCons (xTup (aCons (xC (.int 1)) (aCons (xC (.int 1)) (aNil)))) (aCons (xTup (aCons (xC (.int 0)) (aCons (xC (.int 1)) (aNil)))) (aCons (xVar 4) (aCons (xVar 5) (aNil))))))) (sNil)) (sRet (xIf (tst (x2 eqD (xVar 1) (xC (.int 5)))) (xTup (aCons (xTup (aCons (xC (.int 0)) (aCons (xC (.int 1)) (aNil)))) (aCons (xVar 2) (aCons (xC .none) (aCons (xC .none) (aNil)))))) (xCall (arity 4 m_l_normal) (aCons (xVar 3) (aCons (xVar 2) (aCons (xVar 4) (aCons (xVar 5) (aNil))))))))))))))))
def m_l_clause : XF := runF 6 b_l_clause
theorem ok_l_clause (T : Txt K mg A D) : FnG P w K mg base 6 (A 17) (D 17) ["_law_feed_here"] m_l_clause :=
  fn_body T.d_l_clause.F sc_l_clause fun cdv A outer s H room hG => ssd_cons (sd_par rfl sc_l_clause.nd (CD.ed (cd_call (ok_l_draw T) (room.mono (by decide)) hG T.d_l_draw.g T.d_l_draw.F.kp T.d_l_draw.b (ad_slot 0 (ad_cons (ed_int) (ad_nil))))) (CD.ed (cd_call (ok_l_any T) (room.mono (by decide)) hG T.d_l_any.g T.d_l_any.F.kp T.d_l_any.b (ad_slot 0 (ad_cons (ed_lst (ad_cons (ed_tup (ad_cons (ed_int) (ad_cons (ed_int) (ad_nil)))) (ad_cons (ed_tup (ad_cons (ed_neg (ED.od (ed_int))) (ad_cons (ed_int) (ad_nil)))) (ad_cons (ed_tup (ad_cons (ed_int) (ad_cons (ed_int) (ad_nil)))) (ad_cons (ed_tup (ad_cons (ed_int) (ad_cons (ed_int) (ad_nil)))) (ad_cons (ed_tup (ad_cons (ed_neg (ED.od (ed_int))) (ad_cons (ed_int) (ad_nil)))) (ad_cons (ed_tup (ad_cons (ed_int) (ad_cons (ed_int) (ad_nil)))) (ad_nil)))))))) (ad_nil)))))) (ssd_cons (sd_set 3 sc_l_clause.nd (CD.ed (cd_call (ok_l_any T) (room.mono (by decide)) hG T.d_l_any.g T.d_l_any.F.kp T.d_l_any.b (ad_slot 0 (ad_cons (ed_lst (ad_cons (ed_tup (ad_cons (ed_int) (ad_cons (ed_int) (ad_nil)))) (ad_cons (ed_tup (ad_cons (ed_int) (ad_cons (ed_int) (ad_nil)))) (ad_cons (ed_tup (ad_cons (ed_int) (ad_cons (ed_int) (ad_nil)))) (ad_cons (ed_tup (ad_cons (ed_int) (ad_cons (ed_int) (ad_nil)))) (ad_cons (ed_tup (ad_cons (ed_int) (ad_cons (ed_int) (ad_nil)))) (ad_nil))))))) (ad_nil)))))) (ssd_cons (sd_set 4 sc_l_clause.nd (CD.ed (cd_call (ok_l_any T) (room.mono (by decide)) hG T.d_l_any.g T.d_l_any.F.kp T.d_l_any.b (ad_slot 0 (ad_cons (ed_lst (ad_cons (ed_tup (ad_cons (ed_int) (ad_cons (ed_int) (ad_nil)))) (ad_cons (ed_tup (ad_cons (ed_int) (ad_cons (ed_int) (ad_nil)))) (ad_cons (ed_tup (ad_cons (ed_neg (ED.od (ed_int))) (ad_cons (ed_int) (ad_nil)))) (ad_cons (ed_tup (ad_cons (ed_int) (ad_cons (ed_int) (ad_nil)))) (ad_nil)))))) (ad_nil)))))) (ssd_cons (sd_set 5 sc_l_clause.nd (CD.ed (cd_call (ok_l_add T) (room.mono (by decide)) hG T.d_l_add.g T.d_l_add.F.kp T.d_l_add.b (ad_cons (ed_var 4) (ad_cons (CD.ed (cd_call (ok_l_any T) (room.mono (by decide)) hG T.d_l_any.g T.d_l_any.F.kp T.d_l_any.b (ad_slot 0 (ad_cons (ed_lst (ad_cons (ed_tup (ad_cons (ed_int) (ad_cons (ed_int) (ad_nil)))) (ad_cons (ed_tup (ad_cons (ed_int) (ad_cons (ed_int) (ad_nil)))) (ad_cons (ed_tup (ad_cons (ed_int) (ad_cons (ed_int) (ad_nil)))) (ad_cons (ed_tup (ad_cons (ed_int) (ad_cons (ed_int) (ad_nil)))) (ad_nil)))))) (ad_nil))))) (ad_nil)))))) (ssd_cons (sd_if (td_cmp (op_eqX room.u64) r2_eq (ed_var 1) (ED.od (ed_int))) (ssd_one (sd_ret (ed_tup (ad_cons (ed_tup (ad_cons (ed_int) (ad_cons (ed_int) (ad_nil)))) (ad_cons (ed_var 2) (ad_cons (ed_non) (ad_cons (ed_non) (ad_nil)))))))) (ssd_nil)) (ssd_cons (sd_if (td_cmp (op_eqX room.u64) r2_eq (ed_var 1) (ED.od (ed_int))) (ssd_one (sd_ret (ed_tup (ad_cons (ed_var 3) (ad_cons (ed_tup (ad_cons (ed_int) (ad_cons (ed_int) (ad_nil)))) (ad_cons (ed_non) (ad_cons (ed_non) (ad_nil)))))))) (ssd_nil)) (ssd_cons (sd_if (td_cmp (op_eqX room.u64) r2_eq (ed_var 1) (ED.od (ed_int))) (ssd_one (sd_ret (ed_tup (ad_cons (ed_tup (ad_cons (ed_int) (ad_cons (ed_int) (ad_nil)))) (ad_cons (ed_tup (ad_cons (ed_int) (ad_cons (ed_int) (ad_nil)))) (ad_cons (ed_non) (ad_cons (ed_var 5) (ad_nil)))))))) (ssd_nil)) (ssd_cons (sd_if (td_cmp (op_eqX room.u64) r2_eq (ed_var 1) (ED.od (ed_int))) (ssd_one (sd_ret (ed_tup (ad_cons (ed_tup (ad_cons (ed_int) (ad_cons (ed_int) (ad_nil)))) (ad_cons (ed_tup (ad_cons (ed_int) (ad_cons (ed_int) (ad_nil)))) (ad_cons (ed_var 4) (ad_cons (ed_non) (ad_nil)))))))) (ssd_nil)) (ssd_cons (sd_if (td_cmp (op_eqX room.u64) r2_eq (ed_var 1) (ED.od (ed_int))) (ssd_one (sd_ret (CD.ed (cd_call (ok_l_normal T) (room.mono (by decide)) hG T.d_l_normal.g T.d_l_normal.F.kp T.d_l_normal.b (ad_cons (ed_tup (ad_cons (ed_int) (ad_cons (ed_int) (ad_nil)))) (ad_cons (ed_tup (ad_cons (ed_int) (ad_cons (ed_int) (ad_nil)))) (ad_cons (ed_var 4) (ad_cons (ed_var 5) (ad_nil))))))))) (ssd_nil)) (ssd_one (sd_ret (ed_if (td_cmp (op_eqX room.u64) r2_eq (ed_var 1) (ED.od (ed_int))) (ed_tup (ad_cons (ed_tup (ad_cons (ed_int) (ad_cons (ed_int) (ad_nil)))) (ad_cons (ed_var 2) (ad_cons (ed_non) (ad_cons (ed_non) (ad_nil)))))) (CD.ed (cd_call (ok_l_normal T) (room.mono (by decide)) hG T.d_l_normal.g T.d_l_normal.F.kp T.d_l_normal.b (ad_cons (ed_var 3) (ad_cons (ed_var 2) (ad_cons (ed_var 4) (ad_cons (ed_var 5) (ad_nil))))))))))))))))))
/-! _law_plan -/
abbrev s_l_plan : Stmt := topS 18
abbrev N_l_plan : List Str := ["_law_feed_here", "_law_most", "_law_names", "_law_line", "_law_rules", "_law_name", "_law_found", "_law_k", "_law_j"]
theorem sc_l_plan : FnScope N_l_plan ["_law_feed_here", "_law_most"] (defScope s_l_plan) := ⟨rfl, rfl, rfl, by decide +kernel, rfl, by decide +kernel, by decide +kernel⟩
def b_l_plan : XS := sSeq (sParR3 2 3 4 (rD (xSl (xLst (aCons (xC (.str "ab")) (aCons (xC (.str "b")) (aCons (xC (.str "cap")) (aCons (xC (.str "dd")) (aCons (xC (.str "e")) (aCons (xC (.str "zzzzzzzz")) (aNil)))))))) (oNone) (oSome (xCall (arity 2 m_l_draw) (aSlot 0 (aCons (x2 addD (xVar 1) (xC (.int 1))) (aNil))))))) (rN (nLst (aNil))) (rN (nLst (aNil)))) (sSeq (sFor (iOf (xVar 2)) (gNm 5) (sSeq (sDrop (xApp 4 (xTup (aCons (xVar 5) (aCons (xCall (arity 1 m_l_clause) (aSlot 0 (aNil))) (aCons (x2 gtD (xCall (arity 2 m_l_draw) (aSlot 0 (aCons (xC (.int 5)) (aNil)))) (xC (.int 0))) (aNil))))))) (sDrop (xIns 3 (xCall (arity 2 m_l_draw) (aSlot 0 (aCons (x2 addD (x1 lenD (xB (bVar 3))) (xC (.int 1))) (aNil)))) (xVar 5))))) (sSeq (sNew 6 (nDt)) (sSeq (sFor (iRng (x1 lenD (xB (bVar 3)))) (gNm 7) (sFor (iRng2' (x2 addD (xVar 7) (xC (.int 1))) (x1 lenD (xB (bVar 3)))) (gNm 8) (sIf (tst (x2 eqD (xCall (arity 2 m_l_draw) (aSlot 0 (aCons (xC (.int 4)) (aNil)))) (xC (.int 0)))) (sPut 6 (xTup (aCons (x2 idxD (xB (bVar 3)) (xB (bVar 7))) (aCons (x2 idxD (xB (bVar 3)) (xB (bVar 8))) (aNil)))) (xC (.bool true))) (sNil)))) (sRet (xTup (aCons (x1 tupleD (xB (bVar 4))) (aCons (x1 tupleD (x1 sortedX (xB (bVar 6)))) (aNil))))))))
def m_l_plan : XF := runF 9 b_l_plan
theorem ok_l_plan (T : Txt K mg A D) : FnG P w K mg base 7 (A 18) (D 18) ["_law_feed_here", "_law_most"] m_l_plan :=
  fn_body T.d_l_plan.F sc_l_plan fun cdv A outer s H room hG => ssd_cons (sd_parR3 rfl sc_l_plan.nd (ED.rd (ed_sl (ed_lst (ad_cons (ed_str) (ad_cons (ed_str) (ad_cons (ed_str) (ad_cons (ed_str) (ad_cons (ed_str) (ad_cons (ed_str) (ad_nil)))))))) (pd_none) (pd_some (CD.ed (cd_call (ok_l_draw T) (room.mono (by decide)) hG T.d_l_draw.g T.d_l_draw.F.kp T.d_l_draw.b (ad_slot 0 (ad_cons (ed_bin op_addD r2_add (ed_var 1) (ED.od (ed_int))) (ad_nil)))))))) (ND.rd (nd_lst (ad_nil))) (ND.rd (nd_lst (ad_nil)))) (ssd_cons (sd_for PassesOwn.never rfl (id_seq (ed_var 2)) (gd_name 5 sc_l_plan.nd) (ssd_cons (sd_drop (ed_app 4 (ed_tup (ad_cons (ed_var 5) (ad_cons (CD.ed (cd_call (ok_l_clause T) (room.mono (by decide)) hG T.d_l_clause.g T.d_l_clause.F.kp T.d_l_clause.b (ad_slot 0 (ad_nil)))) (ad_cons (ed_cmp op_gt r2_gt (CD.ed (cd_call (ok_l_draw T) (room.mono (by decide)) hG T.d_l_draw.g T.d_l_draw.F.kp T.d_l_draw.b (ad_slot 0 (ad_cons (ed_int) (ad_nil))))) (ED.od (ed_int))) (ad_nil))))))) (ssd_one (sd_drop (ed_ins 3 (CD.ed (cd_call (ok_l_draw T) (room.mono (by decide)) hG T.d_l_draw.g T.d_l_draw.F.kp T.d_l_draw.b (ad_slot 0 (ad_cons (ed_bin op_addD r2_add (ed_c1 call_len c1_len T.n_len b_len (BD.od (bd_var 3))) (ED.od (ed_int))) (ad_nil))))) (ed_var 5)))))) (ssd_cons (sd_new 6 sc_l_plan.nd (nd_dt)) (ssd_cons (sd_for PassesOwn.never rfl (id_rng T.n_range (ed_c1 call_len c1_len T.n_len b_len (BD.od (bd_var 3)))) (gd_name 7 sc_l_plan.nd) (ssd_one (sd_for PassesOwn.never rfl (id_rng2 T.n_range (ed_bin op_addD r2_add (ed_var 7) (ED.od (ed_int))) (ed_c1 call_len c1_len T.n_len b_len (BD.od (bd_var 3)))) (gd_name 8 sc_l_plan.nd) (ssd_one (sd_if (td_cmp (op_eqX room.u64) r2_eq (CD.ed (cd_call (ok_l_draw T) (room.mono (by decide)) hG T.d_l_draw.g T.d_l_draw.F.kp T.d_l_draw.b (ad_slot 0 (ad_cons (ed_int) (ad_nil))))) (ED.od (ed_int))) (ssd_one (sd_put 6 room.u1 (ed_tup (ad_cons (ed_ixB (bd_var 3) (bd_var 7)) (ad_cons (ed_ixB (bd_var 3) (bd_var 8)) (ad_nil)))) (ed_bl))) (ssd_nil)))))) (ssd_one (sd_ret (ed_tup (ad_cons (ed_t1 call_tuple_of c1_tuple T.n_tuple b_tuple (BD.od (bd_var 4))) (ad_cons (ed_t1 call_tuple_of c1_tuple T.n_tuple b_tuple (ED.od (ed_c1 (cr_sortedX room.u64) c1_sortedX T.n_sorted b_sorted (BD.od (bd_var 6))))) (ad_nil)))))))))
/-! _law_behind -/
abbrev s_l_behind : Stmt := topS 20
abbrev N_l_behind : List Str := ["_law_agreed", "_law_found", "_law_name", "_law_near", "_law_one", "_law_first", "_law_second", "_law_rule", "_law_is_on"]
theorem sc_l_behind : FnScope N_l_behind ["_law_agreed"] (defScope s_l_behind) := ⟨rfl, rfl, rfl, by decide +kernel, rfl, by decide +kernel, by decide +kernel⟩
def b_l_behind : XS := sEnd (sSeq (sNest 1 (nPairs (iOf (x2 idxD (xVar 0) (xC (.int 0)))) (gTp 3 (gsCons (gNm 2) (gsCons (gNm 7) (gsCons (gNm 8) (gsNil))))) (xVar 2) [2, 7, 8])) (sSeq (sForK 1 (gNm 2) (sSeq (sLft 1 (sNew 3 (nLst (aCons (xVar 2) (aNil))))) (sWh (fun _ => 1000) (lftE 1 (tst (xEmp false 3))) (sSeq (sLft 1 (sSet 4 (xPop 3))) (sFor (lftE 1 (iOf (x2 idxD (xVar 0) (xC (.int 1))))) (lftG 1 (gTp 2 (gsCons (gNm 5) (gsCons (gNm 6) (gsNil))))) (sIf (xAndT (lftE 1 (tst (x2 eqD (xVar 5) (xVar 4)))) (nNotIn 1 (xVar 6) (xVar 2))) (sSeq (nApp 1 (xVar 2) (xVar 6)) (sLft 1 (sDrop (xApp 3 (xVar 6))))) (sNil))))))) (nRet 1)))
def m_l_behind : XF := runF 9 b_l_behind
theorem ok_l_behind (T : Txt K mg A D) : FnG P w K mg base 1 (A 20) (D 20) ["_law_agreed"] m_l_behind :=
  fn_body T.d_l_behind.F sc_l_behind fun cdv A outer s H room hG => ssd_pairs (vs := [2, 7, 8]) 1 [("_law_name", 2), ("_law_rule", 7), ("_law_is_on", 8)] (blkOk_by (own := [("_law_name", 2), ("_law_rule", 7), ("_law_is_on", 8)]) (N := N_l_behind) (sc := defScope s_l_behind) (by decide +kernel)) rfl rfl sc_l_behind.nd (id_seq (ed_ix (ed_var 0) (ED.od (ed_int)))) (fun _ _ _ _ _ => gd_tup rfl (gsd_cons (gd_name 2 sc_l_behind.nd) (gsd_cons (gd_name 7 sc_l_behind.nd) (gsd_cons (gd_name 8 sc_l_behind.nd) (gsd_nil))))) (fun _ _ _ _ _ => ed_var 2) T.n_dict (nssd_cons (nsd_forK (by decide) PassesOwn.never rfl (gd_name 2 sc_l_behind.nd) (fun _ => nssd_cons (nsd_lift (kd_new 3 (by decide) sc_l_behind.nd (nd_lst (ad_cons (ed_var 2) (ad_nil))))) (nssd_one (nsd_wh (fun _ => 1000) PassesOwn.never (ntd_lift (td_empN 3 room.u64)) (nssd_cons (nsd_lift (kd_set 4 (by decide) sc_l_behind.nd (ed_pop 3))) (nssd_one (nsd_for (by decide) PassesOwn.never rfl (id_seq (ed_ix (ed_var 0) (ED.od (ed_int)))) (gd_tup rfl (gsd_cons (gd_name 5 sc_l_behind.nd) (gsd_cons (gd_name 6 sc_l_behind.nd) (gsd_nil)))) (nssd_one (nsd_if (NWD.td (nwd_and (ntd_lift (td_cmp (op_eqX room.u64) r2_eq (ed_var 5) (ED.od (ed_var 4)))) (nwd_and1 (ntd_notIn (j := 1) room.u65 (ed_var 6) (ed_var 2))))) (nssd_cons (nsd_app (j := 1) room.u1 (ed_var 2) (ed_var 6)) (nssd_one (nsd_lift (kd_drop (ed_app 3 (ed_var 6)))))) (nssd_nil)))))))))) (nssd_one (nsd_ret)))
/-! _law_active -/
abbrev s_l_active : Stmt := topS 19
abbrev N_l_active : List Str := ["_law_agreed", "_law_name", "_law_rule", "_law_is_on"]
theorem sc_l_active : FnScope N_l_active ["_law_agreed"] (defScope s_l_active) := ⟨rfl, rfl, rfl, by decide +kernel, rfl, by decide +kernel, by decide +kernel⟩
def b_l_active : XS := sRet (xFz (nLc (iOf (x2 idxD (xVar 0) (xC (.int 0)))) (gTp 3 (gsCons (gNm 1) (gsCons (gNm 2) (gsCons (gNm 3) (gsNil))))) (xTru (xVar 3)) (xVar 1) [1, 2, 3]))
def m_l_active : XF := runF 4 b_l_active
theorem ok_l_active (T : Txt K mg A D) : FnG P w K mg base 1 (A 19) (D 19) ["_law_agreed"] m_l_active :=
  fn_body T.d_l_active.F sc_l_active fun cdv A outer s H room hG => ssd_one (sd_ret (ND.ed (nd_lc (vs := [1, 2, 3]) [("_law_name", 1), ("_law_rule", 2), ("_law_is_on", 3)] (blkOk_by (own := [("_law_name", 1), ("_law_rule", 2), ("_law_is_on", 3)]) (N := N_l_active) (sc := defScope s_l_active) (by decide +kernel)) rfl rfl sc_l_active.nd (id_seq (ed_ix (ed_var 0) (ED.od (ed_int)))) (fun _ _ _ _ _ => gd_tup rfl (gsd_cons (gd_name 1 sc_l_active.nd) (gsd_cons (gd_name 2 sc_l_active.nd) (gsd_cons (gd_name 3 sc_l_active.nd) (gsd_nil))))) (fun _ _ _ _ _ => tsd_one (td_tru (ED.od (ed_var 3)))) (fun _ _ _ _ _ => ed_var 1))))
/-! law -/
abbrev s_law : Stmt := topS 23
abbrev N_law : List Str := ["_law_script", "_law_feed_here", "_law_turn", "_law_agreed", "_law_seen", "_law_pairs", "_law_name", "_law_later", "_law_expected", "_law_one"]
theorem sc_law : FnScope N_law ["_law_script"] (defScope s_law) := ⟨rfl, rfl, rfl, by decide +kernel, rfl, by decide +kernel, by decide +kernel⟩
def b_law : XS := sSeq (sNew 1 (nCall (arity 1 m_l_feed) (aSlot 0 (aNil)))) (sSeq (sIf (xNotT (xTru (xCall m_l_by_hand aNil))) (sRet (xC (.bool false))) (sNil)) (sSeq (sFor (iRng (xCall (arity 2 m_l_many) (aSlot 0 (aCons (xC (.int 12)) (aNil))))) (gNm 2) (sSeq (sSet 3 (xCall (arity 2 m_l_plan) (aSlot 1 (aCons (xC (.int 6)) (aNil))))) (sSeq (sParR 4 5 (rD (x1 reprD (xVar 3))) (rN (nLst (aNil)))) (sSeq (sForI (nCall (arity 1 m_l_behind) (aCons (xVar 3) (aNil))) (gTp 2 (gsCons (gNm 6) (gsCons (gNm 7) (gsNil)))) (sDrop (xExt 5 (xFz (nLc (iOf (xVar 7)) (gNm 9) (cYes) (xTup (aCons (xVar 6) (aCons (xVar 9) (aNil)))) [9]))))) (sSeq (sSet 8 (xLst (aCons (x1 tupleD (xCall (arity 1 m_l_active) (aCons (xVar 3) (aNil)))) (aCons (x1 tupleD (x1 sortedX (xB (bVar 5)))) (aNil))))) (sSeq (sIf (tst (x2 neD (x1 reprD (xLst (aCons (xCall (arity 1 m_active_names) (aCons (xVar 3) (aNil))) (aCons (xCall (arity 1 m_follows_of) (aCons (xVar 3) (aNil))) (aNil))))) (x1 reprD (xVar 8)))) (sRet (xC (.bool false))) (sNil)) (sIf (xOrT (tst (x2 neD (x1 reprD (xLst (aCons (xCall m_active_names (aPick [.inl 0] (aNil) (aCons (xVar 3) (aNil)))) (aCons (xCall m_follows_of (aPick [.inl 0] (aNil) (aCons (xVar 3) (aNil)))) (aNil))))) (x1 reprD (xVar 8)))) (tst (x2 neD (x1 reprD (xVar 3)) (xVar 4)))) (sRet (xC (.bool false))) (sNil)))))))) (sRet (xC (.bool true)))))
def m_law : XF := runF 10 b_law
theorem ok_law (T : Txt K mg A D) : FnG P w K mg base 8 (A 23) (D 23) ["_law_script"] m_law :=
  fn_body T.d_law.F sc_law fun cdv A outer s H room hG => ssd_cons (sd_new 1 sc_law.nd (CD.nd (cd_call (ok_l_feed T) (room.mono (by decide)) hG T.d_l_feed.g T.d_l_feed.F.kp T.d_l_feed.b (ad_slot 0 (ad_nil))))) (ssd_cons (sd_if (td_not (td_tru (ED.od (CD.ed (cd_call0 (ok_l_by_hand T) (room.mono (by decide)) hG T.d_l_by_hand.g T.d_l_by_hand.F.kp T.d_l_by_hand.b))))) (ssd_one (sd_ret (ed_bl))) (ssd_nil)) (ssd_cons (sd_for PassesOwn.never rfl (id_rng T.n_range (CD.ed (cd_call (ok_l_many T) (room.mono (by decide)) hG T.d_l_many.g T.d_l_many.F.kp T.d_l_many.b (ad_slot 0 (ad_cons (ed_int) (ad_nil)))))) (gd_name 2 sc_law.nd) (ssd_cons (sd_set 3 sc_law.nd (CD.ed (cd_call (ok_l_plan T) (room.mono (by decide)) hG T.d_l_plan.g T.d_l_plan.F.kp T.d_l_plan.b (ad_slot 1 (ad_cons (ed_int) (ad_nil)))))) (ssd_cons (sd_parR rfl sc_law.nd (ED.rd (ed_c1 (call_reprD hG room.u64) c1_repr T.n_repr b_repr (ED.od (ed_var 3)))) (ND.rd (nd_lst (ad_nil)))) (ssd_cons (sd_forItems PassesOwn.never rfl (CD.nd (cd_call (ok_l_behind T) (room.mono (by decide)) hG T.d_l_behind.g T.d_l_behind.F.kp T.d_l_behind.b (ad_cons (ed_var 3) (ad_nil)))) (gd_tup rfl (gsd_cons (gd_name 6 sc_law.nd) (gsd_cons (gd_name 7 sc_law.nd) (gsd_nil)))) (ssd_one (sd_drop (ed_ext 5 (ND.ed (nd_lc (vs := [9]) [("_law_one", 9)] (blkOk_by (own := [("_law_one", 9)]) (N := N_law) (sc := defScope s_law) (by decide +kernel)) rfl rfl sc_law.nd (id_seq (ed_var 7)) (fun _ _ _ _ _ => gd_name 9 sc_law.nd) (fun _ _ _ _ _ => tsd_nil) (fun _ _ _ _ _ => ed_tup (ad_cons (ed_var 6) (ad_cons (ed_var 9) (ad_nil)))))))))) (ssd_cons (sd_set 8 sc_law.nd (ed_lst (ad_cons (ed_t1 call_tuple_of c1_tuple T.n_tuple b_tuple (ED.od (CD.ed (cd_call (ok_l_active T) (room.mono (by decide)) hG T.d_l_active.g T.d_l_active.F.kp T.d_l_active.b (ad_cons (ed_var 3) (ad_nil)))))) (ad_cons (ed_t1 call_tuple_of c1_tuple T.n_tuple b_tuple (ED.od (ed_c1 (cr_sortedX room.u64) c1_sortedX T.n_sorted b_sorted (BD.od (bd_var 5))))) (ad_nil))))) (ssd_cons (sd_if (td_cmp (op_neX room.u64) r2_ne (ed_c1 (call_reprD hG room.u64) c1_repr T.n_repr b_repr (ED.od (ed_lst (ad_cons (CD.ed (cd_call (ok_active_names T) (room.mono (by decide)) hG T.d_active_names.g T.d_active_names.F.kp T.d_active_names.b (ad_cons (ed_var 3) (ad_nil)))) (ad_cons (CD.ed (cd_call (ok_follows_of T) (room.mono (by decide)) hG T.d_follows_of.g T.d_follows_of.F.kp T.d_follows_of.b (ad_cons (ed_var 3) (ad_nil)))) (ad_nil)))))) (ED.od (ed_c1 (call_reprD hG room.u64) c1_repr T.n_repr b_repr (ED.od (ed_var 8))))) (ssd_one (sd_ret (ed_bl))) (ssd_nil)) (ssd_one (sd_if (WD.td (wd_or (td_cmp (op_neX room.u64) r2_ne (ed_c1 (call_reprD hG room.u64) c1_repr T.n_repr b_repr (ED.od (ed_lst (ad_cons (CD.ed (cd_callQ (ok_active_names T) (room.mono (by decide)) hG T.d_active_names.g T.d_active_names.F.kp T.q_active_names_0_plan (kd_cons (ed_var 3) (kd_nil)) (ln_cons (ln_nil)))) (ad_cons (CD.ed (cd_callQ (ok_follows_of T) (room.mono (by decide)) hG T.d_follows_of.g T.d_follows_of.F.kp T.q_follows_of_0_plan (kd_cons (ed_var 3) (kd_nil)) (ln_cons (ln_nil)))) (ad_nil)))))) (ED.od (ed_c1 (call_reprD hG room.u64) c1_repr T.n_repr b_repr (ED.od (ed_var 8))))) (wd_or1 (td_cmp (op_neX room.u64) r2_ne (ed_c1 (call_reprD hG room.u64) c1_repr T.n_repr b_repr (ED.od (ed_var 3))) (ED.od (ed_var 4)))))) (ssd_one (sd_ret (ed_bl))) (ssd_nil))))))))) (ssd_one (sd_ret (ed_bl)))))
end
end K18
set_option maxRecDepth 100000
set_option maxHeartbeats 2000000
/-! DN: running the mirrors -/
namespace DL
open PySem PySem.Spec PyProof.Rows L2
section
variable {ρ : Nv} {f g a b c : XE} {r : XA} {t u : XT}
@[simp] theorem e_c (d : PyData) : xC d ρ = some (d, ρ) := rfl
@[simp] theorem e_var (i : Nat) : xVar i ρ = (match ρ[i]? with | some (.d x) => some (x, ρ) | some (.own o false) => some (odD o, ρ.set i (.d (odD o))) | _ => none) := rfl
@[simp] theorem e_bvar (i : Nat) : bVar i ρ = (match ρ[i]? with | some (.d x) => some x | some (.own o _) => some (odD o) | _ => none) := rfl
@[simp] theorem e_bc (d : PyData) : bC d ρ = some d := rfl
@[simp] theorem e_b (h : XB) : xB h ρ = (h ρ).map fun d => (d, ρ) := rfl
@[simp] theorem e_1 (h : PyData → Option PyData) : x1 h a ρ = (a ρ).bind fun p => (h p.1).map fun z => (z, p.2) := rfl
@[simp] theorem e_2 (h : PyData → PyData → Option PyData) : x2 h a b ρ = (a ρ).bind fun p => (b p.2).bind fun q => (h p.1 q.1).map fun z => (z, q.2) := rfl
@[simp] theorem e_tst : tst a ρ = (a ρ).bind fun p => match p.1 with | .bool b => some (b, p.2) | _ => none := rfl
@[simp] theorem e_tru : xTru a ρ = (a ρ).bind fun p => (truD p.1).map fun b => (b, p.2) := rfl
@[simp] theorem e_andT : xAndT t u ρ = (t ρ).bind fun p => if p.1 = true then u p.2 else some (false, p.2) := rfl
@[simp] theorem e_orT : xOrT t u ρ = (t ρ).bind fun p => if p.1 = true then some (true, p.2) else u p.2 := rfl
@[simp] theorem e_notT : xNotT t ρ = (t ρ).map fun p => (!p.1, p.2) := rfl
@[simp] theorem e_and : xAnd a b ρ = (a ρ).bind fun p => match p.1 with | .bool true => b p.2 | .bool false => some (.bool false, p.2) | _ => none := rfl
@[simp] theorem e_or : xOr a b ρ = (a ρ).bind fun p => match p.1 with | .bool true => some (.bool true, p.2) | .bool false => b p.2 | _ => none := rfl
@[simp] theorem e_not : xNot a ρ = (a ρ).bind fun p => match p.1 with | .bool b => some (.bool (!b), p.2) | _ => none := rfl
@[simp] theorem e_if : xIf t a b ρ = (t ρ).bind fun p => if p.1 = true then a p.2 else b p.2 := rfl
@[simp] theorem e_chain (h h' : PyData → PyData → Option PyData) : xChain h h' a b c ρ = (a ρ).bind fun p => (b p.2).bind fun q => (h p.1 q.1).bind fun z => match z with
  | .bool true => (c q.2).bind fun r => (h' q.1 r.1).map fun z => (z, r.2)
  | .bool false => some (.bool false, q.2)
  | _ => none := rfl
@[simp] theorem e_aNil : aNil ρ = some ([], ρ) := rfl
@[simp] theorem e_aCons : aCons f r ρ = (f ρ).bind fun p => (r p.2).map fun q => (.v p.1 :: q.1, q.2) := rfl
@[simp] theorem e_aSlot (i : Nat) : aSlot i r ρ = (match ρ[i]? with | some (.own _ _) => (r ρ).map fun q => (.s i :: q.1, q.2) | some (.scr _) => (r ρ).map fun q => (.s i :: q.1, q.2) | _ => none) := rfl
@[simp] theorem e_allV0 : allV [] = some [] := rfl
@[simp] theorem e_allV1 (d : PyData) (as : List AV) : allV (.v d :: as) = (allV as).map (d :: ·) := rfl
@[simp] theorem e_tup : xTup r ρ = (r ρ).bind fun p => (allV p.1).bind fun ds => if ds.length ≤ sizeLine then some (.tuple ds, p.2) else none := rfl
@[simp] theorem e_lst : xLst r ρ = (r ρ).bind fun p => (allV p.1).bind fun ds => if ds.length ≤ sizeLine then some (.list ds, p.2) else none := rfl
@[simp] theorem e_nlst : nLst r ρ = (r ρ).bind fun p => (allV p.1).bind fun ds => if ds.length ≤ sizeLine then some (.ol ds, p.2) else none := rfl
@[simp] theorem e_isi (h : PyData → Bool) : xIsi h f ρ = (f ρ).map fun p => (.bool (h p.1), p.2) := rfl
@[simp] theorem e_oNone : oNone ρ = some (none, ρ) := rfl
@[simp] theorem e_oSome : oSome f ρ = (f ρ).bind fun p => match p.1 with | .int i => some (some i, p.2) | _ => none := rfl
@[simp] theorem e_sl (lo hi : XO) : xSl f lo hi ρ = (f ρ).bind fun p => (lo p.2).bind fun l => (hi l.2).bind fun h => (slD p.1 l.1 h.1).map fun z => (z, h.2) := rfl
@[simp] theorem e_scr (i : Nat) (lo hi : Option Int) : xScr i lo hi ρ = (match ρ[i]? with | some (.scr ns) => some (.list (cutD (ns.map PyData.int) lo hi), ρ) | _ => none) := rfl
@[simp] theorem e_get (i : Nat) : xGet i f ρ = if ownQ ρ i = true then (f ρ).bind fun p => match p.2[i]? with
    | some (.own (.od kvs) _) => (keyD p.1).bind fun k => (getD' kvs k).map fun z => (z, p.2)
    | some (.own (.ot kvs) _) => (keyT p.1).bind fun k => (getD' kvs k).map fun z => (z, p.2)
    | _ => none
  else none := rfl
@[simp] theorem e_put (i : Nat) (fk fv : XE) : sPut i fk fv ρ = (fv ρ).bind fun p => if ownQ p.2 i = true then (fk p.2).bind fun q => match q.2[i]? with
    | some (.own (.od kvs) io) => (keyD q.1).bind fun k => if kvs.length < sizeLine then some (.nx (q.2.set i (.own (.od (putD kvs k p.1)) io))) else none
    | some (.own (.ot kvs) io) => (keyT q.1).bind fun k => if kvs.length < sizeLine then some (.nx (q.2.set i (.own (.ot (putD kvs k p.1)) io))) else none
    | _ => none
  else none := rfl
@[simp] theorem e_put' (i : Nat) (d : PyData) : put ρ i d = if free ρ i = true then some (ρ.set i (.d d)) else none := rfl
theorem e_free (i : Nat) : free ρ i = (match ρ[i]? with | some (.own _ true) => false | some _ => true | none => false) := rfl
/-- the slot may be stored -/
def Fs (e : EV) : Prop := e = .un ∨ (∃ d, e = .d d) ∨ ∃ o, e = .own o false
@[simp] theorem fs_un : Fs .un := .inl rfl
@[simp] theorem fs_d (d : PyData) : Fs (.d d) := .inr (.inl ⟨d, rfl⟩)
@[simp] theorem fs_own (o : OD) : Fs (.own o false) := .inr (.inr ⟨o, rfl⟩)
@[simp] theorem free_s (e : EV) (r : Nv) (i : Nat) : free (e :: r) (i + 1) = free r i := by simp [free]
@[simp] theorem free_un (r : Nv) : free (.un :: r) 0 = true := rfl
@[simp] theorem free_d (d : PyData) (r : Nv) : free (.d d :: r) 0 = true := rfl
@[simp] theorem free_own (o : OD) (r : Nv) : free (.own o false :: r) 0 = true := rfl
@[simp] theorem free_io (o : OD) (r : Nv) : free (.own o true :: r) 0 = false := rfl
@[simp] theorem free_scr (ns : List Int) (r : Nv) : free (.scr ns :: r) 0 = true := rfl
theorem free_fs {e : EV} (h : Fs e) (r : Nv) : free (e :: r) 0 = true := by
  rcases h with rfl | ⟨d, rfl⟩ | ⟨o, rfl⟩ <;> rfl
@[simp] theorem e_ownQ (i : Nat) : ownQ ρ i = (match ρ[i]? with | some (.own _ _) => true | _ => false) := rfl
@[simp] theorem e_sNil : sNil ρ = some (.nx ρ) := rfl
@[simp] theorem e_seq (p q : XS) : sSeq p q ρ = (p ρ).bind fun r => match r with | .nx ρ' => q ρ' | r => some r := rfl
@[simp] theorem e_ret : sRet f ρ = (f ρ).map fun p => .rt p.1 p.2 := rfl
@[simp] theorem e_retN : sRetN ρ = some (.rt .none ρ) := rfl
@[simp] theorem e_retO (n : XN) : sRetO n ρ = (n ρ).map fun p => .rn p.1 p.2 := rfl
@[simp] theorem e_sif (p q : XS) : sIf t p q ρ = (t ρ).bind fun w => if w.1 = true then p w.2 else q w.2 := rfl
@[simp] theorem e_drop : sDrop f ρ = (f ρ).map fun p => .nx p.2 := rfl
@[simp] theorem e_brk : sBrk ρ = some (.bk ρ) := rfl
@[simp] theorem e_cnt : sCnt ρ = some (.ct ρ) := rfl
@[simp] theorem e_set (i : Nat) : sSet i f ρ = (f ρ).bind fun p => (put p.2 i p.1).map .nx := rfl
@[simp] theorem e_new (i : Nat) (n : XN) : sNew i n ρ = (n ρ).bind fun p => if free p.2 i = true then some (.nx (p.2.set i (.own p.1 false))) else none := rfl
@[simp] theorem e_par (i j : Nat) : sPar i j f g ρ = (f ρ).bind fun p => (g p.2).bind fun q => (put q.2 i p.1).bind fun ρ1 => (put ρ1 j q.1).map .nx := rfl
@[simp] theorem e_asg (h : XG) : sAsg f h ρ = (f ρ).bind fun p => (h p.1 p.2).map .nx := rfl
@[simp] theorem e_gNm (i : Nat) (d : PyData) : gNm i d ρ = put ρ i d := rfl
@[simp] theorem e_gTp (n : Nat) (h : XGs) (ds : List PyData) : gTp n h (.tuple ds) ρ = if ds.length = n then h ds ρ else none := rfl
@[simp] theorem e_gsN : gsNil [] ρ = some ρ := rfl
@[simp] theorem e_gsC (h : XG) (k : XGs) (d : PyData) (ds : List PyData) : gsCons h k (d :: ds) ρ = (h d ρ).bind fun ρ' => k ds ρ' := rfl
@[simp] theorem e_for (it : XI) (h : XG) (p : XS) : sFor it h p ρ = (it ρ).bind fun w => forL h p w.1 w.2 := rfl
@[simp] theorem e_iOf : iOf f ρ = (f ρ).bind fun p => (itD p.1).map fun ds => (ds, p.2) := rfl
@[simp] theorem e_call (m : XF) : xCall m r ρ = (gCall m r ρ).bind fun p => match p.1 with | .d x => some (x, p.2) | .n _ => none := rfl
@[simp] theorem e_ncall (m : XF) : nCall m r ρ = (gCall m r ρ).bind fun p => match p.1 with | .n o => some (o, p.2) | .d _ => none := rfl
@[simp] theorem e_gcall (m : XF) : gCall m r ρ = (r ρ).bind fun p => if (slotsOf p.1).Nodup then (entN p.1 p.2).bind fun es => (m es).bind fun q => (back p.1 q.2 p.2).map fun ρ' => (q.1, ρ') else none := rfl
@[simp] theorem e_arity (n : Nat) (m : XF) (es : List EV) : arity n m es = if es.length = n then m es else none := rfl
@[simp] theorem e_slots0 : slotsOf [] = [] := rfl
@[simp] theorem e_slots1 (d : PyData) (as : List AV) : slotsOf (.v d :: as) = slotsOf as := rfl
@[simp] theorem e_slots2 (i : Nat) (as : List AV) : slotsOf (.s i :: as) = i :: slotsOf as := rfl
@[simp] theorem e_ent0 : entN [] ρ = some [] := rfl
@[simp] theorem e_ent1 (d : PyData) (as : List AV) : entN (.v d :: as) ρ = (entN as ρ).map (.d d :: ·) := rfl
@[simp] theorem e_ent2 (i : Nat) (as : List AV) : entN (.s i :: as) ρ = (match ρ[i]? with | some (.own o _) => (entN as ρ).map (.own o true :: ·) | some (.scr ns) => (entN as ρ).map (.scr ns :: ·) | _ => none) := rfl
@[simp] theorem e_back0 (es : List EV) : back [] es ρ = some ρ := by cases es <;> rfl
@[simp] theorem e_back1 (d : PyData) (as : List AV) (e : EV) (es : List EV) : back (.v d :: as) (e :: es) ρ = back as es ρ := rfl
@[simp] theorem e_back2 (i : Nat) (as : List AV) (e : EV) (es : List EV) : back (.s i :: as) (e :: es) ρ = (match ρ[i]?, e with | some (.own _ io), .own o _ => back as es (ρ.set i (.own o io)) | some (.scr _), .scr _ => back as es ρ | _, _ => none) := rfl
theorem e_run (n : Nat) (body : XS) (es : List EV) : runF n body es = (match body (es ++ List.replicate (n - es.length) .un) with
  | some (.rt d ρ) => some (.d d, finA es ρ)
  | some (.rn o ρ) => some (.n o, finA es ρ)
  | some (.nx ρ) => some (.d .none, finA es ρ)
  | _ => none) := rfl
@[simp] theorem e_fin0 : finA [] ρ = [] := rfl
@[simp] theorem e_fin1 (o : OD) (b : Bool) (es : List EV) (o' : OD) (b' : Bool) : finA (.own o b :: es) (.own o' b' :: ρ) = .own o' b' :: finA es ρ := rfl
@[simp] theorem e_fin2 (d : PyData) (es : List EV) (e : EV) : finA (.d d :: es) (e :: ρ) = .d d :: finA es ρ := rfl
@[simp] theorem e_fin3 (ns : List Int) (es : List EV) (e : EV) : finA (.scr ns :: es) (e :: ρ) = .scr ns :: finA es ρ := rfl
end

@[simp] theorem o_add (i j : Int) : addD (.int i) (.int j) = some (.int (i + j)) := rfl
@[simp] theorem o_addS (i j : Str) : addD (.str i) (.str j) = if i.length + j.length ≤ sizeLine then some (.str (i ++ j)) else none := rfl
@[simp] theorem o_addL (i j : List PyData) : addD (.list i) (.list j) = if i.length + j.length ≤ sizeLine then some (.list (i ++ j)) else none := rfl
@[simp] theorem o_addT (i j : List PyData) : addD (.tuple i) (.tuple j) = if i.length + j.length ≤ sizeLine then some (.tuple (i ++ j)) else none := rfl
@[simp] theorem o_sub (i j : Int) : subD (.int i) (.int j) = some (.int (i - j)) := rfl
theorem o_mul {i j : Int} (h : i.natAbs.log2 + j.natAbs.log2 < 1000000) : mulD (.int i) (.int j) = some (.int (i * j)) := if_pos h
theorem o_fdiv {i j : Int} (h : 0 < j) (h2 : j.natAbs.log2 < 9000) : fdivD (.int i) (.int j) = some (.int (i / j)) := if_pos ⟨h, h2⟩
theorem o_mod {i j : Int} (h : 0 < j) : modD (.int i) (.int j) = some (.int (i % j)) := if_pos h
theorem o_pow {i j : Int} (h : 0 ≤ j ∧ j ≤ 1000000 ∧ i.natAbs < 2 ^ 64) : powD (.int i) (.int j) = some (.int (i ^ j.toNat)) := if_pos h
@[simp] theorem o_lt (i j : Int) : ltD (.int i) (.int j) = some (.bool (decide (i < j))) := rfl
@[simp] theorem o_le (i j : Int) : leD (.int i) (.int j) = some (.bool (decide (i ≤ j))) := rfl
@[simp] theorem o_gt (i j : Int) : gtD (.int i) (.int j) = some (.bool (decide (j < i))) := rfl
@[simp] theorem o_ge (i j : Int) : geD (.int i) (.int j) = some (.bool (decide (j ≤ i))) := rfl
@[simp] theorem o_neg (i : Int) : negD (.int i) = some (.int (-i)) := rfl
@[simp] theorem o_isNon (x : PyData) : isNonD x .none = some (.bool (noneD x)) := rfl
@[simp] theorem o_notNon (x : PyData) : notNonD x .none = some (.bool (!noneD x)) := rfl
@[simp] theorem o_keyS (s : Str) : keyD (.str s) = some (.inr s) := rfl
@[simp] theorem o_keyI (i : Int) : keyD (.int i) = some (.inl i) := rfl
@[simp] theorem o_truB (b : Bool) : truD (.bool b) = some b := rfl
@[simp] theorem o_lenL (xs : List PyData) : lenD (.list xs) = some (.int xs.length) := rfl
@[simp] theorem o_lenT (xs : List PyData) : lenD (.tuple xs) = some (.int xs.length) := rfl
@[simp] theorem o_listT (xs : List PyData) : listD (.tuple xs) = some (.list xs) := rfl
@[simp] theorem o_listL (xs : List PyData) : listD (.list xs) = some (.list xs) := rfl
@[simp] theorem o_idxL (xs : List PyData) (i : Int) : idxD (.list xs) (.int i) = atI xs i := rfl
@[simp] theorem o_idxT (xs : List PyData) (i : Int) : idxD (.tuple xs) (.int i) = atI xs i := rfl
theorem sizeL : sizeLine = 16777216 := rfl
theorem at_nn {α : Type} {xs : List α} {i : Int} (h0 : 0 ≤ i) (h1 : i < xs.length) : atI xs i = xs[i.toNat]? := by
  unfold atI ixN
  rw [if_pos h0, if_pos h1]
  rfl
theorem at_neg {α : Type} {xs : List α} {i : Int} (h0 : ¬ 0 ≤ i) (h1 : -(xs.length : Int) ≤ i) : atI xs i = xs[(i + xs.length).toNat]? := by
  unfold atI ixN
  rw [if_neg h0, if_pos h1]
  rfl
theorem ofS_inj (a b : String) : Str.ofString a = Str.ofString b ↔ a = b := by
  constructor
  · intro h
    rw [PySem.Str.ofString_eq_toList, PySem.Str.ofString_eq_toList] at h
    have h1 : (a.toList.map Char.toNat).toArray = (b.toList.map Char.toNat).toArray := congrArg Str.cps h
    have h2 : a.toList.map Char.toNat = b.toList.map Char.toNat := by simpa using h1
    have inj : ∀ x y : Char, x.toNat = y.toNat → x = y := fun x y e => Char.ext (UInt32.toNat_inj.mp e)
    have h3 : a.toList = b.toList := (List.map_inj_right inj).mp h2
    exact String.toList_inj.mp h3
  · rintro rfl; rfl
@[simp] theorem e_forN (g : XG) (b : XS) (ρ : Nv) : forL g b [] ρ = some (.nx ρ) := rfl
theorem e_forC (g : XG) (b : XS) (d : PyData) (ds : List PyData) (ρ : Nv) : forL g b (d :: ds) ρ = (g d ρ).bind fun ρ1 => (b ρ1).bind fun r => match r with
    | .nx ρ2 => forL g b ds ρ2
    | .ct ρ2 => forL g b ds ρ2
    | .bk ρ2 => some (.nx ρ2)
    | .rt x ρ2 => some (.rt x ρ2)
    | .rn x ρ2 => some (.rn x ρ2) := rfl
theorem forC_nx {g : XG} {b : XS} {d : PyData} {ds : List PyData} {ρ ρ1 ρ2 : Nv} {r : Option Fl} (h1 : g d ρ = some ρ1) (h2 : b ρ1 = some (.nx ρ2)) (h3 : forL g b ds ρ2 = r) : forL g b (d :: ds) ρ = r := by
  rw [e_forC, h1, Option.bind_some, h2, Option.bind_some]
  exact h3
theorem forC_rt {g : XG} {b : XS} {d x : PyData} {ds : List PyData} {ρ ρ1 ρ2 : Nv} (h1 : g d ρ = some ρ1) (h2 : b ρ1 = some (.rt x ρ2)) : forL g b (d :: ds) ρ = some (.rt x ρ2) := by
  rw [e_forC, h1, Option.bind_some, h2, Option.bind_some]
theorem seq_nx {p q : XS} {ρ ρ1 : Nv} {r : Option Fl} (h : p ρ = some (.nx ρ1)) (h2 : q ρ1 = r) : sSeq p q ρ = r := by
  rw [e_seq, h, Option.bind_some]
  exact h2
theorem seq_rt {p q : XS} {ρ ρ1 : Nv} {d : PyData} (h : p ρ = some (.rt d ρ1)) : sSeq p q ρ = some (.rt d ρ1) := by
  rw [e_seq, h, Option.bind_some]
theorem for_of {it : XI} {g : XG} {b : XS} {ρ ρ1 : Nv} {ds : List PyData} {r : Option Fl} (h : it ρ = some (ds, ρ1)) (h2 : forL g b ds ρ1 = r) : sFor it g b ρ = r := by
  rw [e_for, h, Option.bind_some]
  exact h2
theorem run_rt {n : Nat} {body : XS} {es ρ : List EV} {d : PyData} (h : body (es ++ List.replicate (n - es.length) .un) = some (.rt d ρ)) : runF n body es = some (.d d, finA es ρ) := by
  rw [e_run, h]
theorem run_rn {n : Nat} {body : XS} {es ρ : List EV} {o : OD} (h : body (es ++ List.replicate (n - es.length) .un) = some (.rn o ρ)) : runF n body es = some (.n o, finA es ρ) := by
  rw [e_run, h]
/-- ranges (not by simp: the kernel is slow at the bounds) -/
theorem e_rngN {f : XE} {ρ ρ1 : Nv} {n : Nat} (hf : f ρ = some (.int n, ρ1)) (h : n < 1000000) : iRng f ρ = some ((List.range n).map fun (j : Nat) => PyData.int j, ρ1) := by
  have e : rngD 0 n = (List.range n).map fun (j : Nat) => PyData.int j := by unfold rngD; simp
  unfold iRng
  rw [hf, Option.bind_some]
  refine (if_pos ⟨by omega, by omega⟩).trans ?_
  rw [Int.toNat_natCast, e]
theorem e_rng2 {f g : XE} {ρ ρ1 ρ2 : Nv} {i j : Int} (hf : f ρ = some (.int i, ρ1)) (hg : g ρ1 = some (.int j, ρ2)) (h1 : 0 ≤ i ∧ i < 1000000) (h2 : 0 ≤ j ∧ j < 1000000) : iRng2' f g ρ = some (rngD i (j - i).toNat, ρ2) := by
  unfold iRng2'
  rw [hf, Option.bind_some, hg, Option.bind_some]
  exact if_pos ⟨by omega, by omega, by omega, by omega⟩
theorem rng_nat (k m : Nat) : rngD (k : Int) m = (List.range' k m).map fun (j : Nat) => PyData.int j := by
  unfold rngD
  rw [List.range'_eq_map_range, List.map_map]
  apply List.map_congr_left
  intro i _
  simp only [Function.comp, PyData.int.injEq]
  omega
end DL
set_option maxRecDepth 100000
set_option maxHeartbeats 2000000
/-! DM: sizes of data -/
namespace DL
open PySem PySem.Spec PyProof.Rows L2
mutual
/-- a bound of the text of d -/
def sz : PyData → Nat
  | .none => 8
  | .bool _ => 8
  | .int _ => 800
  | .str s => 12 * s.length + 12
  | .list xs => 8 + szA xs
  | .tuple xs => 8 + szA xs
  | .dict _ => 0
def szA : List PyData → Nat
  | [] => 0
  | x :: xs => sz x + 2 + szA xs
end
mutual
/-- ints up to B, plain texts, no dict -/
def ok (B : Nat) : PyData → Bool
  | .none => true
  | .bool _ => true
  | .int i => decide (i.natAbs ≤ B)
  | .str s => s.cps.toList.all fun c => decide (c < 128)
  | .list xs => okA B xs
  | .tuple xs => okA B xs
  | .dict _ => false
def okA (B : Nat) : List PyData → Bool
  | [] => true
  | x :: xs => ok B x && okA B xs
end
theorem okS {B : Nat} {s : Str} (h : ok B (.str s) = true) : ∀ c ∈ s.cps.toList, c < 128 := by
  unfold ok at h
  intro c hc
  have := List.all_eq_true.mp h c hc
  exact of_decide_eq_true this
theorem okA_iff {B : Nat} : ∀ {xs : List PyData}, okA B xs = true ↔ ∀ x ∈ xs, ok B x = true
  | [] => by simp [okA]
  | x :: xs => by simp [okA, okA_iff (xs := xs)]
theorem depthA_iff {D : Nat} : ∀ {xs : List PyData}, PyData.depthAll xs ≤ D ↔ ∀ x ∈ xs, x.depth ≤ D
  | [] => by simp [PyData.depthAll]
  | x :: xs => by simp [PyData.depthAll, Nat.max_le, depthA_iff (xs := xs)]
theorem szA_append : ∀ (xs ys : List PyData), szA (xs ++ ys) = szA xs + szA ys
  | [], ys => by simp [szA]
  | x :: xs, ys => by simp only [List.cons_append, szA, szA_append xs ys]; omega
theorem szA_reverse : ∀ (xs : List PyData), szA xs.reverse = szA xs
  | [] => rfl
  | x :: xs => by rw [List.reverse_cons, szA_append, szA_reverse xs]; simp only [szA]; omega
theorem szA_sub : ∀ {xs ys : List PyData}, xs.Sublist ys → szA xs ≤ szA ys
  | _, _, .slnil => Nat.le_refl _
  | _, _, .cons a h => by have := szA_sub h; simp only [szA]; omega
  | _, _, .cons₂ a h => by have := szA_sub h; simp only [szA]; omega
theorem szA_mem : ∀ {xs : List PyData} {x : PyData}, x ∈ xs → sz x + 2 ≤ szA xs
  | y :: ys, x, h => by
    rcases List.mem_cons.mp h with rfl | h
    · simp only [szA]; omega
    · have := szA_mem h; simp only [szA]; omega
theorem szA_len : ∀ (xs : List PyData), 2 * xs.length ≤ szA xs
  | [] => Nat.le_refl _
  | x :: xs => by have := szA_len xs; simp only [szA, List.length_cons]; omega
mutual
theorem lay_ok (B : Nat) : ∀ d : PyData, ok B d = true → d.canLay0 = true ∧ d.hasDict = false
  | .none, _ => ⟨rfl, rfl⟩
  | .bool _, _ => ⟨rfl, rfl⟩
  | .int _, _ => ⟨rfl, rfl⟩
  | .str s, h => ⟨by
    have h' := okS h
    simp only [PyData.canLay0]
    unfold PySem.PyData.strOk
    rw [← Array.all_toList]
    exact List.all_eq_true.mpr fun c hc => decide_eq_true (Nat.lt_trans (h' c hc) (by decide)), rfl⟩
  | .list xs, h => by
    have := layA_ok B xs (by simpa [ok] using h)
    exact ⟨by simpa [PyData.canLay0] using this.1, by simpa [PyData.hasDict] using this.2⟩
  | .tuple xs, h => by
    have := layA_ok B xs (by simpa [ok] using h)
    exact ⟨by simpa [PyData.canLay0] using this.1, by simpa [PyData.hasDict] using this.2⟩
  | .dict _, h => by simp [ok] at h
theorem layA_ok (B : Nat) : ∀ ds : List PyData, okA B ds = true → PyData.canLayAll0 ds = true ∧ PyData.hasDictAll ds = false
  | [], _ => ⟨rfl, rfl⟩
  | x :: xs, h => by
    have h' : ok B x = true ∧ okA B xs = true := by simpa [okA] using h
    have h1 := lay_ok B x h'.1
    have h2 := layA_ok B xs h'.2
    exact ⟨by simp [PyData.canLayAll0, h1.1, h2.1], by simp [PyData.hasDictAll, h1.2, h2.2]⟩
end
mutual
theorem shows_ok (B : Nat) (hB : B < 10 ^ 60) : ∀ d : PyData, ok B d = true → d.showable = true ∧ d.shown.length ≤ sz d
  | .none, _ => ⟨rfl, by decide⟩
  | .bool b, _ => ⟨rfl, by cases b <;> decide⟩
  | .int i, h => by
    have h' : i.natAbs ≤ B := by simpa [ok] using h
    have h2 : i.natAbs < 10 ^ 60 := Nat.lt_of_le_of_lt h' hB
    refine ⟨?_, ?_⟩
    · have : i.natAbs.log2 < 1920 := by
        by_cases h0 : i.natAbs = 0
        · rw [h0]; decide
        · exact (Nat.log2_lt h0).mpr (Nat.lt_of_lt_of_le h2 (by decide +kernel))
      simpa [PyData.showable] using this
    · have := PySem.int_text_length_le10 (a := i) (k := 60) (by decide) h2
      have e : (PyData.shown (.int i)).length = (toString i).length := by
        simp only [PyData.shown]
        exact PySem.ofString_length _
      rw [e]
      simp only [sz]
      omega
  | .str s, h => ⟨rfl, by
    have h' := okS h
    have := PySem.StrLaws.reprText_len s fun c hc => Nat.lt_of_lt_of_le (h' c hc) (by decide)
    simp only [PyData.shown, sz]
    omega⟩
  | .list xs, h => by
    have h2 := showsA_ok B hB xs (by simpa [ok] using h)
    refine ⟨by simpa [PyData.showable] using h2.1, ?_⟩
    have h3 := PySem.listText_len_le (PyData.shownAll xs)
    simp only [PyData.shown, sz]
    have := h2.2
    omega
  | .tuple xs, h => by
    have h2 := showsA_ok B hB xs (by simpa [ok] using h)
    refine ⟨by simpa [PyData.showable] using h2.1, ?_⟩
    have h3 := PySem.tupleText_len_le (PyData.shownAll xs)
    simp only [PyData.shown, sz]
    have := h2.2
    omega
  | .dict _, h => by simp [ok] at h
theorem showsA_ok (B : Nat) (hB : B < 10 ^ 60) : ∀ ds : List PyData, okA B ds = true → PyData.showableAll ds = true ∧ ((PyData.shownAll ds).map (·.length)).sum + 2 * (PyData.shownAll ds).length ≤ szA ds
  | [], _ => ⟨rfl, Nat.le_refl _⟩
  | x :: xs, h => by
    have h' : ok B x = true ∧ okA B xs = true := by simpa [okA] using h
    have h1 := shows_ok B hB x h'.1
    have h2 := showsA_ok B hB xs h'.2
    refine ⟨by simp [PyData.showableAll, h1.1, h2.1], ?_⟩
    have a := h1.2
    have b := h2.2
    simp only [PyData.shownAll, List.map_cons, List.sum_cons, List.length_cons, szA]
    omega
end
theorem repr_ok {B : Nat} (hB : B < 10 ^ 60) {d : PyData} (h : ok B d = true) (hd : d.depth ≤ 60) (hs : sz d ≤ 16777216) : reprD d = some (.str d.shown) := by
  have h1 := lay_ok B d h
  have h2 := shows_ok B hB d h
  unfold reprD
  rw [if_pos ⟨h1.2, h2.1, hd, Nat.le_trans h2.2 hs⟩]
theorem shaped_ok {B : Nat} {d : PyData} (h : ok B d = true) (hd : d.depth ≤ 60) : SeqAt.shaped d = true := by
  have h1 := lay_ok B d h
  simp only [SeqAt.shaped, h1.1, Bool.true_and, decide_eq_true_eq]
  omega

/-! ### what a list keeps -/
theorem okA_sub {B : Nat} {xs ys : List PyData} (h : xs.Sublist ys) (o : okA B ys = true) : okA B xs = true := okA_iff.mpr fun x hx => okA_iff.mp o x (h.subset hx)
theorem depthA_sub {xs ys : List PyData} (h : xs.Sublist ys) : PyData.depthAll xs ≤ PyData.depthAll ys := depthA_iff.mpr fun x hx => depthA_iff.mp (Nat.le_refl _) x (h.subset hx)
theorem depthA_mem {xs : List PyData} {x : PyData} (h : x ∈ xs) : x.depth ≤ PyData.depthAll xs := depthA_iff.mp (Nat.le_refl _) x h
theorem depthA_append (xs ys : List PyData) : PyData.depthAll (xs ++ ys) = max (PyData.depthAll xs) (PyData.depthAll ys) := by
  induction xs with
  | nil => simp [PyData.depthAll]
  | cons x xs ih => simp only [List.cons_append, PyData.depthAll, ih]; omega
theorem okA_append {B : Nat} {xs ys : List PyData} : okA B (xs ++ ys) = (okA B xs && okA B ys) := by
  induction xs with
  | nil => simp [okA]
  | cons x xs ih => simp [okA, ih, Bool.and_assoc]
theorem cutD_sub (xs : List PyData) (lo hi : Option Int) : (cutD xs lo hi).Sublist xs := (List.take_sublist _ _).trans (List.drop_sublist _ _)
theorem cutD_to {xs : List PyData} {i : Int} (h : 0 ≤ i) (h2 : i ≤ xs.length) : cutD xs none (some i) = xs.take i.toNat := by
  unfold cutD HT.sIx
  have hi : ¬ i < 0 := by omega
  simp only [if_neg hi]
  simp only [List.drop_zero, Nat.sub_zero]
  congr 1
  omega
theorem cutD_from {xs : List PyData} {i : Int} (h : 0 ≤ i) : cutD xs (some i) none = xs.drop i.toNat := by
  unfold cutD HT.sIx
  have hi : ¬ i < 0 := by omega
  simp only [if_neg hi]
  by_cases h2 : i ≤ xs.length
  · have e : min i.toNat xs.length = i.toNat := by omega
    rw [e]
    exact List.take_of_length_le (by rw [List.length_drop]; exact Nat.le_refl _)
  · have e : min i.toNat xs.length = xs.length := by omega
    rw [e, List.drop_eq_nil_of_le (Nat.le_refl _), List.drop_eq_nil_of_le (by omega)]
    simp
end DL
set_option maxRecDepth 100000
set_option maxHeartbeats 4000000
/-! the mirrors of k16's defs -/
namespace K16
open PySem PySem.Spec PyProof.Rows L2 DL
def b_l_feed : XS := sRetO (nDisp [(xC (.str "cells"), x1 listD (xScr 0 none (some 63))), (xC (.str "next"), xC (.int 0)), (xC (.str "rest"), xC (.int 0)), (xC (.str "draws"), xC (.int 0))])
def m_l_feed : XF := runF 1 b_l_feed
def b_l_by_hand : XS := sSeq (sAsg (xTup (aCons (xTup (aCons (xTup (aCons (xC (.int 1)) (aCons (xC (.int 1)) (aNil)))) (aCons (xTup (aCons (xC (.int 0)) (aCons (xC (.int 1)) (aNil)))) (aCons (xC .none) (aCons (xTup (aCons (xC (.int 20)) (aCons (xC (.int 1)) (aNil)))) (aNil)))))) (aCons (xTup (aCons (xC (.str "cap")) (aCons (xTup (aCons (xTup (aCons (xC (.int 2)) (aCons (xC (.int 1)) (aNil)))) (aCons (xTup (aCons (xC (.int 0)) (aCons (xC (.int 1)) (aNil)))) (aCons (xTup (aCons (xC (.int 1)) (aCons (xC (.int 2)) (aNil)))) (aCons (xC .none) (aNil)))))) (aCons (xC (.bool false)) (aNil))))) (aNil)))) (gTp 2 (gsCons (gNm 0) (gsCons (gNm 1) (gsNil))))) (sSeq (sNew 2 (nLst (aCons (xTup (aCons (xTup (aNil)) (aCons (xTup (aNil)) (aNil)))) (aCons (xTup (aCons (xTup (aCons (xVar 1) (aCons (xVar 1) (aNil)))) (aCons (xTup (aCons (xTup (aCons (xC (.str "a")) (aCons (xC (.str "a")) (aNil)))) (aCons (xTup (aCons (xC (.str "b")) (aCons (xC (.str "a")) (aNil)))) (aCons (xTup (aCons (xC (.str "b")) (aCons (xC (.str "a")) (aNil)))) (aNil))))) (aNil)))) (aNil))))) (sSeq (sDrop (xApp 2 (xTup (aCons (xTup (aCons (xTup (aCons (xC (.str "cap")) (aCons (xVar 0) (aCons (xC (.bool true)) (aNil))))) (aNil))) (aCons (xTup (aCons (xTup (aCons (xC (.str "cap")) (aCons (xC (.str "nobody")) (aNil)))) (aNil))) (aNil)))))) (sSeq (sDrop (xExt 2 (xLst (aCons (xC .none) (aCons (xTup (aNil)) (aCons (xTup (aCons (xTup (aNil)) (aNil))) (aCons (xTup (aCons (xTup (aNil)) (aCons (xTup (aNil)) (aCons (xTup (aNil)) (aNil))))) (aCons (xLst (aCons (xTup (aNil)) (aCons (xTup (aNil)) (aNil)))) (aCons (xTup (aCons (xLst (aCons (xVar 1) (aNil))) (aCons (xTup (aNil)) (aNil)))) (aCons (xTup (aCons (xTup (aCons (xVar 1) (aNil))) (aCons (xLst (aCons (xTup (aCons (xC (.str "a")) (aCons (xC (.str "b")) (aNil)))) (aNil))) (aNil)))) (aNil))))))))))) (sSeq (sDrop (xApp 2 (xTup (aCons (xTup (aCons (xVar 1) (aNil))) (aCons (xTup (aCons (xTup (aCons (xC (.str "a")) (aCons (xC (.str "B")) (aNil)))) (aNil))) (aNil)))))) (sSeq (sFor (iOf (xLst (aCons (x2 addD (xTup (aCons (xC (.str "Cap")) (aNil))) (xSl (xVar 1) (oSome (xC (.int 1))) (oNone))) (aCons (xSl (xVar 1) (oNone) (oSome (xC (.int 2)))) (aCons (x2 addD (xVar 1) (xTup (aCons (xC (.bool true)) (aNil)))) (aCons (x2 addD (xSl (xVar 1) (oNone) (oSome (xC (.int 2)))) (xTup (aCons (xC (.int 1)) (aNil)))) (aCons (x2 addD (xSl (xVar 1) (oNone) (oSome (xC (.int 2)))) (xTup (aCons (xC .none) (aNil)))) (aCons (x1 listD (xVar 1)) (aNil))))))))) (gNm 3) (sDrop (xApp 2 (xTup (aCons (xTup (aCons (xVar 3) (aNil))) (aCons (xTup (aNil)) (aNil))))))) (sSeq (sNew 4 (nLst (aCons (xTup (aCons (xTup (aCons (xC (.int 1)) (aCons (xC (.int 1)) (aNil)))) (aCons (xTup (aCons (xC (.int 0)) (aCons (xC (.int 1)) (aNil)))) (aCons (xTup (aCons (xC (.int 1)) (aCons (xC (.int 1)) (aNil)))) (aCons (xTup (aCons (xC (.int 1)) (aCons (xC (.int 1)) (aNil)))) (aNil)))))) (aCons (xTup (aCons (xTup (aCons (xC (.int 0)) (aCons (xC (.int 1)) (aNil)))) (aCons (xTup (aCons (xC (.int 1)) (aCons (xC (.int 1)) (aNil)))) (aCons (xC .none) (aCons (xTup (aCons (xC (.int 2)) (aCons (xC (.int 1)) (aNil)))) (aNil)))))) (aCons (xTup (aCons (xTup (aCons (xC (.int 2)) (aCons (xC (.int 2)) (aNil)))) (aCons (xTup (aCons (xC (.int 0)) (aCons (xC (.int 1)) (aNil)))) (aCons (xC .none) (aCons (xC .none) (aNil)))))) (aNil)))))) (sSeq (sDrop (xExt 4 (xLst (aCons (xTup (aCons (xTup (aCons (xC (.int 1)) (aCons (xC (.int 1)) (aNil)))) (aCons (xTup (aCons (xC (.int 0)) (aCons (xC (.int 1)) (aNil)))) (aCons (xTup (aCons (xC (.int 2)) (aCons (xC (.int 1)) (aNil)))) (aCons (xTup (aCons (xC (.int 1)) (aCons (xC (.int 1)) (aNil)))) (aNil)))))) (aCons (xTup (aCons (xTup (aCons (x1 negD (xC (.int 1))) (aCons (xC (.int 1)) (aNil)))) (aCons (xTup (aCons (xC (.int 0)) (aCons (xC (.int 1)) (aNil)))) (aCons (xC .none) (aCons (xC .none) (aNil)))))) (aCons (xTup (aCons (xTup (aCons (xC (.int 1)) (aCons (xC (.int 1)) (aNil)))) (aCons (xC (.int 0)) (aCons (xC .none) (aCons (xC .none) (aNil)))))) (aCons (xSl (xVar 0) (oNone) (oSome (xC (.int 3)))) (aNil)))))))) (sRetO (nCat (x2 addD (xVar 2) (xFz (nLc (iOf (xVar 4)) (gNm 5) (cYes) (xTup (aCons (xTup (aCons (xTup (aCons (xC (.str "cap")) (aCons (xVar 5) (aCons (xC (.bool true)) (aNil))))) (aNil))) (aCons (xTup (aNil)) (aNil)))) [5]))) (xLst (aCons (xTup (aCons (xTup (aNil)) (aCons (xTup (aCons (xTup (aCons (xC (.str "a")) (aNil))) (aNil))) (aNil)))) (aCons (xTup (aCons (xTup (aNil)) (aCons (xTup (aCons (xTup (aCons (xC (.str "a")) (aCons (xC (.str "b")) (aCons (xC (.str "c")) (aNil))))) (aNil))) (aNil)))) (aNil)))))))))))))
def m_l_by_hand : XF := runF 6 b_l_by_hand
def b_l_many : XS := sRet (xIf (tst (xScrCmp neD 0 (xLst (aNil)))) (xVar 1) (xC (.int 1)))
def m_l_many : XF := runF 2 b_l_many
def b_l_draw : XS := sSeq (sPut 0 (xC (.str "draws")) (x2 addD (xGet 0 (xC (.str "draws"))) (xC (.int 1)))) (sSeq (sIf (tst (x2 eqD (xGet 0 (xC (.str "cells"))) (xLst (aNil)))) (sRet (x2 modD (xGet 0 (xC (.str "draws"))) (xVar 1))) (sNil)) (sSeq (sIf (tst (x2 gtD (xGet 0 (xC (.str "rest"))) (xC (.int 0)))) (sSeq (sSet 2 (x2 modD (xGet 0 (xC (.str "rest"))) (xVar 1))) (sSeq (sPut 0 (xC (.str "rest")) (x2 fdivD (xGet 0 (xC (.str "rest"))) (xVar 1))) (sRet (xVar 2)))) (sNil)) (sSeq (sSet 3 (xGet 0 (xC (.str "next")))) (sSeq (sPut 0 (xC (.str "next")) (x2 addD (xVar 3) (xC (.int 1)))) (sSeq (sSet 4 (x2 idxD (xGet 0 (xC (.str "cells"))) (x2 modD (xVar 3) (x1 lenD (xGet 0 (xC (.str "cells"))))))) (sSeq (sIf (xAndT (tst (x2 geD (xVar 4) (x2 powD (xC (.int 10)) (xC (.int 18))))) (tst (x2 ltD (xVar 3) (x1 lenD (xGet 0 (xC (.str "cells"))))))) (sSeq (sPut 0 (xC (.str "rest")) (x2 fdivD (xVar 4) (xVar 1))) (sRet (x2 modD (xVar 4) (xVar 1)))) (sNil)) (sSeq (sSet 5 (x2 modD (x2 addD (x2 addD (x2 modD (xVar 4) (xC (.int 1000001611))) (x2 mulD (xC (.int 91283)) (xGet 0 (xC (.str "draws"))))) (xC (.int 601))) (xC (.int 2147483563)))) (sSeq (sSet 5 (x2 modD (x2 addD (x2 addD (x2 powD (xVar 5) (xC (.int 3))) (x2 mulD (xC (.int 7100327)) (xGet 0 (xC (.str "draws"))))) (xC (.int 307))) (xC (.int 2147483497)))) (sRet (x2 modD (x2 fdivD (x2 modD (x2 addD (x2 powD (xVar 5) (xC (.int 3))) (x2 mulD (xC (.int 311)) (xVar 5))) (xC (.int 2147483489))) (xC (.int 32))) (xVar 1)))))))))))
def m_l_draw : XF := runF 6 b_l_draw
def b_l_any : XS := sRet (x2 idxD (xVar 1) (xCall (arity 2 m_l_draw) (aSlot 0 (aCons (x1 lenD (xVar 1)) (aNil)))))
def m_l_any : XF := runF 2 b_l_any
def b_l_gcd : XS := sSeq (sPar 0 1 (x1 absD (xVar 0)) (x1 absD (xVar 1))) (sSeq (sWh (gcdFuel) (tst (x2 neD (xVar 1) (xC (.int 0)))) (sPar 0 1 (xVar 1) (x2 modD (xVar 0) (xVar 1)))) (sRet (xVar 0)))
def m_l_gcd : XF := runF 2 b_l_gcd
def b_l_fraction : XS := sSeq (sIf (tst (x2 ltD (xVar 1) (xC (.int 0)))) (sPar 0 1 (x2 subD (xC (.int 0)) (xVar 0)) (x2 subD (xC (.int 0)) (xVar 1))) (sNil)) (sSeq (sSet 2 (xCall (arity 2 m_l_gcd) (aCons (xVar 0) (aCons (xVar 1) (aNil))))) (sRet (xTup (aCons (x2 fdivD (xVar 0) (xVar 2)) (aCons (x2 fdivD (xVar 1) (xVar 2)) (aNil))))))
def m_l_fraction : XF := runF 3 b_l_fraction
def b_l_add : XS := sRet (xCall (arity 2 m_l_fraction) (aCons (x2 addD (x2 mulD (x2 idxD (xVar 0) (xC (.int 0))) (x2 idxD (xVar 1) (xC (.int 1)))) (x2 mulD (x2 idxD (xVar 1) (xC (.int 0))) (x2 idxD (xVar 0) (xC (.int 1))))) (aCons (x2 mulD (x2 idxD (xVar 0) (xC (.int 1))) (x2 idxD (xVar 1) (xC (.int 1)))) (aNil))))
def m_l_add : XF := runF 2 b_l_add
def b_l_times : XS := sRet (xCall (arity 2 m_l_fraction) (aCons (x2 mulD (x2 idxD (xVar 0) (xC (.int 0))) (x2 idxD (xVar 1) (xC (.int 0)))) (aCons (x2 mulD (x2 idxD (xVar 0) (xC (.int 1))) (x2 idxD (xVar 1) (xC (.int 1)))) (aNil))))
def m_l_times : XF := runF 2 b_l_times
def b_l_less : XS := sRet (x2 ltD (x2 mulD (x2 idxD (xVar 0) (xC (.int 0))) (x2 idxD (xVar 1) (xC (.int 1)))) (x2 mulD (x2 idxD (xVar 1) (xC (.int 0))) (x2 idxD (xVar 0) (xC (.int 1)))))
def m_l_less : XF := runF 2 b_l_less
def b_l_larger : XS := sRet (xIf (xTru (xCall (arity 2 m_l_less) (aCons (xVar 0) (aCons (xVar 1) (aNil))))) (xVar 1) (xVar 0))
def m_l_larger : XF := runF 2 b_l_larger
def b_l_smaller : XS := sRet (xIf (xTru (xCall (arity 2 m_l_less) (aCons (xVar 0) (aCons (xVar 1) (aNil))))) (xVar 0) (xVar 1))
def m_l_smaller : XF := runF 2 b_l_smaller
def b_l_made : XS := sSeq (sSet 2 (xCall (arity 2 m_l_add) (aCons (xCall (arity 2 m_l_times) (aCons (x2 idxD (xVar 0) (xC (.int 0))) (aCons (xVar 1) (aNil)))) (aCons (x2 idxD (xVar 0) (xC (.int 1))) (aNil))))) (sSeq (sIf (tst (x2 notNonD (x2 idxD (xVar 0) (xC (.int 2))) (xC .none))) (sSet 2 (xCall (arity 2 m_l_larger) (aCons (xVar 2) (aCons (x2 idxD (xVar 0) (xC (.int 2))) (aNil))))) (sNil)) (sRet (xIf (tst (x2 isNonD (x2 idxD (xVar 0) (xC (.int 3))) (xC .none))) (xVar 2) (xCall (arity 2 m_l_smaller) (aCons (xVar 2) (aCons (x2 idxD (xVar 0) (xC (.int 3))) (aNil)))))))
def m_l_made : XF := runF 3 b_l_made
def b_l_normal : XS := sSeq (sIf (xOrT (tst (x2 eqD (xVar 0) (xTup (aCons (xC (.int 0)) (aCons (xC (.int 1)) (aNil)))))) (xAndT (tst (x2 notNonD (xVar 2) (xC .none))) (tst (x2 eqD (xVar 2) (xVar 3))))) (sRet (xTup (aCons (xTup (aCons (xC (.int 0)) (aCons (xC (.int 1)) (aNil)))) (aCons (xCall (arity 2 m_l_made) (aCons (xTup (aCons (xVar 0) (aCons (xVar 1) (aCons (xVar 2) (aCons (xVar 3) (aNil)))))) (aCons (xTup (aCons (xC (.int 0)) (aCons (xC (.int 1)) (aNil)))) (aNil)))) (aCons (xC .none) (aCons (xC .none) (aNil))))))) (sNil)) (sRet (xTup (aCons (xVar 0) (aCons (xVar 1) (aCons (xVar 2) (aCons (xVar 3) (aNil)))))))
def m_l_normal : XF := runF 4 b_l_normal
def b_l_clause : XS := sSeq (sPar 1 2 (xCall (arity 2 m_l_draw) (aSlot 0 (aCons (xC (.int 7)) (aNil)))) (xCall (arity 2 m_l_any) (aSlot 0 (aCons (xLst (aCons (xTup (aCons (xC (.int 5)) (aCons (xC (.int 1)) (aNil)))) (aCons (xTup (aCons (x1 negD (xC (.int 3))) (aCons (xC (.int 1)) (aNil)))) (aCons (xTup (aCons (xC (.int 0)) (aCons (xC (.int 1)) (aNil)))) (aCons (xTup (aCons (xC (.int 1)) (aCons (xC (.int 2)) (aNil)))) (aCons (xTup (aCons (x1 negD (xC (.int 7))) (aCons (xC (.int 2)) (aNil)))) (aCons (xTup (aCons (xC (.int 10)) (aCons (xC (.int 1)) (aNil)))) (aNil)))))))) (aNil))))) (sSeq (sSet 3 (xCall (arity 2 m_l_any) (aSlot 0 (aCons (xLst (aCons (xTup (aCons (xC (.int 2)) (aCons (xC (.int 1)) (aNil)))) (aCons (xTup (aCons (xC (.int 1)) (aCons (xC (.int 2)) (aNil)))) (aCons (xTup (aCons (xC (.int 9)) (aCons (xC (.int 10)) (aNil)))) (aCons (xTup (aCons (xC (.int 1)) (aCons (xC (.int 1)) (aNil)))) (aCons (xTup (aCons (xC (.int 5)) (aCons (xC (.int 3)) (aNil)))) (aNil))))))) (aNil))))) (sSeq (sSet 4 (xCall (arity 2 m_l_any) (aSlot 0 (aCons (xLst (aCons (xTup (aCons (xC (.int 0)) (aCons (xC (.int 1)) (aNil)))) (aCons (xTup (aCons (xC (.int 3)) (aCons (xC (.int 1)) (aNil)))) (aCons (xTup (aCons (x1 negD (xC (.int 4))) (aCons (xC (.int 1)) (aNil)))) (aCons (xTup (aCons (xC (.int 13)) (aCons (xC (.int 2)) (aNil)))) (aNil)))))) (aNil))))) (sSeq (sSet 5 (xCall (arity 2 m_l_add) (aCons (xVar 4) (aCons (xCall (arity 2 m_l_any) (aSlot 0 (aCons (xLst (aCons (xTup (aCons (xC (.int 1)) (aCons (xC (.int 1)) (aNil)))) (aCons (xTup (aCons (xC (.int 10)) (aCons (xC (.int 1)) (aNil)))) (aCons (xTup (aCons (xC (.int 0)) (aCons (xC (.int 1)) (aNil)))) (aCons (xTup (aCons (xC (.int 7)) (aCons (xC (.int 3)) (aNil)))) (aNil)))))) (aNil)))) (aNil))))) (sSeq (sIf (tst (x2 eqD (xVar 1) (xC (.int 0)))) (sRet (xTup (aCons (xTup (aCons (xC (.int 1)) (aCons (xC (.int 1)) (aNil)))) (aCons (xVar 2) (aCons (xC .none) (aCons (xC .none) (aNil))))))) (sNil)) (sSeq (sIf (tst (x2 eqD (xVar 1) (xC (.int 1)))) (sRet (xTup (aCons (xVar 3) (aCons (xTup (aCons (xC (.int 0)) (aCons (xC (.int 1)) (aNil)))) (aCons (xC .none) (aCons (xC .none) (aNil))))))) (sNil)) (sSeq (sIf (tst (x2 eqD (xVar 1) (xC (.int 2)))) (sRet (xTup (aCons (xTup (aCons (xC (.int 1)) (aCons (xC (.int 1)) (aNil)))) (aCons (xTup (aCons (xC (.int 0)) (aCons (xC (.int 1)) (aNil)))) (aCons (xC .none) (aCons (xVar 5) (aNil))))))) (sNil)) (sSeq (sIf (tst (x2 eqD (xVar 1) (xC (.int 3)))) (sRet (xTup (aCons (xTup (aCons (xC (.int 1)) (aCons (xC (.int 1)) (aNil)))) (aCons (xTup (aCons (xC (.int 0)) (aCons (xC (.int 1)) (aNil)))) (aCons (xVar 4) (aCons (xC .none) (aNil))))))) (sNil)) (sSeq (sIf (tst (x2 eqD (xVar 1) (xC (.int 4)))) (sRet (xCall (arity 4 m_l_normal) (aCons (xTup (aCons (xC (.int 1)) (aCons (xC (.int 1)) (aNil)))) (aCons (xTup (aCons (xC (.int 0)) (aCons (xC (.int 1)) (aNil)))) (aCons (xVar 4) (aCons (xVar 5) (aNil))))))) (sNil)) (sRet (xIf (tst (x2 eqD (xVar 1) (xC (.int 5)))) (xTup (aCons (xTup (aCons (xC (.int 0)) (aCons (xC (.int 1)) (aNil)))) (aCons (xVar 2) (aCons (xC .none) (aCons (xC .none) (aNil)))))) (xCall (arity 4 m_l_normal) (aCons (xVar 3) (aCons (xVar 2) (aCons (xVar 4) (aCons (xVar 5) (aNil))))))))))))))))
def m_l_clause : XF := runF 6 b_l_clause
def b_l_plan : XS := sSeq (sParR3 2 3 4 (rD (xSl (xLst (aCons (xC (.str "ab")) (aCons (xC (.str "b")) (aCons (xC (.str "cap")) (aCons (xC (.str "dd")) (aCons (xC (.str "e")) (aCons (xC (.str "zzzzzzzz")) (aNil)))))))) (oNone) (oSome (xCall (arity 2 m_l_draw) (aSlot 0 (aCons (x2 addD (xVar 1) (xC (.int 1))) (aNil))))))) (rN (nLst (aNil))) (rN (nLst (aNil)))) (sSeq (sFor (iOf (xVar 2)) (gNm 5) (sSeq (sDrop (xApp 4 (xTup (aCons (xVar 5) (aCons (xCall (arity 1 m_l_clause) (aSlot 0 (aNil))) (aCons (x2 gtD (xCall (arity 2 m_l_draw) (aSlot 0 (aCons (xC (.int 5)) (aNil)))) (xC (.int 0))) (aNil))))))) (sDrop (xIns 3 (xCall (arity 2 m_l_draw) (aSlot 0 (aCons (x2 addD (x1 lenD (xB (bVar 3))) (xC (.int 1))) (aNil)))) (xVar 5))))) (sSeq (sNew 6 (nDt)) (sSeq (sFor (iRng (x1 lenD (xB (bVar 3)))) (gNm 7) (sFor (iRng2' (x2 addD (xVar 7) (xC (.int 1))) (x1 lenD (xB (bVar 3)))) (gNm 8) (sIf (tst (x2 eqD (xCall (arity 2 m_l_draw) (aSlot 0 (aCons (xC (.int 4)) (aNil)))) (xC (.int 0)))) (sPut 6 (xTup (aCons (x2 idxD (xB (bVar 3)) (xB (bVar 7))) (aCons (x2 idxD (xB (bVar 3)) (xB (bVar 8))) (aNil)))) (xC (.bool true))) (sNil)))) (sRet (xTup (aCons (x1 tupleD (xB (bVar 4))) (aCons (x1 tupleD (x1 sortedX (xB (bVar 6)))) (aNil))))))))
def m_l_plan : XF := runF 9 b_l_plan
def b_l_odd : XS := sSeq (sSet 1 (xLst (aCons (xC .none) (aCons (xC (.bool true)) (aCons (xC (.bool false)) (aCons (x1 negD (xC (.int 1))) (aCons (xC (.int 0)) (aCons (xC (.int 1)) (aCons (xC (.str "")) (aCons (xC (.str "a")) (aCons (xC (.str "A")) (aCons (xTup (aNil)) (aCons (xLst (aNil)) (aCons (xTup (aCons (xC (.str "a")) (aCons (xC (.int 1)) (aNil)))) (aCons (xTup (aCons (xC (.int 1)) (aCons (xC (.int 1)) (aNil)))) (aCons (xTup (aCons (xC (.int 2)) (aCons (xC (.int 4)) (aNil)))) (aCons (xTup (aCons (xC (.str "a")) (aNil))) (aNil)))))))))))))))))) (sRet (x2 idxD (xVar 1) (xCall (arity 2 m_l_draw) (aSlot 0 (aCons (xC (.int 15)) (aNil))))))
def m_l_odd : XF := runF 2 b_l_odd
def b_l_bent (rec : XF) : XS := sSeq (sIf (xAndT (xTru (xIsi isTupD (xVar 1))) (xAndT (tst (x2 neD (xVar 1) (xTup (aNil)))) (tst (x2 gtD (xCall (arity 2 m_l_draw) (aSlot 0 (aCons (xC (.int 6)) (aNil)))) (xC (.int 0)))))) (sSeq (sSet 2 (xCall (arity 2 m_l_draw) (aSlot 0 (aCons (x1 lenD (xVar 1)) (aNil))))) (sRet (x2 addD (x2 addD (xSl (xVar 1) (oNone) (oSome (xVar 2))) (xTup (aCons (xCall (arity 2 rec) (aSlot 0 (aCons (x2 idxD (xVar 1) (xVar 2)) (aNil)))) (aNil)))) (xSl (xVar 1) (oSome (x2 addD (xVar 2) (xC (.int 1)))) (oNone))))) (sNil)) (sSeq (sSet 3 (xCall (arity 2 m_l_draw) (aSlot 0 (aCons (xC (.int 8)) (aNil))))) (sSeq (sIf (xAndT (xTru (xIsi isTupD (xVar 1))) (tst (x2 ltD (xVar 3) (xC (.int 6))))) (sSeq (sSet 4 (xLst (aCons (x1 listD (xVar 1)) (aCons (xSl (xVar 1) (oSome (xC (.int 1))) (oNone)) (aCons (xSl (xVar 1) (oNone) (oSome (x1 negD (xC (.int 1))))) (aNil)))))) (sRet (x2 idxD (x2 addD (xVar 4) (xLst (aCons (x2 addD (xVar 1) (xSl (xVar 1) (oNone) (oSome (xC (.int 1))))) (aCons (x1 revD (xVar 1)) (aCons (xTup (aCons (xVar 1) (aNil))) (aNil)))))) (xVar 3)))) (sNil)) (sSeq (sIf (xAndT (xTru (xIsi isBlD (xVar 1))) (tst (x2 ltD (xVar 3) (xC (.int 5))))) (sRet (xNot (xVar 1))) (sNil)) (sSeq (sIf (xAndT (xTru (xIsi isIntD (xVar 1))) (tst (x2 ltD (xVar 3) (xC (.int 6))))) (sSeq (sSet 4 (xLst (aCons (x2 addD (xVar 1) (xC (.int 1))) (aCons (x2 subD (xVar 1) (xC (.int 1))) (aCons (x2 eqD (xVar 1) (xC (.int 1))) (aNil)))))) (sRet (x2 idxD (x2 addD (xVar 4) (xLst (aCons (x1 strD (xVar 1)) (aCons (x2 subD (x1 negD (xC (.int 1))) (xVar 1)) (aCons (xC (.int 0)) (aNil)))))) (xVar 3)))) (sNil)) (sSeq (sIf (xAndT (xTru (xIsi isStrD (xVar 1))) (tst (x2 ltD (xVar 3) (xC (.int 5))))) (sSeq (sSet 4 (xLst (aCons (x2 addD (xVar 1) (xC (.str "a"))) (aCons (xSl (xVar 1) (oSome (xC (.int 1))) (oNone)) (aCons (xC (.str "cap")) (aNil)))))) (sRet (x2 idxD (x2 addD (xVar 4) (xLst (aCons (x2 addD (xVar 1) (xC (.str "B"))) (aCons (xLst (aCons (xVar 1) (aNil))) (aNil))))) (xVar 3)))) (sNil)) (sRet (xCall (arity 1 m_l_odd) (aSlot 0 (aNil)))))))))
def m_l_bent : Nat → XF
  | 0 => fun _ => none
  | n + 1 => runF 5 (b_l_bent (m_l_bent n))
def b_l_is_integer : XS := sRet (xAnd (xIsi isIntD (xVar 0)) (xNot (xIsi isBlD (xVar 0))))
def m_l_is_integer : XF := runF 1 b_l_is_integer
def b_l_is_fraction : XS := sSeq (sIf (xOrT (xNotT (xTru (xIsi isTupD (xVar 0)))) (tst (x2 neD (x1 lenD (xVar 0)) (xC (.int 2))))) (sRet (xC (.bool false))) (sNil)) (sSeq (sIf (xOrT (xNotT (xTru (xCall (arity 1 m_l_is_integer) (aCons (x2 idxD (xVar 0) (xC (.int 0))) (aNil))))) (xNotT (xTru (xCall (arity 1 m_l_is_integer) (aCons (x2 idxD (xVar 0) (xC (.int 1))) (aNil)))))) (sRet (xC (.bool false))) (sNil)) (sRet (xAnd (x2 gtD (x2 idxD (xVar 0) (xC (.int 1))) (xC (.int 0))) (x2 eqD (xCall (arity 2 m_l_gcd) (aCons (x2 idxD (xVar 0) (xC (.int 0))) (aCons (x2 idxD (xVar 0) (xC (.int 1))) (aNil)))) (xC (.int 1))))))
def m_l_is_fraction : XF := runF 1 b_l_is_fraction
def b_l_is_clause : XS := sSeq (sIf (xOrT (xNotT (xTru (xIsi isTupD (xVar 0)))) (tst (x2 neD (x1 lenD (xVar 0)) (xC (.int 4))))) (sRet (xC (.bool false))) (sNil)) (sSeq (sIf (xOrT (xNotT (xTru (xCall (arity 1 m_l_is_fraction) (aCons (x2 idxD (xVar 0) (xC (.int 0))) (aNil))))) (xNotT (xTru (xCall (arity 1 m_l_is_fraction) (aCons (x2 idxD (xVar 0) (xC (.int 1))) (aNil)))))) (sRet (xC (.bool false))) (sNil)) (sSeq (sSet 1 (xFz (nLc (iOf (xSl (xVar 0) (oSome (xC (.int 2))) (oNone))) (gNm 2) (tst (x2 notNonD (xVar 2) (xC .none))) (xVar 2) [2]))) (sSeq (sIf (xOrT (tst (x2 ltD (x2 idxD (x2 idxD (xVar 0) (xC (.int 0))) (xC (.int 0))) (xC (.int 0)))) (tst (x2 neD (xFz (nLc (iOf (xVar 1)) (gNm 2) (xNotT (xTru (xCall (arity 1 m_l_is_fraction) (aCons (xVar 2) (aNil))))) (xVar 2) [2])) (xLst (aNil))))) (sRet (xC (.bool false))) (sNil)) (sSeq (sIf (tst (x2 eqD (x2 idxD (xVar 0) (xC (.int 0))) (xTup (aCons (xC (.int 0)) (aCons (xC (.int 1)) (aNil)))))) (sRet (x2 eqD (xVar 1) (xLst (aNil)))) (sNil)) (sRet (xOr (x2 ltD (x1 lenD (xVar 1)) (xC (.int 2))) (xCall (arity 2 m_l_less) (aCons (x2 idxD (xVar 1) (xC (.int 0))) (aCons (x2 idxD (xVar 1) (xC (.int 1))) (aNil))))))))))
def m_l_is_clause : XF := runF 3 b_l_is_clause
def b_l_is_name : XS := sSeq (sIf (xOrT (xNotT (xTru (xIsi isStrD (xVar 0)))) (xNotT (tst (xChain leD leD (xC (.int 1)) (x1 lenD (xVar 0)) (xC (.int 8)))))) (sRet (xC (.bool false))) (sNil)) (sRet (x2 eqD (xFz (nLc (iOf (xVar 0)) (gNm 1) (xNotT (tst (xChain leD leD (xC (.str "a")) (xVar 1) (xC (.str "z"))))) (xVar 1) [1])) (xLst (aNil))))
def m_l_is_name : XF := runF 2 b_l_is_name
def b_l_is_some_shape : XS := sSeq (sIf (xOrT (xNotT (xTru (xIsi isTupD (xVar 0)))) (tst (x2 neD (x1 lenD (xVar 0)) (xC (.int 2))))) (sRet (xC (.bool false))) (sNil)) (sSeq (sIf (xOrT (xNotT (xTru (xIsi isTupD (x2 idxD (xVar 0) (xC (.int 0)))))) (xNotT (xTru (xIsi isTupD (x2 idxD (xVar 0) (xC (.int 1))))))) (sRet (xC (.bool false))) (sNil)) (sSeq (sFor (iOf (x2 idxD (xVar 0) (xC (.int 0)))) (gNm 1) (sSeq (sIf (xOrT (xNotT (xTru (xIsi isTupD (xVar 1)))) (xOrT (tst (x2 neD (x1 lenD (xVar 1)) (xC (.int 3)))) (xOrT (xNotT (xTru (xCall (arity 1 m_l_is_name) (aCons (x2 idxD (xVar 1) (xC (.int 0))) (aNil))))) (xNotT (xTru (xIsi isBlD (x2 idxD (xVar 1) (xC (.int 2))))))))) (sRet (xC (.bool false))) (sNil)) (sIf (xNotT (xTru (xCall (arity 1 m_l_is_clause) (aCons (x2 idxD (xVar 1) (xC (.int 1))) (aNil))))) (sRet (xC (.bool false))) (sNil)))) (sSeq (sFor (iOf (x2 idxD (xVar 0) (xC (.int 1)))) (gNm 2) (sIf (xOrT (xNotT (xTru (xIsi isTupD (xVar 2)))) (xOrT (tst (x2 neD (x1 lenD (xVar 2)) (xC (.int 2)))) (tst (x2 neD (xFz (nLc (iOf (xVar 2)) (gNm 3) (xNotT (xTru (xCall (arity 1 m_l_is_name) (aCons (xVar 3) (aNil))))) (xVar 3) [3])) (xLst (aNil)))))) (sRet (xC (.bool false))) (sNil))) (sRet (xC (.bool true))))))
def m_l_is_some_shape : XF := runF 4 b_l_is_some_shape
def b_is_name : XS := sSeq (sIf (xOrT (xNotT (xTru (xIsi isStrD (xVar 0)))) (xNotT (tst (xChain leD leD (xC (.int 1)) (x1 lenD (xVar 0)) (xC (.int 8)))))) (sRet (xC (.bool false))) (sNil)) (sRet (x1 allD (xFz (nLc (iOf (xVar 0)) (gNm 1) (cYes) (x2 inD (xVar 1) (xC (.str "abcdefghijklmnopqrstuvwxyz"))) [1]))))
def m_is_name : XF := runF 2 b_is_name
def b_is_less : XS := sRet (x2 ltD (x2 mulD (x2 idxD (xVar 0) (xC (.int 0))) (x2 idxD (xVar 1) (xC (.int 1)))) (x2 mulD (x2 idxD (xVar 1) (xC (.int 0))) (x2 idxD (xVar 0) (xC (.int 1)))))
def m_is_less : XF := runF 2 b_is_less
def b_common_divisor : XS := sSeq (sWh (gcdFuel) (tst (x2 neD (xVar 1) (xC (.int 0)))) (sPar 0 1 (xVar 1) (x2 modD (xVar 0) (xVar 1)))) (sRet (x1 absD (xVar 0)))
def m_common_divisor : XF := runF 2 b_common_divisor
def b_is_integer : XS := sRet (xAnd (xIsi isIntD (xVar 0)) (xNot (xIsi isBlD (xVar 0))))
def m_is_integer : XF := runF 1 b_is_integer
def b_is_fraction : XS := sSeq (sIf (xOrT (xNotT (xTru (xIsi isTupD (xVar 0)))) (tst (x2 neD (x1 lenD (xVar 0)) (xC (.int 2))))) (sRet (xC (.bool false))) (sNil)) (sSeq (sAsg (xVar 0) (gTp 2 (gsCons (gNm 1) (gsCons (gNm 2) (gsNil))))) (sSeq (sIf (xOrT (xNotT (xTru (xCall (arity 1 m_is_integer) (aCons (xVar 1) (aNil))))) (xOrT (xNotT (xTru (xCall (arity 1 m_is_integer) (aCons (xVar 2) (aNil))))) (tst (x2 ltD (xVar 2) (xC (.int 1)))))) (sRet (xC (.bool false))) (sNil)) (sRet (x2 eqD (xCall (arity 2 m_common_divisor) (aCons (xVar 1) (aCons (xVar 2) (aNil)))) (xC (.int 1))))))
def m_is_fraction : XF := runF 3 b_is_fraction
def b_is_bound : XS := sRet (xOr (x2 isNonD (xVar 0) (xC .none)) (xCall (arity 1 m_is_fraction) (aCons (xVar 0) (aNil))))
def m_is_bound : XF := runF 1 b_is_bound
def b_is_clause : XS := sSeq (sIf (xOrT (xNotT (xTru (xIsi isTupD (xVar 0)))) (tst (x2 neD (x1 lenD (xVar 0)) (xC (.int 4))))) (sRet (xC (.bool false))) (sNil)) (sSeq (sAsg (xVar 0) (gTp 4 (gsCons (gNm 1) (gsCons (gNm 2) (gsCons (gNm 3) (gsCons (gNm 4) (gsNil))))))) (sSeq (sIf (xOrT (xNotT (xTru (x1 allD (xLst (aCons (xCall (arity 1 m_is_fraction) (aCons (xVar 1) (aNil))) (aCons (xCall (arity 1 m_is_fraction) (aCons (xVar 2) (aNil))) (aCons (xCall (arity 1 m_is_bound) (aCons (xVar 3) (aNil))) (aCons (xCall (arity 1 m_is_bound) (aCons (xVar 4) (aNil))) (aNil))))))))) (tst (x2 ltD (x2 idxD (xVar 1) (xC (.int 0))) (xC (.int 0))))) (sRet (xC (.bool false))) (sNil)) (sSeq (sIf (tst (x2 eqD (x2 idxD (xVar 1) (xC (.int 0))) (xC (.int 0)))) (sRet (xAnd (x2 isNonD (xVar 3) (xC .none)) (x2 isNonD (xVar 4) (xC .none)))) (sNil)) (sRet (xOr (x2 isNonD (xVar 3) (xC .none)) (xOr (x2 isNonD (xVar 4) (xC .none)) (xCall (arity 2 m_is_less) (aCons (xVar 3) (aCons (xVar 4) (aNil))))))))))
def m_is_clause : XF := runF 5 b_is_clause
def b_is_rule_row : XS := sSeq (sIf (xOrT (xNotT (xTru (xIsi isTupD (xVar 0)))) (tst (x2 neD (x1 lenD (xVar 0)) (xC (.int 3))))) (sRet (xC (.bool false))) (sNil)) (sRet (xAnd (xCall (arity 1 m_is_name) (aCons (x2 idxD (xVar 0) (xC (.int 0))) (aNil))) (xAnd (xCall (arity 1 m_is_clause) (aCons (x2 idxD (xVar 0) (xC (.int 1))) (aNil))) (xIsi isBlD (x2 idxD (xVar 0) (xC (.int 2)))))))
def m_is_rule_row : XF := runF 1 b_is_rule_row
def b_is_name_pair : XS := sRet (xAnd (xIsi isTupD (xVar 0)) (xAnd (x2 eqD (x1 lenD (xVar 0)) (xC (.int 2))) (xAnd (xCall (arity 1 m_is_name) (aCons (x2 idxD (xVar 0) (xC (.int 0))) (aNil))) (xCall (arity 1 m_is_name) (aCons (x2 idxD (xVar 0) (xC (.int 1))) (aNil))))))
def m_is_name_pair : XF := runF 1 b_is_name_pair
def b_has_plan_shape : XS := sSeq (sIf (xOrT (xNotT (xTru (xIsi isTupD (xVar 0)))) (xOrT (tst (x2 neD (x1 lenD (xVar 0)) (xC (.int 2)))) (xNotT (xTru (x1 allD (xFz (nLc (iOf (xVar 0)) (gNm 3) (cYes) (xIsi isTupD (xVar 3)) [3]))))))) (sRet (xC (.bool false))) (sNil)) (sSeq (sAsg (xVar 0) (gTp 2 (gsCons (gNm 1) (gsCons (gNm 2) (gsNil))))) (sRet (xAnd (x1 allD (xFz (nLc (iOf (xVar 1)) (gNm 4) (cYes) (xCall (arity 1 m_is_rule_row) (aCons (xVar 4) (aNil))) [4]))) (x1 allD (xFz (nLc (iOf (xVar 2)) (gNm 5) (cYes) (xCall (arity 1 m_is_name_pair) (aCons (xVar 5) (aNil))) [5]))))))
def m_has_plan_shape : XF := runF 6 b_has_plan_shape
def b_law : XS := sSeq (sNew 1 (nCall (arity 1 m_l_feed) (aSlot 0 (aNil)))) (sSeq (sNew 2 (nCall m_l_by_hand aNil)) (sSeq (sFor (iRng (xCall (arity 2 m_l_many) (aSlot 0 (aCons (xC (.int 6)) (aNil))))) (gNm 3) (sSeq (sSet 4 (xCall (arity 2 m_l_plan) (aSlot 1 (aCons (xC (.int 6)) (aNil))))) (sSeq (sSet 5 (xFz (nLc (iRng (xCall (arity 2 m_l_many) (aSlot 0 (aCons (xC (.int 6)) (aNil))))) (gNm 9) (cYes) (xCall (arity 2 (m_l_bent 30)) (aSlot 1 (aCons (xVar 4) (aNil)))) [9]))) (sDrop (xExt 2 (x2 addD (x2 addD (xLst (aCons (xVar 4) (aNil))) (xVar 5)) (xFz (nLc (iOf (xVar 5)) (gNm 10) (cYes) (xCall (arity 2 (m_l_bent 30)) (aSlot 1 (aCons (xVar 10) (aNil)))) [10])))))))) (sSeq (sSet 6 (x1 reprD (xB (bVar 2)))) (sSeq (sFor (iOf (x2 addD (xVar 2) (xSl (xVar 2) (oNone) (oSome (xC (.int 2)))))) (gNm 7) (sSeq (sSet 8 (x1 reprD (xCall (arity 1 m_l_is_some_shape) (aCons (xVar 7) (aNil))))) (sIf (xOrT (tst (x2 neD (x1 reprD (xCall (arity 1 m_has_plan_shape) (aCons (xVar 7) (aNil)))) (xVar 8))) (tst (x2 neD (x1 reprD (xCall m_has_plan_shape (aPick [.inl 0] (aNil) (aCons (xVar 7) (aNil))))) (xVar 8)))) (sRet (xC (.bool false))) (sNil)))) (sRet (x2 eqD (x1 reprD (xB (bVar 2))) (xVar 6)))))))
def m_law : XF := runF 11 b_law
end K16
set_option maxRecDepth 100000
set_option maxHeartbeats 2000000
namespace K16
open PySem PySem.Spec PyProof.Rows L2 DL
def FL (c : List PyData) (a l n : Int) : List (Key × PyData) := [(.inr "cells", .list c), (.inr "next", .int a), (.inr "rest", .int l), (.inr "draws", .int n)]
section
variable (c : List PyData) (a l n : Int)
@[simp] theorem fg1 : getD' (FL c a l n) (.inr "cells") = some (.list c) := rfl
@[simp] theorem fg2 : getD' (FL c a l n) (.inr "next") = some (.int a) := rfl
@[simp] theorem fg3 : getD' (FL c a l n) (.inr "rest") = some (.int l) := rfl
@[simp] theorem fg4 : getD' (FL c a l n) (.inr "draws") = some (.int n) := rfl
@[simp] theorem fp2 (x : Int) : putD (FL c a l n) (.inr "next") (.int x) = FL c x l n := rfl
@[simp] theorem fp3 (x : Int) : putD (FL c a l n) (.inr "rest") (.int x) = FL c a x n := rfl
@[simp] theorem fp4 (x : Int) : putD (FL c a l n) (.inr "draws") (.int x) = FL c a l x := rfl
@[simp] theorem fl_inj (c' : List PyData) (a' l' n' : Int) : (FL c a l n = FL c' a' l' n') ↔ c = c' ∧ a = a' ∧ l = l' ∧ n = n' := by simp [FL]
@[simp] theorem fln : (FL c a l n).length = 4 := rfl
theorem lg {n k : Nat} (h : n < 2 ^ k) (hk : 0 < k) : n.log2 < k := by
  by_cases h0 : n = 0
  · subst h0; simpa using hk
  · exact (Nat.log2_lt h0).mpr h
theorem o_mulS {i j : Int} (hi : i.natAbs < 2 ^ 200) (hj : j.natAbs < 2 ^ 200) : mulD (.int i) (.int j) = some (.int (i * j)) := by
  refine o_mul ?_
  have h1 := lg hi (by decide)
  have h2 := lg hj (by decide)
  omega
theorem sm_mod {x j : Int} (h : 0 < j) (h2 : j < 2 ^ 100) : (x % j).natAbs < 2 ^ 200 := by
  have h1 := Int.emod_nonneg x (show j ≠ 0 by omega)
  have h3 := Int.emod_lt_of_pos x h
  omega
theorem ne_ints (ns : List Int) : neD (.list (ns.map .int)) (.list []) = some (.bool (!ns.isEmpty)) := by
  rw [neD_of (PySem.W.ke_shaped_ints ns) rfl]
  cases ns <;> rfl
theorem at_ints {ns : List Int} (h : ns ≠ []) {a : Int} (ha : 0 ≤ a) : ∃ q, atI (ns.map PyData.int) (a % (ns.length : Int)) = some (.int q) := by
  have hl : 0 < ns.length := List.length_pos_iff.mpr h
  have h1 := Int.emod_nonneg a (show (ns.length : Int) ≠ 0 by omega)
  have h2 := Int.emod_lt_of_pos a (show (0 : Int) < ns.length by omega)
  refine ⟨ns[(a % (ns.length : Int)).toNat]'(by omega), ?_⟩
  rw [at_nn h1 (by rw [List.length_map]; exact h2), List.getElem?_map, List.getElem?_eq_getElem (by omega)]
  rfl
theorem eq_ints (ns : List Int) : eqD (.list (ns.map .int)) (.list []) = some (.bool ns.isEmpty) := by
  rw [eqD_of (PySem.W.ke_shaped_ints ns) rfl]
  cases ns <;> rfl
theorem t_draw2 (ns : List Int) (k : Int) (io : Bool) (ha : 0 ≤ a) (hn0 : 0 ≤ n) (hn : n < 2 ^ 50) (hk : 0 < k) (hk2 : k.natAbs.log2 < 9000) :
    ∃ r a' l', m_l_draw [.own (.od (FL (ns.map .int) a l n)) io, .d (.int k)] = some (.d (.int r), [.own (.od (FL (ns.map .int) a' l' (n + 1))) io, .d (.int k)]) ∧ 0 ≤ r ∧ r < k ∧ 0 ≤ a' := by
  have hc : (n + 1).natAbs < 2 ^ 200 := by omega
  have h10 : powD (.int 10) (.int 18) = some (.int (10 ^ 18)) := o_pow ⟨by decide, by decide, by decide⟩
  have sm64 : ∀ x j : Int, 0 < j → j < 2 ^ 40 → (x % j).natAbs < 2 ^ 64 := fun x j h1 h2 => by
    have h3 := Int.emod_nonneg x (show j ≠ 0 by omega)
    have h4 := Int.emod_lt_of_pos x h1
    omega
  have p1 : ∀ x : Int, powD (.int (x % 2147483563)) (.int 3) = some (.int ((x % 2147483563) ^ 3)) := fun x => o_pow ⟨by decide, by decide, sm64 x _ (by decide) (by decide)⟩
  have p2 : ∀ x : Int, powD (.int (x % 2147483497)) (.int 3) = some (.int ((x % 2147483497) ^ 3)) := fun x => o_pow ⟨by decide, by decide, sm64 x _ (by decide) (by decide)⟩
  have m3 : mulD (.int 91283) (.int (n + 1)) = some (.int (91283 * (n + 1))) := o_mulS (by decide) hc
  have m4 : mulD (.int 7100327) (.int (n + 1)) = some (.int (7100327 * (n + 1))) := o_mulS (by decide) hc
  have m5 : ∀ x : Int, mulD (.int 311) (.int (x % 2147483497)) = some (.int (311 * (x % 2147483497))) := fun x => o_mulS (by decide) (sm_mod (by decide) (by decide))
  have md : ∀ x y : Int, 0 < y → modD (.int x) (.int y) = some (.int (x % y)) := fun x y h => o_mod h
  have fx : ∀ x : Int, fdivD (.int x) (.int 32) = some (.int (x / 32)) := fun x => o_fdiv (by decide) (by decide)
  have en : ∀ x : Int, 0 ≤ x % k ∧ x % k < k := fun x => ⟨Int.emod_nonneg _ (Int.ne_of_gt hk), Int.emod_lt_of_pos _ hk⟩
  by_cases h : ns = []
  · subst h
    exact ⟨(n + 1) % k, a, l, by simp [m_l_draw, e_run, b_l_draw, sizeL, (show eqD (.list []) (.list []) = some (.bool true) from rfl), o_mod hk], (en _).1, (en _).2, ha⟩
  · have hne := eq_ints ns
    have he : ns.isEmpty = false := by cases ns <;> simp_all
    by_cases hl : 0 < l
    · exact ⟨l % k, a, l / k, by simp [m_l_draw, e_run, b_l_draw, sizeL, hne, he, hl, o_mod hk, o_fdiv hk hk2], (en _).1, (en _).2, ha⟩
    · obtain ⟨q, hq⟩ := at_ints h ha
      have hlen : (0 : Int) < ns.length := by have := List.length_pos_iff.mpr h; omega
      by_cases hg : (1000000000000000000 : Int) ≤ q
      · by_cases hg2 : a < ns.length
        · exact ⟨q % k, a + 1, q / k, by simp [m_l_draw, e_run, b_l_draw, sizeL, hl, hne, he, o_mod hlen, hq, hg, hg2, h10, o_mod hk, o_fdiv hk hk2, md], (en _).1, (en _).2, by omega⟩
        · exact ⟨_, a + 1, l, by simp [m_l_draw, e_run, b_l_draw, sizeL, hl, hne, he, o_mod hlen, hq, hg, hg2, h10, md, p1, p2, m3, m4, m5, fx, hk]; rfl, (en _).1, (en _).2, by omega⟩
      · exact ⟨_, a + 1, l, by simp [m_l_draw, e_run, b_l_draw, sizeL, hl, hne, he, o_mod hlen, hq, hg, h10, md, p1, p2, m3, m4, m5, fx, hk]; rfl, (en _).1, (en _).2, by omega⟩
end
/-- the feed is good: k draws at most -/
def Fd (N : Nat) (o : OD) : Prop := ∃ (ns : List Int) (a l n : Int), o = .od (FL (ns.map .int) a l n) ∧ 0 ≤ a ∧ 0 ≤ n ∧ n ≤ N
theorem Fd.mono {N M : Nat} {o : OD} (h : Fd N o) (hm : N ≤ M) : Fd M o := by
  obtain ⟨ns, a, l, n, rfl, h1, h2, h3⟩ := h
  exact ⟨ns, a, l, n, rfl, h1, h2, by omega⟩
theorem t_draw {N : Nat} {o : OD} (h : Fd N o) (hN : N < 2 ^ 50) {k : Int} (hk : 0 < k) (hk2 : k < 2 ^ 50) (io : Bool) :
    ∃ r o', m_l_draw [.own o io, .d (.int k)] = some (.d (.int r), [.own o' io, .d (.int k)]) ∧ 0 ≤ r ∧ r < k ∧ Fd (N + 1) o' := by
  obtain ⟨ns, a, l, n, rfl, h1, h2, h3⟩ := h
  have hk3 : k.natAbs.log2 < 9000 := lg (Nat.lt_of_lt_of_le (show k.natAbs < 2 ^ 50 by omega) (Nat.pow_le_pow_right (by decide) (by decide))) (by decide)
  obtain ⟨r, a', l', e, q1, q2, q3⟩ := t_draw2 a l n ns k io h1 h2 (by omega) hk hk3
  exact ⟨r, _, e, q1, q2, ns, a', l', n + 1, rfl, q3, by omega, by omega⟩
theorem t_feed (ns : List Int) : ∃ o, m_l_feed [.scr ns] = some (.n o, [.scr ns]) ∧ Fd 0 o := by
  refine ⟨.od (FL ((ns.take 63).map .int) 0 0 0), ?_, ns.take 63, 0, 0, 0, rfl, by decide, by decide, by decide⟩
  have h : DL.cutD (ns.map PyData.int) none (some 63) = (ns.take 63).map PyData.int := by
    unfold DL.cutD HT.sIx
    have hi : ¬ (63 : Int) < 0 := by decide
    simp only [if_neg hi, List.drop_zero, Nat.sub_zero, List.length_map]
    rw [← List.map_take]
    congr 1
    have : min (63 : Int).toNat ns.length = min 63 ns.length := rfl
    rw [this, ← List.take_take, List.take_length]
  simp [m_l_feed, e_run, b_l_feed, nDisp, prX, h, mergeD]
  rfl
end K16
set_option maxRecDepth 100000
set_option maxHeartbeats 2000000
namespace K16
open PySem PySem.Spec PyProof.Rows L2 DL
@[simp] theorem at0 (x : PyData) (xs : List PyData) : atI (x :: xs) 0 = some x := by
  rw [at_nn (by decide) (by simp only [List.length_cons]; omega)]; rfl
@[simp] theorem at1 (x y : PyData) (xs : List PyData) : atI (x :: y :: xs) 1 = some y := by
  rw [at_nn (by decide) (by simp only [List.length_cons]; omega)]; rfl
@[simp] theorem at2 (x y z : PyData) (xs : List PyData) : atI (x :: y :: z :: xs) 2 = some z := by
  rw [at_nn (by decide) (by simp only [List.length_cons]; omega)]; rfl
@[simp] theorem at3 (x y z w : PyData) (xs : List PyData) : atI (x :: y :: z :: w :: xs) 3 = some w := by
  rw [at_nn (by decide) (by simp only [List.length_cons]; omega)]; rfl
theorem eqD_ok {B : Nat} {x y : PyData} (hx : ok B x = true) (hy : ok B y = true) (dx : x.depth ≤ 60) (dy : y.depth ≤ 60) : eqD x y = some (.bool (PyData.eqv x y)) := by
  exact eqD_of (shaped_ok hx dx) (shaped_ok hy dy)
theorem neD_ok {B : Nat} {x y : PyData} (hx : ok B x = true) (hy : ok B y = true) (dx : x.depth ≤ 60) (dy : y.depth ≤ 60) : neD x y = some (.bool (!PyData.eqv x y)) := by
  exact neD_of (shaped_ok hx dx) (shaped_ok hy dy)
theorem atI_mem {xs : List PyData} {i : Int} (h0 : 0 ≤ i) (h1 : i < xs.length) : ∃ y, atI xs i = some y ∧ y ∈ xs := by
  refine ⟨xs[i.toNat]'(by omega), ?_, List.getElem_mem _⟩
  rw [at_nn h0 h1, List.getElem?_eq_getElem]
@[simp] theorem eqD_int (i j : Int) : eqD (.int i) (.int j) = some (.bool (i == j)) := rfl
@[simp] theorem neD_int (i j : Int) : neD (.int i) (.int j) = some (.bool (!(i == j))) := rfl
@[simp] theorem n0 : noneD .none = true := rfl
@[simp] theorem o_itT (xs : List PyData) : itD (.tuple xs) = some xs := rfl
@[simp] theorem o_itL (xs : List PyData) : itD (.list xs) = some xs := rfl
@[simp] theorem o_slT (xs : List PyData) (lo hi : Option Int) : slD (.tuple xs) lo hi = some (.tuple (cutD xs lo hi)) := rfl
@[simp] theorem o_slL (xs : List PyData) (lo hi : Option Int) : slD (.list xs) lo hi = some (.list (cutD xs lo hi)) := rfl
@[simp] theorem o_revL (xs : List PyData) : revD (.list xs) = some (.list xs.reverse) := rfl
@[simp] theorem o_revT (xs : List PyData) : revD (.tuple xs) = some (.tuple xs.reverse) := rfl
theorem fs_free {ρ : Nv} {i : Nat} {e : EV} (h : ρ[i]? = some e) (f : Fs e) : free ρ i = true := by
  rw [e_free, h]
  rcases f with rfl | ⟨d, rfl⟩ | ⟨o, rfl⟩ <;> rfl
section
variable {a b c d f g h i e : EV} {r : Nv}
theorem fr1 (q : Fs e) : free (a :: e :: r) 1 = true := fs_free rfl q
theorem fr2 (q : Fs e) : free (a :: b :: e :: r) 2 = true := fs_free rfl q
theorem fr3 (q : Fs e) : free (a :: b :: c :: e :: r) 3 = true := fs_free rfl q
theorem fr4 (q : Fs e) : free (a :: b :: c :: d :: e :: r) 4 = true := fs_free rfl q
theorem fr5 (q : Fs e) : free (a :: b :: c :: d :: f :: e :: r) 5 = true := fs_free rfl q
theorem fr6 (q : Fs e) : free (a :: b :: c :: d :: f :: g :: e :: r) 6 = true := fs_free rfl q
theorem fr7 (q : Fs e) : free (a :: b :: c :: d :: f :: g :: h :: e :: r) 7 = true := fs_free rfl q
theorem fr8 (q : Fs e) : free (a :: b :: c :: d :: f :: g :: h :: i :: e :: r) 8 = true := fs_free rfl q
end
@[simp] theorem e_fz (n : XN) (ρ : Nv) : xFz n ρ = (n ρ).map fun p => (odD p.1, p.2) := rfl
@[simp] theorem e_lc (it : XI) (g : XG) (c : XT) (e : XE) (vs : List Nat) (ρ : Nv) : nLc it g c e vs ρ = (it ρ).bind fun p => if unAt p.2 vs = true then (lcL g c e vs p.1 p.2 []).map fun q => (.ol q.1, q.2) else none := rfl
@[simp] theorem e_lcN (g : XG) (c : XT) (e : XE) (vs : List Nat) (ρ : Nv) (acc : List PyData) : lcL g c e vs [] ρ acc = some (acc, ρ) := rfl
@[simp] theorem e_lcC (g : XG) (c : XT) (e : XE) (vs : List Nat) (d : PyData) (ds : List PyData) (ρ : Nv) (acc : List PyData) : lcL g c e vs (d :: ds) ρ acc = ((g d ρ).bind fun ρ1 => (c ρ1).bind fun p => if p.1 = true then (e p.2).bind fun q => if acc.length < sizeLine then (wipeN q.2 vs).bind fun ρ2 => lcL g c e vs ds ρ2 (acc ++ [q.1]) else none
    else (wipeN p.2 vs).bind fun ρ2 => lcL g c e vs ds ρ2 acc) := rfl
@[simp] theorem e_wipe0 (ρ : Nv) : wipeN ρ [] = some ρ := rfl
@[simp] theorem e_wipe1 (ρ : Nv) (v : Nat) (vs : List Nat) : wipeN ρ (v :: vs) = if free ρ v = true then wipeN (ρ.set v .un) vs else none := rfl
@[simp] theorem e_yes (ρ : Nv) : cYes ρ = some (true, ρ) := rfl
@[simp] theorem e_rng (f : XE) (ρ : Nv) : iRng f ρ = (f ρ).bind fun p => match p.1 with | .int j => if -(2 ^ 62) ≤ j ∧ j < 2 ^ 62 then some (rngD 0 j.toNat, p.2) else none | _ => none := rfl
@[simp] theorem odD_ol (xs : List PyData) : odD (.ol xs) = .list xs := rfl
end K16
set_option maxRecDepth 100000
set_option maxHeartbeats 4000000
namespace K16
open PySem PySem.Spec PyProof.Rows L2 DL
/-- good data -/
structure Gd (B D S : Nat) (x : PyData) : Prop where
  o : ok B x = true
  d : x.depth ≤ D
  s : sz x ≤ S
mutual
theorem ok_mono {B C : Nat} (h : B ≤ C) : ∀ x : PyData, ok B x = true → ok C x = true
  | .none, _ => rfl
  | .bool _, _ => rfl
  | .int i, q => by
    have q' : i.natAbs ≤ B := by simpa [ok] using q
    simp [ok]; omega
  | .str s, q => q
  | .list xs, q => by
    have := okA_mono h xs (by simpa [ok] using q)
    simpa [ok] using this
  | .tuple xs, q => by
    have := okA_mono h xs (by simpa [ok] using q)
    simpa [ok] using this
  | .dict _, q => by simp [ok] at q
theorem okA_mono {B C : Nat} (h : B ≤ C) : ∀ xs : List PyData, okA B xs = true → okA C xs = true
  | [], _ => rfl
  | x :: xs, q => by
    have q' : ok B x = true ∧ okA B xs = true := by simpa [okA] using q
    simp [okA, ok_mono h x q'.1, okA_mono h xs q'.2]
end
theorem Gd.mono {B C D E S T : Nat} {x : PyData} (h : Gd B D S x) (h1 : B ≤ C) (h2 : D ≤ E) (h3 : S ≤ T) : Gd C E T x := ⟨ok_mono h1 x h.o, Nat.le_trans h.d h2, Nat.le_trans h.s h3⟩
def oddL : List PyData := [.none, .bool true, .bool false, .int (-1), .int 0, .int 1, .str "", .str "a", .str "A", .tuple [], .list [], .tuple [.str "a", .int 1], .tuple [.int 1, .int 1], .tuple [.int 2, .int 4], .tuple [.str "a"]]
def gdB (B D S : Nat) (x : PyData) : Bool := ok B x && decide (x.depth ≤ D) && decide (sz x ≤ S)
theorem gdB_ok {B D S : Nat} {x : PyData} (h : gdB B D S x = true) : Gd B D S x := by
  unfold gdB at h
  simp only [Bool.and_eq_true, decide_eq_true_eq] at h
  exact ⟨h.1.1, h.1.2, h.2⟩
theorem odd_ok : ∀ x ∈ oddL, Gd (10 ^ 59) 2 1630 x := fun x hx => gdB_ok (List.all_eq_true.mp (show oddL.all (gdB (10 ^ 59) 2 1630) = true by decide +kernel) x hx)
theorem t_l_odd {N : Nat} {o : OD} (h : Fd N o) (hN : N < 2 ^ 40) (io : Bool) : ∃ x o', m_l_odd [.own o io] = some (.d x, [.own o' io]) ∧ Gd (10 ^ 59) 2 1630 x ∧ Fd (N + 1) o' := by
  obtain ⟨r, o', e, h1, h2, h3⟩ := t_draw h (by omega) (k := 15) (by decide) (by decide) true
  obtain ⟨y, ey, hy⟩ := atI_mem (xs := oddL) h1 h2
  simp only [oddL] at ey
  exact ⟨y, o', by simp [m_l_odd, e_run, b_l_odd, sizeL, e, ey], odd_ok y hy, h3⟩
def c_bent : XT := xAndT (xTru (xIsi isTupD (xVar 1))) (xAndT (tst (x2 neD (xVar 1) (xTup (aNil)))) (tst (x2 gtD (xCall (arity 2 m_l_draw) (aSlot 0 (aCons (xC (.int 6)) (aNil)))) (xC (.int 0)))))
def a_bent (rec : XF) : XS := sSeq (sSet 2 (xCall (arity 2 m_l_draw) (aSlot 0 (aCons (x1 lenD (xVar 1)) (aNil))))) (sRet (x2 addD (x2 addD (xSl (xVar 1) (oNone) (oSome (xVar 2))) (xTup (aCons (xCall (arity 2 rec) (aSlot 0 (aCons (x2 idxD (xVar 1) (xVar 2)) (aNil)))) (aNil)))) (xSl (xVar 1) (oSome (x2 addD (xVar 2) (xC (.int 1)))) (oNone))))
def t_bent : XS := sSeq (sSet 3 (xCall (arity 2 m_l_draw) (aSlot 0 (aCons (xC (.int 8)) (aNil))))) (sSeq (sIf (xAndT (xTru (xIsi isTupD (xVar 1))) (tst (x2 ltD (xVar 3) (xC (.int 6))))) (sSeq (sSet 4 (xLst (aCons (x1 listD (xVar 1)) (aCons (xSl (xVar 1) (oSome (xC (.int 1))) (oNone)) (aCons (xSl (xVar 1) (oNone) (oSome (x1 negD (xC (.int 1))))) (aNil)))))) (sRet (x2 idxD (x2 addD (xVar 4) (xLst (aCons (x2 addD (xVar 1) (xSl (xVar 1) (oNone) (oSome (xC (.int 1))))) (aCons (x1 revD (xVar 1)) (aCons (xTup (aCons (xVar 1) (aNil))) (aNil)))))) (xVar 3)))) (sNil)) (sSeq (sIf (xAndT (xTru (xIsi isBlD (xVar 1))) (tst (x2 ltD (xVar 3) (xC (.int 5))))) (sRet (xNot (xVar 1))) (sNil)) (sSeq (sIf (xAndT (xTru (xIsi isIntD (xVar 1))) (tst (x2 ltD (xVar 3) (xC (.int 6))))) (sSeq (sSet 4 (xLst (aCons (x2 addD (xVar 1) (xC (.int 1))) (aCons (x2 subD (xVar 1) (xC (.int 1))) (aCons (x2 eqD (xVar 1) (xC (.int 1))) (aNil)))))) (sRet (x2 idxD (x2 addD (xVar 4) (xLst (aCons (x1 strD (xVar 1)) (aCons (x2 subD (x1 negD (xC (.int 1))) (xVar 1)) (aCons (xC (.int 0)) (aNil)))))) (xVar 3)))) (sNil)) (sSeq (sIf (xAndT (xTru (xIsi isStrD (xVar 1))) (tst (x2 ltD (xVar 3) (xC (.int 5))))) (sSeq (sSet 4 (xLst (aCons (x2 addD (xVar 1) (xC (.str "a"))) (aCons (xSl (xVar 1) (oSome (xC (.int 1))) (oNone)) (aCons (xC (.str "cap")) (aNil)))))) (sRet (x2 idxD (x2 addD (xVar 4) (xLst (aCons (x2 addD (xVar 1) (xC (.str "B"))) (aCons (xLst (aCons (xVar 1) (aNil))) (aNil))))) (xVar 3)))) (sNil)) (sRet (xCall (arity 1 m_l_odd) (aSlot 0 (aNil))))))))
theorem bent_eq (rec : XF) : b_l_bent rec = sSeq (sIf c_bent (a_bent rec) sNil) t_bent := rfl

theorem gd_tup {B D S : Nat} {xs : List PyData} (h1 : okA B xs = true) (h2 : PyData.depthAll xs + 1 ≤ D) (h3 : 8 + szA xs ≤ S) : Gd B D S (.tuple xs) := ⟨by simpa [ok] using h1, by simpa [PyData.depth] using h2, by simpa [sz] using h3⟩
theorem gd_lst {B D S : Nat} {xs : List PyData} (h1 : okA B xs = true) (h2 : PyData.depthAll xs + 1 ≤ D) (h3 : 8 + szA xs ≤ S) : Gd B D S (.list xs) := ⟨by simpa [ok] using h1, by simpa [PyData.depth] using h2, by simpa [sz] using h3⟩
theorem Gd.tup {B D S : Nat} {xs : List PyData} (h : Gd B D S (.tuple xs)) : okA B xs = true ∧ PyData.depthAll xs + 1 ≤ D ∧ 8 + szA xs ≤ S := ⟨by simpa [ok] using h.o, by simpa [PyData.depth] using h.d, by simpa [sz] using h.s⟩
theorem Gd.str {B D S : Nat} {s : Str} (h : Gd B D S (.str s)) : (∀ c ∈ s.cps.toList, c < 128) ∧ 12 * s.length + 12 ≤ S := ⟨okS h.o, by simpa [sz] using h.s⟩
theorem gd_str {B D S : Nat} {s : Str} (h1 : ∀ c ∈ s.cps.toList, c < 128) (h2 : 12 * s.length + 12 ≤ S) : Gd B D S (.str s) := ⟨by unfold ok; exact List.all_eq_true.mpr fun c hc => decide_eq_true (h1 c hc), Nat.zero_le _, by simpa [sz] using h2⟩
theorem gd_int {B D S : Nat} {i : Int} (h1 : i.natAbs ≤ B) (h2 : 800 ≤ S) : Gd B D S (.int i) := ⟨by simpa [ok] using h1, Nat.zero_le _, by simpa [sz] using h2⟩
theorem gd_one {B D S : Nat} {x : PyData} (h : Gd B D S x) : Gd B (D + 1) (S + 10) (.list [x]) := gd_lst (by simp [okA, h.o]) (by have := h.d; simp [PyData.depthAll]; omega) (by have := h.s; simp [szA]; omega)
theorem len_sz {xs : List PyData} {S : Nat} (h : 8 + szA xs ≤ S) : xs.length ≤ S := by have := szA_len xs; omega
theorem t_tail {B D S N : Nat} {o : OD} {x : PyData} (hx : Gd B D S x) (hB : 10 ^ 59 ≤ B) (hB2 : B + 1 < 10 ^ 60) (hS : S ≤ 1000000) (h : Fd N o) (hN : N < 2 ^ 35) (io : Bool) :
    ∃ y o' e2 e3 e4, t_bent [.own o io, .d x, .un, .un, .un] = some (.rt y [.own o' io, .d x, e2, e3, e4]) ∧ Gd (B + 1) (D + 2) (2 * S + 1700) y ∧ Fd (N + 2) o' := by
  obtain ⟨r, o1, e1, h1, h2, f1⟩ := t_draw h (by omega) (k := 8) (by decide) (by decide) true
  obtain ⟨w, o2, e2, hw, f2⟩ := t_l_odd f1 (by omega) true
  have hw' : Gd (B + 1) (D + 2) (2 * S + 1700) w := hw.mono (by omega) (by omega) (by omega)
  have f1' := f1.mono (show N + 1 ≤ N + 2 by omega)
  cases x with
  | none => exact ⟨w, o2, _, _, _, by simp [t_bent, isTupD, isBlD, isStrD, isIntD, e1, e2]; first | exact ⟨rfl, rfl, rfl⟩ | rfl, hw', f2⟩
  | list xs => exact ⟨w, o2, _, _, _, by simp [t_bent, isTupD, isBlD, isStrD, isIntD, e1, e2]; first | exact ⟨rfl, rfl, rfl⟩ | rfl, hw', f2⟩
  | dict xs => exact absurd hx.o (by simp [ok])
  | tuple xs =>
    by_cases h7 : r < 6
    · obtain ⟨a1, a2, a3⟩ := hx.tup
      have c1 := cutD_sub xs (some 1) none
      have c2 := cutD_sub xs none (some (-1))
      have c3 := cutD_sub xs none (some 1)
      have l0 := len_sz a3
      have l3 := c3.length_le
      have q1 : xs.length + (cutD xs none (some 1)).length ≤ 16777216 := by omega
      have q2 : xs.length + 1 ≤ 16777216 := by omega
      obtain ⟨y, ey, hy⟩ := atI_mem (xs := [.list xs, .tuple (cutD xs (some 1) none), .tuple (cutD xs none (some (-1))), .tuple (xs ++ cutD xs none (some 1)), .tuple xs.reverse, .tuple [.tuple xs]]) h1 (by simpa using h7)
      refine ⟨y, o1, _, _, _, by simp [t_bent, isTupD, isBlD, isStrD, isIntD, e1, sizeL, slD, h7, q1, q2, ey]; first | exact ⟨rfl, rfl, rfl⟩ | rfl, ?_, f1'⟩
      have k1 : Gd B (D + 1) (2 * S + 10) (.list xs) := gd_lst a1 (by omega) (by omega)
      have k2 : Gd B (D + 1) (2 * S + 10) (.tuple (cutD xs (some 1) none)) := gd_tup (okA_sub c1 a1) (by have := depthA_sub c1; omega) (by have := szA_sub c1; omega)
      have k3 : Gd B (D + 1) (2 * S + 10) (.tuple (cutD xs none (some (-1)))) := gd_tup (okA_sub c2 a1) (by have := depthA_sub c2; omega) (by have := szA_sub c2; omega)
      have k4 : Gd B (D + 1) (2 * S + 10) (.tuple (xs ++ cutD xs none (some 1))) := gd_tup (by rw [okA_append, a1, okA_sub c3 a1]; rfl) (by rw [depthA_append]; have := depthA_sub c3; omega) (by rw [szA_append]; have := szA_sub c3; omega)
      have k5' : PyData.depthAll xs.reverse ≤ PyData.depthAll xs := depthA_iff.mpr fun z hz => depthA_mem (List.mem_reverse.mp hz)
      have k5 : Gd B (D + 1) (2 * S + 10) (.tuple xs.reverse) := gd_tup (okA_iff.mpr fun z hz => okA_iff.mp a1 z (List.mem_reverse.mp hz)) (by omega) (by rw [szA_reverse]; omega)
      have k6 : Gd B (D + 1) (2 * S + 10) (.tuple [.tuple xs]) := gd_tup (by simp [okA, hx.o]) (by have := hx.d; simp [PyData.depthAll]; omega) (by have := hx.s; simp [szA]; omega)
      have : Gd B (D + 1) (2 * S + 10) y := by
        simp only [List.mem_cons, List.not_mem_nil, or_false] at hy
        rcases hy with rfl | rfl | rfl | rfl | rfl | rfl <;> assumption
      exact this.mono (by omega) (by omega) (by omega)
    · exact ⟨w, o2, _, _, _, by simp [t_bent, isTupD, isBlD, isStrD, isIntD, e1, e2, h7]; first | exact ⟨rfl, rfl, rfl⟩ | rfl, hw', f2⟩
  | str s =>
    by_cases h6 : r < 5
    · obtain ⟨a1, a2⟩ := hx.str
      have q1 : s.length + ("a" : Str).length ≤ 16777216 := by show s.length + 1 ≤ _; omega
      have q2 : s.length + ("B" : Str).length ≤ 16777216 := by show s.length + 1 ≤ _; omega
      have q4 : s.length ≤ 16777216 := by omega
      obtain ⟨y, ey, hy⟩ := atI_mem (xs := [.str (s ++ "a"), .str (cutS s (some 1) none), .str "cap", .str (s ++ "B"), .list [.str s]]) h1 (by simpa using h6)
      refine ⟨y, o1, _, _, _, by simp [t_bent, isTupD, isBlD, isStrD, isIntD, e1, sizeL, slD, h6, q1, q2, q4, ey]; first | exact ⟨rfl, rfl, rfl⟩ | rfl, ?_, f1'⟩
      have ca : ∀ (u : Str), (∀ c ∈ u.cps.toList, c < 128) → u.length ≤ 8 → Gd (B + 1) (D + 2) (2 * S + 1700) (.str (s ++ u)) := fun u hu hl => gd_str (fun c hc => by
        rw [PySem.Str.cps_append, Array.toList_append] at hc
        rcases List.mem_append.mp hc with hc | hc
        · exact a1 c hc
        · exact hu c hc) (by rw [PySem.Str.length_append]; omega)
      have k1 := ca "a" (by decide) (by decide)
      have k4 := ca "B" (by decide) (by decide)
      have k3 : Gd (B + 1) (D + 2) (2 * S + 1700) (.str "cap") := gd_str (by decide) (by show 12 * 3 + 12 ≤ _; omega)
      have k2 : Gd (B + 1) (D + 2) (2 * S + 1700) (.str (cutS s (some 1) none)) := by
        have hsub : (cutS s (some 1) none).cps.toList.Sublist s.cps.toList := by
          unfold cutS
          exact (List.take_sublist _ _).trans (List.drop_sublist _ _)
        refine gd_str (fun c hc => a1 c (hsub.subset hc)) ?_
        have := hsub.length_le
        have e1 : (cutS s (some 1) none).length = (cutS s (some 1) none).cps.toList.length := by simp [PySem.Str.length]
        have e2 : s.length = s.cps.toList.length := by simp [PySem.Str.length]
        omega
      have k5 : Gd (B + 1) (D + 2) (2 * S + 1700) (.list [.str s]) := (gd_one hx).mono (by omega) (by omega) (by omega)
      simp only [List.mem_cons, List.not_mem_nil, or_false] at hy
      rcases hy with rfl | rfl | rfl | rfl | rfl <;> assumption
    · exact ⟨w, o2, _, _, _, by simp [t_bent, isTupD, isBlD, isStrD, isIntD, e1, e2, h6]; first | exact ⟨rfl, rfl, rfl⟩ | rfl, hw', f2⟩
  | int i =>
    by_cases h6 : r < 6
    · have a1 : i.natAbs ≤ B := by simpa [ok] using hx.o
      have a2 : 800 ≤ S := by simpa [sz] using hx.s
      have q1 : i.natAbs.log2 < 1920 := lg (Nat.lt_of_le_of_lt a1 (Nat.lt_trans (by omega : B < 10 ^ 60) (by decide +kernel))) (by decide)
      obtain ⟨y, ey, hy⟩ := atI_mem (xs := [.int (i + 1), .int (i - 1), .bool (i == 1), .str (toString i), .int (-1 - i), .int 0]) h1 (by simpa using h6)
      have ey' : atI [.int (i + 1), .int (i - 1), .bool (i == 1), .str (Str.ofString i.repr), .int (-1 - i), .int 0] r = some y := ey
      have ee : eqD (.int i) (.int 1) = some (.bool (i == 1)) := rfl
      refine ⟨y, o1, _, _, _, by simp [-eqD_int, ee, -beq_iff_eq, t_bent, isTupD, isBlD, isStrD, isIntD, e1, sizeL, strD, h6, q1, ey']; first | exact ⟨rfl, rfl, rfl⟩ | rfl, ?_, f1'⟩
      have k1 : Gd (B + 1) (D + 2) (2 * S + 1700) (.int (i + 1)) := gd_int (by omega) (by omega)
      have k2 : Gd (B + 1) (D + 2) (2 * S + 1700) (.int (i - 1)) := gd_int (by omega) (by omega)
      have k3 : Gd (B + 1) (D + 2) (2 * S + 1700) (.bool (i == 1)) := ⟨rfl, Nat.zero_le _, by show 8 ≤ 2 * S + 1700; omega⟩
      have k4 : Gd (B + 1) (D + 2) (2 * S + 1700) (.str (toString i)) := gd_str (fun c hc => by
        by_cases hlt : c < 128
        · exact hlt
        · exact absurd hc (int_text_free' c ⟨by omega, .inr (by omega)⟩ i)) (by
        have := PySem.int_text_length_le10 (a := i) (k := 60) (by decide) (by omega)
        have e : ((toString i : String) : Str).length = (toString i).length := PySem.ofString_length _
        rw [e]; omega)
      have k5 : Gd (B + 1) (D + 2) (2 * S + 1700) (.int (-1 - i)) := gd_int (by omega) (by omega)
      have k6 : Gd (B + 1) (D + 2) (2 * S + 1700) (.int 0) := gd_int (by omega) (by omega)
      simp only [List.mem_cons, List.not_mem_nil, or_false] at hy
      rcases hy with rfl | rfl | rfl | rfl | rfl | rfl <;> assumption
    · exact ⟨w, o2, _, _, _, by simp [t_bent, isTupD, isBlD, isStrD, isIntD, e1, e2, h6]; first | exact ⟨rfl, rfl, rfl⟩ | rfl, hw', f2⟩
  | bool b =>
    have ki : ∀ i : Int, i.natAbs ≤ 2 → Gd (B + 1) (D + 2) (2 * S + 1700) (.int i) := fun i hi => gd_int (by omega) (by omega)
    have ks : ∀ u : Str, (∀ c ∈ u.cps.toList, c < 128) → u.length ≤ 8 → Gd (B + 1) (D + 2) (2 * S + 1700) (.str u) := fun u hu hl => gd_str hu (by omega)
    have kb : ∀ b, Gd (B + 1) (D + 2) (2 * S + 1700) (.bool b) := fun b => ⟨rfl, Nat.zero_le _, by show 8 ≤ 2 * S + 1700; omega⟩
    by_cases h5 : r < 5
    · exact ⟨.bool (!b), o1, _, _, _, by simp [t_bent, isTupD, isBlD, isStrD, isIntD, e1, h5]; first | exact ⟨rfl, rfl, rfl⟩ | rfl, kb _, f1'⟩
    · by_cases h6 : r < 6
      · have hr : r = 5 := by omega
        subst hr
        have at5 : ∀ a b c d e f : PyData, atI [a, b, c, d, e, f] 5 = some f := fun a b c d e f => by
          rw [at_nn (by decide) (by simp only [List.length_cons]; omega)]; rfl
        have u4 : ∀ b, subD (.int (-1)) (.bool b) = some (.int (-1 - if b = true then (1 : Int) else 0)) := fun _ => rfl
        have u1 : ∀ b, addD (.bool b) (.int 1) = some (.int ((if b = true then (1 : Int) else 0) + 1)) := fun _ => rfl
        have u2 : ∀ b, subD (.bool b) (.int 1) = some (.int ((if b = true then (1 : Int) else 0) - 1)) := fun _ => rfl
        have u3 : eqD (.bool b) (.int 1) = some (.bool b) := by cases b <;> rfl
        exact ⟨.int 0, o1, _, _, _, by simp [t_bent, isTupD, isBlD, isStrD, isIntD, e1, sizeL, strD, u1, u2, u3, u4, at5]; first | exact ⟨rfl, rfl, rfl⟩ | rfl, ki 0 (by decide), f1'⟩
      · exact ⟨w, o2, _, _, _, by simp [t_bent, isTupD, isBlD, isStrD, isIntD, e1, e2, h5, h6]; first | exact ⟨rfl, rfl, rfl⟩ | rfl, hw', f2⟩
theorem run_bent (rec : XF) (o : OD) (io : Bool) (x : PyData) : runF 5 (b_l_bent rec) [.own o io, .d x] = (match sSeq (sIf c_bent (a_bent rec) sNil) t_bent [.own o io, .d x, .un, .un, .un] with
  | some (.rt d ρ) => some (.d d, finA [.own o io, .d x] ρ)
  | some (.rn d ρ) => some (.n d, finA [.own o io, .d x] ρ)
  | some (.nx ρ) => some (.d .none, finA [.own o io, .d x] ρ)
  | _ => none) := rfl
theorem t_l_bent : ∀ (n : Nat) {B D S N : Nat} {o : OD} {x : PyData} (io : Bool), x.depth < n → n ≤ 60 → Gd B D S x → 10 ^ 59 ≤ B → B + 1 < 10 ^ 60 → S ≤ 1000000 → Fd N o → N + 4 * n < 2 ^ 35 →
    ∃ y o', m_l_bent n [.own o io, .d x] = some (.d y, [.own o' io, .d x]) ∧ Gd (B + 1) (D + 2) (2 * S + 1700) y ∧ Fd (N + 4 * n) o'
  | 0, _, _, _, _, _, _, _, hd, _, _, _, _, _, _, _ => absurd hd (Nat.not_lt_zero _)
  | n + 1, B, D, S, N, o, x, io, hd, hn, hx, hB, hB2, hS, hf, hN => by
    have e0 : m_l_bent (n + 1) = runF 5 (b_l_bent (m_l_bent n)) := rfl
    rw [e0, run_bent]
    by_cases ht : isTupD x = true
    · cases x with
      | tuple xs =>
        cases xs with
        | nil =>
          obtain ⟨y, o', e2, e3, e4, e, hy, hf'⟩ := t_tail hx hB hB2 hS hf (by omega) io
          have hne : neD (.tuple []) (.tuple []) = some (.bool false) := rfl
          exact ⟨y, o', by simp [c_bent, isTupD, sizeL, hne, e], hy, hf'.mono (by omega)⟩
        | cons x0 xs =>
          have hne : neD (.tuple (x0 :: xs)) (.tuple []) = some (.bool true) := by
            rw [neD_ok hx.o (show ok B (.tuple []) = true from rfl) (by omega) (by decide)]
            rfl
          obtain ⟨r5, o1, e1, h1, h2, f1⟩ := t_draw hf (by omega) (k := 6) (by decide) (by decide) true
          by_cases h5 : 0 < r5
          · obtain ⟨a1, a2, a3⟩ := hx.tup
            have l0 := len_sz a3
            obtain ⟨r, o2, e2, h3, h4, f2⟩ := t_draw f1 (by omega) (k := ((x0 :: xs).length : Int)) (by simp only [List.length_cons]; omega) (by omega) true
            have hr : r.toNat < (x0 :: xs).length := by omega
            have hmem : (x0 :: xs)[r.toNat] ∈ x0 :: xs := List.getElem_mem hr
            have dd := depthA_mem hmem
            have ds := szA_mem hmem
            have gx : Gd B (D - 1) S (x0 :: xs)[r.toNat] := ⟨okA_iff.mp a1 _ hmem, by omega, by omega⟩
            have hdx : PyData.depth (.tuple (x0 :: xs)) = PyData.depthAll (x0 :: xs) + 1 := by simp [PyData.depth]
            obtain ⟨y, o3, e3, hy, f3⟩ := t_l_bent n (S := sz (x0 :: xs)[r.toNat]) (D := (x0 :: xs)[r.toNat].depth) true (by omega) (by omega) ⟨gx.o, Nat.le_refl _, Nat.le_refl _⟩ hB hB2 (by omega) f2 (by omega)
            generalize hL : x0 :: xs = L at *
            have eat : atI L r = some L[r.toNat] := by rw [at_nn h3 h4, List.getElem?_eq_getElem hr]
            have c1 := cutD_to (xs := L) (i := r) h3 (by omega)
            have c2 := cutD_from (xs := L) (i := r + 1) (by omega)
            have hk : (r + 1).toNat = r.toNat + 1 := by omega
            have s1 := cutD_sub L none (some r)
            have s2 := cutD_sub L (some (r + 1)) none
            have q1 : (cutD L none (some r)).length + 1 ≤ 16777216 := by have := s1.length_le; omega
            have q2 : (cutD L none (some r)).length + (1 + (cutD L (some (r + 1)) none).length) ≤ 16777216 := by have := s1.length_le; have := s2.length_le; omega
            have q2' : (cutD L none (some r)).length + 1 + (cutD L (some (r + 1)) none).length ≤ 16777216 := by omega
            refine ⟨.tuple (cutD L none (some r) ++ y :: cutD L (some (r + 1)) none), o3, by simp [c_bent, a_bent, isTupD, sizeL, hne, e1, h5, e2, e3, eat, slD, q1, q2, q2'], ?_, f3.mono (by omega)⟩
            have hsplit : L = L.take r.toNat ++ L[r.toNat] :: L.drop (r.toNat + 1) := by rw [List.getElem_cons_drop, List.take_append_drop]
            have hs : szA L = szA (L.take r.toNat) + (sz L[r.toNat] + 2 + szA (L.drop (r.toNat + 1))) := by
              conv => lhs; rw [hsplit]
              rw [szA_append]; rfl
            have dy := hy.d
            have sy := hy.s
            refine gd_tup ?_ ?_ ?_
            · rw [okA_append, okA_sub s1 (okA_mono (by omega) _ a1)]
              simp [okA, hy.o, okA_sub s2 (okA_mono (show B ≤ B + 1 by omega) _ a1)]
            · rw [depthA_append]
              have := depthA_sub s1
              have := depthA_sub s2
              simp only [PyData.depthAll]
              omega
            · rw [szA_append]
              simp only [szA]
              rw [c1, c2, hk]
              omega
          · obtain ⟨y, o', e2, e3, e4, e, hy, hf'⟩ := t_tail hx hB hB2 hS f1 (by omega) io
            exact ⟨y, o', by simp [c_bent, isTupD, sizeL, hne, e1, h5, e], hy, hf'.mono (by omega)⟩
      | _ => cases ht
    · obtain ⟨y, o', e2, e3, e4, e, hy, hf'⟩ := t_tail hx hB hB2 hS hf (by omega) io
      exact ⟨y, o', by simp [c_bent, ht, e], hy, hf'.mono (by omega)⟩
end K16
set_option maxRecDepth 100000
set_option maxHeartbeats 4000000
namespace K16
open PySem PySem.Spec PyProof.Rows L2 DL
def isI : PyData → Bool
  | .int _ => true
  | _ => false
theorem t_is_integer (x : PyData) : m_is_integer [.d x] = some (.d (.bool (isI x)), [.d x]) := by
  cases x <;> simp [m_is_integer, e_run, b_is_integer, isIntD, isBlD, isI]
theorem t_l_integer (x : PyData) : m_l_is_integer [.d x] = some (.d (.bool (isI x)), [.d x]) := by
  cases x <;> simp [m_l_is_integer, e_run, b_l_is_integer, isIntD, isBlD, isI]
/-! ### Euclid -/
theorem gcd_step (i j : Int) : Int.gcd j (i % j) = Int.gcd i j := by
  have e : i % j = i + j * (-(i / j)) := by have := Int.emod_def i j; rw [Int.mul_neg]; omega
  rw [e, Int.gcd_add_mul_left_right, Int.gcd_comm]
abbrev gC : XT := tst (x2 neD (xVar 1) (xC (.int 0)))
abbrev gB : XS := sPar 0 1 (xVar 1) (x2 modD (xVar 0) (xVar 1))
theorem gcd_loop : ∀ (n : Nat) (i j : Int), 0 ≤ j → j.natAbs < n → ∃ g : Int, whL gC gB n [.d (.int i), .d (.int j)] = some (.nx [.d (.int g), .d (.int 0)]) ∧ g.natAbs = Int.gcd i j ∧ (0 ≤ i → 0 ≤ g)
  | 0, _, _, _, h => absurd h (Nat.not_lt_zero _)
  | n + 1, i, j, h0, h => by
    by_cases hj : j = 0
    · subst hj
      refine ⟨i, by simp [whL, gC], by simp, fun h => h⟩
    · have hp : 0 < j := by omega
      have h1 := Int.emod_nonneg i hj
      have h2 := Int.emod_lt_of_pos i hp
      obtain ⟨g, e, q1, q2⟩ := gcd_loop n j (i % j) h1 (by omega)
      refine ⟨g, ?_, by rw [q1, gcd_step], fun _ => q2 (by omega)⟩
      rw [← e]
      simp [whL, gC, gB, hj, o_mod hp]
theorem t_cd (i j : Int) (h : 0 ≤ j) : m_common_divisor [.d (.int i), .d (.int j)] = some (.d (.int (Int.gcd i j)), [.d (.int i), .d (.int j)]) := by
  obtain ⟨g, e, q1, _⟩ := gcd_loop (j.natAbs + 1) i j h (by omega)
  have ea : (if g < 0 then -g else g) = (Int.gcd i j : Int) := by omega
  simp [m_common_divisor, e_run, b_common_divisor, sWh, gcdFuel, e, absD, ea]
theorem t_gcd (i j : Int) : m_l_gcd [.d (.int i), .d (.int j)] = some (.d (.int (Int.gcd i j)), [.d (.int i), .d (.int j)]) := by
  have a1 : 0 ≤ (if i < 0 then -i else i) := by omega
  have a2 : 0 ≤ (if j < 0 then -j else j) := by omega
  obtain ⟨g, e, q1, q2⟩ := gcd_loop ((if j < 0 then -j else j).natAbs + 1) (if i < 0 then -i else i) (if j < 0 then -j else j) a2 (by omega)
  have eg : g = (Int.gcd i j : Int) := by
    have q3 := q2 a1
    have e1 : Int.gcd (if i < 0 then -i else i) (if j < 0 then -j else j) = Int.gcd i j := by
      have n1 : (if i < 0 then -i else i).natAbs = i.natAbs := by omega
      have n2 : (if j < 0 then -j else j).natAbs = j.natAbs := by omega
      unfold Int.gcd
      rw [n1, n2]
    rw [e1] at q1
    omega
  subst eg
  simp [m_l_gcd, e_run, b_l_gcd, sWh, gcdFuel, e, absD]
/-! ### fractions -/
def fracB : PyData → Bool
  | .tuple [.int i, .int j] => decide (0 < j) && decide (Int.gcd i j = 1)
  | _ => false
theorem isI_int {x : PyData} (h : isI x = true) : ∃ i, x = .int i := by
  cases x <;> first | exact ⟨_, rfl⟩ | cases h
theorem fracB_notI1 {a b : PyData} (h : isI a = false) : fracB (.tuple [a, b]) = false := by
  cases a <;> first | rfl | exact absurd h (by simp [isI])
theorem fracB_notI2 {a b : PyData} (h : isI b = false) : fracB (.tuple [a, b]) = false := by
  cases b <;> first | (cases a <;> rfl) | exact absurd h (by simp [isI])
theorem len3 (r : List PyData) (n : Nat) : ((((r.length + 3 + n : Nat) : Int)) == (2 : Int)) = false := by
  rw [beq_eq_false_iff_ne]; omega
theorem fracB_long (a b c : PyData) (r : List PyData) : fracB (.tuple (a :: b :: c :: r)) = false := by
  cases a <;> first | rfl | (cases b <;> rfl)
theorem t_is_fraction (x : PyData) : m_is_fraction [.d x] = some (.d (.bool (fracB x)), [.d x]) := by
  cases x with
  | tuple xs =>
    match xs with
    | [] => simp [m_is_fraction, e_run, b_is_fraction, isTupD, fracB]
    | [a] => simp [m_is_fraction, e_run, b_is_fraction, isTupD, fracB]
    | [a, b] =>
      cases ha : isI a with
      | false => simp [m_is_fraction, e_run, b_is_fraction, isTupD, t_is_integer, ha, fracB_notI1 ha]
      | true =>
        cases hb : isI b with
        | false => simp [m_is_fraction, e_run, b_is_fraction, isTupD, t_is_integer, ha, hb, fracB_notI2 hb]
        | true =>
          obtain ⟨i, rfl⟩ := isI_int ha
          obtain ⟨j, rfl⟩ := isI_int hb
          by_cases h1 : j < 1
          · have h0 : ¬ 0 < j := by omega
            simp [m_is_fraction, e_run, b_is_fraction, isTupD, t_is_integer, ha, hb, h1, fracB, h0]
          · have h0 : 0 < j := by omega
            have e := t_cd i j (by omega)
            have eb : ((Int.gcd i j : Int) == 1) = decide (Int.gcd i j = 1) := by
              by_cases q : Int.gcd i j = 1
              · simp [q]
              · have : ¬ ((Int.gcd i j : Int) = 1) := by omega
                simp [q, this]
            simp only [m_is_fraction, e_run, b_is_fraction]
            simp [-eqD_int, isTupD, t_is_integer, ha, hb, h1, fracB, h0, e]
            have ee : eqD (.int (Int.gcd i j)) (.int 1) = some (.bool ((Int.gcd i j : Int) == 1)) := rfl
            rw [ee, eb]
            rfl
    | a :: b :: c :: r =>
      have hl : ((((r.length : Int) + 1 + 1 + 1)) == (2 : Int)) = false := by rw [beq_eq_false_iff_ne]; omega
      have hl2 : ¬ (((r.length : Int) + 1 + 1 + 1) = 2) := by omega
      simp [m_is_fraction, e_run, b_is_fraction, isTupD, fracB_long, hl, hl2]
  | _ => simp [m_is_fraction, e_run, b_is_fraction, isTupD, fracB]
theorem t_l_is_ratio (x : PyData) : m_l_is_fraction [.d x] = some (.d (.bool (fracB x)), [.d x]) := by
  cases x with
  | tuple xs =>
    match xs with
    | [] => simp [m_l_is_fraction, e_run, b_l_is_fraction, isTupD, fracB]
    | [a] => simp [m_l_is_fraction, e_run, b_l_is_fraction, isTupD, fracB]
    | [a, b] =>
      cases ha : isI a with
      | false => simp [m_l_is_fraction, e_run, b_l_is_fraction, isTupD, t_l_integer, ha, fracB_notI1 ha]
      | true =>
        cases hb : isI b with
        | false => simp [m_l_is_fraction, e_run, b_l_is_fraction, isTupD, t_l_integer, ha, hb, fracB_notI2 hb]
        | true =>
          obtain ⟨i, rfl⟩ := isI_int ha
          obtain ⟨j, rfl⟩ := isI_int hb
          by_cases h0 : 0 < j
          · have e := t_gcd i j
            have eb : ((Int.gcd i j : Int) == 1) = decide (Int.gcd i j = 1) := by
              by_cases q : Int.gcd i j = 1
              · simp [q]
              · have : ¬ ((Int.gcd i j : Int) = 1) := by omega
                simp [q, this]
            simp only [m_l_is_fraction, e_run, b_l_is_fraction]
            simp [-eqD_int, isTupD, t_l_integer, ha, hb, fracB, h0, e]
            have ee : eqD (.int (Int.gcd i j)) (.int 1) = some (.bool ((Int.gcd i j : Int) == 1)) := rfl
            rw [ee, eb]
            rfl
          · simp [m_l_is_fraction, e_run, b_l_is_fraction, isTupD, t_l_integer, ha, hb, fracB, h0]
    | a :: b :: c :: r =>
      have hl : ((((r.length : Int) + 1 + 1 + 1)) == (2 : Int)) = false := by rw [beq_eq_false_iff_ne]; omega
      have hl2 : ¬ (((r.length : Int) + 1 + 1 + 1) = 2) := by omega
      simp [m_l_is_fraction, e_run, b_l_is_fraction, isTupD, fracB_long, hl, hl2]
  | _ => simp [m_l_is_fraction, e_run, b_l_is_fraction, isTupD, fracB]
theorem t_is_bound (x : PyData) : m_is_bound [.d x] = some (.d (.bool (noneD x || fracB x)), [.d x]) := by
  cases h : noneD x <;> simp [m_is_bound, e_run, b_is_bound, h, t_is_fraction]

/-! ### the clause -/
def lsB (a b : PyData) : Bool := match a, b with
  | .tuple [.int i, .int j], .tuple [.int k, .int l] => decide (i * l < k * j)
  | _, _ => false
def signB (a : PyData) : Int := match a with
  | .tuple [.int i, _] => i
  | _ => 0
theorem frac_get {x : PyData} (h : fracB x = true) : ∃ i j, x = .tuple [.int i, .int j] ∧ 0 < j ∧ Int.gcd i j = 1 := by
  unfold fracB at h
  split at h
  · simp only [Bool.and_eq_true, decide_eq_true_eq] at h
    exact ⟨_, _, rfl, h.1, h.2⟩
  · cases h
theorem none_of {x : PyData} (h : noneD x = true) : x = .none := by
  cases x <;> first | rfl | (exact absurd h (by simp [noneD]))
theorem frac_none {x : PyData} (h : fracB x = true) : noneD x = false := by
  obtain ⟨i, j, rfl, _⟩ := frac_get h
  rfl
theorem t_is_less {a b c d : Int} (ha : a.natAbs < 2 ^ 200) (hb : b.natAbs < 2 ^ 200) (hc : c.natAbs < 2 ^ 200) (hd : d.natAbs < 2 ^ 200) :
    m_is_less [.d (.tuple [.int a, .int b]), .d (.tuple [.int c, .int d])] = some (.d (.bool (decide (a * d < c * b))), [.d (.tuple [.int a, .int b]), .d (.tuple [.int c, .int d])]) := by
  simp [m_is_less, e_run, b_is_less, o_mulS ha hd, o_mulS hc hb]
def clB : PyData → Bool
  | .tuple [a, b, c, d] => fracB a && fracB b && (noneD c || fracB c) && (noneD d || fracB d) && decide (0 ≤ signB a) && (if signB a = 0 then noneD c && noneD d else noneD c || noneD d || lsB c d)
  | _ => false
theorem fint {B : Nat} (hB : B < 2 ^ 200) {i j : Int} (h : ok B (.tuple [.int i, .int j]) = true) : i.natAbs < 2 ^ 200 ∧ j.natAbs < 2 ^ 200 := by
  simp [ok, okA] at h
  omega
theorem t_is_clause {B : Nat} (hB : B < 2 ^ 200) (x : PyData) (hx : ok B x = true) : m_is_clause [.d x] = some (.d (.bool (clB x)), [.d x]) := by
  cases x with
  | tuple xs =>
    match xs, hx with
    | [], _ => simp [m_is_clause, e_run, b_is_clause, isTupD, clB]
    | [a], _ => simp [m_is_clause, e_run, b_is_clause, isTupD, clB]
    | [a, b], _ => simp [m_is_clause, e_run, b_is_clause, isTupD, clB]
    | [a, b, c], _ => simp [m_is_clause, e_run, b_is_clause, isTupD, clB]
    | [a, b, c, d], hx =>
      have hx' : okA B [a, b, c, d] = true := by simpa [ok] using hx
      have oc : ok B c = true := okA_iff.mp hx' c (by simp)
      have od : ok B d = true := okA_iff.mp hx' d (by simp)
      cases ha : fracB a with
      | false => simp [m_is_clause, e_run, b_is_clause, isTupD, sizeL, t_is_fraction, t_is_bound, allD, blsD, ha, clB]
      | true =>
        obtain ⟨i, j, rfl, hj, hg⟩ := frac_get ha
        cases hb : fracB b with
        | false => simp [m_is_clause, e_run, b_is_clause, isTupD, sizeL, t_is_fraction, t_is_bound, allD, blsD, ha, hb, clB]
        | true =>
          cases hc : (noneD c || fracB c) with
          | false => simp [-Bool.or_eq_false_iff, m_is_clause, e_run, b_is_clause, isTupD, sizeL, t_is_fraction, t_is_bound, allD, blsD, ha, hb, hc, clB]
          | true =>
            cases hd : (noneD d || fracB d) with
            | false => simp [-Bool.or_eq_false_iff, m_is_clause, e_run, b_is_clause, isTupD, sizeL, t_is_fraction, t_is_bound, allD, blsD, ha, hb, hc, hd, clB]
            | true =>
              by_cases h1 : i < 0
              · have h2 : ¬ 0 ≤ i := by omega
                simp [-Bool.or_eq_true, m_is_clause, e_run, b_is_clause, isTupD, sizeL, t_is_fraction, t_is_bound, allD, blsD, ha, hb, hc, hd, clB, signB, h1, h2]
              · have h2 : 0 ≤ i := by omega
                by_cases h3 : i = 0
                · subst h3
                  cases n1 : noneD c with
                  | true => simp [-Bool.or_eq_true, m_is_clause, e_run, b_is_clause, isTupD, sizeL, t_is_fraction, t_is_bound, allD, blsD, ha, hb, hc, hd, clB, signB, n1]
                  | false =>
                    have hc' : fracB c = true := by simpa [n1] using hc
                    simp [-Bool.or_eq_true, m_is_clause, e_run, b_is_clause, isTupD, sizeL, t_is_fraction, t_is_bound, allD, blsD, ha, hb, hc', hd, clB, signB, n1]
                · cases n1 : noneD c with
                  | true => simp [-Bool.or_eq_true, m_is_clause, e_run, b_is_clause, isTupD, sizeL, t_is_fraction, t_is_bound, allD, blsD, ha, hb, hc, hd, clB, signB, h1, h2, h3, n1]
                  | false =>
                    have hc' : fracB c = true := by simpa [n1] using hc
                    cases n2 : noneD d with
                    | true => simp [-Bool.or_eq_true, m_is_clause, e_run, b_is_clause, isTupD, sizeL, t_is_fraction, t_is_bound, allD, blsD, ha, hb, hc', hd, clB, signB, h1, h2, h3, n1, n2]
                    | false =>
                      rw [n1, Bool.false_or] at hc
                      rw [n2, Bool.false_or] at hd
                      obtain ⟨k, l, rfl, _, _⟩ := frac_get hc
                      obtain ⟨p, q, rfl, _, _⟩ := frac_get hd
                      obtain ⟨u1, u2⟩ := fint hB oc
                      obtain ⟨u3, u4⟩ := fint hB od
                      simp [-Bool.or_eq_true, m_is_clause, e_run, b_is_clause, isTupD, sizeL, t_is_fraction, t_is_bound, allD, blsD, ha, hb, hc, hd, clB, signB, h1, h2, h3, n1, n2, t_is_less u1 u2 u3 u4, lsB]
    | a :: b :: c :: d :: e :: r, _ =>
      have hl : ¬ (((r.length : Int) + 1 + 1 + 1 + 1 + 1) = 4) := by omega
      simp [m_is_clause, e_run, b_is_clause, isTupD, clB, hl]
  | _ => simp [m_is_clause, e_run, b_is_clause, isTupD, clB]
end K16
set_option maxRecDepth 100000
set_option maxHeartbeats 4000000
namespace K16
open PySem PySem.Spec PyProof.Rows L2 DL
theorem cut2 (a b c d : PyData) : cutD [a, b, c, d] (some 2) none = [c, d] := rfl
theorem neL {B : Nat} {xs : List PyData} (h : okA B xs = true) (hd : PyData.depthAll xs ≤ 50) : neD (.list xs) (.list []) = some (.bool (!xs.isEmpty)) := by
  rw [neD_ok (B := B) (by simpa [ok] using h) (show ok B (.list []) = true from rfl) (by simp [PyData.depth]; omega) (by decide)]
  cases xs <;> rfl
theorem eqv01 (i j : Int) : PyData.eqv (.tuple [.int i, .int j]) (.tuple [.int 0, .int 1]) = (i == 0 && j == 1) := by
  simp [PyData.eqv, PyData.eqvAll]
theorem t_l_less {a b c d : Int} (ha : a.natAbs < 2 ^ 200) (hb : b.natAbs < 2 ^ 200) (hc : c.natAbs < 2 ^ 200) (hd : d.natAbs < 2 ^ 200) :
    m_l_less [.d (.tuple [.int a, .int b]), .d (.tuple [.int c, .int d])] = some (.d (.bool (decide (a * d < c * b))), [.d (.tuple [.int a, .int b]), .d (.tuple [.int c, .int d])]) := by
  simp [m_l_less, e_run, b_l_less, o_mulS ha hd, o_mulS hc hb]
theorem noneF {x : PyData} (h : noneD x = true) : fracB x = false := by
  obtain rfl := none_of h
  rfl
theorem t_l_is_clause {B : Nat} (hB : B < 2 ^ 200) (x : PyData) (hx : ok B x = true) (hd : x.depth ≤ 40) : m_l_is_clause [.d x] = some (.d (.bool (clB x)), [.d x]) := by
  cases x with
  | tuple xs =>
    match xs, hx with
    | [], _ => simp [m_l_is_clause, e_run, b_l_is_clause, isTupD, clB]
    | [a], _ => simp [m_l_is_clause, e_run, b_l_is_clause, isTupD, clB]
    | [a, b], _ => simp [m_l_is_clause, e_run, b_l_is_clause, isTupD, clB]
    | [a, b, c], _ => simp [m_l_is_clause, e_run, b_l_is_clause, isTupD, clB]
    | [a, b, c, d], hx =>
      have hx' : okA B [a, b, c, d] = true := by simpa [ok] using hx
      have oc : ok B c = true := okA_iff.mp hx' c (by simp)
      have od : ok B d = true := okA_iff.mp hx' d (by simp)
      have hdp : PyData.depthAll [a, b, c, d] ≤ 39 := by simpa [PyData.depth] using hd
      have dc := depthA_iff.mp hdp c (by simp)
      have dd := depthA_iff.mp hdp d (by simp)
      cases ha : fracB a with
      | false => simp [m_l_is_clause, e_run, b_l_is_clause, isTupD, t_l_is_ratio, ha, clB]
      | true =>
        cases hb : fracB b with
        | false => simp [m_l_is_clause, e_run, b_l_is_clause, isTupD, t_l_is_ratio, ha, hb, clB]
        | true =>
          obtain ⟨i, j, rfl, hj, hg⟩ := frac_get ha
          have ne0 : neD (.list []) (.list []) = some (.bool false) := rfl
          have ne1 : neD (.list [c]) (.list []) = some (.bool true) := neL (B := B) (by simp [okA, oc]) (by simp [PyData.depthAll]; omega)
          have ne2 : neD (.list [d]) (.list []) = some (.bool true) := neL (B := B) (by simp [okA, od]) (by simp [PyData.depthAll]; omega)
          have ne3 : neD (.list [c, d]) (.list []) = some (.bool true) := neL (B := B) (by simp [okA, oc, od]) (by simp [PyData.depthAll]; omega)
          have eq0 : eqD (.list []) (.list []) = some (.bool true) := rfl
          have eq1 : eqD (.list [c]) (.list []) = some (.bool false) := by
            rw [eqD_ok (B := B) (by simp [ok, okA, oc]) (show ok B (.list []) = true from rfl) (by simp [PyData.depth, PyData.depthAll]; omega) (by decide)]; rfl
          have eq2 : eqD (.list [d]) (.list []) = some (.bool false) := by
            rw [eqD_ok (B := B) (by simp [ok, okA, od]) (show ok B (.list []) = true from rfl) (by simp [PyData.depth, PyData.depthAll]; omega) (by decide)]; rfl
          have eq3 : eqD (.list [c, d]) (.list []) = some (.bool false) := by
            rw [eqD_ok (B := B) (by simp [ok, okA, oc, od]) (show ok B (.list []) = true from rfl) (by simp [PyData.depth, PyData.depthAll]; omega) (by decide)]; rfl
          have e1 : eqD (.tuple [.int i, .int j]) (.tuple [.int 0, .int 1]) = some (.bool (decide (i = 0))) := by
            have : eqD (.tuple [.int i, .int j]) (.tuple [.int 0, .int 1]) = some (.bool (PyData.eqv (.tuple [.int i, .int j]) (.tuple [.int 0, .int 1]))) := rfl
            rw [this, eqv01]
            by_cases h3 : i = 0
            · subst h3
              have hj1 : j = 1 := by have : j.natAbs = 1 := by simpa using hg
                                     omega
              subst hj1
              rfl
            · simp [h3]
          have sm : ∀ (hs' : (0 ≤ i) = ¬ (i < 0)), True := fun _ => trivial
          rcases Decidable.em (i = 0) with rfl | hz
          · cases n1 : noneD c <;> cases n2 : noneD d <;> cases h1 : fracB c <;> cases h2 : fracB d <;>
            first
            | exact Bool.noConfusion ((noneF n1).symm.trans h1)
            | exact Bool.noConfusion ((noneF n2).symm.trans h2)
            | (simp [m_l_is_clause, e_run, b_l_is_clause, isTupD, t_l_is_ratio, ha, hb, n1, n2, h1, h2, cut2, sizeL, unAt, ne0, ne1, ne2, ne3, eq0, eq1, eq2, eq3, e1, clB, signB]
               done)
          · cases n1 : noneD c <;> cases n2 : noneD d <;> cases h1 : fracB c <;> cases h2 : fracB d <;> by_cases hs : i < 0 <;>
            first
            | exact Bool.noConfusion ((noneF n1).symm.trans h1)
            | exact Bool.noConfusion ((noneF n2).symm.trans h2)
            | (have hs' : (0 ≤ i) = ¬ (i < 0) := propext ⟨fun h => by omega, fun h => by omega⟩
               simp [m_l_is_clause, e_run, b_l_is_clause, isTupD, t_l_is_ratio, ha, hb, n1, n2, h1, h2, hs, hs', hz, cut2, sizeL, unAt, ne0, ne1, ne2, ne3, eq0, eq1, eq2, eq3, e1, clB, signB]
               done)
            | skip
            all_goals
              obtain ⟨k, l, rfl, _, _⟩ := frac_get h1
              obtain ⟨p, q, rfl, _, _⟩ := frac_get h2
              obtain ⟨u1, u2⟩ := fint hB oc
              obtain ⟨u3, u4⟩ := fint hB od
              have hs' : (0 ≤ i) = ¬ (i < 0) := propext ⟨fun h => by omega, fun h => by omega⟩
              simp [m_l_is_clause, e_run, b_l_is_clause, isTupD, t_l_is_ratio, ha, hb, n1, n2, h1, h2, hs, hs', hz, cut2, sizeL, unAt, ne0, ne1, ne2, ne3, eq0, eq1, eq2, eq3, e1, clB, signB, t_l_less u1 u2 u3 u4, lsB]
    | a :: b :: c :: d :: e :: r, _ =>
      have hl : ¬ (((r.length : Int) + 1 + 1 + 1 + 1 + 1) = 4) := by omega
      simp [m_l_is_clause, e_run, b_l_is_clause, isTupD, clB, hl]
  | _ => simp [m_l_is_clause, e_run, b_l_is_clause, isTupD, clB]
end K16
set_option maxRecDepth 100000
set_option maxHeartbeats 4000000
namespace K16
open PySem PySem.Spec PyProof.Rows L2 DL
def inr (c : Nat) : Bool := decide (97 ≤ c ∧ c ≤ 122)
def LET : Str := "abcdefghijklmnopqrstuvwxyz"
theorem let_mem (c : Nat) : (c ∈ LET.cps.toList) ↔ (97 ≤ c ∧ c ≤ 122) := by
  have e : LET.cps.toList = List.range' 97 26 := by decide +kernel
  rw [e, List.mem_range'_1]
  omega
theorem in_let (c : Nat) : inD (.str ⟨#[c]⟩) (.str LET) = some (.bool (inr c)) := by
  show some (PyData.bool (!(Builtin.Str.occurrences LET ⟨#[c]⟩ 0 LET.length 1).isEmpty)) = _
  rw [PySem.StrLaws.found_one]
  congr 2
  exact decide_eq_decide.mpr (let_mem c)
theorem lc_in (x : PyData) : ∀ (cs : List Nat) (acc : List PyData), acc.length + cs.length < 1000000 → lcL (gNm 1) cYes (x2 inD (xVar 1) (xC (.str LET))) [1] (cs.map fun c => PyData.str ⟨#[c]⟩) [.d x, .un] acc =
    some (acc ++ cs.map (fun c => PyData.bool (inr c)), [.d x, .un])
  | [], acc, _ => by simp
  | c :: cs, acc, h => by
    simp only [List.length_cons] at h
    have ih := lc_in x cs (acc ++ [.bool (inr c)]) (by simp only [List.length_append, List.length_cons, List.length_nil]; omega)
    have hl : acc.length < 16777216 := by omega
    simp [in_let, sizeL, hl]
    simpa using ih
theorem bls_map (f : Nat → Bool) : ∀ cs : List Nat, blsD (cs.map fun c => PyData.bool (f c)) = some (cs.map f)
  | [] => rfl
  | c :: cs => by simp [blsD, bls_map f cs]
def nameB : PyData → Bool
  | .str s => decide (1 ≤ s.length ∧ s.length ≤ 8) && s.cps.toList.all inr
  | _ => false
theorem t_is_name (x : PyData) (hx : sz x ≤ 8000000) : m_is_name [.d x] = some (.d (.bool (nameB x)), [.d x]) := by
  cases x with
  | str s =>
    have hs : 12 * s.length + 12 ≤ 8000000 := by simpa [sz] using hx
    have h1 : s.length ≤ 16777216 := by omega
    have hL : lenD (.str s) = some (.int s.length) := by simp [lenD, sizeL, h1]
    by_cases hr : 1 ≤ s.length ∧ s.length ≤ 8
    · have r1 : (1 : Int) ≤ s.length := by omega
      have r2 : (s.length : Int) ≤ 8 := by omega
      have hi : itD (.str s) = some (s.cps.toList.map fun c => PyData.str ⟨#[c]⟩) := rfl
      have hlen : s.cps.toList.length = s.length := by simp [PySem.Str.length]
      have lc := lc_in (.str s) s.cps.toList [] (by rw [hlen]; simp; omega)
      simp only [LET, List.nil_append] at lc
      simp [m_is_name, e_run, b_is_name, isStrD, hL, r1, r2, hi, unAt, lc, allD, bls_map inr, nameB, hr]
    · by_cases r1 : (1 : Int) ≤ s.length
      · have r2 : ¬ (s.length : Int) ≤ 8 := by omega
        simp [m_is_name, e_run, b_is_name, isStrD, hL, r1, r2, nameB, hr]
      · simp [m_is_name, e_run, b_is_name, isStrD, hL, r1, nameB, hr]
  | _ => simp [m_is_name, e_run, b_is_name, isStrD, nameB]
theorem le_a (c : Nat) : leD (.str "a") (.str ⟨#[c]⟩) = some (.bool (decide (97 ≤ c))) := by
  show some (PyData.bool (!decide (([c] : List Nat) < [97]))) = _
  congr 2
  by_cases h : 97 ≤ c
  · have : ¬ (([c] : List Nat) < [97]) := by rw [List.cons_lt_cons_iff]; simp; omega
    simp [h, this]
  · have : (([c] : List Nat) < [97]) := by rw [List.cons_lt_cons_iff]; simp; omega
    simp [h, this]
theorem le_z (c : Nat) : leD (.str ⟨#[c]⟩) (.str "z") = some (.bool (decide (c ≤ 122))) := by
  show some (PyData.bool (!decide (([122] : List Nat) < [c]))) = _
  congr 2
  by_cases h : c ≤ 122
  · have : ¬ (([122] : List Nat) < [c]) := by rw [List.cons_lt_cons_iff]; simp; omega
    simp [h, this]
  · have : (([122] : List Nat) < [c]) := by rw [List.cons_lt_cons_iff]; simp; omega
    simp [h, this]
def outL : List Nat → List PyData
  | [] => []
  | c :: cs => if inr c = true then outL cs else .str ⟨#[c]⟩ :: outL cs
theorem lc_out (x : PyData) : ∀ (cs : List Nat) (acc : List PyData), acc.length + cs.length < 1000000 → lcL (gNm 1) (xNotT (tst (xChain leD leD (xC (.str "a")) (xVar 1) (xC (.str "z"))))) (xVar 1) [1] (cs.map fun c => PyData.str ⟨#[c]⟩) [.d x, .un] acc =
    some (acc ++ outL cs, [.d x, .un])
  | [], acc, _ => by simp [outL]
  | c :: cs, acc, h => by
    simp only [List.length_cons] at h
    have ih1 := lc_out x cs acc (by omega)
    have ih2 := lc_out x cs (acc ++ [.str ⟨#[c]⟩]) (by simp only [List.length_append, List.length_cons, List.length_nil]; omega)
    have hl : acc.length < 16777216 := by omega
    by_cases h1 : 97 ≤ c
    · by_cases h2 : c ≤ 122
      · have hi : inr c = true := decide_eq_true ⟨h1, h2⟩
        rw [outL, if_pos hi]
        simp [le_a, le_z, sizeL, hl, h1, h2, ih1]
      · have hi : ¬ inr c = true := by simp [inr, h2]
        rw [outL, if_neg hi]
        simp [le_a, le_z, sizeL, hl, h1, h2, ih2]
    · have hi : ¬ inr c = true := by simp [inr, h1]
      rw [outL, if_neg hi]
      simp [le_a, le_z, sizeL, hl, h1, ih2]
theorem out_empty : ∀ cs : List Nat, (outL cs).isEmpty = cs.all inr
  | [] => rfl
  | c :: cs => by
    rw [outL]
    cases h : inr c
    · simp [h]
    · simp [h, out_empty cs]
theorem out_mem : ∀ {cs : List Nat} {d : PyData}, d ∈ outL cs → ∃ c ∈ cs, d = .str ⟨#[c]⟩
  | [], d, h => by simp [outL] at h
  | c :: cs, d, h => by
    rw [outL] at h
    split at h
    · obtain ⟨c', h1, h2⟩ := out_mem h
      exact ⟨c', List.mem_cons_of_mem _ h1, h2⟩
    · rcases List.mem_cons.mp h with rfl | h
      · exact ⟨c, List.mem_cons_self, rfl⟩
      · obtain ⟨c', h1, h2⟩ := out_mem h
        exact ⟨c', List.mem_cons_of_mem _ h1, h2⟩
theorem t_l_is_name {B : Nat} (x : PyData) (hx : sz x ≤ 8000000) (ho : ok B x = true) : m_l_is_name [.d x] = some (.d (.bool (nameB x)), [.d x]) := by
  cases x with
  | str s =>
    have hs : 12 * s.length + 12 ≤ 8000000 := by simpa [sz] using hx
    have h1 : s.length ≤ 16777216 := by omega
    have hL : lenD (.str s) = some (.int s.length) := by simp [lenD, sizeL, h1]
    by_cases hr : 1 ≤ s.length ∧ s.length ≤ 8
    · have r1 : (1 : Int) ≤ s.length := by omega
      have r2 : (s.length : Int) ≤ 8 := by omega
      have hi : itD (.str s) = some (s.cps.toList.map fun c => PyData.str ⟨#[c]⟩) := rfl
      have hlen : s.cps.toList.length = s.length := by simp [PySem.Str.length]
      have lc := lc_out (.str s) s.cps.toList [] (by rw [hlen]; simp; omega)
      simp only [List.nil_append] at lc
      have hmem : ∀ d ∈ outL s.cps.toList, ok B d = true ∧ d.depth ≤ 0 := fun d hd => by
        obtain ⟨c, hc, rfl⟩ := out_mem hd
        have := okS ho c hc
        exact ⟨by simp [ok, this], Nat.le_refl _⟩
      have hdep := depthA_iff.mpr fun d hd => (hmem d hd).2
      have eq : eqD (.list (outL s.cps.toList)) (.list []) = some (.bool (s.cps.toList.all inr)) := by
        rw [eqD_ok (B := B) (by simpa [ok] using okA_iff.mpr fun d hd => (hmem d hd).1) (show ok B (.list []) = true from rfl) (by simp only [PyData.depth]; omega) (by decide)]
        rw [← out_empty]
        generalize outL s.cps.toList = ys
        cases ys <;> rfl
      simp [m_l_is_name, e_run, b_l_is_name, isStrD, hL, r1, r2, hi, unAt, nameB, hr, lc, eq]
    · by_cases r1 : (1 : Int) ≤ s.length
      · have r2 : ¬ (s.length : Int) ≤ 8 := by omega
        simp [m_l_is_name, e_run, b_l_is_name, isStrD, hL, r1, r2, nameB, hr]
      · simp [m_l_is_name, e_run, b_l_is_name, isStrD, hL, r1, nameB, hr]
  | _ => simp [m_l_is_name, e_run, b_l_is_name, isStrD, nameB]
end K16
set_option maxRecDepth 100000
set_option maxHeartbeats 4000000
namespace K16
open PySem PySem.Spec PyProof.Rows L2 DL
def isB : PyData → Bool
  | .bool _ => true
  | _ => false
theorem isBlD_is (x : PyData) : isBlD x = isB x := by cases x <;> rfl
def rowB : PyData → Bool
  | .tuple [n, c, b] => nameB n && clB c && isB b
  | _ => false
def pairB : PyData → Bool
  | .tuple [a, b] => nameB a && nameB b
  | _ => false
def shapeB : PyData → Bool
  | .tuple [.tuple rows, .tuple pairs] => rows.all rowB && pairs.all pairB
  | _ => false
/-- small enough, plain -/
structure Ok1 (B : Nat) (x : PyData) : Prop where
  o : ok B x = true
  d : x.depth ≤ 30
  s : sz x ≤ 1000000
theorem Ok1.mem {B : Nat} {xs : List PyData} (h : Ok1 B (.tuple xs)) {y : PyData} (hy : y ∈ xs) : Ok1 B y := by
  obtain ⟨h1, h2, h3⟩ := h
  refine ⟨okA_iff.mp (by simpa [ok] using h1) y hy, ?_, ?_⟩
  · have := depthA_iff.mp (Nat.le_refl (PyData.depthAll xs)) y hy
    have e : (PyData.tuple xs).depth = PyData.depthAll xs + 1 := by simp [PyData.depth]
    omega
  · have := szA_mem hy
    have e : sz (PyData.tuple xs) = 8 + szA xs := by simp [sz]
    omega
section
variable {B : Nat} (hB : B < 2 ^ 200)
include hB
theorem t_row (x : PyData) (hx : Ok1 B x) : m_is_rule_row [.d x] = some (.d (.bool (rowB x)), [.d x]) := by
  cases x with
  | tuple xs =>
    match xs, hx with
    | [], _ => simp [m_is_rule_row, e_run, b_is_rule_row, isTupD, rowB]
    | [a], _ => simp [m_is_rule_row, e_run, b_is_rule_row, isTupD, rowB]
    | [a, b], _ => simp [m_is_rule_row, e_run, b_is_rule_row, isTupD, rowB]
    | [a, b, c], hx =>
      have n := t_is_name a (by have := (hx.mem (y := a) (by simp)).s; omega)
      have k := t_is_clause hB b (hx.mem (y := b) (by simp)).o
      cases h1 : nameB a <;> cases h2 : clB b <;> simp [m_is_rule_row, e_run, b_is_rule_row, isTupD, rowB, n, k, h1, h2, isBlD_is]
    | a :: b :: c :: d :: r, _ =>
      have hl : ¬ (((r.length : Int) + 1 + 1 + 1 + 1) = 3) := by omega
      simp [m_is_rule_row, e_run, b_is_rule_row, isTupD, rowB, hl]
  | _ => simp [m_is_rule_row, e_run, b_is_rule_row, isTupD, rowB]
omit hB in
theorem t_pair (x : PyData) (hx : Ok1 B x) : m_is_name_pair [.d x] = some (.d (.bool (pairB x)), [.d x]) := by
  cases x with
  | tuple xs =>
    match xs, hx with
    | [], _ => simp [m_is_name_pair, e_run, b_is_name_pair, isTupD, pairB]
    | [a], _ => simp [m_is_name_pair, e_run, b_is_name_pair, isTupD, pairB]
    | [a, b], hx =>
      have n := t_is_name a (by have := (hx.mem (y := a) (by simp)).s; omega)
      have k := t_is_name b (by have := (hx.mem (y := b) (by simp)).s; omega)
      cases h1 : nameB a <;> simp [m_is_name_pair, e_run, b_is_name_pair, isTupD, pairB, n, k, h1]
    | a :: b :: c :: r, _ =>
      have hl : ((((r.length : Int) + 1 + 1 + 1)) == 2) = false := by rw [beq_eq_false_iff_ne]; omega
      have hl2 : ¬ ((((r.length : Int) + 1 + 1 + 1)) = 2) := by omega
      simp [m_is_name_pair, e_run, b_is_name_pair, isTupD, pairB, hl, hl2]
  | _ => simp [m_is_name_pair, e_run, b_is_name_pair, isTupD, pairB]
end
/-- [f(y) for y in xs] of a def that says a bool -/
theorem lc_bool {m : XF} {f : PyData → Bool} {i : Nat} {ρ : Nv} (hu : ρ[i]? = some .un) : ∀ (xs acc : List PyData), (∀ y ∈ xs, m [.d y] = some (.d (.bool (f y)), [.d y])) → acc.length + xs.length < 1000000 →
    lcL (gNm i) cYes (xCall (arity 1 m) (aCons (xVar i) aNil)) [i] xs ρ acc = some (acc ++ xs.map fun y => PyData.bool (f y), ρ)
  | [], acc, _, _ => by simp
  | y :: xs, acc, h, hl => by
    simp only [List.length_cons] at hl
    have ih := lc_bool hu xs (acc ++ [.bool (f y)]) (fun z hz => h z (List.mem_cons_of_mem _ hz)) (by simp only [List.length_append, List.length_cons, List.length_nil]; omega)
    have e := h y List.mem_cons_self
    have hi : i < ρ.length := (List.getElem?_eq_some_iff.mp hu).1
    have hs : ρ.set i .un = ρ := by
      apply List.ext_getElem?
      intro j
      by_cases hj : i = j
      · subst hj; rw [List.getElem?_set_self hi, hu]
      · rw [List.getElem?_set_ne hj]
    have hl' : acc.length < 16777216 := by omega
    have g1 : (ρ.set i (.d y))[i]? = some (.d y) := List.getElem?_set_self hi
    have q1 : free ρ i = true := by rw [e_free, hu]
    have q2 : free (ρ.set i (.d y)) i = true := by rw [e_free, g1]
    simp [hu, g1, q1, q2, e, sizeL, hl', List.set_set, hs]
    simpa using ih
theorem bls_all (f : PyData → Bool) (xs : List PyData) : allD (.list (xs.map fun y => PyData.bool (f y))) = some (.bool (xs.all f)) := by
  have : blsD (xs.map fun y => PyData.bool (f y)) = some (xs.map f) := by
    induction xs with
    | nil => rfl
    | cons y ys ih => simp [blsD, ih]
  simp [allD, this, List.all_map]
theorem lc_tup {i : Nat} {ρ : Nv} (hu : ρ[i]? = some .un) : ∀ (xs acc : List PyData), acc.length + xs.length < 1000000 →
    lcL (gNm i) cYes (xIsi isTupD (xVar i)) [i] xs ρ acc = some (acc ++ xs.map fun y => PyData.bool (isTupD y), ρ)
  | [], acc, _ => by simp
  | y :: xs, acc, hl => by
    simp only [List.length_cons] at hl
    have ih := lc_tup hu xs (acc ++ [.bool (isTupD y)]) (by simp only [List.length_append, List.length_cons, List.length_nil]; omega)
    have hi : i < ρ.length := (List.getElem?_eq_some_iff.mp hu).1
    have hs : ρ.set i .un = ρ := by
      apply List.ext_getElem?
      intro j
      by_cases hj : i = j
      · subst hj; rw [List.getElem?_set_self hi, hu]
      · rw [List.getElem?_set_ne hj]
    have hl' : acc.length < 16777216 := by omega
    have g1 : (ρ.set i (.d y))[i]? = some (.d y) := List.getElem?_set_self hi
    have q1 : free ρ i = true := by rw [e_free, hu]
    have q2 : free (ρ.set i (.d y)) i = true := by rw [e_free, g1]
    simp [hu, g1, q1, q2, sizeL, hl', List.set_set, hs]
    simpa using ih
theorem len_ok {B : Nat} {xs : List PyData} (h : Ok1 B (.tuple xs)) : xs.length < 1000000 := by
  have := szA_len xs
  have := h.s
  have e : sz (PyData.tuple xs) = 8 + szA xs := by simp [sz]
  omega
@[simp] theorem isTup_t (xs : List PyData) : isTupD (.tuple xs) = true := rfl
theorem isTup_ex {x : PyData} (h : isTupD x = true) : ∃ xs, x = .tuple xs := by
  cases x <;> first | exact ⟨_, rfl⟩ | cases h
theorem shape_not1 {a b : PyData} (h : isTupD a = false) : shapeB (.tuple [a, b]) = false := by
  cases a <;> first | rfl | cases h
theorem shape_not2 {a b : PyData} (h : isTupD b = false) : shapeB (.tuple [a, b]) = false := by
  cases b <;> first | (cases a <;> rfl) | cases h
theorem shape_long (a b c : PyData) (r : List PyData) : shapeB (.tuple (a :: b :: c :: r)) = false := by
  cases a <;> first | rfl | (cases b <;> rfl)
theorem t_shape {B : Nat} (hB : B < 2 ^ 200) (x : PyData) (hx : Ok1 B x) : m_has_plan_shape [.d x] = some (.d (.bool (shapeB x)), [.d x]) := by
  cases x with
  | tuple xs =>
    match xs, hx with
    | [], _ => simp [m_has_plan_shape, e_run, b_has_plan_shape, isTupD, shapeB]
    | [a], _ => simp [m_has_plan_shape, e_run, b_has_plan_shape, isTupD, shapeB]
    | [a, b], hx =>
      have l0 := lc_tup (i := 3) (ρ := [.d (.tuple [a, b]), .un, .un, .un, .un, .un]) rfl [a, b] [] (by simp)
      have a0 : allD (.list [.bool (isTupD a), .bool (isTupD b)]) = some (.bool (isTupD a && isTupD b)) := by simpa using bls_all isTupD [a, b]
      simp only [List.nil_append, List.map_cons, List.map_nil] at l0
      cases h1 : isTupD a with
      | false =>
        rw [h1] at a0 l0
        simp [-e_lcC, m_has_plan_shape, e_run, b_has_plan_shape, l0, a0, h1, unAt, shape_not1 h1]
      | true =>
        cases h2 : isTupD b with
        | false =>
          rw [h1, h2] at a0 l0
          simp [-e_lcC, m_has_plan_shape, e_run, b_has_plan_shape, l0, a0, h1, h2, unAt, shape_not2 h2]
        | true =>
          rw [h1, h2] at a0 l0
          obtain ⟨rows, rfl⟩ := isTup_ex h1
          obtain ⟨pairs, rfl⟩ := isTup_ex h2
          have hr := hx.mem (y := .tuple rows) (by simp)
          have hp := hx.mem (y := .tuple pairs) (by simp)
          have l1 := lc_bool (m := m_is_rule_row) (f := rowB) (i := 4) (ρ := [.d (.tuple [.tuple rows, .tuple pairs]), .d (.tuple rows), .d (.tuple pairs), .un, .un, .un]) rfl rows [] (fun y hy => t_row hB y (hr.mem hy)) (by have := len_ok hr; simpa using this)
          have l2 := lc_bool (m := m_is_name_pair) (f := pairB) (i := 5) (ρ := [.d (.tuple [.tuple rows, .tuple pairs]), .d (.tuple rows), .d (.tuple pairs), .un, .un, .un]) rfl pairs [] (fun y hy => t_pair y (hp.mem hy)) (by have := len_ok hp; simpa using this)
          have a1 := bls_all rowB rows
          have a2 := bls_all pairB pairs
          cases h3 : rows.all rowB <;> simp [-e_lcC, -List.all_eq_true, m_has_plan_shape, e_run, b_has_plan_shape, l0, a0, l1, a1, l2, a2, h1, h2, h3, unAt, shapeB]
    | a :: b :: c :: r, _ =>
      have hl : ¬ ((((r.length : Int) + 1 + 1 + 1)) = 2) := by omega
      simp [m_has_plan_shape, e_run, b_has_plan_shape, isTupD, shape_long, hl]
  | _ => simp [m_has_plan_shape, e_run, b_has_plan_shape, isTupD, shapeB]
/-! ### the law's own check -/
def bRow : XS := sSeq (sIf (xOrT (xNotT (xTru (xIsi isTupD (xVar 1)))) (xOrT (tst (x2 neD (x1 lenD (xVar 1)) (xC (.int 3)))) (xOrT (xNotT (xTru (xCall (arity 1 m_l_is_name) (aCons (x2 idxD (xVar 1) (xC (.int 0))) (aNil))))) (xNotT (xTru (xIsi isBlD (x2 idxD (xVar 1) (xC (.int 2))))))))) (sRet (xC (.bool false))) (sNil)) (sIf (xNotT (xTru (xCall (arity 1 m_l_is_clause) (aCons (x2 idxD (xVar 1) (xC (.int 1))) (aNil))))) (sRet (xC (.bool false))) (sNil))
def bPair : XS := sIf (xOrT (xNotT (xTru (xIsi isTupD (xVar 2)))) (xOrT (tst (x2 neD (x1 lenD (xVar 2)) (xC (.int 2)))) (tst (x2 neD (xFz (nLc (iOf (xVar 2)) (gNm 3) (xNotT (xTru (xCall (arity 1 m_l_is_name) (aCons (xVar 3) (aNil))))) (xVar 3) [3])) (xLst (aNil)))))) (sRet (xC (.bool false))) (sNil)
section
variable {B : Nat} (hB : B < 2 ^ 200)
include hB
theorem t_bRow {e0 e2 e3 : EV} (x : PyData) (hx : Ok1 B x) : bRow [e0, .d x, e2, e3] = some (if rowB x = true then .nx [e0, .d x, e2, e3] else .rt (.bool false) [e0, .d x, e2, e3]) := by
  cases x with
  | tuple xs =>
    match xs, hx with
    | [], _ => simp [bRow, isTupD, rowB]
    | [a], _ => simp [bRow, isTupD, rowB]
    | [a, b], _ => simp [bRow, isTupD, rowB]
    | [a, b, c], hx =>
      have n := t_l_is_name (B := B) a (by have := (hx.mem (y := a) (by simp)).s; omega) (hx.mem (y := a) (by simp)).o
      have k := t_l_is_clause hB b (hx.mem (y := b) (by simp)).o (by have := (hx.mem (y := b) (by simp)).d; omega)
      cases h1 : nameB a <;> cases h2 : clB b <;> cases h3 : isB c <;> simp [bRow, isTupD, rowB, n, k, h1, h2, h3, isBlD_is]
    | a :: b :: c :: d :: r, _ =>
      have hl : ¬ (((r.length : Int) + 1 + 1 + 1 + 1) = 3) := by omega
      simp [bRow, isTupD, rowB, hl]
  | _ => simp [bRow, isTupD, rowB]
theorem t_rows {e0 e2 e3 : EV} : ∀ (xs : List PyData) {e1 : EV}, Fs e1 → (∀ y ∈ xs, Ok1 B y) → ∃ f1, Fs f1 ∧ forL (gNm 1) bRow xs [e0, e1, e2, e3] = some (if xs.all rowB = true then .nx [e0, f1, e2, e3] else .rt (.bool false) [e0, f1, e2, e3])
  | [], e1, h1, _ => ⟨e1, h1, by simp⟩
  | x :: xs, e1, h1, h => by
    have e := t_bRow hB (e0 := e0) (e2 := e2) (e3 := e3) x (h x List.mem_cons_self)
    cases hr : rowB x with
    | false => exact ⟨.d x, by simp, by rw [e_forC]; simp [free_fs h1, e, hr]⟩
    | true =>
      obtain ⟨f1, q1, q2⟩ := t_rows (e0 := e0) (e2 := e2) (e3 := e3) xs (e1 := .d x) (by simp) fun y hy => h y (List.mem_cons_of_mem _ hy)
      exact ⟨f1, q1, by rw [e_forC]; simp [-List.all_eq_true, free_fs h1, e, hr, q2]⟩
end
theorem t_bPair {B : Nat} {e0 e1 : EV} (x : PyData) (hx : Ok1 B x) : bPair [e0, e1, .d x, .un] = some (if pairB x = true then .nx [e0, e1, .d x, .un] else .rt (.bool false) [e0, e1, .d x, .un]) := by
  cases x with
  | tuple xs =>
    match xs, hx with
    | [], _ => simp [bPair, isTupD, pairB]
    | [a], _ => simp [bPair, isTupD, pairB]
    | [a, b], hx =>
      have oa := (hx.mem (y := a) (by simp))
      have ob := (hx.mem (y := b) (by simp))
      have n := t_l_is_name (B := B) a (by have := oa.s; omega) oa.o
      have k := t_l_is_name (B := B) b (by have := ob.s; omega) ob.o
      have da := oa.d
      have db := ob.d
      have ne0 : neD (.list []) (.list []) = some (.bool false) := rfl
      have ne1 : neD (.list [a]) (.list []) = some (.bool true) := neL (B := B) (by simp [okA, oa.o]) (by simp [PyData.depthAll]; omega)
      have ne2 : neD (.list [b]) (.list []) = some (.bool true) := neL (B := B) (by simp [okA, ob.o]) (by simp [PyData.depthAll]; omega)
      have ne3 : neD (.list [a, b]) (.list []) = some (.bool true) := neL (B := B) (by simp [okA, oa.o, ob.o]) (by simp [PyData.depthAll]; omega)
      cases h1 : nameB a <;> cases h2 : nameB b <;> simp [bPair, isTupD, pairB, n, k, h1, h2, unAt, sizeL, ne0, ne1, ne2, ne3]
    | a :: b :: c :: r, _ =>
      have hl : ¬ (((r.length : Int) + 1 + 1 + 1) = 2) := by omega
      simp [bPair, isTupD, pairB, hl]
  | _ => simp [bPair, isTupD, pairB]
theorem t_pairs {B : Nat} {e0 e1 : EV} : ∀ (xs : List PyData) {e2 : EV}, Fs e2 → (∀ y ∈ xs, Ok1 B y) → ∃ f2, Fs f2 ∧ forL (gNm 2) bPair xs [e0, e1, e2, .un] = some (if xs.all pairB = true then .nx [e0, e1, f2, .un] else .rt (.bool false) [e0, e1, f2, .un])
  | [], e2, h1, _ => ⟨e2, h1, by simp⟩
  | x :: xs, e2, h1, h => by
    have e := t_bPair (e0 := e0) (e1 := e1) x (h x List.mem_cons_self)
    cases hr : pairB x with
    | false => exact ⟨.d x, by simp, by rw [e_forC]; simp [free_fs h1, e, hr]⟩
    | true =>
      obtain ⟨f1, q1, q2⟩ := t_pairs (e0 := e0) (e1 := e1) xs (e2 := .d x) (by simp) fun y hy => h y (List.mem_cons_of_mem _ hy)
      exact ⟨f1, q1, by rw [e_forC]; simp [-List.all_eq_true, free_fs h1, e, hr, q2]⟩
theorem some_eq : b_l_is_some_shape = sSeq (sIf (xOrT (xNotT (xTru (xIsi isTupD (xVar 0)))) (tst (x2 neD (x1 lenD (xVar 0)) (xC (.int 2))))) (sRet (xC (.bool false))) (sNil)) (sSeq (sIf (xOrT (xNotT (xTru (xIsi isTupD (x2 idxD (xVar 0) (xC (.int 0)))))) (xNotT (xTru (xIsi isTupD (x2 idxD (xVar 0) (xC (.int 1))))))) (sRet (xC (.bool false))) (sNil)) (sSeq (sFor (iOf (x2 idxD (xVar 0) (xC (.int 0)))) (gNm 1) bRow) (sSeq (sFor (iOf (x2 idxD (xVar 0) (xC (.int 1)))) (gNm 2) bPair) (sRet (xC (.bool true)))))) := rfl
theorem t_l_shape {B : Nat} (hB : B < 2 ^ 200) (x : PyData) (hx : Ok1 B x) : m_l_is_some_shape [.d x] = some (.d (.bool (shapeB x)), [.d x]) := by
  cases x with
  | tuple xs =>
    match xs, hx with
    | [], _ => simp [m_l_is_some_shape, e_run, some_eq, isTupD, shapeB]
    | [a], _ => simp [m_l_is_some_shape, e_run, some_eq, isTupD, shapeB]
    | [a, b], hx =>
      cases h1 : isTupD a with
      | false => simp [m_l_is_some_shape, e_run, some_eq, h1, shape_not1 h1]
      | true =>
        cases h2 : isTupD b with
        | false => simp [m_l_is_some_shape, e_run, some_eq, h1, h2, shape_not2 h2]
        | true =>
          obtain ⟨rows, rfl⟩ := isTup_ex h1
          obtain ⟨pairs, rfl⟩ := isTup_ex h2
          have hr := hx.mem (y := .tuple rows) (by simp)
          have hp := hx.mem (y := .tuple pairs) (by simp)
          obtain ⟨f1, q1, r1⟩ := t_rows hB (e0 := .d (.tuple [.tuple rows, .tuple pairs])) (e2 := .un) (e3 := .un) rows (e1 := .un) (by simp) fun y hy => hr.mem hy
          obtain ⟨f2, q2, r2⟩ := t_pairs (e0 := .d (.tuple [.tuple rows, .tuple pairs])) (e1 := f1) pairs (e2 := .un) (by simp) fun y hy => hp.mem hy
          cases h3 : rows.all rowB <;> cases h4 : pairs.all pairB <;> simp [-List.all_eq_true, m_l_is_some_shape, e_run, some_eq, h1, h2, r1, r2, h3, h4, shapeB]
    | a :: b :: c :: r, _ =>
      have hl : ¬ ((((r.length : Int) + 1 + 1 + 1)) = 2) := by omega
      simp [m_l_is_some_shape, e_run, some_eq, isTupD, shape_long, hl]
  | _ => simp [m_l_is_some_shape, e_run, some_eq, isTupD, shapeB]
end K16
namespace RQ
structure Cl where
  f : Rat
  p : Rat
  lo : Option Rat
  hi : Option Rat
deriving DecidableEq
def bd (x : Rat) (lo hi : Option Rat) : Rat :=
  match lo, hi with
  | none, none => x
  | some l, none => if x < l then l else x
  | none, some h => if h < x then h else x
  | some l, some h => if x < l then (if h < l then h else l) else if h < x then h else x
def ap (c : Cl) (x : Rat) : Rat := bd (c.f * x + c.p) c.lo c.hi
def leO (lo hi : Option Rat) : Prop := match lo, hi with | some l, some h => l ≤ h | _, _ => True
def ltO (lo hi : Option Rat) : Prop := match lo, hi with | some l, some h => l < h | _, _ => True
def WF (c : Cl) : Prop := 0 ≤ c.f ∧ (c.f = 0 → c.lo = none ∧ c.hi = none) ∧ ltO c.lo c.hi
theorem mono {c : Cl} (h : WF c) {x y : Rat} (hxy : x ≤ y) : ap c x ≤ ap c y := by
  obtain ⟨f, p, lo, hi⟩ := c
  obtain ⟨h1, h2, h3⟩ := h
  have : f * x ≤ f * y := Rat.mul_le_mul_of_nonneg_left hxy h1
  cases lo <;> cases hi <;> simp only [ap, bd, ltO] at * <;> grind
def cst (a : Rat) : Cl := ⟨0, a, none, none⟩
def nf (f p : Rat) (lo hi : Option Rat) : Cl := if f = 0 then cst (bd p lo hi) else if lo ≠ none ∧ lo = hi then cst (lo.getD 0) else ⟨f, p, lo, hi⟩
def ea (e : Option Rat) (c : Cl) (b : Option Rat) : Option Rat := match e with | none => b | some x => some (ap c x)
def ch2 (a b : Cl) : Cl := if a.f = 0 ∨ b.f = 0 then cst (ap b a.p) else nf (a.f * b.f) (b.f * a.p + b.p) (ea a.lo b b.lo) (ea a.hi b b.hi)
theorem ap_nf (f p : Rat) (lo hi : Option Rat) (h0 : 0 ≤ f) (h : leO lo hi) (x : Rat) : ap (nf f p lo hi) x = bd (f * x + p) lo hi := by
  cases lo <;> cases hi <;> simp only [ap, bd, leO, nf, cst] at * <;> grind
theorem mulm {g y l : Rat} (h : 0 ≤ g) (h0 : g ≠ 0) : (y < l → g * y < g * l) ∧ (l < y → g * l < g * y) := by
  have hg : 0 < g := by grind
  exact ⟨fun q => Rat.mul_lt_mul_of_pos_left q hg, fun q => Rat.mul_lt_mul_of_pos_left q hg⟩
theorem ea_le {lo hi : Option Rat} {b : Cl} (h : leO lo hi) (hb : WF b) : leO (ea lo b b.lo) (ea hi b b.hi) := by
  have m := fun x y (q : x ≤ y) => mono hb q
  obtain ⟨g, q, lo', hi'⟩ := b
  obtain ⟨k1, k2, k3⟩ := hb
  cases lo with
  | none => cases hi <;> cases lo' <;> cases hi' <;> simp only [ap, bd, ltO, leO, ea] at * <;> grind
  | some l => cases hi with
    | none => cases lo' <;> cases hi' <;> simp only [ap, bd, ltO, leO, ea] at * <;> grind
    | some u => exact m _ _ h
theorem lt_le {lo hi : Option Rat} (h : ltO lo hi) : leO lo hi := by
  cases lo <;> cases hi <;> simp only [ltO, leO] at * <;> grind
theorem ap_ch2 {a b : Cl} (ha : WF a) (hb : WF b) (x : Rat) : ap (ch2 a b) x = ap b (ap a x) := by
  have le := ea_le (lt_le ha.2.2) hb
  obtain ⟨f, p, lo, hi⟩ := a
  obtain ⟨g, q, lo', hi'⟩ := b
  obtain ⟨h1, h2, h3⟩ := ha
  obtain ⟨k1, k2, k3⟩ := hb
  have e : g * (f * x + p) + q = f * g * x + (g * p + q) := by grind
  by_cases f0 : f = 0
  · subst f0
    obtain ⟨rfl, rfl⟩ := h2 rfl
    simp only [ap, bd, ltO, nf, cst, ch2, ea] at *; grind
  by_cases g0 : g = 0
  · subst g0
    obtain ⟨rfl, rfl⟩ := k2 rfl
    simp only [ap, bd, ltO, nf, cst, ch2, ea] at *; grind
  have fg : f * g ≠ 0 := by intro h; rcases Rat.mul_eq_zero.mp h with h | h <;> contradiction
  have fg0 : 0 ≤ f * g := Rat.mul_nonneg h1 k1
  have c1 : ch2 ⟨f, p, lo, hi⟩ ⟨g, q, lo', hi'⟩ = nf (f * g) (g * p + q) (ea lo ⟨g, q, lo', hi'⟩ lo') (ea hi ⟨g, q, lo', hi'⟩ hi') := by simp [ch2, f0, g0]
  rw [c1, ap_nf _ _ _ _ fg0 le]
  clear c1 le
  simp only [ap]
  generalize hy : f * x + p = y at *
  rw [← e]
  clear e hy
  cases lo with
  | none => cases hi with
    | none => cases lo' <;> cases hi' <;> simp only [ap, bd, ltO, cst, ea] at * <;> grind
    | some h => have m := mulm (y := y) (l := h) k1 g0
                cases lo' <;> cases hi' <;> simp only [ap, bd, ltO, cst, ea] at * <;> grind
  | some l => 
    have n := mulm (y := y) (l := l) k1 g0
    cases hi with
    | none => cases lo' <;> cases hi' <;> simp only [ap, bd, ltO, cst, ea] at * <;> grind
    | some h => have m := mulm (y := y) (l := h) k1 g0
                have o := mulm (y := l) (l := h) k1 g0
                by_cases y1 : y < l
                · cases lo' <;> cases hi' <;> simp only [ap, bd, ltO, cst, ea, if_pos y1] at * <;> grind
                · by_cases y2 : h < y
                  · cases lo' <;> cases hi' <;> simp only [ap, bd, ltO, cst, ea, if_neg y1, if_pos y2] at * <;> grind
                  · cases lo' <;> cases hi' <;> simp only [ap, bd, ltO, cst, ea, if_neg y1, if_neg y2] at * <;> grind
theorem wf_nf {f p : Rat} {lo hi : Option Rat} (h0 : 0 ≤ f) (h : leO lo hi) : WF (nf f p lo hi) := by
  cases lo <;> cases hi <;> simp only [leO, nf, cst, WF, ltO] at * <;> grind [ltO]
theorem wf_ch2 {a b : Cl} (ha : WF a) (hb : WF b) : WF (ch2 a b) := by
  unfold ch2
  split
  · simp [cst, WF, ltO]
  · exact wf_nf (Rat.mul_nonneg ha.1 hb.1) (ea_le (lt_le ha.2.2) hb)

/-! ### clauses that agree at some amounts are equal -/
/-- the amount at which the linear part reaches a bound -/
def be (c : Cl) (l : Rat) : Rat := (l - c.p) / c.f
theorem be_eq {c : Cl} (h : c.f ≠ 0) (l : Rat) : c.f * be c l + c.p = l := by
  unfold be; grind
theorem at_lo {c : Cl} (h : WF c) (h0 : c.f ≠ 0) {l : Rat} (hl : c.lo = some l) : ap c (be c l) = l ∧ ap c (be c l - 1) = l ∧ l < ap c (be c l + 1) := by
  have e := be_eq h0 l
  generalize be c l = x at *
  obtain ⟨f, p, lo, hi⟩ := c
  obtain ⟨h1, h2, h3⟩ := h
  simp only at hl e h0
  subst hl
  cases hi <;> simp only [ap, bd, ltO] at * <;> grind
theorem at_hi {c : Cl} (h : WF c) (h0 : c.f ≠ 0) {l : Rat} (hl : c.hi = some l) : ap c (be c l) = l ∧ ap c (be c l + 1) = l ∧ ap c (be c l - 1) < l := by
  have e := be_eq h0 l
  generalize be c l = x at *
  obtain ⟨f, p, lo, hi⟩ := c
  obtain ⟨h1, h2, h3⟩ := h
  simp only at hl e h0
  subst hl
  cases lo <;> simp only [ap, bd, ltO] at * <;> grind
theorem flat {c : Cl} (h : WF c) (h0 : c.f ≠ 0) {x y : Rat} (hxy : x < y) (he : ap c x = ap c y) : (∃ l, c.lo = some l ∧ c.f * y + c.p ≤ l ∧ ap c y = l) ∨ (∃ l, c.hi = some l ∧ l ≤ c.f * x + c.p ∧ ap c x = l) := by
  obtain ⟨f, p, lo, hi⟩ := c
  obtain ⟨h1, h2, h3⟩ := h
  have m := (mulm (g := f) (y := x) (l := y) h1 h0).1 hxy
  cases lo <;> cases hi <;> simp only [ap, bd, ltO] at * <;> grind
theorem cmp_be {c : Cl} (h : WF c) (h0 : c.f ≠ 0) (l x : Rat) : (c.f * x + c.p ≤ l ↔ x ≤ be c l) ∧ (l ≤ c.f * x + c.p ↔ be c l ≤ x) := by
  have e := be_eq h0 l
  generalize be c l = y at *
  have m := mulm (g := c.f) (y := x) (l := y) h.1 h0
  constructor <;> constructor <;> grind
/-- they agree at the amounts that belong to a bend -/
def AgB (a b : Cl) (x : Rat) : Prop := ap a x = ap b x ∧ ap a (x + 1) = ap b (x + 1) ∧ ap a (x - 1) = ap b (x - 1)
theorem lo_of {a b : Cl} (ha : WF a) (hb : WF b) (fa : a.f ≠ 0) (fb : b.f ≠ 0) {l : Rat} (hl : a.lo = some l) (g : AgB a b (be a l)) : b.lo = some l ∧ be a l ≤ be b l := by
  obtain ⟨g1, g2, g3⟩ := g
  obtain ⟨q1, q2, q3⟩ := at_lo ha fa hl
  rcases flat hb fb (x := be a l - 1) (y := be a l) (by grind) (by grind) with ⟨l', h1, h2, h3⟩ | ⟨l', h1, h2, h3⟩
  · have : l' = l := by grind
    subst this
    exact ⟨h1, (cmp_be hb fb _ _).1.mp h2⟩
  · have h4 := (cmp_be hb fb _ _).2.mp h2
    obtain ⟨p1, p2, p3⟩ := at_hi hb fb h1
    have m1 := mono hb (show be b l' ≤ be a l by grind)
    have m2 := mono hb (show be a l ≤ be a l + 1 by grind)
    have u : ap b (be a l + 1) ≤ l' := by
      obtain ⟨f, p, lo, hi⟩ := b
      obtain ⟨h1', h2', h3'⟩ := hb
      simp only at h1
      subst h1
      cases lo <;> simp only [ap, bd, ltO] at * <;> grind
    grind
theorem hi_of {a b : Cl} (ha : WF a) (hb : WF b) (fa : a.f ≠ 0) (fb : b.f ≠ 0) {l : Rat} (hl : a.hi = some l) (g : AgB a b (be a l)) : b.hi = some l ∧ be b l ≤ be a l := by
  obtain ⟨g1, g2, g3⟩ := g
  obtain ⟨q1, q2, q3⟩ := at_hi ha fa hl
  rcases flat hb fb (x := be a l) (y := be a l + 1) (by grind) (by grind) with ⟨l', h1, h2, h3⟩ | ⟨l', h1, h2, h3⟩
  · have h4 := (cmp_be hb fb _ _).1.mp h2
    obtain ⟨p1, p2, p3⟩ := at_lo hb fb h1
    have m1 := mono hb (show be a l ≤ be b l' by grind)
    have m2 := mono hb (show be a l - 1 ≤ be a l by grind)
    have u : l' ≤ ap b (be a l - 1) := by
      obtain ⟨f, p, lo, hi⟩ := b
      obtain ⟨h1', h2', h3'⟩ := hb
      simp only at h1
      subst h1
      cases hi <;> simp only [ap, bd, ltO] at * <;> grind
    grind
  · have : l' = l := by grind
    subst this
    exact ⟨h1, (cmp_be hb fb _ _).2.mp h2⟩
def bds (c : Cl) : List Rat := (c.lo.toList ++ c.hi.toList).map (be c)
theorem const_of {a b : Cl} (ha : WF a) (hb : WF b) (fa : a.f = 0) (h0 : ap a 0 = ap b 0) (h1 : ap a 1 = ap b 1) (h : ∀ x ∈ bds b, AgB a b x) : b.f = 0 := by
  apply Classical.byContradiction
  intro fb
  have ca : ∀ x, ap a x = a.p := fun x => by
    obtain ⟨f, p, lo, hi⟩ := a
    obtain ⟨q1, q2, q3⟩ := ha
    simp only at fa
    subst fa
    obtain ⟨r1, r2⟩ := q2 rfl
    simp only at r1 r2
    subst r1 r2
    simp only [ap, bd]; grind
  cases el : b.lo with
  | some l =>
    obtain ⟨g1, g2, g3⟩ := h (be b l) (by simp [bds, el])
    obtain ⟨q1, q2, q3⟩ := at_lo hb fb el
    simp only [ca] at *
    grind
  | none =>
    cases eh : b.hi with
    | some l =>
      obtain ⟨g1, g2, g3⟩ := h (be b l) (by simp [bds, eh])
      obtain ⟨q1, q2, q3⟩ := at_hi hb fb eh
      simp only [ca] at *
      grind
    | none =>
      simp only [ca, ap, bd, el, eh] at h0 h1
      grind
theorem agree {a b : Cl} (ha : WF a) (hb : WF b) (h0 : ap a 0 = ap b 0) (h1 : ap a 1 = ap b 1) (h : ∀ x ∈ bds a ++ bds b, AgB a b x) : a = b := by
  have hA : ∀ x ∈ bds a, AgB a b x := fun x q => h x (List.mem_append_left _ q)
  have hB : ∀ x ∈ bds b, AgB a b x := fun x q => h x (List.mem_append_right _ q)
  have hB' : ∀ x ∈ bds b, AgB b a x := fun x q => by obtain ⟨q1, q2, q3⟩ := hB x q; exact ⟨q1.symm, q2.symm, q3.symm⟩
  have hA' : ∀ x ∈ bds a, AgB b a x := fun x q => by obtain ⟨q1, q2, q3⟩ := hA x q; exact ⟨q1.symm, q2.symm, q3.symm⟩
  by_cases fa : a.f = 0
  · have fb := const_of ha hb fa h0 h1 hB
    obtain ⟨f, p, lo, hi⟩ := a
    obtain ⟨g, q, lo', hi'⟩ := b
    simp only at fa fb
    subst fa fb
    obtain ⟨r1, r2⟩ := ha.2.1 rfl
    obtain ⟨r3, r4⟩ := hb.2.1 rfl
    simp only at r1 r2 r3 r4
    subst r1 r2 r3 r4
    simp only [ap, bd] at h0
    congr 1
    grind
  by_cases fb : b.f = 0
  · exact absurd (const_of hb ha fb h0.symm h1.symm hA') fa
  have elo : a.lo = b.lo ∧ ∀ l, a.lo = some l → be a l = be b l := by
    cases e1 : a.lo with
    | some l =>
      obtain ⟨q1, q2⟩ := lo_of ha hb fa fb e1 (hA _ (by simp [bds, e1]))
      obtain ⟨q3, q4⟩ := lo_of hb ha fb fa q1 (hB' _ (by simp [bds, q1]))
      exact ⟨q1.symm, fun l' hl => by cases hl; exact Rat.le_antisymm q2 q4⟩
    | none =>
      cases e2 : b.lo with
      | none => exact ⟨rfl, fun l hl => nomatch hl⟩
      | some l =>
        obtain ⟨q3, q4⟩ := lo_of hb ha fb fa e2 (hB' _ (by simp [bds, e2]))
        rw [e1] at q3; cases q3
  have ehi : a.hi = b.hi ∧ ∀ l, a.hi = some l → be a l = be b l := by
    cases e1 : a.hi with
    | some l =>
      obtain ⟨q1, q2⟩ := hi_of ha hb fa fb e1 (hA _ (by simp [bds, e1]))
      obtain ⟨q3, q4⟩ := hi_of hb ha fb fa q1 (hB' _ (by simp [bds, q1]))
      exact ⟨q1.symm, fun l' hl => by cases hl; exact Rat.le_antisymm q4 q2⟩
    | none =>
      cases e2 : b.hi with
      | none => exact ⟨rfl, fun l hl => nomatch hl⟩
      | some l =>
        obtain ⟨q3, q4⟩ := hi_of hb ha fb fa e2 (hB' _ (by simp [bds, e2]))
        rw [e1] at q3; cases q3
  obtain ⟨l1, l2⟩ := elo
  obtain ⟨k1, k2⟩ := ehi
  have bl := fun l => be_eq fa l
  have bl' := fun l => be_eq fb l
  have key : a.f = b.f ∧ a.p = b.p := by
    cases e1 : a.lo with
    | some l =>
      have x1 := bl l
      have x2 := bl' l
      rw [← l2 l e1] at x2
      cases e2 : a.hi with
      | some h =>
        have x3 := bl h
        have x4 := bl' h
        rw [← k2 h e2] at x4
        have hlt : l < h := by have := ha.2.2; rw [e1, e2] at this; exact this
        generalize be a l = u at *
        generalize be a h = v at *
        have y : (a.f - b.f) * (u - v) = 0 := by grind
        rcases Rat.mul_eq_zero.mp y with y | y
        · constructor <;> grind
        · exfalso; have : u = v := by grind
          subst this; grind
      | none =>
        obtain ⟨g1, g2, g3⟩ := hA (be a l) (by simp [bds, e1])
        have e3 : b.lo = some l := by rw [← l1, e1]
        have e4 : b.hi = none := by rw [← k1, e2]
        have fa' : 0 < a.f := by have := ha.1; grind
        have fb' : 0 < b.f := by have := hb.1; grind
        simp only [ap, bd, e1, e2, e3, e4] at g2
        constructor <;> grind
    | none =>
      cases e2 : a.hi with
      | some h =>
        have x3 := bl h
        have x4 := bl' h
        rw [← k2 h e2] at x4
        obtain ⟨g1, g2, g3⟩ := hA (be a h) (by simp [bds, e2])
        have e3 : b.lo = none := by rw [← l1, e1]
        have e4 : b.hi = some h := by rw [← k1, e2]
        have fa' : 0 < a.f := by have := ha.1; grind
        have fb' : 0 < b.f := by have := hb.1; grind
        simp only [ap, bd, e1, e2, e3, e4] at g3
        constructor <;> grind
      | none =>
        have e3 : b.lo = none := by rw [← l1, e1]
        have e4 : b.hi = none := by rw [← k1, e2]
        simp only [ap, bd, e1, e2, e3, e4] at h0 h1
        constructor <;> grind
  obtain ⟨f, p, lo, hi⟩ := a
  obtain ⟨g, q, lo', hi'⟩ := b
  simp only at l1 k1 key
  rw [l1, k1, key.1, key.2]
theorem ext {a b : Cl} (ha : WF a) (hb : WF b) (h : ∀ x, ap a x = ap b x) : a = b := agree ha hb (h _) (h _) fun x _ => ⟨h _, h _, h _⟩
theorem ch2_assoc {a b c : Cl} (ha : WF a) (hb : WF b) (hc : WF c) : ch2 (ch2 a b) c = ch2 a (ch2 b c) :=
  ext (wf_ch2 (wf_ch2 ha hb) hc) (wf_ch2 ha (wf_ch2 hb hc)) fun x => by rw [ap_ch2 (wf_ch2 ha hb) hc, ap_ch2 ha hb, ap_ch2 ha (wf_ch2 hb hc), ap_ch2 hb hc]
end RQ
set_option maxRecDepth 100000
set_option maxHeartbeats 2000000
/-! DQ: fractions and clauses as data of Rat -/
namespace DL
open PySem PySem.Spec PyProof.Rows L2
def qD (q : Rat) : PyData := .tuple [.int q.num, .int (q.den : Nat)]
def oD : Option Rat → PyData
  | none => .none
  | some q => qD q
def cD (c : RQ.Cl) : PyData := .tuple [qD c.f, qD c.p, oD c.lo, oD c.hi]
/-- less than b bits -/
structure Sq (b : Nat) (q : Rat) : Prop where
  n : q.num.natAbs < 2 ^ b
  d : q.den < 2 ^ b
theorem Sq.mono {b c : Nat} {q : Rat} (h : Sq b q) (hc : b ≤ c) : Sq c q :=
  ⟨Nat.lt_of_lt_of_le h.n (Nat.pow_le_pow_right (by decide) hc), Nat.lt_of_lt_of_le h.d (Nat.pow_le_pow_right (by decide) hc)⟩
theorem qden_pos (q : Rat) : (0 : Int) < (q.den : Int) := by have := q.den_pos; omega
theorem mul_lt_pow {x y : Int} {a b : Nat} (hx : x.natAbs < 2 ^ a) (hy : y.natAbs < 2 ^ b) : (x * y).natAbs < 2 ^ (a + b) := by
  rw [Int.natAbs_mul, Nat.pow_add]
  exact Nat.mul_lt_mul'' hx hy
theorem add_lt_pow {x y : Int} {a : Nat} (hx : x.natAbs < 2 ^ a) (hy : y.natAbs < 2 ^ a) : (x + y).natAbs < 2 ^ (a + 1) := by
  have := Int.natAbs_add_le x y
  rw [Nat.pow_succ]
  omega
theorem pow_le {a b : Nat} (h : a ≤ b) : (2 : Nat) ^ a ≤ 2 ^ b := Nat.pow_le_pow_right (by decide) h
theorem lgB {n k : Nat} (h : n < 2 ^ k) (hk : 0 < k) : n.log2 < k := by
  by_cases h0 : n = 0
  · subst h0; simpa using hk
  · exact (Nat.log2_lt h0).mpr h
theorem o_mulB {i j : Int} (hi : i.natAbs < 2 ^ 4000) (hj : j.natAbs < 2 ^ 4000) : mulD (.int i) (.int j) = some (.int (i * j)) := by
  refine o_mul ?_
  have h1 := lgB hi (by decide)
  have h2 := lgB hj (by decide)
  omega
theorem o_fdivB {i j : Int} (h : 0 < j) (hj : j.natAbs < 2 ^ 4000) : fdivD (.int i) (.int j) = some (.int (i / j)) := o_fdiv h (Nat.lt_of_lt_of_le (lgB hj (by decide)) (by decide))
theorem gcd_posB {n d : Int} (hd : d ≠ 0) : (0 : Int) < Int.gcd n d := by
  have := Int.gcd_pos_of_ne_zero_right n hd
  omega
theorem gcd_ltB {n d : Int} (hd : d ≠ 0) {b : Nat} (h : d.natAbs < 2 ^ b) : ((Int.gcd n d : Nat) : Int).natAbs < 2 ^ b := by
  have h2 : Int.gcd n d ≤ d.natAbs := Nat.gcd_le_right _ (by omega)
  simpa using Nat.lt_of_le_of_lt h2 h
/-- the fraction of two ints -/
theorem num_frac {n d : Int} (hd : 0 < d) : (Rat.divInt n d).num = n / (Int.gcd n d : Int) := by
  rw [Rat.num_divInt, Int.sign_eq_one_of_pos hd, Int.one_mul, Int.gcd_comm]
theorem den_frac {n d : Int} (hd : 0 < d) : ((Rat.divInt n d).den : Int) = d / (Int.gcd n d : Int) := by
  rw [Rat.den_divInt, if_neg (by omega), Int.gcd_comm]
  rw [Int.natCast_ediv]
  congr 1
  omega
theorem num_fracN {n d : Int} (hd : d < 0) : (Rat.divInt n d).num = (-1 * n) / (Int.gcd n d : Int) := by
  rw [Rat.num_divInt, Int.sign_eq_neg_one_of_neg hd, Int.gcd_comm]
theorem den_fracN {n d : Int} (hd : d < 0) : ((Rat.divInt n d).den : Int) = (-1 * d) / (Int.gcd n d : Int) := by
  rw [Rat.den_divInt, if_neg (by omega), Int.gcd_comm]
  rw [Int.natCast_ediv]
  congr 1
  omega
theorem qD_frac {n d : Int} (hd : 0 < d) : qD (Rat.divInt n d) = .tuple [.int (n / (Int.gcd n d : Int)), .int (d / (Int.gcd n d : Int))] := by
  unfold qD; rw [num_frac hd, den_frac hd]
theorem qD_fracN {n d : Int} (hd : d < 0) : qD (Rat.divInt n d) = .tuple [.int ((-1 * n) / (Int.gcd n d : Int)), .int ((-1 * d) / (Int.gcd n d : Int))] := by
  unfold qD; rw [num_fracN hd, den_fracN hd]
theorem sq_div {n d : Int} {b : Nat} (hn : n.natAbs < 2 ^ b) (hd : d.natAbs < 2 ^ b) (h0 : 0 < d) : Sq b (Rat.divInt n d) := by
  constructor
  · rw [num_frac h0]
    exact Nat.lt_of_le_of_lt (Int.natAbs_ediv_le_natAbs _ _) hn
  · have e := den_frac (n := n) h0
    have : (Rat.divInt n d).den = (d / (Int.gcd n d : Int)).natAbs := by omega
    rw [this]
    exact Nat.lt_of_le_of_lt (Int.natAbs_ediv_le_natAbs _ _) hd
theorem add_frac (x y : Rat) : Rat.divInt (x.num * (y.den : Int) + y.num * (x.den : Int)) ((x.den : Int) * (y.den : Int)) = x + y := by
  rw [Rat.add_def', ← Rat.divInt_ofNat, Int.natCast_mul]
theorem mul_frac (x y : Rat) : Rat.divInt (x.num * y.num) ((x.den : Int) * (y.den : Int)) = x * y := by
  rw [Rat.mul_def', ← Rat.divInt_ofNat, Int.natCast_mul]
theorem den_lt {q : Rat} {b : Nat} (h : Sq b q) : ((q.den : Nat) : Int).natAbs < 2 ^ b := by simpa using h.d
theorem sq_add_parts {x y : Rat} {a b : Nat} (hx : Sq a x) (hy : Sq b y) : (x.num * (y.den : Int) + y.num * (x.den : Int)).natAbs < 2 ^ (a + b + 1) ∧ ((x.den : Int) * (y.den : Int)).natAbs < 2 ^ (a + b + 1) ∧ 0 < (x.den : Int) * (y.den : Int) := by
  refine ⟨add_lt_pow (mul_lt_pow hx.n (den_lt hy)) (by rw [Nat.add_comm]; exact mul_lt_pow hy.n (den_lt hx)), Nat.lt_of_lt_of_le (mul_lt_pow (den_lt hx) (den_lt hy)) (pow_le (by omega)), Int.mul_pos (qden_pos x) (qden_pos y)⟩
theorem sq_mul_parts {x y : Rat} {a b : Nat} (hx : Sq a x) (hy : Sq b y) : (x.num * y.num).natAbs < 2 ^ (a + b) ∧ ((x.den : Int) * (y.den : Int)).natAbs < 2 ^ (a + b) ∧ 0 < (x.den : Int) * (y.den : Int) :=
  ⟨mul_lt_pow hx.n hy.n, mul_lt_pow (den_lt hx) (den_lt hy), Int.mul_pos (qden_pos x) (qden_pos y)⟩
theorem Sq.add {x y : Rat} {a b : Nat} (hx : Sq a x) (hy : Sq b y) : Sq (a + b + 1) (x + y) := by
  obtain ⟨h1, h2, h3⟩ := sq_add_parts hx hy
  rw [← add_frac]
  exact sq_div h1 h2 h3
theorem Sq.mul {x y : Rat} {a b : Nat} (hx : Sq a x) (hy : Sq b y) : Sq (a + b) (x * y) := by
  obtain ⟨h1, h2, h3⟩ := sq_mul_parts hx hy
  rw [← mul_frac]
  exact sq_div h1 h2 h3
theorem Sq.neg {x : Rat} {a : Nat} (hx : Sq a x) : Sq a (-x) := ⟨by rw [Rat.neg_num, Int.natAbs_neg]; exact hx.n, by rw [Rat.neg_den]; exact hx.d⟩
theorem qD_inj {x y : Rat} (h : qD x = qD y) : x = y := by
  unfold qD at h
  injection h with h
  injection h with h1 h2
  injection h1 with h1
  injection h2 with h2 _
  injection h2 with h2
  exact Rat.ext h1 (by omega)
theorem oD_inj {x y : Option Rat} (h : oD x = oD y) : x = y := by
  cases x <;> cases y
  · rfl
  · cases h
  · cases h
  · rw [qD_inj h]
theorem cD_inj {x y : RQ.Cl} (h : cD x = cD y) : x = y := by
  unfold cD at h
  injection h with h
  injection h with h1 h
  injection h with h2 h
  injection h with h3 h
  injection h with h4 _
  obtain ⟨f, p, l, u⟩ := x
  obtain ⟨f', p', l', u'⟩ := y
  rw [show f = f' from qD_inj h1, show p = p' from qD_inj h2, show l = l' from oD_inj h3, show u = u' from oD_inj h4]
/-- == of fractions, of bounds, of clauses -/
theorem eqv_q (x y : Rat) : PyData.eqv (qD x) (qD y) = decide (x = y) := by
  have e : PyData.eqv (qD x) (qD y) = (x.num == y.num && (((x.den : Int) == (y.den : Int)))) := by simp [qD, PyData.eqv, PyData.eqvAll]
  rw [e]
  by_cases h : x = y
  · subst h; simp
  · rw [decide_eq_false h]
    by_cases h1 : x.num = y.num
    · by_cases h2 : (x.den : Int) = y.den
      · exact absurd (Rat.ext h1 (by omega)) h
      · simp [h2]
    · simp [h1]
theorem eqv_o (x y : Option Rat) : PyData.eqv (oD x) (oD y) = decide (x = y) := by
  cases x <;> cases y
  · rfl
  · rfl
  · rfl
  · rename_i a b
    have : PyData.eqv (oD (some a)) (oD (some b)) = PyData.eqv (qD a) (qD b) := rfl
    rw [this, eqv_q]
    simp
theorem eqv_c (x y : RQ.Cl) : PyData.eqv (cD x) (cD y) = decide (x = y) := by
  have e : PyData.eqv (cD x) (cD y) = (PyData.eqv (qD x.f) (qD y.f) && (PyData.eqv (qD x.p) (qD y.p) && (PyData.eqv (oD x.lo) (oD y.lo) && (PyData.eqv (oD x.hi) (oD y.hi) && true)))) := by simp [cD, PyData.eqv, PyData.eqvAll]
  rw [e, eqv_q, eqv_q, eqv_o, eqv_o]
  obtain ⟨f, p, l, u⟩ := x
  obtain ⟨f', p', l', u'⟩ := y
  simp only [RQ.Cl.mk.injEq, Bool.and_true]
  rw [Bool.eq_iff_iff]
  simp
theorem dep_q (x : Rat) : (qD x).depth = 1 := rfl
theorem dep_o (x : Option Rat) : (oD x).depth ≤ 1 := by
  cases x
  · decide
  · exact Nat.le_refl 1
theorem lay_q (x : Rat) : (qD x).canLay0 = true ∧ (qD x).hasDict = false := by simp [qD, PyData.canLay0, PyData.canLayAll0, PyData.hasDict, PyData.hasDictAll]
theorem ix0 (q : Rat) : idxD (qD q) (.int 0) = some (.int q.num) := rfl
theorem ix1 (q : Rat) : idxD (qD q) (.int 1) = some (.int (q.den : Int)) := rfl
/-- all of a clause's numbers -/
structure Sc (b : Nat) (c : RQ.Cl) : Prop where
  f : Sq b c.f
  p : Sq b c.p
  lo : ∀ q, c.lo = some q → Sq b q
  hi : ∀ q, c.hi = some q → Sq b q
@[simp] theorem none_q (q : Rat) : noneD (qD q) = false := rfl
@[simp] theorem none_o0 : noneD (oD none) = true := rfl
@[simp] theorem none_o1 (q : Rat) : noneD (oD (some q)) = false := rfl
@[simp] theorem oD_some (q : Rat) : oD (some q) = qD q := rfl
@[simp] theorem oD_none : oD none = .none := rfl
theorem sq_bd {b : Nat} {x : Rat} {lo hi : Option Rat} (hx : Sq b x) (hl : ∀ q, lo = some q → Sq b q) (hh : ∀ q, hi = some q → Sq b q) : Sq b (RQ.bd x lo hi) := by
  unfold RQ.bd
  cases lo <;> cases hi <;> simp only
  · exact hx
  · split
    · exact hh _ rfl
    · exact hx
  · split
    · exact hl _ rfl
    · exact hx
  · split
    · split
      · exact hh _ rfl
      · exact hl _ rfl
    · split
      · exact hh _ rfl
      · exact hx
theorem sc_nf {f p : Rat} {lo hi : Option Rat} {b : Nat} (h : Sc b ⟨f, p, lo, hi⟩) (h0 : 1 ≤ b) : Sc b (RQ.nf f p lo hi) := by
  unfold RQ.nf
  have z : Sq b 0 := ⟨Nat.pow_pos (by decide), Nat.lt_of_lt_of_le (show 1 < 2 ^ 1 by decide) (pow_le h0)⟩
  split
  · exact ⟨z, sq_bd h.p h.lo h.hi, (fun q e => nomatch e), (fun q e => nomatch e)⟩
  · split
    · rename_i hh
      obtain ⟨h1, h2⟩ := hh
      cases lo with
      | none => exact absurd rfl h1
      | some l => exact ⟨z, h.lo l rfl, (fun q e => nomatch e), (fun q e => nomatch e)⟩
    · exact h
theorem eq_qq (x y : Rat) : eqD (qD x) (qD y) = some (.bool (decide (x = y))) := by
  rw [← eqv_q]
  rfl
theorem eq_q0 (q : Rat) : eqD (qD q) (.tuple [.int 0, .int 1]) = some (.bool (decide (q = 0))) := eq_qq q 0
theorem eq_oo (x y : Option Rat) : eqD (oD x) (oD y) = some (.bool (decide (x = y))) := by
  rw [← eqv_o]
  cases x <;> cases y <;> rfl
theorem eq_cc (x y : RQ.Cl) : eqD (cD x) (cD y) = some (.bool (decide (x = y))) := by
  rw [← eqv_c]
  obtain ⟨f, p, l, u⟩ := x
  obtain ⟨f', p', l', u'⟩ := y
  cases l <;> cases u <;> cases l' <;> cases u' <;> rfl
theorem ne_qq (x y : Rat) : neD (qD x) (qD y) = some (.bool (!decide (x = y))) := by
  rw [← eqv_q]
  rfl
theorem ne_oo (x y : Option Rat) : neD (oD x) (oD y) = some (.bool (!decide (x = y))) := by
  rw [← eqv_o]
  cases x <;> cases y <;> rfl
theorem ne_cc (x y : RQ.Cl) : neD (cD x) (cD y) = some (.bool (!decide (x = y))) := by
  rw [← eqv_c]
  obtain ⟨f, p, l, u⟩ := x
  obtain ⟨f', p', l', u'⟩ := y
  cases l <;> cases u <;> cases l' <;> cases u' <;> rfl
/-! ### fractions of a menu -/
def qB (b : Nat) : PyData → Bool
  | .tuple [.int n, .int d] => decide (0 < d) && decide (Int.gcd n d = 1) && decide (n.natAbs < 2 ^ b) && decide (d.natAbs < 2 ^ b)
  | _ => false
theorem qB_ok {b : Nat} {x : PyData} (h : qB b x = true) : ∃ q, x = qD q ∧ Sq b q := by
  unfold qB at h
  split at h
  · rename_i n d
    simp only [Bool.and_eq_true, decide_eq_true_eq] at h
    obtain ⟨⟨⟨h1, h2⟩, h3⟩, h4⟩ := h
    have e : d = (d.natAbs : Nat) := by omega
    refine ⟨⟨n, d.natAbs, by omega, h2⟩, ?_, h3, h4⟩
    unfold qD
    simp only
    rw [← e]
  · cases h
def nnB : PyData → Bool
  | .tuple [.int n, _] => decide (0 ≤ n)
  | _ => false
theorem nnB_ok {q : Rat} (h : nnB (qD q) = true) : 0 ≤ q := Rat.num_nonneg.mp (by simpa [nnB, qD] using h)
theorem menu_q {b : Nat} {xs : List PyData} (h : xs.all (qB b) = true) {x : PyData} (hx : x ∈ xs) : ∃ q, x = qD q ∧ Sq b q := qB_ok (List.all_eq_true.mp h x hx)
theorem menu_n {b : Nat} {xs : List PyData} (h : xs.all (fun x => qB b x && nnB x) = true) {x : PyData} (hx : x ∈ xs) : ∃ q, x = qD q ∧ Sq b q ∧ 0 ≤ q := by
  have := List.all_eq_true.mp h x hx
  simp only [Bool.and_eq_true] at this
  obtain ⟨q, rfl, hq⟩ := qB_ok this.1
  exact ⟨q, rfl, hq, nnB_ok this.2⟩
end DL
set_option exponentiation.threshold 5000
set_option maxRecDepth 100000
set_option maxHeartbeats 4000000
namespace K16
open PySem PySem.Spec PyProof.Rows L2 DL
/-! ### the law's arithmetic -/
theorem t_l_fraction {n d : Int} (hd : 0 < d) (hb : d.natAbs < 2 ^ 4000) : m_l_fraction [.d (.int n), .d (.int d)] = some (.d (qD (Rat.divInt n d)), [.d (.int n), .d (.int d)]) := by
  have h0 : ¬ d < 0 := by omega
  have f := fun i => o_fdivB (i := i) (gcd_posB (n := n) (d := d) (by omega)) (gcd_ltB (n := n) (by omega) hb)
  rw [qD_frac hd]
  simp [m_l_fraction, e_run, b_l_fraction, t_gcd, h0, f, sizeL]
section
variable {x y : Rat} {a b : Nat} (hx : Sq a x) (hy : Sq b y)
include hx hy
theorem t_l_add (h : a + b + 1 ≤ 4000) : m_l_add [.d (qD x), .d (qD y)] = some (.d (qD (x + y)), [.d (qD x), .d (qD y)]) := by
  obtain ⟨h1, h2, h3⟩ := sq_add_parts hx hy
  have hx' := hx.mono (show a ≤ 4000 by omega)
  have hy' := hy.mono (show b ≤ 4000 by omega)
  have e := t_l_fraction (n := x.num * (y.den : Int) + y.num * (x.den : Int)) h3 (Nat.lt_of_lt_of_le h2 (pow_le h))
  rw [add_frac] at e
  simp [m_l_add, e_run, b_l_add, ix0, ix1, o_mulB hx'.n (den_lt hy'), o_mulB hy'.n (den_lt hx'), o_mulB (den_lt hx') (den_lt hy'), e]
theorem t_l_times (h : a + b + 1 ≤ 4000) : m_l_times [.d (qD x), .d (qD y)] = some (.d (qD (x * y)), [.d (qD x), .d (qD y)]) := by
  obtain ⟨h1, h2, h3⟩ := sq_mul_parts hx hy
  have hx' := hx.mono (show a ≤ 4000 by omega)
  have hy' := hy.mono (show b ≤ 4000 by omega)
  have e := t_l_fraction (n := x.num * y.num) h3 (Nat.lt_of_lt_of_le h2 (pow_le (show a + b ≤ 4000 by omega)))
  rw [mul_frac] at e
  simp [m_l_times, e_run, b_l_times, ix0, ix1, o_mulB hx'.n hy'.n, o_mulB (den_lt hx') (den_lt hy'), e]
theorem t_l_lessQ (h : a + b + 1 ≤ 4000) : m_l_less [.d (qD x), .d (qD y)] = some (.d (.bool (decide (x < y))), [.d (qD x), .d (qD y)]) := by
  have hx' := hx.mono (show a ≤ 4000 by omega)
  have hy' := hy.mono (show b ≤ 4000 by omega)
  have e : decide (x < y) = decide (x.num * (y.den : Int) < y.num * (x.den : Int)) := decide_eq_decide.mpr (Rat.lt_iff x y)
  simp [m_l_less, e_run, b_l_less, ix0, ix1, o_mulB hx'.n (den_lt hy'), o_mulB hy'.n (den_lt hx'), e]
theorem t_l_larger (h : a + b + 1 ≤ 4000) : m_l_larger [.d (qD x), .d (qD y)] = some (.d (qD (if x < y then y else x)), [.d (qD x), .d (qD y)]) := by
  by_cases hc : x < y <;> simp [m_l_larger, e_run, b_l_larger, t_l_lessQ hx hy h, hc]
theorem t_l_smaller (h : a + b + 1 ≤ 4000) : m_l_smaller [.d (qD x), .d (qD y)] = some (.d (qD (if x < y then x else y)), [.d (qD x), .d (qD y)]) := by
  by_cases hc : x < y <;> simp [m_l_smaller, e_run, b_l_smaller, t_l_lessQ hx hy h, hc]
end
theorem t_l_made {c : RQ.Cl} {x : Rat} {a b : Nat} (hc : Sc b c) (hx : Sq a x) (h : a + 4 * b + 8 ≤ 4000) : m_l_made [.d (cD c), .d (qD x)] = some (.d (qD (RQ.ap c x)), [.d (cD c), .d (qD x)]) := by
  obtain ⟨f, p, lo, hi⟩ := c
  have e1 := t_l_times hc.f hx (by omega)
  have s1 := hc.f.mul hx
  have e2 := t_l_add s1 hc.p (by omega)
  have s2 := s1.add hc.p
  simp only at e1 e2 s1 s2
  have big := fun {z : Rat} (hz : Sq b z) => hz.mono (show b ≤ b + a + b + 1 by omega)
  cases lo with
  | none =>
    cases hi with
    | none => simp [m_l_made, e_run, b_l_made, cD, e1, e2, RQ.ap, RQ.bd]
    | some u =>
      have su := hc.hi u rfl
      have e3 := t_l_smaller s2 su (by omega)
      have ev : (if f * x + p < u then f * x + p else u) = RQ.bd (f * x + p) none (some u) := by simp only [RQ.bd]; grind
      simp [m_l_made, e_run, b_l_made, cD, e1, e2, e3, ev, RQ.ap]
  | some l =>
    have sl := hc.lo l rfl
    have e3 := t_l_larger s2 sl (by omega)
    cases hi with
    | none =>
      have ev : (if f * x + p < l then l else f * x + p) = RQ.bd (f * x + p) (some l) none := by simp only [RQ.bd]
      simp [m_l_made, e_run, b_l_made, cD, e1, e2, e3, ev, RQ.ap]
    | some u =>
      have su := hc.hi u rfl
      have s3 : Sq (b + a + b + 1) (if f * x + p < l then l else f * x + p) := by
        split
        · exact big sl
        · exact s2
      have e4 := t_l_smaller s3 su (by omega)
      have ev : (if (if f * x + p < l then l else f * x + p) < u then (if f * x + p < l then l else f * x + p) else u) = RQ.bd (f * x + p) (some l) (some u) := by simp only [RQ.bd]; grind
      simp [m_l_made, e_run, b_l_made, cD, e1, e2, e3, e4, ev, RQ.ap]
theorem t_l_normal {f p : Rat} {lo hi : Option Rat} {b : Nat} (hc : Sc b ⟨f, p, lo, hi⟩) (h : 4 * b + 20 ≤ 4000) (h0 : 1 ≤ b) (hw : RQ.leO lo hi) :
    m_l_normal [.d (qD f), .d (qD p), .d (oD lo), .d (oD hi)] = some (.d (cD (RQ.nf f p lo hi)), [.d (qD f), .d (qD p), .d (oD lo), .d (oD hi)]) := by
  have z : Sq 1 (0 : Rat) := ⟨by decide, by decide⟩
  have e1 := t_l_made hc z (by omega)
  have q0 : (.tuple [.int 0, .int 1] : PyData) = qD 0 := rfl
  have ec : cD ⟨f, p, lo, hi⟩ = .tuple [qD f, qD p, oD lo, oD hi] := rfl
  rw [ec] at e1
  have nn : ∀ z : Option Rat, noneD (oD z) = decide (z = none) := fun z => by cases z <;> rfl
  by_cases h1 : f = 0
  · subst h1
    have ev : RQ.ap ⟨0, p, lo, hi⟩ 0 = RQ.bd p lo hi := by simp only [RQ.ap]; rw [Rat.zero_mul, Rat.zero_add]
    rw [ev] at e1
    simp [-oD_none, m_l_normal, e_run, b_l_normal, eq_qq, sizeL, q0, e1, RQ.nf, cD, RQ.cst]
    rfl
  · by_cases h2 : lo = none
    · subst h2
      simp [m_l_normal, e_run, b_l_normal, eq_qq, q0, sizeL, h1, RQ.nf, cD]
    · by_cases h3 : lo = hi
      · subst h3
        obtain ⟨l, rfl⟩ : ∃ l, lo = some l := by cases lo with | none => exact absurd rfl h2 | some l => exact ⟨l, rfl⟩
        have ev : RQ.ap ⟨f, p, some l, some l⟩ 0 = l := by simp only [RQ.ap, RQ.bd]; grind
        rw [ev] at e1
        have eo := eq_oo (some l) (some l)
        simp only [oD_some] at eo e1
        simp [m_l_normal, e_run, b_l_normal, eq_qq, sizeL, q0, e1, h1, eo, RQ.nf, cD, RQ.cst]
      · obtain ⟨l, rfl⟩ : ∃ l, lo = some l := by cases lo with | none => exact absurd rfl h2 | some l => exact ⟨l, rfl⟩
        have eo := eq_oo (some l) hi
        simp only [oD_some] at eo
        simp [m_l_normal, e_run, b_l_normal, eq_qq, q0, sizeL, h1, h3, eo, RQ.nf, cD]
end K16
set_option exponentiation.threshold 5000
set_option maxRecDepth 100000
set_option maxHeartbeats 4000000
namespace K16
open PySem PySem.Spec PyProof.Rows L2 DL
theorem t_l_any {N : Nat} {o : OD} (h : Fd N o) (hN : N < 2 ^ 40) (io : Bool) {xs : List PyData} (h0 : 0 < xs.length) (h1 : xs.length < 2 ^ 30) : ∃ x o', m_l_any [.own o io, .d (.list xs)] = some (.d x, [.own o' io, .d (.list xs)]) ∧ x ∈ xs ∧ Fd (N + 1) o' := by
  obtain ⟨r, o', e, h1, h2, h3⟩ := t_draw h (by omega) (k := xs.length) (by omega) (by omega) true
  obtain ⟨y, ey, hy⟩ := atI_mem h1 h2
  exact ⟨y, o', by simp [m_l_any, e_run, b_l_any, e, ey], hy, h3⟩
def mP : List PyData := [.tuple [.int 5, .int 1], .tuple [.int (-3), .int 1], .tuple [.int 0, .int 1], .tuple [.int 1, .int 2], .tuple [.int (-7), .int 2], .tuple [.int 10, .int 1]]
def mF : List PyData := [.tuple [.int 2, .int 1], .tuple [.int 1, .int 2], .tuple [.int 9, .int 10], .tuple [.int 1, .int 1], .tuple [.int 5, .int 3]]
def mL : List PyData := [.tuple [.int 0, .int 1], .tuple [.int 3, .int 1], .tuple [.int (-4), .int 1], .tuple [.int 13, .int 2]]
def mH : List PyData := [.tuple [.int 1, .int 1], .tuple [.int 10, .int 1], .tuple [.int 0, .int 1], .tuple [.int 7, .int 3]]
theorem t_l_clause {N : Nat} {o : OD} (h : Fd N o) (hN : N < 2 ^ 35) (io : Bool) : ∃ c o', m_l_clause [.own o io] = some (.d (cD c), [.own o' io]) ∧ RQ.WF c ∧ Sc 20 c ∧ Fd (N + 6) o' := by
  obtain ⟨r, o1, e1, h1, h2, f1⟩ := t_draw h (by omega) (k := 7) (by decide) (by decide) true
  obtain ⟨x2, o2, e2, g2, f2⟩ := t_l_any f1 (by omega) true (xs := mP) (by decide) (by decide)
  obtain ⟨x3, o3, e3, g3, f3⟩ := t_l_any f2 (by omega) true (xs := mF) (by decide) (by decide)
  obtain ⟨x4, o4, e4, g4, f4⟩ := t_l_any f3 (by omega) true (xs := mL) (by decide) (by decide)
  obtain ⟨x5, o5, e5, g5, f5⟩ := t_l_any f4 (by omega) true (xs := mH) (by decide) (by decide)
  obtain ⟨p, rfl, sp⟩ := menu_q (b := 4) (show mP.all (qB 4) = true by decide +kernel) g2
  obtain ⟨f, rfl, sf, hf⟩ := menu_n (b := 4) (show mF.all (fun x => qB 4 x && nnB x) = true by decide +kernel) g3
  obtain ⟨lo, rfl, sl⟩ := menu_q (b := 4) (show mL.all (qB 4) = true by decide +kernel) g4
  obtain ⟨u, rfl, su, hu⟩ := menu_n (b := 4) (show mH.all (fun x => qB 4 x && nnB x) = true by decide +kernel) g5
  simp only [mP, mF, mL, mH] at e2 e3 e4 e5
  have sh := sl.add su
  have hle : RQ.leO (some lo) (some (lo + u)) := by show lo ≤ lo + u; grind
  have q0 : (.tuple [.int 0, .int 1] : PyData) = qD 0 := rfl
  have q1 : (.tuple [.int 1, .int 1] : PyData) = qD 1 := rfl
  simp only [q0, q1] at e2 e3 e4 e5
  have e6 := t_l_add sl su (by decide)
  have s0 : Sq 20 (0 : Rat) := ⟨by decide, by decide⟩
  have s1 : Sq 20 (1 : Rat) := ⟨by decide, by decide⟩
  have sp' := sp.mono (show 4 ≤ 20 by decide)
  have sf' := sf.mono (show 4 ≤ 20 by decide)
  have sl' := sl.mono (show 4 ≤ 20 by decide)
  have sh' := sh.mono (show 4 + 4 + 1 ≤ 20 by decide)
  have no : ∀ q : Rat, (none : Option Rat) = some q → Sq 20 q := fun q e => nomatch e
  have f5' := f5.mono (show N + 1 + 1 + 1 + 1 + 1 ≤ N + 6 by omega)
  have n4 := t_l_normal (f := 1) (p := 0) (lo := some lo) (hi := some (lo + u)) (b := 20) ⟨s1, s0, fun q e => by cases e; exact sl', fun q e => by cases e; exact sh'⟩ (by decide) (by decide) hle
  have n6 := t_l_normal (f := f) (p := p) (lo := some lo) (hi := some (lo + u)) (b := 20) ⟨sf', sp', fun q e => by cases e; exact sl', fun q e => by cases e; exact sh'⟩ (by decide) (by decide) hle
  simp only [oD_some] at n4 n6
  have c7 : r = 0 ∨ r = 1 ∨ r = 2 ∨ r = 3 ∨ r = 4 ∨ r = 5 ∨ r = 6 := by omega
  have z1 : (1 : Rat) ≠ 0 := by decide
  rcases c7 with rfl | rfl | rfl | rfl | rfl | rfl | rfl
  · exact ⟨⟨1, p, none, none⟩, o5, by simp [m_l_clause, e_run, b_l_clause, e1, e2, e3, e4, e5, e6, q0, q1, sizeL]; rfl, ⟨by grind, fun _ => ⟨rfl, rfl⟩, trivial⟩, ⟨s1, sp', no, no⟩, f5'⟩
  · exact ⟨⟨f, 0, none, none⟩, o5, by simp [m_l_clause, e_run, b_l_clause, e1, e2, e3, e4, e5, e6, q0, q1, sizeL]; rfl, ⟨hf, fun _ => ⟨rfl, rfl⟩, trivial⟩, ⟨sf', s0, no, no⟩, f5'⟩
  · exact ⟨⟨1, 0, none, some (lo + u)⟩, o5, by simp [m_l_clause, e_run, b_l_clause, e1, e2, e3, e4, e5, e6, q0, q1, sizeL]; rfl, ⟨by grind, fun e => absurd e z1, trivial⟩, ⟨s1, s0, no, fun q e => by cases e; exact sh'⟩, f5'⟩
  · exact ⟨⟨1, 0, some lo, none⟩, o5, by simp [m_l_clause, e_run, b_l_clause, e1, e2, e3, e4, e5, e6, q0, q1, sizeL]; rfl, ⟨by grind, fun e => absurd e z1, trivial⟩, ⟨s1, s0, fun q e => by cases e; exact sl', no⟩, f5'⟩
  · exact ⟨_, o5, by simp [m_l_clause, e_run, b_l_clause, e1, e2, e3, e4, e5, e6, q0, q1, sizeL, n4], RQ.wf_nf (by grind) hle, sc_nf ⟨s1, s0, fun q e => by cases e; exact sl', fun q e => by cases e; exact sh'⟩ (by decide), f5'⟩
  · exact ⟨⟨0, p, none, none⟩, o5, by simp [m_l_clause, e_run, b_l_clause, e1, e2, e3, e4, e5, e6, q0, q1, sizeL]; rfl, ⟨by grind, fun _ => ⟨rfl, rfl⟩, trivial⟩, ⟨s0, sp', no, no⟩, f5'⟩
  · exact ⟨_, o5, by simp [m_l_clause, e_run, b_l_clause, e1, e2, e3, e4, e5, e6, q0, q1, sizeL, n6], RQ.wf_nf hf hle, sc_nf ⟨sf', sp', fun q e => by cases e; exact sl', fun q e => by cases e; exact sh'⟩ (by decide), f5'⟩
end K16
set_option exponentiation.threshold 5000
set_option maxRecDepth 100000
set_option maxHeartbeats 2000000
/-! DP: plans as data -/
namespace DL
open PySem PySem.Spec PyProof.Rows L2
abbrev Ru := Str × RQ.Cl × Bool
def ruD (r : Ru) : PyData := .tuple [.str r.1, cD r.2.1, .bool r.2.2]
def paD (p : Str × Str) : PyData := .tuple [.str p.1, .str p.2]
def plD (rs : List Ru) (ps : List (Str × Str)) : PyData := .tuple [.tuple (rs.map ruD), .tuple (ps.map paD)]
def Before (l : List Str) (a b : Str) : Prop := ∃ i j : Nat, i < j ∧ l[i]? = some a ∧ l[j]? = some b
def paLe : Str × Str → Str × Str → Bool := PySem.W.dataLe false paD
/-- a plan, its names at the front of some names -/
structure PlanOk (b : Nat) (names : List Str) (rs : List Ru) (ps : List (Str × Str)) : Prop where
  pre : rs.map (·.1) <+: names
  wf : ∀ r ∈ rs, RQ.WF r.2.1 ∧ Sc b r.2.1
  nd : ps.Nodup
  len : ps.length ≤ 36
  srt : ∃ qs : List (Str × Str), ps = qs.mergeSort paLe
  acy : ∃ l : List Str, l.Perm (rs.map (·.1)) ∧ ∀ p ∈ ps, Before l p.1 p.2
/-- a dict of pairs -/
def gPa (p : Str × Str) : List Key × PyData := ([.inr p.1, .inr p.2], .bool true)
def addP (ks : List (Str × Str)) (p : Str × Str) : List (Str × Str) := if p ∈ ks then ks else ks ++ [p]
theorem gPa_fst (p q : Str × Str) : (gPa p).1 = [.inr q.1, .inr q.2] ↔ p = q := by
  obtain ⟨a, b⟩ := p
  obtain ⟨c, d⟩ := q
  simp [gPa]
theorem put_pa (ks : List (Str × Str)) (a b : Str) : putD (ks.map gPa) [.inr a, .inr b] (.bool true) = (addP ks (a, b)).map gPa := by
  unfold putD addP
  have hany : ((ks.map gPa).any fun kv => decide (kv.1 = [.inr a, .inr b])) = decide ((a, b) ∈ ks) := by
    rw [List.any_map, Bool.eq_iff_iff, List.any_eq_true, decide_eq_true_iff]
    constructor
    · rintro ⟨x, hx, h⟩
      have := (gPa_fst x (a, b)).mp (of_decide_eq_true h)
      rw [← this]; exact hx
    · intro h
      exact ⟨_, h, decide_eq_true ((gPa_fst _ (a, b)).mpr rfl)⟩
  rw [hany]
  by_cases h : (a, b) ∈ ks
  · rw [if_pos (decide_eq_true h), if_pos h, List.map_map]
    apply List.map_congr_left
    intro p _
    by_cases hp : (gPa p).1 = [.inr a, .inr b]
    · simp only [Function.comp, if_pos hp]
      rfl
    · simp only [Function.comp, if_neg hp]
  · rw [if_neg (by simpa using h), if_neg h, List.map_append]
    rfl
theorem addP_nd {ks : List (Str × Str)} (h : ks.Nodup) (p : Str × Str) : (addP ks p).Nodup := by
  unfold addP
  split
  · exact h
  · rename_i hn
    rw [List.nodup_append]
    exact ⟨h, by simp, fun a ha b hb => by simp at hb; subst hb; exact fun e => hn (e ▸ ha)⟩
theorem addP_mem {ks : List (Str × Str)} {p q : Str × Str} (h : q ∈ addP ks p) : q ∈ ks ∨ q = p := by
  unfold addP at h
  split at h
  · exact .inl h
  · rcases List.mem_append.mp h with h | h
    · exact .inl h
    · exact .inr (by simpa using h)
theorem addP_len (ks : List (Str × Str)) (p : Str × Str) : (addP ks p).length ≤ ks.length + 1 := by
  unfold addP
  split
  · omega
  · simp
theorem keyT_ss (a b : Str) : keyT (.tuple [.str a, .str b]) = some [.inr a, .inr b] := rfl
def sortP (ks : List (Str × Str)) : List (Str × Str) := ks.mergeSort paLe
theorem sorted_pa (ks : List (Str × Str)) : sortedX (odD (.ot (ks.map gPa))) = some (.list ((sortP ks).map paD)) := by
  have hk : ((((ks.map gPa).map fun p => PyData.tuple (p.1.map kD)).zip ((ks.map gPa).map (·.2))).map (·.1)) = ks.map paD := by
    rw [List.map_fst_zip (by simp), List.map_map]
    rfl
  have h1 : allAlikeB (ks.map paD) = true := by
    unfold allAlikeB
    rw [List.all_eq_true]
    intro x hx
    rw [List.all_eq_true]
    intro y hy
    obtain ⟨p, _, rfl⟩ := List.mem_map.mp hx
    obtain ⟨q, _, rfl⟩ := List.mem_map.mp hy
    rfl
  have h2 : sortableB (ks.map paD) = true := by
    unfold sortableB
    rw [Bool.or_eq_true]
    left
    rw [List.all_eq_true]
    intro x hx
    obtain ⟨p, _, rfl⟩ := List.mem_map.mp hx
    rfl
  have h3 : (ks.map paD).all isKt = true := by
    rw [List.all_eq_true]
    intro x hx
    obtain ⟨p, _, rfl⟩ := List.mem_map.mp hx
    rfl
  show (if _ then _ else _) = _
  rw [hk, if_pos ⟨h1, h2, h3⟩]
  congr 2
  unfold sortD sortP
  exact (List.map_mergeSort (f := paD) (r := paLe) (s := PySem.W.dataLe false id) (l := ks) (fun a _ b _ => rfl)).symm
end DL
set_option exponentiation.threshold 5000
set_option maxRecDepth 100000
set_option maxHeartbeats 4000000
namespace K16
open PySem PySem.Spec PyProof.Rows L2 DL
def NM : List Str := ["ab", "b", "cap", "dd", "e", "zzzzzzzz"]
def plR : XS := sSeq (sDrop (xApp 4 (xTup (aCons (xVar 5) (aCons (xCall (arity 1 m_l_clause) (aSlot 0 (aNil))) (aCons (x2 gtD (xCall (arity 2 m_l_draw) (aSlot 0 (aCons (xC (.int 5)) (aNil)))) (xC (.int 0))) (aNil))))))) (sDrop (xIns 3 (xCall (arity 2 m_l_draw) (aSlot 0 (aCons (x2 addD (x1 lenD (xB (bVar 3))) (xC (.int 1))) (aNil)))) (xVar 5)))
def plP : XS := sIf (tst (x2 eqD (xCall (arity 2 m_l_draw) (aSlot 0 (aCons (xC (.int 4)) (aNil)))) (xC (.int 0)))) (sPut 6 (xTup (aCons (x2 idxD (xB (bVar 3)) (xB (bVar 7))) (aCons (x2 idxD (xB (bVar 3)) (xB (bVar 8))) (aNil)))) (xC (.bool true))) (sNil)
def plI : XS := sFor (iRng2' (x2 addD (xVar 7) (xC (.int 1))) (x1 lenD (xB (bVar 3)))) (gNm 8) plP
theorem plan_eq : b_l_plan = sSeq (sParR3 2 3 4 (rD (xSl (xLst (aCons (xC (.str "ab")) (aCons (xC (.str "b")) (aCons (xC (.str "cap")) (aCons (xC (.str "dd")) (aCons (xC (.str "e")) (aCons (xC (.str "zzzzzzzz")) (aNil)))))))) (oNone) (oSome (xCall (arity 2 m_l_draw) (aSlot 0 (aCons (x2 addD (xVar 1) (xC (.int 1))) (aNil))))))) (rN (nLst (aNil))) (rN (nLst (aNil)))) (sSeq (sFor (iOf (xVar 2)) (gNm 5) plR) (sSeq (sNew 6 (nDt)) (sSeq (sFor (iRng (x1 lenD (xB (bVar 3)))) (gNm 7) plI) (sRet (xTup (aCons (x1 tupleD (xB (bVar 4))) (aCons (x1 tupleD (x1 sortedX (xB (bVar 6)))) (aNil)))))))) := rfl
def stL (l : List Str) : List PyData := l.map PyData.str
@[simp] theorem stL_len (l : List Str) : (stL l).length = l.length := List.length_map ..
theorem stL_get (l : List Str) (i : Nat) : (stL l)[i]? = (l[i]?).map PyData.str := List.getElem?_map ..
/-- one rule -/
theorem t_plR {N : Nat} {o : OD} {io : Bool} {a b e6 e7 e8 : EV} {line : List Str} {rs : List Ru} {s : Str} (h : Fd N o) (hN : N < 2 ^ 30) (hl : line.length < 100) (hr : rs.length < 100) :
    ∃ c on k o', plR [.own o io, a, b, .own (.ol (stL line)) false, .own (.ol (rs.map ruD)) false, .d (.str s), e6, e7, e8] =
      some (.nx [.own o' io, a, b, .own (.ol (stL (line.take k ++ [s] ++ line.drop k))) false, .own (.ol ((rs ++ [(s, c, on)]).map ruD)) false, .d (.str s), e6, e7, e8]) ∧ RQ.WF c ∧ Sc 20 c ∧ Fd (N + 8) o' := by
  obtain ⟨c, o1, e1, w1, w2, f1⟩ := t_l_clause h (by omega) true
  obtain ⟨r, o2, e2, h1, h2, f2⟩ := t_draw f1 (by omega) (k := 5) (by decide) (by decide) true
  obtain ⟨k, o3, e3, h3, h4, f3⟩ := t_draw f2 (by omega) (k := (line.length : Int) + 1) (by omega) (by omega) true
  refine ⟨c, decide (0 < r), k.toNat, o3, ?_, w1, w2, f3⟩
  have q1 : rs.length < 16777216 := by omega
  have q2 : line.length < 16777216 := by omega
  have q3 : k < 9223372036854775808 := by omega
  simp [plR, xApp, xIns, e1, e2, sizeL, q1, q2, q3, h3, e3, ruD]
  simp [stL]
theorem t_plRs {io : Bool} {a b e6 e7 e8 : EV} : ∀ (ns : List Str) {N : Nat} {o : OD} {line : List Str} {rs : List Ru} {e5 : EV}, Fs e5 → Fd N o → N + 8 * ns.length < 2 ^ 30 → line.Perm (rs.map (·.1)) → (∀ r ∈ rs, RQ.WF r.2.1 ∧ Sc 20 r.2.1) → rs.length + ns.length < 100 →
    ∃ (o' : OD) (line' : List Str) (rs' : List Ru) (f5 : EV), forL (gNm 5) plR (stL ns) [.own o io, a, b, .own (.ol (stL line)) false, .own (.ol (rs.map ruD)) false, e5, e6, e7, e8] =
      some (.nx [.own o' io, a, b, .own (.ol (stL line')) false, .own (.ol (rs'.map ruD)) false, f5, e6, e7, e8]) ∧ Fd (N + 8 * ns.length) o' ∧ line'.Perm (rs'.map (·.1)) ∧ (∀ r ∈ rs', RQ.WF r.2.1 ∧ Sc 20 r.2.1) ∧ rs'.map (·.1) = rs.map (·.1) ++ ns
  | [], N, o, line, rs, e5, h5, hf, hN, hp, hw, hl => ⟨o, line, rs, e5, rfl, hf, hp, hw, by simp⟩
  | s :: ns, N, o, line, rs, e5, h5, hf, hN, hp, hw, hl => by
    simp only [List.length_cons] at hN hl
    have hll : line.length = rs.length := by simpa using hp.length_eq
    obtain ⟨c, on, k, o1, E1, w1, w2, f1⟩ := t_plR (io := io) (a := a) (b := b) (e6 := e6) (e7 := e7) (e8 := e8) (line := line) (rs := rs) (s := s) hf (by omega) (by omega) (by omega)
    have hp1 : (line.take k ++ [s] ++ line.drop k).Perm ((rs ++ [(s, c, on)]).map (·.1)) := by
      have q1 : (line.take k ++ [s] ++ line.drop k).Perm ([s] ++ (line.take k ++ line.drop k)) := by
        rw [← List.append_assoc]
        exact List.Perm.append_right _ List.perm_append_comm
      rw [List.take_append_drop] at q1
      rw [List.map_append]
      exact q1.trans ((List.perm_append_comm).trans (hp.append_right _))
    obtain ⟨o2, line2, rs2, f5, E2, f2, hp2, hw2, hn2⟩ := t_plRs (io := io) (a := a) (b := b) (e6 := e6) (e7 := e7) (e8 := e8) ns (e5 := .d (.str s)) (by simp) f1 (by omega) hp1 (fun r hr => by
      rcases List.mem_append.mp hr with hr | hr
      · exact hw r hr
      · simp at hr; subst hr; exact ⟨w1, w2⟩) (by simp; omega)
    refine ⟨o2, line2, rs2, f5, ?_, f2.mono (by simp only [List.length_cons]; omega), hp2, hw2, by rw [hn2]; simp⟩
    show forL (gNm 5) plR (.str s :: stL ns) _ = _
    rw [e_forC]
    simp only [e_gNm, e_put', free_s, free_fs h5, if_true, Option.bind_some, List.set_cons_succ, List.set_cons_zero, E1, E2]
/-- one pair -/
theorem t_plP {N : Nat} {o : OD} {io : Bool} {a b c4 e5 : EV} {line : List Str} {ks : List (Str × Str)} {i j : Nat} (h : Fd N o) (hN : N < 2 ^ 40) (hij : i < j) (hj : j < line.length) (hl : line.length < 100) (hks : ks.length < 10000) :
    ∃ (o' : OD) (ks' : List (Str × Str)), plP [.own o io, a, b, .own (.ol (stL line)) false, c4, e5, .own (.ot (ks.map gPa)) false, .d (.int i), .d (.int j)] =
      some (.nx [.own o' io, a, b, .own (.ol (stL line)) false, c4, e5, .own (.ot (ks'.map gPa)) false, .d (.int i), .d (.int j)]) ∧ Fd (N + 1) o' ∧ (ks' = ks ∨ ∃ x y, ks' = addP ks (x, y) ∧ Before line x y) := by
  obtain ⟨r, o1, e1, h1, h2, f1⟩ := t_draw h (by omega) (k := 4) (by decide) (by decide) true
  have hi : i < line.length := by omega
  have ai : atI (stL line) (i : Int) = some (.str line[i]) := by
    rw [at_nn (by omega) (by rw [stL_len]; omega)]
    show (stL line)[i]? = _
    rw [stL_get, List.getElem?_eq_getElem hi]; rfl
  have aj : atI (stL line) (j : Int) = some (.str line[j]) := by
    rw [at_nn (by omega) (by rw [stL_len]; omega)]
    show (stL line)[j]? = _
    rw [stL_get, List.getElem?_eq_getElem hj]; rfl
  have q1 : ks.length < 16777216 := by omega
  by_cases hr : r = 0
  · subst hr
    refine ⟨o1, addP ks (line[i], line[j]), ?_, f1, .inr ⟨_, _, rfl, i, j, hij, List.getElem?_eq_getElem hi, List.getElem?_eq_getElem hj⟩⟩
    simp [plP, e1, ai, aj, sizeL, keyT_ss, q1, put_pa]
  · refine ⟨o1, ks, ?_, f1, .inl rfl⟩
    simp [plP, e1, hr]
structure PairsOk (line : List Str) (ks : List (Str × Str)) : Prop where
  nd : ks.Nodup
  be : ∀ p ∈ ks, Before line p.1 p.2
theorem PairsOk.step {line : List Str} {ks ks' : List (Str × Str)} (h : PairsOk line ks) (hs : ks' = ks ∨ ∃ x y, ks' = addP ks (x, y) ∧ Before line x y) : PairsOk line ks' ∧ ks'.length ≤ ks.length + 1 := by
  rcases hs with rfl | ⟨x, y, rfl, hb⟩
  · exact ⟨h, by omega⟩
  · refine ⟨⟨addP_nd h.nd _, fun p hp => ?_⟩, addP_len _ _⟩
    rcases addP_mem hp with hp | rfl
    · exact h.be p hp
    · exact hb
theorem t_plPs {io : Bool} {a b c4 e5 : EV} {line : List Str} {i : Nat} (hl : line.length < 100) : ∀ (js : List Nat) {N : Nat} {o : OD} {ks : List (Str × Str)} {e8 : EV}, Fs e8 → Fd N o → N + js.length < 2 ^ 40 → (∀ j ∈ js, i < j ∧ j < line.length) → PairsOk line ks → ks.length + js.length < 10000 →
    ∃ (o' : OD) (ks' : List (Str × Str)) (f8 : EV), forL (gNm 8) plP (js.map fun (j : Nat) => PyData.int j) [.own o io, a, b, .own (.ol (stL line)) false, c4, e5, .own (.ot (ks.map gPa)) false, .d (.int i), e8] =
      some (.nx [.own o' io, a, b, .own (.ol (stL line)) false, c4, e5, .own (.ot (ks'.map gPa)) false, .d (.int i), f8]) ∧ Fs f8 ∧ Fd (N + js.length) o' ∧ PairsOk line ks' ∧ ks'.length ≤ ks.length + js.length
  | [], N, o, ks, e8, h8, hf, hN, hj, hk, hs => ⟨o, ks, e8, rfl, h8, hf, hk, by simp⟩
  | j :: js, N, o, ks, e8, h8, hf, hN, hj, hk, hs => by
    simp only [List.length_cons] at hN hs
    obtain ⟨j1, j2⟩ := hj j List.mem_cons_self
    obtain ⟨o1, ks1, E1, f1, st⟩ := t_plP (io := io) (a := a) (b := b) (c4 := c4) (e5 := e5) (ks := ks) hf (by omega) j1 j2 hl (by omega)
    obtain ⟨hk1, hl1⟩ := hk.step st
    obtain ⟨o2, ks2, f8, E2, h8', f2, hk2, hl2⟩ := t_plPs (io := io) (a := a) (b := b) (c4 := c4) (e5 := e5) (i := i) hl js (e8 := .d (.int j)) (by simp) f1 (by omega) (fun j' h' => hj j' (List.mem_cons_of_mem _ h')) hk1 (by omega)
    refine ⟨o2, ks2, f8, ?_, h8', f2.mono (by simp only [List.length_cons]; omega), hk2, by simp only [List.length_cons]; omega⟩
    rw [List.map_cons, e_forC]
    simp [free_fs h8, E1, E2]
theorem t_plI {N : Nat} {o : OD} {io : Bool} {a b c4 e5 e8 : EV} {line : List Str} {ks : List (Str × Str)} {i : Nat} (h8 : Fs e8) (h : Fd N o) (hN : N < 2 ^ 35) (hi : i < line.length) (hl : line.length ≤ 6) (hk : PairsOk line ks) (hks : ks.length < 9000) :
    ∃ (o' : OD) (ks' : List (Str × Str)) (f8 : EV), plI [.own o io, a, b, .own (.ol (stL line)) false, c4, e5, .own (.ot (ks.map gPa)) false, .d (.int i), e8] =
      some (.nx [.own o' io, a, b, .own (.ol (stL line)) false, c4, e5, .own (.ot (ks'.map gPa)) false, .d (.int i), f8]) ∧ Fs f8 ∧ Fd (N + 100) o' ∧ PairsOk line ks' ∧ ks'.length ≤ ks.length + 6 := by
  have hm : ((line.length : Int) - ((i : Int) + 1)).toNat = line.length - (i + 1) := by omega
  obtain ⟨o1, ks1, f8, E, h8', f1, hk1, hl1⟩ := t_plPs (io := io) (a := a) (b := b) (c4 := c4) (e5 := e5) (i := i) (by omega) (List.range' (i + 1) (line.length - (i + 1))) (ks := ks) h8 h (by rw [List.length_range']; omega) (fun j hj => by
    have := List.mem_range'_1.mp hj
    omega) hk (by rw [List.length_range']; omega)
  rw [List.length_range'] at f1 hl1
  refine ⟨o1, ks1, f8, ?_, h8', f1.mono (by omega), hk1, by omega⟩
  have b1 : -4611686018427387904 ≤ (i : Int) + 1 := by omega
  have b2 : (i : Int) + 1 < 4611686018427387904 := by omega
  have b3 : (line.length : Int) < 4611686018427387904 := by omega
  have hr := e_rng2 (f := x2 addD (xVar 7) (xC (.int 1))) (g := x1 lenD (xB (bVar 3))) (ρ := [.own o io, a, b, .own (.ol (stL line)) false, c4, e5, .own (.ot (ks.map gPa)) false, .d (.int i), e8]) (i := (i : Int) + 1) (j := line.length) (ρ1 := [.own o io, a, b, .own (.ol (stL line)) false, c4, e5, .own (.ot (ks.map gPa)) false, .d (.int i), e8]) (ρ2 := [.own o io, a, b, .own (.ol (stL line)) false, c4, e5, .own (.ot (ks.map gPa)) false, .d (.int i), e8]) (by simp) (by simp) (by omega) (by omega)
  have hi1 : ((i : Int) + 1) = ((i + 1 : Nat) : Int) := by omega
  rw [hm, hi1, rng_nat] at hr
  unfold plI
  rw [e_for, hr, Option.bind_some]
  exact E
theorem t_plIs {io : Bool} {a b c4 e5 : EV} {line : List Str} (hl : line.length ≤ 6) : ∀ (js : List Nat) {N : Nat} {o : OD} {ks : List (Str × Str)} {e7 e8 : EV}, Fs e7 → Fs e8 → Fd N o → N + 100 * js.length < 2 ^ 35 → (∀ j ∈ js, j < line.length) → PairsOk line ks → ks.length + 6 * js.length < 9000 →
    ∃ (o' : OD) (ks' : List (Str × Str)) (f7 f8 : EV), forL (gNm 7) plI (js.map fun (j : Nat) => PyData.int j) [.own o io, a, b, .own (.ol (stL line)) false, c4, e5, .own (.ot (ks.map gPa)) false, e7, e8] =
      some (.nx [.own o' io, a, b, .own (.ol (stL line)) false, c4, e5, .own (.ot (ks'.map gPa)) false, f7, f8]) ∧ Fd (N + 100 * js.length) o' ∧ PairsOk line ks' ∧ ks'.length ≤ ks.length + 6 * js.length
  | [], N, o, ks, e7, e8, h7, h8, hf, hN, hj, hk, hs => ⟨o, ks, e7, e8, rfl, hf, hk, by simp⟩
  | j :: js, N, o, ks, e7, e8, h7, h8, hf, hN, hj, hk, hs => by
    simp only [List.length_cons] at hN hs
    have j1 := hj j List.mem_cons_self
    obtain ⟨o1, ks1, f8, E1, h8', f1, hk1, hl1⟩ := t_plI (io := io) (a := a) (b := b) (c4 := c4) (e5 := e5) (ks := ks) h8 hf (by omega) j1 hl hk (by omega)
    obtain ⟨o2, ks2, g7, g8, E2, f2, hk2, hl2⟩ := t_plIs (io := io) (a := a) (b := b) (c4 := c4) (e5 := e5) hl js (e7 := .d (.int j)) (by simp) h8' f1 (by omega) (fun j' h' => hj j' (List.mem_cons_of_mem _ h')) hk1 (by omega)
    refine ⟨o2, ks2, g7, g8, ?_, f2.mono (by simp only [List.length_cons]; omega), hk2, by simp only [List.length_cons]; omega⟩
    rw [List.map_cons]
    exact forC_nx (by simp [free_fs h7]) E1 E2
theorem t_l_plan {N : Nat} {o : OD} (h : Fd N o) (hN : N < 2 ^ 25) (io : Bool) : ∃ (rs : List Ru) (ps : List (Str × Str)) (o' : OD), m_l_plan [.own o io, .d (.int 6)] = some (.d (plD rs ps), [.own o' io, .d (.int 6)]) ∧ PlanOk 20 NM rs ps ∧ Fd (N + 1000) o' := by
  obtain ⟨r, o1, e1, h1, h2, f1⟩ := t_draw h (by omega) (k := 7) (by decide) (by decide) true
  have hcut : cutD (stL NM) none (some r) = stL (NM.take r.toNat) := by
    rw [cutD_to h1 (by rw [stL_len]; show r ≤ 6; omega)]
    exact (List.map_take ..).symm
  have hlen : (NM.take r.toNat).length ≤ 6 := by rw [List.length_take]; exact Nat.le_trans (Nat.min_le_right _ _) (by decide)
  obtain ⟨o2, line, rs, f5, E2, f2, hp2, hw2, hn2⟩ := t_plRs (io := io) (a := .d (.int 6)) (b := .d (.list (stL (NM.take r.toNat)))) (e6 := .un) (e7 := .un) (e8 := .un) (NM.take r.toNat) (line := []) (rs := []) (e5 := .un) (by simp) f1 (by omega) (List.Perm.refl []) (fun r hr => by simp at hr) (by simp; omega)
  have hline : line.length ≤ 6 := by
    have := hp2.length_eq
    rw [hn2] at this
    simp at this
    omega
  obtain ⟨o3, ks, f7, f8, E3, f3, hk3, hl3⟩ := t_plIs (io := io) (a := .d (.int 6)) (b := .d (.list (stL (NM.take r.toNat)))) (c4 := .own (.ol (rs.map ruD)) false) (e5 := f5) (line := line) (by omega) (List.range line.length) (ks := []) (e7 := .un) (e8 := .un) (by simp) (by simp) f2 (by rw [List.length_range]; omega) (fun j hj => List.mem_range.mp hj) ⟨List.nodup_nil, fun p hp => by simp at hp⟩ (by rw [List.length_range]; simp; omega)
  rw [List.length_range] at f3
  refine ⟨rs, sortP ks, o3, ?_, ⟨?_, hw2, ?_, ?_, ⟨ks, rfl⟩, ⟨line, hp2, fun p hp => hk3.be p (List.mem_mergeSort.mp hp)⟩⟩, f3.mono (by omega)⟩
  · have b1 : (line.length : Int) < 4611686018427387904 := by omega
    have hr0 : rngD 0 line.length = (List.range line.length).map fun (j : Nat) => PyData.int j := by unfold rngD; simp
    have hs := sorted_pa ks
    have hNM : stL NM = [.str "ab", .str "b", .str "cap", .str "dd", .str "e", .str "zzzzzzzz"] := rfl
    rw [hNM] at hcut
    have hE2 : stL ([] : List Str) = [] := rfl
    have hE3 : ([] : List Ru).map ruD = [] := rfl
    have hE4 : ([] : List (Str × Str)).map gPa = [] := rfl
    rw [hE2, hE3] at E2
    rw [hE4] at E3
    have main : b_l_plan [.own o io, .d (.int 6), .un, .un, .un, .un, .un, .un, .un] = some (.rt (plD rs (sortP ks)) [.own o3 io, .d (.int 6), .d (.list (stL (NM.take r.toNat))), .own (.ol (stL line)) false, .own (.ol (rs.map ruD)) false, f5, .own (.ot (ks.map gPa)) false, f7, f8]) := by
      rw [plan_eq]
      refine seq_nx (ρ1 := [.own o1 io, .d (.int 6), .d (.list (stL (NM.take r.toNat))), .own (.ol []) false, .own (.ol []) false, .un, .un, .un, .un]) (by simp [sParR3, rD, rN, putR, e1, sizeL, slD, hcut]) ?_
      refine seq_nx (for_of (by simp) E2) ?_
      refine seq_nx (ρ1 := [.own o2 io, .d (.int 6), .d (.list (stL (NM.take r.toNat))), .own (.ol (stL line)) false, .own (.ol (rs.map ruD)) false, f5, .own (.ot []) false, .un, .un]) (by simp [nDt]) ?_
      refine seq_nx (for_of (e_rngN (n := line.length) (by simp) (by omega)) E3) ?_
      simp [hs, tupleD, plD, sizeL]
    have := run_rt (n := 9) (es := [.own o io, .d (.int 6)]) main
    simpa [m_l_plan] using this
  · rw [hn2]
    exact List.take_prefix _ _
  · exact (List.mergeSort_perm ks _).symm.nodup hk3.nd
  · rw [List.length_range] at hl3
    simp only [sortP, List.length_mergeSort]
    simp at hl3
    omega
end K16
set_option exponentiation.threshold 5000
set_option maxRecDepth 100000
set_option maxHeartbeats 4000000
namespace K16
open PySem PySem.Spec PyProof.Rows L2 DL
@[simp] theorem e_pickN (as : List AV) : pick [] as = some [] := rfl
@[simp] theorem e_pickL (i : Nat) (s : Sel) (as : List AV) : pick (.inl i :: s) as = (as[i]?).bind fun a => (pick s as).map (a :: ·) := rfl
@[simp] theorem e_aPick (s : Sel) (r rk : XA) (ρ : Nv) : aPick s r rk ρ = (r ρ).bind fun p => (rk p.2).bind fun q => (pick s (p.1 ++ q.1)).map fun as => (as, q.2) := rfl
theorem lcC {g : XG} {e : XE} {vs : List Nat} {d v : PyData} {ds acc : List PyData} {ρ ρ1 ρ3 ρ4 : Nv} {r : Option (List PyData × Nv)} (h1 : g d ρ = some ρ1) (h3 : e ρ1 = some (v, ρ3)) (hl : acc.length < 16777216) (h4 : wipeN ρ3 vs = some ρ4)
    (h5 : lcL g cYes e vs ds ρ4 (acc ++ [v]) = r) : lcL g cYes e vs (d :: ds) ρ acc = r := by
  rw [e_lcC, h1, Option.bind_some, e_yes, Option.bind_some, if_pos rfl, h3, Option.bind_some, if_pos (by rw [sizeL]; exact hl), h4, Option.bind_some]
  exact h5
/-! ### plans are good data -/
theorem ok_q {b : Nat} {q : Rat} (h : Sq b q) {B : Nat} (hB : 2 ^ b ≤ B) : ok B (qD q) = true := by
  have h1 := h.n
  have h2 := h.d
  simp [qD, ok, okA]
  omega
theorem ok_o {b : Nat} {q : Option Rat} (h : ∀ x, q = some x → Sq b x) {B : Nat} (hB : 2 ^ b ≤ B) : ok B (oD q) = true := by
  cases q with
  | none => rfl
  | some x => exact ok_q (h x rfl) hB
theorem sz_q (q : Rat) : sz (qD q) = 1612 := rfl
theorem sz_o (q : Option Rat) : sz (oD q) ≤ 1612 := by
  cases q with
  | none => show 8 ≤ 1612; omega
  | some x => exact Nat.le_refl _
theorem gd_c {b : Nat} {c : RQ.Cl} (h : Sc b c) {B : Nat} (hB : 2 ^ b ≤ B) : Gd B 2 6464 (cD c) := by
  have h1 := ok_q h.f hB
  have h2 := ok_q h.p hB
  have h3 := ok_o h.lo hB
  have h4 := ok_o h.hi hB
  have d3 := dep_o c.lo
  have d4 := dep_o c.hi
  have s3 := sz_o c.lo
  have s4 := sz_o c.hi
  refine gd_tup ?_ ?_ ?_
  · simp [okA, h1, h2, h3, h4]
  · simp only [PyData.depthAll, dep_q]; omega
  · simp only [szA, sz_q]; omega
def nmOk (s : Str) : Bool := ok 1 (.str s) && decide (s.length ≤ 8)
theorem nm_ok : ∀ s ∈ NM, nmOk s = true := List.all_eq_true.mp (show NM.all nmOk = true by decide +kernel)
theorem gd_nm {s : Str} (h : nmOk s = true) (B : Nat) : Gd B 0 108 (.str s) := by
  unfold nmOk at h
  simp only [Bool.and_eq_true, decide_eq_true_eq] at h
  exact ⟨h.1, Nat.le_refl _, by simp only [sz]; omega⟩
theorem szA_le {M : Nat} : ∀ {xs : List PyData}, (∀ x ∈ xs, sz x ≤ M) → szA xs ≤ (M + 2) * xs.length
  | [], _ => Nat.zero_le _
  | x :: xs, h => by
    have h1 := h x List.mem_cons_self
    have h2 := szA_le (xs := xs) fun y hy => h y (List.mem_cons_of_mem _ hy)
    simp only [szA, List.length_cons, Nat.mul_add]
    omega
theorem gd_all {B D S M : Nat} {xs : List PyData} (h : ∀ x ∈ xs, Gd B D M x) (hs : 8 + (M + 2) * xs.length ≤ S) : Gd B (D + 1) S (.tuple xs) := by
  refine gd_tup (okA_iff.mpr fun x hx => (h x hx).o) ?_ ?_
  · have := depthA_iff.mpr fun x hx => (h x hx).d
    omega
  · have := szA_le fun x hx => (h x hx).s
    omega
theorem before_mem {l : List Str} {a b : Str} (h : Before l a b) : a ∈ l ∧ b ∈ l := by
  obtain ⟨i, j, _, h1, h2⟩ := h
  exact ⟨List.mem_of_getElem? h1, List.mem_of_getElem? h2⟩
theorem plan_names {b : Nat} {rs : List Ru} {ps : List (Str × Str)} (h : PlanOk b NM rs ps) : (∀ r ∈ rs, nmOk r.1 = true) ∧ (∀ p ∈ ps, nmOk p.1 = true ∧ nmOk p.2 = true) := by
  have h1 : ∀ s ∈ rs.map (·.1), nmOk s = true := fun s hs => nm_ok s (h.pre.subset hs)
  refine ⟨fun r hr => h1 _ (List.mem_map_of_mem hr), fun p hp => ?_⟩
  obtain ⟨l, hl, hb⟩ := h.acy
  obtain ⟨q1, q2⟩ := before_mem (hb p hp)
  exact ⟨h1 _ (hl.subset q1), h1 _ (hl.subset q2)⟩
theorem gd_plan {rs : List Ru} {ps : List (Str × Str)} (h : PlanOk 20 NM rs ps) : Gd (10 ^ 59) 5 50000 (plD rs ps) := by
  obtain ⟨n1, n2⟩ := plan_names h
  have hB : (2 : Nat) ^ 20 ≤ 10 ^ 59 := by decide +kernel
  have hl : rs.length ≤ 6 := by
    have h1 := h.pre.length_le
    have h2 : NM.length = 6 := rfl
    rw [List.length_map, h2] at h1
    exact h1
  have hp := h.len
  have r1 : ∀ x ∈ rs.map ruD, Gd (10 ^ 59) 3 6600 x := fun x hx => by
    obtain ⟨r, hr, rfl⟩ := List.mem_map.mp hx
    have c := gd_c (h.wf r hr).2 hB
    have n := gd_nm (n1 r hr) (10 ^ 59)
    refine gd_tup ?_ ?_ ?_
    · have n' := n.o
      rw [okA, okA, okA, okA, n.o, c.o]
      rfl
    · have := c.d; have := n.d; simp only [PyData.depthAll, PyData.depth] at *; omega
    · have := c.s; have := n.s; simp only [szA, sz] at *; omega
  have r2 : ∀ x ∈ ps.map paD, Gd (10 ^ 59) 3 240 x := fun x hx => by
    obtain ⟨p, hp, rfl⟩ := List.mem_map.mp hx
    have a := gd_nm (n2 p hp).1 (10 ^ 59)
    have b := gd_nm (n2 p hp).2 (10 ^ 59)
    refine gd_tup ?_ ?_ ?_
    · simp [okA, a.o, b.o]
    · have := a.d; have := b.d; simp only [PyData.depthAll, PyData.depth] at *; omega
    · have := a.s; have := b.s; simp only [szA, sz] at *; omega
  have g1 : Gd (10 ^ 59) 4 40000 (.tuple (rs.map ruD)) := gd_all r1 (by rw [List.length_map]; omega)
  have g2 : Gd (10 ^ 59) 4 9000 (.tuple (ps.map paD)) := gd_all r2 (by rw [List.length_map]; omega)
  refine gd_tup ?_ ?_ ?_
  · simp [okA, g1.o, g2.o]
  · have := g1.d; have := g2.d; simp only [PyData.depthAll]; omega
  · have := g1.s; have := g2.s; simp only [szA]; omega
end K16
set_option maxRecDepth 100000
set_option maxHeartbeats 2000000
/-! DNb: more for running the mirrors -/
namespace DL
open PySem PySem.Spec PyProof.Rows L2
@[simp] theorem at0 (x : PyData) (xs : List PyData) : atI (x :: xs) 0 = some x := by
  rw [at_nn (by decide) (by simp only [List.length_cons]; omega)]; rfl
@[simp] theorem at1 (x y : PyData) (xs : List PyData) : atI (x :: y :: xs) 1 = some y := by
  rw [at_nn (by decide) (by simp only [List.length_cons]; omega)]; rfl
@[simp] theorem at2 (x y z : PyData) (xs : List PyData) : atI (x :: y :: z :: xs) 2 = some z := by
  rw [at_nn (by decide) (by simp only [List.length_cons]; omega)]; rfl
@[simp] theorem at3 (x y z w : PyData) (xs : List PyData) : atI (x :: y :: z :: w :: xs) 3 = some w := by
  rw [at_nn (by decide) (by simp only [List.length_cons]; omega)]; rfl
theorem eqD_ok {B : Nat} {x y : PyData} (hx : ok B x = true) (hy : ok B y = true) (dx : x.depth ≤ 60) (dy : y.depth ≤ 60) : eqD x y = some (.bool (PyData.eqv x y)) := by
  exact eqD_of (shaped_ok hx dx) (shaped_ok hy dy)
theorem neD_ok {B : Nat} {x y : PyData} (hx : ok B x = true) (hy : ok B y = true) (dx : x.depth ≤ 60) (dy : y.depth ≤ 60) : neD x y = some (.bool (!PyData.eqv x y)) := by
  exact neD_of (shaped_ok hx dx) (shaped_ok hy dy)
theorem atI_mem {xs : List PyData} {i : Int} (h0 : 0 ≤ i) (h1 : i < xs.length) : ∃ y, atI xs i = some y ∧ y ∈ xs := by
  refine ⟨xs[i.toNat]'(by omega), ?_, List.getElem_mem _⟩
  rw [at_nn h0 h1, List.getElem?_eq_getElem]
@[simp] theorem eqD_int (i j : Int) : eqD (.int i) (.int j) = some (.bool (i == j)) := rfl
@[simp] theorem neD_int (i j : Int) : neD (.int i) (.int j) = some (.bool (!(i == j))) := rfl
@[simp] theorem n0 : noneD .none = true := rfl
@[simp] theorem o_itT (xs : List PyData) : itD (.tuple xs) = some xs := rfl
@[simp] theorem o_itL (xs : List PyData) : itD (.list xs) = some xs := rfl
@[simp] theorem o_slT (xs : List PyData) (lo hi : Option Int) : slD (.tuple xs) lo hi = some (.tuple (cutD xs lo hi)) := rfl
@[simp] theorem o_slL (xs : List PyData) (lo hi : Option Int) : slD (.list xs) lo hi = some (.list (cutD xs lo hi)) := rfl
@[simp] theorem o_revL (xs : List PyData) : revD (.list xs) = some (.list xs.reverse) := rfl
@[simp] theorem o_revT (xs : List PyData) : revD (.tuple xs) = some (.tuple xs.reverse) := rfl
@[simp] theorem e_fz (n : XN) (ρ : Nv) : xFz n ρ = (n ρ).map fun p => (odD p.1, p.2) := rfl
@[simp] theorem e_lc (it : XI) (g : XG) (c : XT) (e : XE) (vs : List Nat) (ρ : Nv) : nLc it g c e vs ρ = (it ρ).bind fun p => if unAt p.2 vs = true then (lcL g c e vs p.1 p.2 []).map fun q => (.ol q.1, q.2) else none := rfl
@[simp] theorem e_lcN (g : XG) (c : XT) (e : XE) (vs : List Nat) (ρ : Nv) (acc : List PyData) : lcL g c e vs [] ρ acc = some (acc, ρ) := rfl
@[simp] theorem e_lcC (g : XG) (c : XT) (e : XE) (vs : List Nat) (d : PyData) (ds : List PyData) (ρ : Nv) (acc : List PyData) : lcL g c e vs (d :: ds) ρ acc = ((g d ρ).bind fun ρ1 => (c ρ1).bind fun p => if p.1 = true then (e p.2).bind fun q => if acc.length < sizeLine then (wipeN q.2 vs).bind fun ρ2 => lcL g c e vs ds ρ2 (acc ++ [q.1]) else none
    else (wipeN p.2 vs).bind fun ρ2 => lcL g c e vs ds ρ2 acc) := rfl
@[simp] theorem e_wipe0 (ρ : Nv) : wipeN ρ [] = some ρ := rfl
@[simp] theorem e_wipe1 (ρ : Nv) (v : Nat) (vs : List Nat) : wipeN ρ (v :: vs) = if free ρ v = true then wipeN (ρ.set v .un) vs else none := rfl
@[simp] theorem e_yes (ρ : Nv) : cYes ρ = some (true, ρ) := rfl
@[simp] theorem odD_ol (xs : List PyData) : odD (.ol xs) = .list xs := rfl
@[simp] theorem at4 (x y z w v : PyData) (xs : List PyData) : atI (x :: y :: z :: w :: v :: xs) 4 = some v := by
  rw [at_nn (by decide) (by simp only [List.length_cons]; omega)]; rfl
@[simp] theorem e_pickN (as : List AV) : pick [] as = some [] := rfl
@[simp] theorem e_pickL (i : Nat) (s : Sel) (as : List AV) : pick (.inl i :: s) as = (as[i]?).bind fun a => (pick s as).map (a :: ·) := rfl
@[simp] theorem e_aPick (s : Sel) (r rk : XA) (ρ : Nv) : aPick s r rk ρ = (r ρ).bind fun p => (rk p.2).bind fun q => (pick s (p.1 ++ q.1)).map fun as => (as, q.2) := rfl
theorem lcC {g : XG} {e : XE} {vs : List Nat} {d v : PyData} {ds acc : List PyData} {ρ ρ1 ρ3 ρ4 : Nv} {r : Option (List PyData × Nv)} (h1 : g d ρ = some ρ1) (h3 : e ρ1 = some (v, ρ3)) (hl : acc.length < 16777216) (h4 : wipeN ρ3 vs = some ρ4)
    (h5 : lcL g cYes e vs ds ρ4 (acc ++ [v]) = r) : lcL g cYes e vs (d :: ds) ρ acc = r := by
  rw [e_lcC, h1, Option.bind_some, e_yes, Option.bind_some, if_pos rfl, h3, Option.bind_some, if_pos (by rw [sizeL]; exact hl), h4, Option.bind_some]
  exact h5
theorem lcT {g : XG} {c : XT} {e : XE} {vs : List Nat} {d v : PyData} {ds acc : List PyData} {ρ ρ1 ρ2 ρ3 ρ4 : Nv} {r : Option (List PyData × Nv)} (h1 : g d ρ = some ρ1) (h2 : c ρ1 = some (true, ρ2)) (h3 : e ρ2 = some (v, ρ3)) (hl : acc.length < 16777216) (h4 : wipeN ρ3 vs = some ρ4)
    (h5 : lcL g c e vs ds ρ4 (acc ++ [v]) = r) : lcL g c e vs (d :: ds) ρ acc = r := by
  rw [e_lcC, h1, Option.bind_some, h2, Option.bind_some, if_pos rfl, h3, Option.bind_some, if_pos (by rw [sizeL]; exact hl), h4, Option.bind_some]
  exact h5
theorem lcF {g : XG} {c : XT} {e : XE} {vs : List Nat} {d : PyData} {ds acc : List PyData} {ρ ρ1 ρ2 ρ4 : Nv} {r : Option (List PyData × Nv)} (h1 : g d ρ = some ρ1) (h2 : c ρ1 = some (false, ρ2)) (h4 : wipeN ρ2 vs = some ρ4)
    (h5 : lcL g c e vs ds ρ4 acc = r) : lcL g c e vs (d :: ds) ρ acc = r := by
  rw [e_lcC, h1, Option.bind_some, h2, Option.bind_some, if_neg (by simp), h4, Option.bind_some]
  exact h5
@[simp] theorem e_datN : datEs [] = some [] := rfl
@[simp] theorem e_datC (x : PyData) (es : List EV) : datEs (.d x :: es) = (datEs es).map (x :: ·) := rfl
theorem dat_of : ∀ ds : List PyData, datEs (ds.map EV.d) = some ds
  | [] => rfl
  | d :: ds => by simp [dat_of ds]
theorem e_star (m : XF) (es : List EV) : starF m es = (datEs es).bind fun ds => if ds.length ≤ sizeLine then (m [.d (.tuple ds)]).map fun q => (q.1, es) else none := rfl
theorem e_kw (ks : List Str) (m : XF) (es : List EV) : kwF ks m es = (datEs es).bind fun ds => if ds.length = ks.length then (m [.own (.od ((ks.map Sum.inr).zip ds)) true]).map fun q => (q.1, es) else none := rfl
theorem ext_of {i : Nat} {f : XE} {ρ ρ1 : Nv} {zs ws vs : List PyData} {b io : Bool} (h0 : ρ[i]? = some (.own (.ol zs) b)) (hf : f ρ = some (.list ws, ρ1)) (h1 : ρ1[i]? = some (.own (.ol vs) io)) (hl : vs.length + ws.length ≤ 16777216) : xExt i f ρ = some (.none, ρ1.set i (.own (.ol (vs ++ ws)) io)) := by
  unfold xExt
  rw [h0]
  simp only [hf, Option.bind_some, h1]
  rw [if_pos (by rw [sizeL]; exact hl)]
theorem app_of {i : Nat} {f : XE} {ρ ρ1 : Nv} {zs vs : List PyData} {w : PyData} {b io : Bool} (h0 : ρ[i]? = some (.own (.ol zs) b)) (hf : f ρ = some (w, ρ1)) (h1 : ρ1[i]? = some (.own (.ol vs) io)) (hl : vs.length < 16777216) : xApp i f ρ = some (.none, ρ1.set i (.own (.ol (vs ++ [w])) io)) := by
  unfold xApp
  rw [h0]
  simp only [hf, Option.bind_some, h1]
  rw [if_pos (by rw [sizeL]; exact hl)]
@[simp] theorem e_og1 (i : Nat) (g : XE) (ρ : Nv) : xOg1 i g ρ = match ρ[i]? with
  | some (.own (.od _) _) => (g ρ).bind fun q => match q.2[i]?, keyD q.1 with
    | some (.own (.od kvs) _), some k => some ((getD' kvs k).getD .none, q.2)
    | _, _ => none
  | _ => none := rfl
@[simp] theorem e_og2 (i : Nat) (g h : XE) (ρ : Nv) : xOg2 i g h ρ = match ρ[i]? with
  | some (.own (.od _) _) => (g ρ).bind fun q => (h q.2).bind fun r => match r.2[i]?, keyD q.1 with
    | some (.own (.od kvs) _), some k => some ((getD' kvs k).getD r.1, r.2)
    | _, _ => none
  | _ => none := rfl
@[simp] theorem e_chain3 (h h1 h2 : PyData → PyData → Option PyData) (a b c d : XE) (ρ : Nv) : xChain3 h h1 h2 a b c d ρ = (a ρ).bind fun p => (b p.2).bind fun q => (h p.1 q.1).bind fun z => match z with
  | .bool true => (c q.2).bind fun r => (h1 q.1 r.1).bind fun z => match z with
    | .bool true => (d r.2).bind fun s => (h2 r.1 s.1).map fun z => (z, s.2)
    | .bool false => some (.bool false, r.2)
    | _ => none
  | .bool false => some (.bool false, q.2)
  | _ => none := rfl
@[simp] theorem e_star1 (f : XE) (ρ : Nv) : aStar f ρ = (f ρ).bind fun p => match p.1 with
  | .list ds => some (ds.map .v, p.2)
  | .tuple ds => some (ds.map .v, p.2)
  | _ => none := rfl
@[simp] theorem e_parR3 (i j l : Nat) (f g h : XR) (ρ : Nv) : sParR3 i j l f g h ρ = (f ρ).bind fun p => (g p.2).bind fun q => (h q.2).bind fun s => (putR s.2 i p.1).bind fun ρ1 => (putR ρ1 j q.1).bind fun ρ2 => (putR ρ2 l s.1).map .nx := rfl
@[simp] theorem e_rD (f : XE) (ρ : Nv) : rD f ρ = (f ρ).map fun p => (.d p.1, p.2) := rfl
@[simp] theorem e_rN (f : XN) (ρ : Nv) : rN f ρ = (f ρ).map fun p => (.n p.1, p.2) := rfl
@[simp] theorem e_ncat (a b : XE) (ρ : Nv) : nCat a b ρ = (a ρ).bind fun p => (b p.2).bind fun q => match p.1, q.1 with
  | .list x, .list y => if x.length + y.length ≤ sizeLine then some (.ol (x ++ y), q.2) else none
  | _, _ => none := rfl
end DL
set_option maxRecDepth 100000
set_option maxHeartbeats 2000000
/-! DNc: loops and comprehensions by an invariant; what a mirror ends with -/
namespace DL
open PySem PySem.Spec PyProof.Rows L2
/-- one round of a for -/
def stepF (g : XG) (b : XS) (d : PyData) (ρ : Nv) : Option Fl := (g d ρ).bind b
theorem e_stepF (g : XG) (b : XS) (d : PyData) (ρ : Nv) : stepF g b d ρ = (g d ρ).bind fun ρ1 => b ρ1 := rfl
/-- p ends, and Q holds of how -/
def Wp (p : XS) (ρ : Nv) (Q : Fl → Prop) : Prop := ∃ r, p ρ = some r ∧ Q r
def We (f : XE) (ρ : Nv) (Q : PyData → Nv → Prop) : Prop := ∃ d ρ', f ρ = some (d, ρ') ∧ Q d ρ'
def Wt (f : XT) (ρ : Nv) (Q : Bool → Nv → Prop) : Prop := ∃ d ρ', f ρ = some (d, ρ') ∧ Q d ρ'
def Wn (f : XN) (ρ : Nv) (Q : OD → Nv → Prop) : Prop := ∃ d ρ', f ρ = some (d, ρ') ∧ Q d ρ'
theorem wp_of {p : XS} {ρ : Nv} {Q : Fl → Prop} {r : Fl} (h : p ρ = some r) (q : Q r) : Wp p ρ Q := ⟨r, h, q⟩
theorem Wp.imp {p : XS} {ρ : Nv} {Q R : Fl → Prop} (h : Wp p ρ Q) (i : ∀ r, Q r → R r) : Wp p ρ R := by
  obtain ⟨r, e, q⟩ := h
  exact ⟨r, e, i r q⟩
theorem wp_seq {p q : XS} {ρ : Nv} {Q : Fl → Prop} (h : Wp p ρ fun r => match r with | .nx ρ1 => Wp q ρ1 Q | r => Q r) : Wp (sSeq p q) ρ Q := by
  obtain ⟨r, e, i⟩ := h
  rw [Wp, e_seq, e, Option.bind_some]
  cases r with
  | nx ρ1 => exact i
  | _ => exact ⟨_, rfl, i⟩
theorem wp_nx {p q : XS} {ρ ρ1 : Nv} {Q : Fl → Prop} (h : p ρ = some (.nx ρ1)) (k : Wp q ρ1 Q) : Wp (sSeq p q) ρ Q := wp_seq ⟨_, h, k⟩
theorem wp_rt {p q : XS} {ρ ρ1 : Nv} {d : PyData} {Q : Fl → Prop} (h : p ρ = some (.rt d ρ1)) (k : Q (.rt d ρ1)) : Wp (sSeq p q) ρ Q := wp_seq ⟨_, h, k⟩
theorem wp_ret {f : XE} {ρ : Nv} {Q : Fl → Prop} (h : We f ρ fun d ρ' => Q (.rt d ρ')) : Wp (sRet f) ρ Q := by
  obtain ⟨d, ρ', e, q⟩ := h
  exact ⟨_, by rw [e_ret, e]; rfl, q⟩
theorem wp_set {i : Nat} {f : XE} {ρ : Nv} {Q : Fl → Prop} (h : We f ρ fun d ρ' => free ρ' i = true ∧ Q (.nx (ρ'.set i (.d d)))) : Wp (sSet i f) ρ Q := by
  obtain ⟨d, ρ', e, h1, q⟩ := h
  exact ⟨_, by rw [e_set, e, Option.bind_some, e_put', if_pos h1]; rfl, q⟩
theorem wp_new {i : Nat} {f : XN} {ρ : Nv} {Q : Fl → Prop} (h : Wn f ρ fun d ρ' => free ρ' i = true ∧ Q (.nx (ρ'.set i (.own d false)))) : Wp (sNew i f) ρ Q := by
  obtain ⟨d, ρ', e, h1, q⟩ := h
  exact ⟨_, by rw [e_new, e, Option.bind_some, if_pos h1], q⟩
theorem wp_drop {f : XE} {ρ : Nv} {Q : Fl → Prop} (h : We f ρ fun _ ρ' => Q (.nx ρ')) : Wp (sDrop f) ρ Q := by
  obtain ⟨d, ρ', e, q⟩ := h
  exact ⟨_, by rw [e_drop, e]; rfl, q⟩
theorem wp_if {t : XT} {p q : XS} {ρ : Nv} {Q : Fl → Prop} (h : Wt t ρ fun b ρ' => if b = true then Wp p ρ' Q else Wp q ρ' Q) : Wp (sIf t p q) ρ Q := by
  obtain ⟨b, ρ', e, i⟩ := h
  rw [Wp, e_sif, e, Option.bind_some]
  cases b <;> exact i
theorem wt_of {t : XT} {b : Bool} {ρ ρ' : Nv} {Q : Bool → Nv → Prop} (h : t ρ = some (b, ρ')) (q : Q b ρ') : Wt t ρ Q := ⟨b, ρ', h, q⟩
theorem we_of {t : XE} {b : PyData} {ρ ρ' : Nv} {Q : PyData → Nv → Prop} (h : t ρ = some (b, ρ')) (q : Q b ρ') : We t ρ Q := ⟨b, ρ', h, q⟩
theorem wn_of {t : XN} {b : OD} {ρ ρ' : Nv} {Q : OD → Nv → Prop} (h : t ρ = some (b, ρ')) (q : Q b ρ') : Wn t ρ Q := ⟨b, ρ', h, q⟩
/-- a for whose rounds end -/
theorem for_J {α : Type} {g : XG} {b : XS} (k : α → PyData) (J : List α → Nv → Prop) (hs : ∀ x xs ρ, J (x :: xs) ρ → ∃ ρ1, stepF g b (k x) ρ = some (.nx ρ1) ∧ J xs ρ1) :
    ∀ (xs : List α) (ρ : Nv), J xs ρ → ∃ ρ1, forL g b (xs.map k) ρ = some (.nx ρ1) ∧ J [] ρ1
  | [], ρ, h => ⟨ρ, rfl, h⟩
  | x :: xs, ρ, h => by
    obtain ⟨ρ1, e, h1⟩ := hs x xs ρ h
    obtain ⟨ρ2, e2, h2⟩ := for_J k J hs xs ρ1 h1
    refine ⟨ρ2, ?_, h2⟩
    unfold stepF at e
    rw [List.map_cons, e_forC]
    cases hg : g (k x) ρ with
    | none => rw [hg] at e; cases e
    | some ρ3 => rw [hg, Option.bind_some] at e; rw [Option.bind_some, e, Option.bind_some]; exact e2
theorem wp_for {α : Type} {it : XI} {g : XG} {b : XS} {ρ ρ0 : Nv} {Q : Fl → Prop} (k : α → PyData) (xs : List α) (J : List α → Nv → Prop) (hi : it ρ = some (xs.map k, ρ0)) (h0 : J xs ρ0)
    (hs : ∀ x xs ρ, J (x :: xs) ρ → ∃ ρ1, stepF g b (k x) ρ = some (.nx ρ1) ∧ J xs ρ1) (hk : ∀ ρ1, J [] ρ1 → Q (.nx ρ1)) : Wp (sFor it g b) ρ Q := by
  obtain ⟨ρ1, e, h⟩ := for_J k J hs xs ρ0 h0
  exact ⟨_, by rw [e_for, hi, Option.bind_some]; exact e, hk ρ1 h⟩
/-- the same, with rounds shown by Wp -/
theorem wp_forW {α : Type} {it : XI} {g : XG} {b : XS} {ρ ρ0 : Nv} {Q : Fl → Prop} (k : α → PyData) (xs : List α) (J : List α → Nv → Prop) (hi : it ρ = some (xs.map k, ρ0)) (h0 : J xs ρ0)
    (hs : ∀ x xs ρ, J (x :: xs) ρ → ∃ ρ1, g (k x) ρ = some ρ1 ∧ Wp b ρ1 fun r => ∃ ρ2, r = .nx ρ2 ∧ J xs ρ2) (hk : ∀ ρ1, J [] ρ1 → Q (.nx ρ1)) : Wp (sFor it g b) ρ Q :=
  wp_for k xs J hi h0 (fun x xs ρ h => by
    obtain ⟨ρ1, e1, r, e2, ρ2, rfl, j⟩ := hs x xs ρ h
    exact ⟨ρ2, by rw [e_stepF, e1, Option.bind_some]; exact e2, j⟩) hk
/-- a for whose rounds end or return -/
theorem wp_forR {α : Type} {it : XI} {g : XG} {b : XS} {ρ ρ0 : Nv} {Q : Fl → Prop} (k : α → PyData) (xs : List α) (J : List α → Nv → Prop) (hi : it ρ = some (xs.map k, ρ0)) (h0 : J xs ρ0)
    (hs : ∀ x xs ρ, J (x :: xs) ρ → (∃ ρ1, stepF g b (k x) ρ = some (.nx ρ1) ∧ J xs ρ1) ∨ ∃ d ρ1, stepF g b (k x) ρ = some (.rt d ρ1) ∧ Q (.rt d ρ1)) (hk : ∀ ρ1, J [] ρ1 → Q (.nx ρ1)) : Wp (sFor it g b) ρ Q := by
  have key : ∀ (xs : List α) (ρ : Nv), J xs ρ → ∃ r, forL g b (xs.map k) ρ = some r ∧ Q r := by
    intro xs
    induction xs with
    | nil => exact fun ρ h => ⟨_, rfl, hk ρ h⟩
    | cons x xs ih =>
      intro ρ h
      rcases hs x xs ρ h with ⟨ρ1, e, h1⟩ | ⟨d, ρ1, e, q⟩
      · obtain ⟨r, e2, q⟩ := ih ρ1 h1
        refine ⟨r, ?_, q⟩
        unfold stepF at e
        rw [List.map_cons, e_forC]
        cases hg : g (k x) ρ with
        | none => rw [hg] at e; cases e
        | some ρ3 => rw [hg, Option.bind_some] at e; rw [Option.bind_some, e, Option.bind_some]; exact e2
      · refine ⟨_, ?_, q⟩
        unfold stepF at e
        rw [List.map_cons, e_forC]
        cases hg : g (k x) ρ with
        | none => rw [hg] at e; cases e
        | some ρ3 => rw [hg, Option.bind_some] at e; rw [Option.bind_some, e, Option.bind_some]
  obtain ⟨r, e, q⟩ := key xs ρ0 h0
  exact ⟨r, by rw [e_for, hi, Option.bind_some]; exact e, q⟩
/-- one round of a comprehension: what it adds, and the slots behind it -/
def lcS (g : XG) (c : XT) (e : XE) (vs : List Nat) (d : PyData) (ρ : Nv) : Option (Option PyData × Nv) :=
  (g d ρ).bind fun ρ1 => (c ρ1).bind fun p => if p.1 = true then (e p.2).bind fun q => (wipeN q.2 vs).map fun ρ2 => (some q.1, ρ2) else (wipeN p.2 vs).map fun ρ2 => (none, ρ2)
theorem e_lcS (g : XG) (c : XT) (e : XE) (vs : List Nat) (d : PyData) (ρ : Nv) : lcS g c e vs d ρ =
  (g d ρ).bind fun ρ1 => (c ρ1).bind fun p => if p.1 = true then (e p.2).bind fun q => (wipeN q.2 vs).map fun ρ2 => (some q.1, ρ2) else (wipeN p.2 vs).map fun ρ2 => (none, ρ2) := rfl
theorem lc_step {g : XG} {c : XT} {e : XE} {vs : List Nat} {d : PyData} {ρ ρ1 : Nv} {o : Option PyData} (h : lcS g c e vs d ρ = some (o, ρ1)) {acc : List PyData} (hl : acc.length < 16777216) (ds : List PyData) :
    lcL g c e vs (d :: ds) ρ acc = lcL g c e vs ds ρ1 (acc ++ o.toList) := by
  unfold lcS at h
  rw [e_lcC]
  cases hg : g d ρ with
  | none => rw [hg] at h; cases h
  | some ρ2 =>
    rw [hg, Option.bind_some] at h
    rw [Option.bind_some]
    cases hc : c ρ2 with
    | none => rw [hc] at h; cases h
    | some p =>
      rw [hc, Option.bind_some] at h
      rw [Option.bind_some]
      by_cases hp : p.1 = true
      · rw [if_pos hp] at h ⊢
        cases he : e p.2 with
        | none => rw [he] at h; cases h
        | some q =>
          rw [he, Option.bind_some] at h
          rw [Option.bind_some, if_pos (by rw [sizeL]; exact hl)]
          cases hw : wipeN q.2 vs with
          | none => rw [hw] at h; cases h
          | some ρ3 =>
            rw [hw, Option.map_some] at h
            cases h
            rfl
      · rw [if_neg hp] at h ⊢
        cases hw : wipeN p.2 vs with
        | none => rw [hw] at h; cases h
        | some ρ3 =>
          rw [hw, Option.map_some] at h
          cases h
          rw [Option.bind_some, Option.toList_none, List.append_nil]
/-- a comprehension that changes nothing -/
theorem lc_pure {α : Type} {g : XG} {c : XT} {e : XE} {vs : List Nat} {ρ : Nv} {k : α → PyData} (f : α → Option PyData) :
    ∀ (xs : List α) (acc : List PyData), (∀ x ∈ xs, lcS g c e vs (k x) ρ = some (f x, ρ)) → acc.length + xs.length < 16777216 → lcL g c e vs (xs.map k) ρ acc = some (acc ++ xs.filterMap f, ρ)
  | [], acc, _, _ => by simp
  | x :: xs, acc, h, hl => by
    rw [List.length_cons] at hl
    rw [List.map_cons, lc_step (h x List.mem_cons_self) (by omega)]
    have hk : (f x).toList.length ≤ 1 := by cases f x <;> simp
    rw [lc_pure f xs _ (fun y hy => h y (List.mem_cons_of_mem _ hy)) (by rw [List.length_append]; omega)]
    cases hf : f x with
    | none => simp [List.filterMap_cons, hf]
    | some v => simp [List.filterMap_cons, hf]
theorem lc_map {α : Type} {g : XG} {c : XT} {e : XE} {vs : List Nat} {ρ : Nv} {k : α → PyData} (f : α → PyData) (xs : List α) (acc : List PyData) (h : ∀ x ∈ xs, lcS g c e vs (k x) ρ = some (some (f x), ρ)) (hl : acc.length + xs.length < 16777216) :
    lcL g c e vs (xs.map k) ρ acc = some (acc ++ xs.map f, ρ) := by
  rw [lc_pure (fun x => some (f x)) xs acc h hl]
  congr 3
  induction xs with
  | nil => rfl
  | cons x xs ih => simp [List.filterMap_cons]
/-- one that finds nothing -/
theorem lc_none {α : Type} {g : XG} {c : XT} {e : XE} {vs : List Nat} {ρ : Nv} {k : α → PyData} : ∀ (xs : List α) (acc : List PyData), (∀ x ∈ xs, lcS g c e vs (k x) ρ = some (none, ρ)) → acc.length < 16777216 → lcL g c e vs (xs.map k) ρ acc = some (acc, ρ)
  | [], acc, _, _ => rfl
  | x :: xs, acc, h, hl => by
    rw [List.map_cons, lc_step (h x List.mem_cons_self) hl, Option.toList_none, List.append_nil]
    exact lc_none xs acc (fun y hy => h y (List.mem_cons_of_mem _ hy)) hl
/-- one with a state: every round adds a good thing and keeps the invariant -/
theorem lc_J {α β : Type} {g : XG} {c : XT} {e : XE} {vs : List Nat} {k : α → PyData} (kb : β → PyData) (G : β → Prop) (J : Nat → Nv → Prop) (n : Nat)
    (hs : ∀ x ρ m, m ≤ n → J (m + 1) ρ → ∃ y ρ1, lcS g c e vs (k x) ρ = some (some (kb y), ρ1) ∧ G y ∧ J m ρ1) :
    ∀ (xs : List α) (acc : List β) (ρ : Nv), xs.length ≤ n → J xs.length ρ → acc.length + xs.length < 16777216 → ∃ ys ρ1, lcL g c e vs (xs.map k) ρ (acc.map kb) = some ((acc ++ ys).map kb, ρ1) ∧ ys.length = xs.length ∧ (∀ y ∈ ys, G y) ∧ J 0 ρ1
  | [], acc, ρ, _, h, _ => ⟨[], ρ, by simp, rfl, (fun y hy => nomatch hy), h⟩
  | x :: xs, acc, ρ, hn, h, hl => by
    rw [List.length_cons] at hl hn
    obtain ⟨y, ρ1, e1, gy, j1⟩ := hs x ρ xs.length (by omega) h
    obtain ⟨ys, ρ2, e2, h2, h3, h4⟩ := lc_J kb G J n hs xs (acc ++ [y]) ρ1 (by omega) j1 (by rw [List.length_append, List.length_singleton]; omega)
    refine ⟨y :: ys, ρ2, ?_, by rw [List.length_cons, List.length_cons, h2], ?_, h4⟩
    · rw [List.map_cons, lc_step e1 (by rw [List.length_map]; omega), Option.toList_some]
      rw [List.map_append] at e2
      simp only [List.map_cons, List.map_nil] at e2
      rw [e2, List.append_assoc]
      rfl
    · intro z hz
      rcases List.mem_cons.mp hz with rfl | hz
      · exact gy
      · exact h3 z hz
@[simp] theorem e_pickR (d : PyData) (s : Sel) (as : List AV) : pick (.inr d :: s) as = if flatD d = true then (pick s as).map (.v d :: ·) else none := rfl
@[simp] theorem fl_none : flatD .none = true := rfl
@[simp] theorem fl_bool (b : Bool) : flatD (.bool b) = true := rfl
@[simp] theorem fl_int (i : Int) : flatD (.int i) = true := rfl
@[simp] theorem fl_str (s : Str) : flatD (.str s) = true := rfl
/-! ### comprehensions as values -/
section
variable {α : Type} {it : XI} {g : XG} {c : XT} {e : XE} {vs : List Nat} {ρ ρ1 : Nv} {k : α → PyData} {xs : List α}
theorem fz_lc {ds zs : List PyData} {ρ2 : Nv} (hi : it ρ = some (ds, ρ1)) (hu : unAt ρ1 vs = true) (h : lcL g c e vs ds ρ1 [] = some (zs, ρ2)) : xFz (nLc it g c e vs) ρ = some (.list zs, ρ2) := by
  rw [e_fz, e_lc, hi, Option.bind_some, if_pos hu, h]; rfl
theorem fz_none (hi : it ρ = some (xs.map k, ρ1)) (hu : unAt ρ1 vs = true) (h : ∀ x ∈ xs, lcS g c e vs (k x) ρ1 = some (none, ρ1)) : xFz (nLc it g c e vs) ρ = some (.list [], ρ1) :=
  fz_lc hi hu (lc_none xs [] h (by decide))
theorem fz_map (f : α → PyData) (hi : it ρ = some (xs.map k, ρ1)) (hu : unAt ρ1 vs = true) (h : ∀ x ∈ xs, lcS g c e vs (k x) ρ1 = some (some (f x), ρ1)) (hl : xs.length < 1000000) : xFz (nLc it g c e vs) ρ = some (.list (xs.map f), ρ1) :=
  fz_lc hi hu (lc_map f xs [] h (by rw [List.length_nil]; omega))
theorem fz_pure (f : α → Option PyData) (hi : it ρ = some (xs.map k, ρ1)) (hu : unAt ρ1 vs = true) (h : ∀ x ∈ xs, lcS g c e vs (k x) ρ1 = some (f x, ρ1)) (hl : xs.length < 1000000) : xFz (nLc it g c e vs) ρ = some (.list (xs.filterMap f), ρ1) :=
  fz_lc hi hu (lc_pure f xs [] h (by rw [List.length_nil]; omega))
theorem nl_map (f : α → PyData) (hi : it ρ = some (xs.map k, ρ1)) (hu : unAt ρ1 vs = true) (h : ∀ x ∈ xs, lcS g c e vs (k x) ρ1 = some (some (f x), ρ1)) (hl : xs.length < 1000000) : nLc it g c e vs ρ = some (.ol (xs.map f), ρ1) := by
  rw [e_lc, hi, Option.bind_some, if_pos hu, lc_map f xs [] h (by rw [List.length_nil]; omega)]; rfl
/-- with names that are locals too -/
theorem fz_lcS {ds zs : List PyData} {ρ2 ρ3 ρ4 : Nv} (hi : it ρ = some (ds, ρ1)) (hw : wipeN ρ1 vs = some ρ2) (hu : unAt ρ2 vs = true) (h : lcL g c e vs ds ρ2 [] = some (zs, ρ3)) (hr : restN ρ ρ3 vs = some ρ4) : xFz (nLcS it g c e vs) ρ = some (.list zs, ρ4) := by
  unfold nLcS nSv
  rw [e_fz]
  have hi2 : itS it vs ρ = some (ds, ρ2) := by unfold itS; rw [hi, Option.bind_some, hw]; rfl
  rw [e_lc, hi2, Option.bind_some, if_pos hu, h, Option.map_some, Option.bind_some, hr]
  rfl
theorem we_lcJ {β : Type} {Q : PyData → Nv → Prop} (kb : β → PyData) (G : β → Prop) (J : Nat → Nv → Prop) (hi : it ρ = some (xs.map k, ρ1)) (hu : unAt ρ1 vs = true) (h0 : J xs.length ρ1)
    (hs : ∀ x ρ m, m ≤ xs.length → J (m + 1) ρ → ∃ y ρ1, lcS g c e vs (k x) ρ = some (some (kb y), ρ1) ∧ G y ∧ J m ρ1) (hl : xs.length < 1000000)
    (q : ∀ (ys : List β) ρ1, ys.length = xs.length → (∀ y ∈ ys, G y) → J 0 ρ1 → Q (.list (ys.map kb)) ρ1) : We (xFz (nLc it g c e vs)) ρ Q := by
  obtain ⟨ys, ρ2, e1, h1, h2, h3⟩ := lc_J kb G J xs.length hs xs [] ρ1 (Nat.le_refl _) h0 (by rw [List.length_nil]; omega)
  exact ⟨_, _, fz_lc hi hu e1, q ys ρ2 h1 h2 h3⟩
theorem we_lcSJ {β : Type} {Q : PyData → Nv → Prop} (kb : β → PyData) (G : β → Prop) (J : Nat → Nv → Prop) {ρ2 : Nv} (hi : it ρ = some (xs.map k, ρ1)) (hw : wipeN ρ1 vs = some ρ2) (hu : unAt ρ2 vs = true) (h0 : J xs.length ρ2)
    (hs : ∀ x ρ m, m ≤ xs.length → J (m + 1) ρ → ∃ y ρ1, lcS g c e vs (k x) ρ = some (some (kb y), ρ1) ∧ G y ∧ J m ρ1) (hl : xs.length < 1000000)
    (q : ∀ (ys : List β) ρ3, ys.length = xs.length → (∀ y ∈ ys, G y) → J 0 ρ3 → ∃ ρ4, restN ρ ρ3 vs = some ρ4 ∧ Q (.list (ys.map kb)) ρ4) : We (xFz (nLcS it g c e vs)) ρ Q := by
  obtain ⟨ys, ρ3, e1, h1, h2, h3⟩ := lc_J kb G J xs.length hs xs [] ρ2 (Nat.le_refl _) h0 (by rw [List.length_nil]; omega)
  obtain ⟨ρ4, h4, h5⟩ := q ys ρ3 h1 h2 h3
  exact ⟨_, _, fz_lcS hi hw hu e1 h4, h5⟩
end
section
variable {α : Type} {it : XI} {g : XG} {c : XT} {e : XE} {vs : List Nat} {ρ ρ1 : Nv} {k : α → PyData} {xs : List α}
theorem lc_E {β : Type} (kb : β → PyData) (G : β → Prop) : ∀ (xs : List α) (acc : List β), (∀ x ∈ xs, ∃ y, lcS g c e vs (k x) ρ = some (some (kb y), ρ) ∧ G y) → acc.length + xs.length < 16777216 →
    ∃ ys, lcL g c e vs (xs.map k) ρ (acc.map kb) = some ((acc ++ ys).map kb, ρ) ∧ ys.length = xs.length ∧ ∀ y ∈ ys, G y
  | [], acc, _, _ => ⟨[], by simp, rfl, fun y hy => nomatch hy⟩
  | x :: xs, acc, h, hl => by
    rw [List.length_cons] at hl
    obtain ⟨y, e1, gy⟩ := h x List.mem_cons_self
    obtain ⟨ys, e2, h2, h3⟩ := lc_E kb G xs (acc ++ [y]) (fun z hz => h z (List.mem_cons_of_mem _ hz)) (by rw [List.length_append, List.length_singleton]; omega)
    refine ⟨y :: ys, ?_, by rw [List.length_cons, List.length_cons, h2], fun z hz => ?_⟩
    · rw [List.map_cons, lc_step e1 (by rw [List.length_map]; omega), Option.toList_some]
      rw [List.map_append] at e2
      simp only [List.map_cons, List.map_nil] at e2
      rw [e2, List.append_assoc]
      rfl
    · rcases List.mem_cons.mp hz with rfl | hz
      · exact gy
      · exact h3 z hz
theorem we_lcE {β : Type} {Q : PyData → Nv → Prop} (kb : β → PyData) (G : β → Prop) (hi : it ρ = some (xs.map k, ρ1)) (hu : unAt ρ1 vs = true)
    (hs : ∀ x ∈ xs, ∃ y, lcS g c e vs (k x) ρ1 = some (some (kb y), ρ1) ∧ G y) (hl : xs.length < 1000000)
    (q : ∀ ys : List β, ys.length = xs.length → (∀ y ∈ ys, G y) → Q (.list (ys.map kb)) ρ1) : We (xFz (nLc it g c e vs)) ρ Q := by
  obtain ⟨ys, e1, h1, h2⟩ := lc_E kb G xs [] hs (by rw [List.length_nil]; omega)
  exact ⟨_, _, fz_lc hi hu e1, q ys h1 h2⟩
theorem wn_cat {a b : XE} {Q : OD → Nv → Prop} (h : We a ρ fun d ρ1 => We b ρ1 fun d2 ρ2 => ∃ x y, d = .list x ∧ d2 = .list y ∧ x.length + y.length ≤ 16777216 ∧ Q (.ol (x ++ y)) ρ2) : Wn (nCat a b) ρ Q := by
  obtain ⟨d, ρ1, e1, d2, ρ2, e2, x, y, rfl, rfl, hl, q⟩ := h
  exact ⟨_, _, by rw [e_ncat, e1, Option.bind_some, e2, Option.bind_some]; exact if_pos (by rw [sizeL]; exact hl), q⟩
end
/-! ### two fors -/
section
variable {α β : Type} {it : XI} {g : XG} {c : XT} {it1 : XI} {g1 : XG} {c1 : XT} {e : XE} {vs vs1 : List Nat} {ρ ρ1 : Nv} {k : α → PyData} {k1 : β → PyData} {xs : List α}
theorem lc2_pure (ys : α → List β) (f : α → β → Option PyData) (M : Nat) : ∀ (xs : List α) (acc : List PyData), (∀ x ∈ xs, ∃ ρx, g (k x) ρ = some ρx ∧ c ρx = some (true, ρx) ∧ it1 ρx = some ((ys x).map k1, ρx) ∧ unAt ρx vs1 = true ∧
      (∀ y ∈ ys x, lcS g1 c1 e vs1 (k1 y) ρx = some (f x y, ρx)) ∧ wipeN ρx vs = some ρ ∧ (ys x).length ≤ M) → acc.length + M * xs.length < 16777216 →
    lc2L g c it1 g1 c1 e vs vs1 (xs.map k) ρ acc = some (acc ++ xs.flatMap fun x => (ys x).filterMap (f x), ρ)
  | [], acc, _, _ => by simp [lc2L]
  | x :: xs, acc, h, hl => by
    rw [List.length_cons, Nat.mul_add] at hl
    obtain ⟨ρx, h1, h2, h3, h4, h5, h6, h7⟩ := h x List.mem_cons_self
    have hlen : ((ys x).filterMap (f x)).length ≤ (ys x).length := List.length_filterMap_le _ _
    rw [List.map_cons]
    unfold lc2L
    rw [h1, Option.bind_some, h2, Option.bind_some, if_pos rfl, h3, Option.bind_some, if_pos h4, lc_pure (f x) (ys x) acc h5 (by omega), Option.bind_some, h6, Option.bind_some,
      lc2_pure ys f M xs _ (fun z hz => h z (List.mem_cons_of_mem _ hz)) (by rw [List.length_append]; omega)]
    rw [List.flatMap_cons, List.append_assoc]
theorem fz_lc2 {ds zs : List PyData} {ρ2 : Nv} (hi : it ρ = some (ds, ρ1)) (hu : unAt ρ1 vs = true) (h : lc2L g c it1 g1 c1 e vs vs1 ds ρ1 [] = some (zs, ρ2)) : xFz (nLc2 it g c it1 g1 c1 e vs vs1) ρ = some (.list zs, ρ2) := by
  rw [e_fz]
  unfold nLc2
  rw [hi, Option.bind_some, if_pos hu, h]; rfl
theorem fz_lc2S {ds zs : List PyData} {ρ2 ρ3 ρ4 : Nv} (hi : it ρ = some (ds, ρ1)) (hw : wipeN ρ1 vs = some ρ2) (hu : unAt ρ2 vs = true) (h : lc2L g c it1 g1 c1 e vs vs1 ds ρ2 [] = some (zs, ρ3)) (hr : restN ρ ρ3 vs = some ρ4) : xFz (nLc2S it g c it1 g1 c1 e vs vs1) ρ = some (.list zs, ρ4) := by
  unfold nLc2S nSv nLc2
  rw [e_fz]
  have hi2 : itS it vs ρ = some (ds, ρ2) := by unfold itS; rw [hi, Option.bind_some, hw]; rfl
  simp only [hi2, Option.bind_some, if_pos hu, h, Option.map_some, hr]
  rfl
end
/-- the slot holds nothing or a datum -/
def Ud (e : EV) : Prop := e = .un ∨ ∃ d, e = .d d
@[simp] theorem ud_un : Ud .un := .inl rfl
@[simp] theorem ud_d (d : PyData) : Ud (.d d) := .inr ⟨d, rfl⟩
theorem Ud.fs {e : EV} (h : Ud e) : Fs e := by rcases h with rfl | ⟨d, rfl⟩ <;> simp
section
variable {α : Type} {it : XI} {g : XG} {c : XT} {e : XE} {v : Nat} {ρ : Nv} {k : α → PyData} {xs : List α} {x0 : EV}
theorem set_same {e : EV} (h : ρ[v]? = some e) : ρ.set v e = ρ := by
  obtain ⟨h1, h2⟩ := List.getElem?_eq_some_iff.mp h
  rw [← h2]
  exact List.set_getElem_self h1
theorem wipe1 (hv : ρ[v]? = some x0) (hu : Ud x0) : wipeN ρ [v] = some (ρ.set v .un) := by
  have : free ρ v = true := by rw [e_free, hv]; rcases hu with rfl | ⟨d, rfl⟩ <;> rfl
  rw [e_wipe1, if_pos this, e_wipe0]
theorem unAt1 (hv : ρ[v]? = some x0) : unAt (ρ.set v .un) [v] = true := by
  obtain ⟨h1, h2⟩ := List.getElem?_eq_some_iff.mp hv
  unfold unAt
  simp only [List.all_cons, List.all_nil, Bool.and_true]
  rw [List.getElem?_set_self h1]
theorem rest1 (hv : ρ[v]? = some x0) (hu : Ud x0) {ρ1 : Nv} (h1 : ρ1[v]? = some .un) : restN ρ ρ1 [v] = some (ρ1.set v x0) := by
  unfold restN
  rw [hv]
  rcases hu with rfl | ⟨d, rfl⟩
  · show restN ρ ρ1 [] = _
    unfold restN
    rw [set_same h1]
  · have : free ρ1 v = true := by rw [e_free, h1]
    simp only [this, if_true]
    rfl
theorem fz_S {ds zs : List PyData} {ρ3 : Nv} (hi : it ρ = some (ds, ρ)) (hv : ρ[v]? = some x0) (hu : Ud x0) (h : lcL g c e [v] ds (ρ.set v .un) [] = some (zs, ρ3)) (h3 : ρ3[v]? = some .un) : xFz (nLcS it g c e [v]) ρ = some (.list zs, ρ3.set v x0) :=
  fz_lcS hi (wipe1 hv hu) (unAt1 hv) h (rest1 hv hu h3)
theorem fz_S0 {ds zs : List PyData} (hi : it ρ = some (ds, ρ)) (hv : ρ[v]? = some x0) (hu : Ud x0) (h : lcL g c e [v] ds (ρ.set v .un) [] = some (zs, ρ.set v .un)) : xFz (nLcS it g c e [v]) ρ = some (.list zs, ρ) := by
  have hlt : v < ρ.length := (List.getElem?_eq_some_iff.mp hv).1
  rw [fz_S hi hv hu h (by rw [List.getElem?_set_self hlt]), List.set_set, set_same hv]
theorem fz_mapS (f : α → PyData) (hi : it ρ = some (xs.map k, ρ)) (hv : ρ[v]? = some x0) (hu : Ud x0) (h : ∀ x ∈ xs, lcS g c e [v] (k x) (ρ.set v .un) = some (some (f x), ρ.set v .un)) (hl : xs.length < 1000000) : xFz (nLcS it g c e [v]) ρ = some (.list (xs.map f), ρ) :=
  fz_S0 hi hv hu (lc_map f xs [] h (by rw [List.length_nil]; omega))
theorem fz_noneS (hi : it ρ = some (xs.map k, ρ)) (hv : ρ[v]? = some x0) (hu : Ud x0) (h : ∀ x ∈ xs, lcS g c e [v] (k x) (ρ.set v .un) = some (none, ρ.set v .un)) : xFz (nLcS it g c e [v]) ρ = some (.list [], ρ) :=
  fz_S0 hi hv hu (lc_none xs [] h (by decide))
theorem fz_pureS (f : α → Option PyData) (hi : it ρ = some (xs.map k, ρ)) (hv : ρ[v]? = some x0) (hu : Ud x0) (h : ∀ x ∈ xs, lcS g c e [v] (k x) (ρ.set v .un) = some (f x, ρ.set v .un)) (hl : xs.length < 1000000) : xFz (nLcS it g c e [v]) ρ = some (.list (xs.filterMap f), ρ) :=
  fz_S0 hi hv hu (lc_pure f xs [] h (by rw [List.length_nil]; omega))
end
/-- if [..] != []: .. -/
theorem if_none {E : XE} {A : XS} {ρ ρ1 : Nv} (h : E ρ = some (.list [], ρ1)) : sIf (tst (x2 neD E (xLst aNil))) A sNil ρ = some (.nx ρ1) := by
  simp [h, sizeL, show neD (.list []) (.list []) = some (.bool false) from rfl]
theorem eq_none {E : XE} {ρ ρ1 : Nv} (h : E ρ = some (.list [], ρ1)) : x2 eqD E (xLst aNil) ρ = some (.bool true, ρ1) := by
  simp [h, sizeL, show eqD (.list []) (.list []) = some (.bool true) from rfl]
theorem rngN_map (n : Nat) (f : XE) (ρ : Nv) (hf : f ρ = some (.int n, ρ)) (h : n < 1000000) : iRng f ρ = some ((List.range n).map fun (j : Nat) => PyData.int j, ρ) := e_rngN hf h
theorem at_any {xs : List PyData} {i : Int} (h0 : -(xs.length : Int) ≤ i) (h1 : i < xs.length) : ∃ y, atI xs i = some y ∧ y ∈ xs := by
  by_cases h : 0 ≤ i
  · exact atI_mem h h1
  · refine ⟨xs[(i + xs.length).toNat]'(by omega), ?_, List.getElem_mem _⟩
    rw [at_neg h h0, List.getElem?_eq_getElem]
theorem at_map {α : Type} {k : α → PyData} {xs : List α} {i : Int} (h0 : -(xs.length : Int) ≤ i) (h1 : i < xs.length) : ∃ y, atI (xs.map k) i = some (k y) ∧ y ∈ xs := by
  obtain ⟨y, e, h⟩ := at_any (xs := xs.map k) (i := i) (by rw [List.length_map]; exact h0) (by rw [List.length_map]; exact h1)
  obtain ⟨z, hz, rfl⟩ := List.mem_map.mp h
  exact ⟨z, e, hz⟩
theorem nx_ex {β : Type} {g : XG} {b : XS} {d : PyData} {ρ : Nv} {J : Nv → Prop} (f : β → Nv) (h : ∃ y, stepF g b d ρ = some (.nx (f y))) (j : ∀ y, J (f y)) : ∃ ρ1, stepF g b d ρ = some (.nx ρ1) ∧ J ρ1 := by
  obtain ⟨y, e⟩ := h
  exact ⟨_, e, j y⟩
theorem we_app {i : Nat} {f : XE} {ρ : Nv} {zs : List PyData} {b : Bool} {Q : PyData → Nv → Prop} (h0 : ρ[i]? = some (.own (.ol zs) b))
    (h : We f ρ fun w ρ1 => ∃ vs io, ρ1[i]? = some (.own (.ol vs) io) ∧ vs.length < 16777216 ∧ Q .none (ρ1.set i (.own (.ol (vs ++ [w])) io))) : We (xApp i f) ρ Q := by
  obtain ⟨w, ρ1, e, vs, io, h1, hl, q⟩ := h
  exact ⟨_, _, app_of h0 e h1 hl, q⟩
theorem we_ext {i : Nat} {f : XE} {ρ : Nv} {zs : List PyData} {b : Bool} {Q : PyData → Nv → Prop} (h0 : ρ[i]? = some (.own (.ol zs) b))
    (h : We f ρ fun w ρ1 => ∃ ws vs io, w = .list ws ∧ ρ1[i]? = some (.own (.ol vs) io) ∧ vs.length + ws.length ≤ 16777216 ∧ Q .none (ρ1.set i (.own (.ol (vs ++ ws)) io))) : We (xExt i f) ρ Q := by
  obtain ⟨w, ρ1, e, ws, vs, io, rfl, h1, hl, q⟩ := h
  exact ⟨_, _, ext_of h0 e h1 hl, q⟩
theorem at_mapA {α : Type} {xs : List α} {i : Int} (h0 : -(xs.length : Int) ≤ i) (h1 : i < xs.length) : ∃ y ∈ xs, ∀ k : α → PyData, atI (xs.map k) i = some (k y) := by
  by_cases h : 0 ≤ i
  · refine ⟨xs[i.toNat]'(by omega), List.getElem_mem _, fun k => ?_⟩
    rw [at_nn h (by rw [List.length_map]; exact h1), List.getElem?_map, List.getElem?_eq_getElem (by omega)]
    rfl
  · refine ⟨xs[(i + xs.length).toNat]'(by omega), List.getElem_mem _, fun k => ?_⟩
    rw [at_neg h (by rw [List.length_map]; exact h0), List.getElem?_map, List.length_map, List.getElem?_eq_getElem (by omega)]
    rfl
@[simp] theorem e_parR2 (i j : Nat) (f g : XR) (ρ : Nv) : sParR i j f g ρ = (f ρ).bind fun p => (g p.2).bind fun q => (putR q.2 i p.1).bind fun ρ1 => (putR ρ1 j q.1).map .nx := rfl
/-! ### slices -/
theorem cut_to {xs : List PyData} {k : Nat} (h : k ≤ xs.length) : DL.cutD xs none (some (k : Int)) = xs.take k := by
  unfold DL.cutD
  rw [HT.sIx_nat, HT.sIx_none, Nat.min_eq_left h]
  simp
theorem cut_from {xs : List PyData} {k : Nat} (h : k ≤ xs.length) : DL.cutD xs (some (k : Int)) none = xs.drop k := by
  unfold DL.cutD
  rw [HT.sIx_nat, HT.sIx_none, Nat.min_eq_left h]
  simp [List.take_of_length_le]
/-! ### calls f(*e) -/
theorem slots_v : ∀ ds : List PyData, slotsOf (ds.map .v) = []
  | [] => rfl
  | d :: ds => by rw [List.map_cons, e_slots1, slots_v ds]
theorem ent_v (ρ : Nv) : ∀ ds : List PyData, entN (ds.map .v) ρ = some (ds.map .d)
  | [] => rfl
  | d :: ds => by rw [List.map_cons, e_ent1, ent_v ρ ds]; rfl
theorem back_v (ρ : Nv) : ∀ ds : List PyData, back (ds.map .v) (ds.map .d) ρ = some ρ
  | [] => rfl
  | d :: ds => by rw [List.map_cons, List.map_cons, e_back1, back_v ρ ds]
theorem call_v {m : XF} {r : XA} {ρ ρ1 : Nv} {ds : List PyData} {x : PyData} (hr : r ρ = some (ds.map .v, ρ1)) (hm : m (ds.map .d) = some (.d x, ds.map .d)) : xCall m r ρ = some (x, ρ1) := by
  rw [e_call, e_gcall, hr, Option.bind_some]
  simp only [slots_v, List.nodup_nil, if_true, ent_v, Option.bind_some, hm, back_v, Option.map_some]
theorem call_starT {m : XF} {f : XE} {ρ ρ1 : Nv} {ds : List PyData} {x : PyData} (hf : f ρ = some (.tuple ds, ρ1)) (hm : m (ds.map .d) = some (.d x, ds.map .d)) : xCall m (aStar f) ρ = some (x, ρ1) :=
  call_v (by rw [e_star1, hf]; rfl) hm
theorem call_starL {m : XF} {f : XE} {ρ ρ1 : Nv} {ds : List PyData} {x : PyData} (hf : f ρ = some (.list ds, ρ1)) (hm : m (ds.map .d) = some (.d x, ds.map .d)) : xCall m (aStar f) ρ = some (x, ρ1) :=
  call_v (by rw [e_star1, hf]; rfl) hm
theorem notIn_ints (i : Nat) (xs : List Nat) : notInD (.int i) (.tuple (xs.map fun (j : Nat) => PyData.int j)) = some (.bool (!decide (i ∈ xs))) := by
  have h : (xs.map fun (j : Nat) => PyData.int j).all flatD = true := by simp [List.all_map, flatD, Function.comp_def]
  have e : ((xs.map fun (j : Nat) => PyData.int j).any fun z => PyData.eqv z (.int i)) = decide (i ∈ xs) := by
    induction xs with
    | nil => rfl
    | cons x xs ih =>
      rw [List.map_cons, List.any_cons, ih (by simp [List.all_map, flatD, Function.comp_def])]
      have : PyData.eqv (.int x) (.int i) = decide (i = x) := by
        show ((x : Int) == (i : Int)) = _
        by_cases hx : i = x
        · simp [hx]
        · have : ¬ (x : Int) = (i : Int) := by omega
          simp [hx, this]
      rw [this]
      by_cases h1 : i = x <;> by_cases h2 : i ∈ xs <;> simp [h1, h2]
  unfold notInD inD
  simp only [h, fl_int, Bool.and_true, if_true, Option.bind_some, e]
theorem run_wp {n : Nat} {body : XS} {es es' : List EV} {d : PyData} (h : Wp body (es ++ List.replicate (n - es.length) .un) fun r => ∃ ρ, r = .rt d ρ ∧ finA es ρ = es') : runF n body es = some (.d d, es') := by
  obtain ⟨r, e, ρ, rfl, h⟩ := h
  rw [run_rt e, h]
end DL
set_option exponentiation.threshold 5000
set_option maxRecDepth 100000
set_option maxHeartbeats 4000000
namespace K18
open PySem PySem.Spec PyProof.Rows L2 DL
theorem p_l_feed : m_l_feed = K16.m_l_feed := rfl
theorem p_l_plan : m_l_plan = K16.m_l_plan := rfl
theorem p_l_many : m_l_many = K16.m_l_many := rfl

/-! ### the search -/
def trn : List (Str × Str) → Str → List Str → List Str → List Str × List Str
  | [], _, f, w => (f, w)
  | p :: ps, o, f, w => if p.1 = o ∧ p.2 ∉ f then trn ps o (f ++ [p.2]) (w ++ [p.2]) else trn ps o f w
def srch (ps : List (Str × Str)) : Nat → List Str → List Str → List Str
  | 0, f, _ => f
  | n + 1, f, w => match w.getLast? with
    | none => f
    | some o => srch ps n (trn ps o f w.dropLast).1 (trn ps o f w.dropLast).2
def cnt (ps : List (Str × Str)) (f : List Str) : Nat := (ps.filter fun p => decide (p.2 ∉ f)).length
theorem cnt_le (ps : List (Str × Str)) (f : List Str) : cnt ps f ≤ ps.length := List.length_filter_le ..
theorem cnt_mono (ps : List (Str × Str)) (f : List Str) (s : Str) : cnt ps (f ++ [s]) ≤ cnt ps f := by
  induction ps with
  | nil => exact Nat.le_refl _
  | cons p ps ih =>
    unfold cnt at ih ⊢
    rw [List.filter_cons, List.filter_cons]
    by_cases h : p.2 ∈ f
    · simp [h] at ih ⊢; exact ih
    · by_cases h2 : p.2 = s
      · have h3 : s ∉ f := h2 ▸ h
        simp [h2, h3] at ih ⊢; omega
      · simp [h, h2] at ih ⊢; exact ih
theorem cnt_lt {ps : List (Str × Str)} {f : List Str} {p : Str × Str} (hp : p ∈ ps) (hf : p.2 ∉ f) : cnt ps (f ++ [p.2]) + 1 ≤ cnt ps f := by
  induction ps with
  | nil => cases hp
  | cons q ps ih =>
    rcases List.mem_cons.mp hp with rfl | h
    · have := cnt_mono ps f p.2
      unfold cnt at this ⊢
      rw [List.filter_cons, List.filter_cons]
      simp [hf] at this ⊢
      omega
    · have := ih h
      unfold cnt at this ⊢
      rw [List.filter_cons, List.filter_cons]
      by_cases h1 : q.2 ∈ f
      · simp [h1] at this ⊢; exact this
      · by_cases h2 : q.2 = p.2
        · simp [h1, h2] at this ⊢
          rw [h2] at h1
          simp [h1]
          omega
        · simp [h1, h2] at this ⊢; omega
/-- what a turn keeps -/
structure Bd (ps : List (Str × Str)) (f w : List Str) : Prop where
  a : f.length + cnt ps f ≤ 40
  b : w.length + cnt ps f ≤ 40
  c : ∀ s ∈ f, PyData.strOk s = true
  d : ∀ s ∈ w, PyData.strOk s = true
  e : ∀ p ∈ ps, PyData.strOk p.2 = true
theorem Bd.add {ps : List (Str × Str)} {f w : List Str} (h : Bd ps f w) {p : Str × Str} (hp : p ∈ ps) (hf : p.2 ∉ f) : Bd ps (f ++ [p.2]) (w ++ [p.2]) := by
  have := cnt_lt hp hf
  have h1 := h.a
  have h2 := h.b
  have ad : ∀ {l : List Str}, (∀ s ∈ l, PyData.strOk s = true) → ∀ s ∈ l ++ [p.2], PyData.strOk s = true := fun {l} hl s hs => by
    rcases List.mem_append.mp hs with hs | hs
    · exact hl s hs
    · have : s = p.2 := by simpa using hs
      rw [this]; exact h.e p hp
  refine ⟨?_, ?_, ad h.c, ad h.d, h.e⟩ <;> simp <;> omega
theorem trn_bd {ps : List (Str × Str)} : ∀ (qs : List (Str × Str)) {o : Str} {f w : List Str}, (∀ q ∈ qs, q ∈ ps) → Bd ps f w → Bd ps (trn qs o f w).1 (trn qs o f w).2 ∧ (trn qs o f w).2.length + cnt ps (trn qs o f w).1 ≤ w.length + cnt ps f
  | [], _, f, w, _, h => ⟨h, Nat.le_refl _⟩
  | q :: qs, o, f, w, hq, h => by
    unfold trn
    split
    · rename_i hc
      obtain ⟨h1, h2⟩ := trn_bd qs (o := o) (fun x hx => hq x (List.mem_cons_of_mem _ hx)) (h.add (hq q List.mem_cons_self) hc.2)
      have := cnt_lt (hq q List.mem_cons_self) hc.2
      refine ⟨h1, ?_⟩
      simp at h2
      omega
    · exact trn_bd qs (fun x hx => hq x (List.mem_cons_of_mem _ hx)) h
def stL (l : List Str) : List PyData := l.map PyData.str
theorem stL_app (f : List Str) (s : Str) : stL (f ++ [s]) = stL f ++ [.str s] := by simp [stL]
theorem stL_drop (w : List Str) (o : Str) : (stL (w ++ [o])).dropLast = stL w := by simp [stL]
theorem stL_last (w : List Str) (o : Str) : (stL (w ++ [o]))[(stL (w ++ [o])).length - 1]? = some (.str o) := by simp [stL]
theorem lay_stL : ∀ {w : List Str}, (∀ s ∈ w, PyData.strOk s = true) → PyData.canLayAll0 (stL w) = true ∧ PyData.depthAll (stL w) ≤ 5
  | [], _ => ⟨rfl, Nat.zero_le _⟩
  | x :: w, h => by
    obtain ⟨h1, h2⟩ := lay_stL fun s hs => h s (List.mem_cons_of_mem _ hs)
    have h3 := h x List.mem_cons_self
    refine ⟨?_, ?_⟩
    · show PyData.canLayAll0 (.str x :: stL w) = true
      simp only [PyData.canLayAll0, PyData.canLay0, h1, h3, Bool.and_true]
    · show PyData.depthAll (.str x :: stL w) ≤ 5
      simp only [PyData.depthAll, PyData.depth]; omega
theorem shaped_stL {w : List Str} (h : ∀ s ∈ w, PyData.strOk s = true) : SeqAt.shaped (.list (stL w)) = true := by
  obtain ⟨h1, h2⟩ := lay_stL h
  have e : PyData.depth (.list (stL w)) = 1 + PyData.depthAll (stL w) := by simp [PyData.depth, Nat.add_comm]
  simp only [SeqAt.shaped, e, PyData.canLay0, h1, Bool.true_and, decide_eq_true_eq]
  omega
theorem ne_stL {w : List Str} (h : ∀ s ∈ w, PyData.strOk s = true) : neD (.list (stL w)) (.list []) = some (.bool (!w.isEmpty)) := by
  rw [neD_of (shaped_stL h) rfl]
  cases w <;> rfl
theorem notIn_stL {s : Str} {w : List Str} (h0 : PyData.strOk s = true) (h : ∀ s ∈ w, PyData.strOk s = true) : notInD (.str s) (.list (stL w)) = some (.bool (decide (s ∉ w))) := by
  have hs : SeqAt.shaped (.str s) = true := by simp [SeqAt.shaped, PyData.canLay0, PyData.depth, h0]
  have ha : ((stL w).any fun z => PyData.eqv z (.str s)) = decide (s ∈ w) := by
    rw [Bool.eq_iff_iff, List.any_eq_true, decide_eq_true_iff]
    constructor
    · rintro ⟨z, hz, e⟩
      obtain ⟨x, hx, rfl⟩ := List.mem_map.mp hz
      have : x = s := by simpa [PyData.eqv] using e
      rw [← this]; exact hx
    · intro h
      exact ⟨.str s, List.mem_map_of_mem h, by simp [PyData.eqv]⟩
  simp [notInD, inD, hs, shaped_stL h, ha]
def gF (f : List Str) : List (Key × PyData) := f.map fun s => (.inr s, .bool true)
theorem get_gF (f : List Str) (s : Str) : (getD' (gF f) (.inr s)).isSome = decide (s ∈ f) := by
  induction f with
  | nil => rfl
  | cons a f ih =>
    simp [getD', gF] at ih ⊢
    by_cases h : a = s
    · simp [h]
    · simp [h, Ne.symm h, ih]
theorem put_gF {f : List Str} {s : Str} (h : s ∉ f) : putD (gF f) (.inr s) (.bool true) = gF (f ++ [s]) := by
  unfold putD
  rw [if_neg]
  · simp [gF]
  · simp [gF]
    exact h
end K18
set_option exponentiation.threshold 5000
set_option maxRecDepth 100000
set_option maxHeartbeats 4000000
namespace K18
open PySem PySem.Spec PyProof.Rows L2 DL
def nbC : XT := tst (xEmp false 3)
def nbIf : XS := sIf (xAndT (tst (x2 eqD (xVar 5) (xVar 4))) (tst (xHas true 2 (xVar 6)))) (sSeq (sPut 2 (xVar 6) (xC (.bool true))) (sDrop (xApp 3 (xVar 6)))) (sNil)
def nbG : XG := gTp 2 (gsCons (gNm 5) (gsCons (gNm 6) (gsNil)))
def nbB : XS := sSeq (sSet 4 (xPop 3)) (sFor (iOf (xVar 0)) nbG nbIf)
theorem nb_eq : b_names_behind = sSeq (sParR 2 3 (rN (nDk)) (rN (nLst (aCons (xVar 1) (aNil))))) (sSeq (sWh (fun _ => 1000) nbC nbB) (sRet (xListK 2))) := rfl
def nbR (a0 a1 : PyData) (f w : List Str) (e4 e5 e6 : EV) : Nv := [.d a0, .d a1, .own (.od (gF f)) false, .own (.ol (stL w)) false, e4, e5, e6]
def nx1' (q : Str × Str) (o : Str) (f w : List Str) : List Str × List Str := if q.1 = o ∧ q.2 ∉ f then (f ++ [q.2], w ++ [q.2]) else (f, w)
theorem trn_cons (q : Str × Str) (qs : List (Str × Str)) (o : Str) (f w : List Str) : trn (q :: qs) o f w = trn qs o (nx1' q o f w).1 (nx1' q o f w).2 := by
  unfold nx1'
  conv => lhs; unfold trn
  split <;> rfl
theorem has_gF (f : List Str) (s : Str) : hasQ (.od (gF f)) (.str s) = some (decide (s ∈ f)) := by
  simp [hasQ, keyD, get_gF]
theorem nb_step {ps : List (Str × Str)} {q : Str × Str} {o : Str} {f w : List Str} {a0 a1 : PyData} {e5 e6 : EV} (h5 : Fs e5) (h6 : Fs e6) (bd : Bd ps f w) :
    stepF nbG nbIf (paD q) (nbR a0 a1 f w (.d (.str o)) e5 e6) = some (.nx (nbR a0 a1 (nx1' q o f w).1 (nx1' q o f w).2 (.d (.str o)) (.d (.str q.1)) (.d (.str q.2)))) := by
  have h1 : (gF f).length < 16777216 := by have := bd.a; simp [gF]; omega
  have h2 : (stL w).length < 16777216 := by have := bd.b; simp [stL]; omega
  unfold nx1'
  by_cases c1 : q.1 = o
  · by_cases c2 : q.2 ∈ f
    · simp [e_stepF, nbG, nbIf, nbR, paD, free_fs h5, free_fs h6, c1, c2, eqD, has_gF, xHas]
    · simp [e_stepF, nbG, nbIf, nbR, paD, free_fs h5, free_fs h6, c1, c2, eqD, has_gF, xHas, put_gF c2, keyD, h1, h2, sizeL, stL_app, xApp, ownQ]
  · simp [e_stepF, nbG, nbIf, nbR, paD, free_fs h5, free_fs h6, c1, eqD]
theorem nb_for {ps : List (Str × Str)} {o : Str} {a1 : PyData} : ∀ (qs : List (Str × Str)) {f w : List Str} {e5 e6 : EV} {a0 : PyData}, Fs e5 → Fs e6 → (∀ q ∈ qs, q ∈ ps) → Bd ps f w →
    ∃ b5 b6, Fs b5 ∧ Fs b6 ∧ forL nbG nbIf (qs.map paD) (nbR a0 a1 f w (.d (.str o)) e5 e6) = some (.nx (nbR a0 a1 (trn qs o f w).1 (trn qs o f w).2 (.d (.str o)) b5 b6))
  | [], f, w, e5, e6, a0, h5, h6, _, _ => ⟨e5, e6, h5, h6, rfl⟩
  | q :: qs, f, w, e5, e6, a0, h5, h6, hq, bd => by
    have b1 : Bd ps (nx1' q o f w).1 (nx1' q o f w).2 := by
      unfold nx1'
      split
      · rename_i c
        exact bd.add (hq q List.mem_cons_self) c.2
      · exact bd
    obtain ⟨b5, b6, k5, k6, e⟩ := nb_for qs (a0 := a0) (f := (nx1' q o f w).1) (w := (nx1' q o f w).2) (e5 := .d (.str q.1)) (e6 := .d (.str q.2)) (by simp) (by simp) (fun x hx => hq x (List.mem_cons_of_mem _ hx)) b1
    refine ⟨b5, b6, k5, k6, ?_⟩
    rw [trn_cons, ← e, List.map_cons, e_forC]
    have := nb_step (ps := ps) (q := q) (o := o) (a0 := a0) (a1 := a1) h5 h6 bd
    unfold DL.stepF at this
    cases hg : nbG (paD q) (nbR a0 a1 f w (.d (.str o)) e5 e6) with
    | none => rw [hg] at this; cases this
    | some ρ3 => rw [hg, Option.bind_some] at this; rw [Option.bind_some, this, Option.bind_some]
theorem nb_wh {ps : List (Str × Str)} {a1 : PyData} : ∀ (n : Nat) {f w : List Str} {e4 e5 e6 : EV}, Fs e4 → Fs e5 → Fs e6 → Bd ps f w → w.length + cnt ps f < n →
    ∃ b4 b5 b6, whL nbC nbB n (nbR (.tuple (ps.map paD)) a1 f w e4 e5 e6) = some (.nx (nbR (.tuple (ps.map paD)) a1 (srch ps n f w) [] b4 b5 b6))
  | 0, _, _, _, _, _, _, _, _, _, h => absurd h (Nat.not_lt_zero _)
  | n + 1, f, w, e4, e5, e6, h4, h5, h6, bd, h => by
    rcases List.eq_nil_or_concat w with rfl | ⟨w0, o, hw⟩
    · refine ⟨e4, e5, e6, ?_⟩
      have : nbC (nbR (.tuple (ps.map paD)) a1 f [] e4 e5 e6) = some (false, nbR (.tuple (ps.map paD)) a1 f [] e4 e5 e6) := by
        have := ne_stL (w := []) (by simp)
        simp [nbC, nbR, xEmp, this]
      simp [whL, this, srch]
    · have hw : w = w0 ++ [o] := by simpa using hw
      subst hw
      have bd0 : Bd ps f w0 := ⟨bd.a, by have := bd.b; simp at this; omega, bd.c, fun s hs => bd.d s (by simp [hs]), bd.e⟩
      obtain ⟨b1, b2⟩ := trn_bd ps (ps := ps) (o := o) (fun _ h => h) bd0
      obtain ⟨c5, c6, k5, k6, ef⟩ := nb_for ps (ps := ps) (o := o) (a0 := .tuple (ps.map paD)) (a1 := a1) h5 h6 (fun _ h => h) bd0
      obtain ⟨b4, b5, b6, e⟩ := nb_wh n (a1 := a1) (e4 := .d (.str o)) (by simp) k5 k6 b1 (by simp at h; omega)
      refine ⟨b4, b5, b6, ?_⟩
      have ec : nbC (nbR (.tuple (ps.map paD)) a1 f (w0 ++ [o]) e4 e5 e6) = some (true, nbR (.tuple (ps.map paD)) a1 f (w0 ++ [o]) e4 e5 e6) := by
        have := ne_stL bd.d
        simp [nbC, nbR, xEmp, this]
      have ep : sSet 4 (xPop 3) (nbR (.tuple (ps.map paD)) a1 f (w0 ++ [o]) e4 e5 e6) = some (.nx (nbR (.tuple (ps.map paD)) a1 f w0 (.d (.str o)) e5 e6)) := by
        have e1 := stL_last w0 o
        have e2 := stL_drop w0 o
        simp only [nbR]
        simp [xPop, e1, e2, free_fs h4]
      have eb : nbB (nbR (.tuple (ps.map paD)) a1 f (w0 ++ [o]) e4 e5 e6) = some (.nx (nbR (.tuple (ps.map paD)) a1 (trn ps o f w0).1 (trn ps o f w0).2 (.d (.str o)) c5 c6)) := by
        unfold nbB
        rw [sSeq, ep, Option.bind_some]
        show sFor (iOf (xVar 0)) nbG nbIf _ = _
        rw [e_for, show iOf (xVar 0) (nbR (.tuple (ps.map paD)) a1 f w0 (.d (.str o)) e5 e6) = some (ps.map paD, nbR (.tuple (ps.map paD)) a1 f w0 (.d (.str o)) e5 e6) by simp [nbR]]
        exact ef
      have es : srch ps (n + 1) f (w0 ++ [o]) = srch ps n (trn ps o f w0).1 (trn ps o f w0).2 := by
        simp [srch]
      rw [es, ← e]
      simp [whL, ec, eb]
theorem bd0 {ps : List (Str × Str)} (h : ps.length ≤ 36) {n : Str} (hn : PyData.strOk n = true) (he : ∀ p ∈ ps, PyData.strOk p.2 = true) : Bd ps [] [n] := by
  have := cnt_le ps []
  exact ⟨by simp; omega, by simp; omega, by simp, by simpa using hn, he⟩
abbrev S (ps : List (Str × Str)) (n : Str) : List Str := srch ps 1000 [] [n]
theorem t_names {ps : List (Str × Str)} (h : ps.length ≤ 36) {n : Str} (hn : PyData.strOk n = true) (he : ∀ p ∈ ps, PyData.strOk p.2 = true) : m_names_behind [.d (.tuple (ps.map paD)), .d (.str n)] = some (.d (.list (stL (S ps n))), [.d (.tuple (ps.map paD)), .d (.str n)]) := by
  have bd := bd0 h hn he
  obtain ⟨b4, b5, b6, e⟩ := nb_wh 1000 (ps := ps) (a1 := .str n) (f := []) (w := [n]) (e4 := .un) (e5 := .un) (e6 := .un) (by simp) (by simp) (by simp) bd (by have := bd.b; omega)
  refine run_wp ?_
  rw [nb_eq]
  refine wp_nx (ρ1 := nbR (.tuple (ps.map paD)) (.str n) [] [n] .un .un .un) (by simp [nbR, gF, stL, nDk, nLst, allV, putR, sizeL]) ?_
  refine wp_nx e ?_
  refine wp_ret (we_of (b := .list (stL (S ps n))) (ρ' := nbR (.tuple (ps.map paD)) (.str n) (S ps n) [] b4 b5 b6) ?_ ⟨_, rfl, rfl⟩)
  have : (gF (S ps n)).map (fun p => kD p.1) = stL (S ps n) := by simp [gF, stL, kD]
  simp [nbR, xListK, this]
end K18
set_option exponentiation.threshold 5000
set_option maxRecDepth 100000
set_option maxHeartbeats 4000000
namespace K18
open PySem PySem.Spec PyProof.Rows L2 DL
def upF (F : Str → List Str) (n : Str) (l : List Str) : Str → List Str := fun x => if x = n then l else F x
def kF (rs : List Ru) (F : Str → List Str) : List (Key × PyData) := rs.map fun r => (.inr r.1, .list (stL (F r.1)))
theorem get_kF (F : Str → List Str) {n : Str} : ∀ {rs : List Ru}, n ∈ rs.map (·.1) → getD' (kF rs F) (.inr n) = some (.list (stL (F n)))
  | [], h => by cases h
  | r :: rs, h => by
    by_cases hr : r.1 = n
    · simp [getD', kF, hr]
    · have ih := get_kF F (n := n) (rs := rs) (by
        rcases List.mem_cons.mp h with h | h
        · exact absurd h.symm hr
        · exact h)
      simp [getD', kF, hr] at ih ⊢
      exact ih
theorem put_kF (F : Str → List Str) {n : Str} (l : List Str) {rs : List Ru} (h : n ∈ rs.map (·.1)) : putD (kF rs F) (.inr n) (.list (stL l)) = kF rs (upF F n l) := by
  have ha : ((kF rs F).any fun kv => decide (kv.1 = Sum.inr n)) = true := by
    obtain ⟨r, hr, e⟩ := List.mem_map.mp h
    rw [List.any_eq_true]
    exact ⟨_, List.mem_map_of_mem hr, by simp [e]⟩
  unfold putD
  rw [if_pos ha]
  unfold kF upF
  rw [List.map_map]
  refine List.map_congr_left fun r _ => ?_
  by_cases e : r.1 = n <;> simp [e]
theorem upF_self (F : Str → List Str) (n : Str) (l : List Str) : upF F n l n = l := by simp [upF]
theorem upF_up (F : Str → List Str) (n : Str) (l m : List Str) : upF (upF F n l) n m = upF F n m := by
  funext x
  simp only [upF]
  split <;> rfl
def kN (rs : List Ru) (F : Str → List Str) (n : Str) (f : List Str) : List (Key × PyData) := kF rs (upF F n f)
theorem get_kN (F : Str → List Str) {n : Str} (f : List Str) {rs : List Ru} (h : n ∈ rs.map (·.1)) : getD' (kN rs F n f) (.inr n) = some (.list (stL f)) := by
  unfold kN
  rw [get_kF _ h, upF_self]
theorem put_kN (F : Str → List Str) {n : Str} (f l : List Str) {rs : List Ru} (h : n ∈ rs.map (·.1)) : putD (kN rs F n f) (.inr n) (.list (stL l)) = kN rs F n l := by
  unfold kN
  rw [put_kF _ l h, upF_up]
def lbC : XT := lftE 1 (tst (xEmp false 3))
def lbIf : XS := sIf (xAndT (lftE 1 (tst (x2 eqD (xVar 5) (xVar 4)))) (nNotIn 1 (xVar 6) (xVar 2))) (sSeq (nApp 1 (xVar 2) (xVar 6)) (sLft 1 (sDrop (xApp 3 (xVar 6))))) (sNil)
def lbG : XG := lftG 1 (gTp 2 (gsCons (gNm 5) (gsCons (gNm 6) (gsNil))))
def lbI : XI := lftE 1 (iOf (x2 idxD (xVar 0) (xC (.int 1))))
def lbB : XS := sSeq (sLft 1 (sSet 4 (xPop 3))) (sFor lbI lbG lbIf)
def lbN : XS := sSeq (sLft 1 (sNew 3 (nLst (aCons (xVar 2) (aNil))))) (sWh (fun _ => 1000) lbC lbB)
def lbP : XNN := nPairs (iOf (x2 idxD (xVar 0) (xC (.int 0)))) (gTp 3 (gsCons (gNm 2) (gsCons (gNm 7) (gsCons (gNm 8) (gsNil))))) (xVar 2) [2, 7, 8]
theorem lb_eq : b_l_behind = sEnd (sSeq (sNest 1 lbP) (sSeq (sForK 1 (gNm 2) lbN) (nRet 1))) := rfl
def lbR (a0 : PyData) (k : List (Key × PyData)) (n : Str) (w : List Str) (e4 e5 e6 : EV) : Nv := [.d a0, .own (.od k) false, .d (.str n), .own (.ol (stL w)) false, e4, e5, e6, .un, .un]
theorem lb_step {ps : List (Str × Str)} {rs : List Ru} {F : Str → List Str} {n : Str} {q : Str × Str} {o : Str} {f w : List Str} {a0 : PyData} {e5 e6 : EV} (hn : n ∈ rs.map (·.1)) (h5 : Fs e5) (h6 : Fs e6) (hq : q ∈ ps) (bd : Bd ps f w) :
    DL.stepF lbG lbIf (paD q) (lbR a0 (kN rs F n f) n w (.d (.str o)) e5 e6) = some (.nx (lbR a0 (kN rs F n (nx1' q o f w).1) n (nx1' q o f w).2 (.d (.str o)) (.d (.str q.1)) (.d (.str q.2)))) := by
  have h1 : (stL f).length < 16777216 := by have := bd.a; simp [stL]; omega
  have h2 : (stL w).length < 16777216 := by have := bd.b; simp [stL]; omega
  have g1 := get_kN F f hn
  have g2 := notIn_stL (bd.e q hq) bd.c
  have g3 := put_kN F f (f ++ [q.2]) hn
  rw [stL_app] at g3
  generalize hk : kN rs F n f = k0 at *
  unfold nx1'
  by_cases c1 : q.1 = o
  · by_cases c2 : q.2 ∈ f
    · simp [c2] at g2
      simp [e_stepF, lbG, lbIf, lbR, paD, free_fs h5, free_fs h6, c1, c2, eqD, lftE, lftG, nNotIn, keyD, g1, g2, hk]
    · simp [c2] at g2
      simp [e_stepF, lbG, lbIf, lbR, paD, free_fs h5, free_fs h6, c1, c2, eqD, lftE, lftG, nNotIn, keyD, g1, g2, nApp, sLft, nx1, h1, h2, g3, sizeL, stL_app, xApp]
  · simp [e_stepF, lbG, lbIf, lbR, paD, free_fs h5, free_fs h6, c1, eqD, lftE, lftG, hk]
theorem lb_for {ps : List (Str × Str)} {rs : List Ru} {F : Str → List Str} {n : Str} {o : Str} (hn : n ∈ rs.map (·.1)) : ∀ (qs : List (Str × Str)) {f w : List Str} {e5 e6 : EV} {a0 : PyData}, Fs e5 → Fs e6 → (∀ q ∈ qs, q ∈ ps) → Bd ps f w →
    ∃ b5 b6, Fs b5 ∧ Fs b6 ∧ forL lbG lbIf (qs.map paD) (lbR a0 (kN rs F n f) n w (.d (.str o)) e5 e6) = some (.nx (lbR a0 (kN rs F n (trn qs o f w).1) n (trn qs o f w).2 (.d (.str o)) b5 b6))
  | [], f, w, e5, e6, a0, h5, h6, _, _ => ⟨e5, e6, h5, h6, rfl⟩
  | q :: qs, f, w, e5, e6, a0, h5, h6, hq, bd => by
    have b1 : Bd ps (nx1' q o f w).1 (nx1' q o f w).2 := by
      unfold nx1'
      split
      · rename_i c
        exact bd.add (hq q List.mem_cons_self) c.2
      · exact bd
    obtain ⟨b5, b6, k5, k6, e⟩ := lb_for hn qs (a0 := a0) (f := (nx1' q o f w).1) (w := (nx1' q o f w).2) (e5 := .d (.str q.1)) (e6 := .d (.str q.2)) (by simp) (by simp) (fun x hx => hq x (List.mem_cons_of_mem _ hx)) b1
    refine ⟨b5, b6, k5, k6, ?_⟩
    rw [trn_cons, ← e, List.map_cons, e_forC]
    have := lb_step (ps := ps) (F := F) (q := q) (o := o) (a0 := a0) hn h5 h6 (hq q List.mem_cons_self) bd
    unfold DL.stepF at this
    cases hg : lbG (paD q) (lbR a0 (kN rs F n f) n w (.d (.str o)) e5 e6) with
    | none => rw [hg] at this; cases this
    | some ρ3 => rw [hg, Option.bind_some] at this; rw [Option.bind_some, this, Option.bind_some]
theorem lb_it (rs : List Ru) (ps : List (Str × Str)) (k : List (Key × PyData)) (n : Str) (w : List Str) (e4 e5 e6 : EV) : lbI (lbR (plD rs ps) k n w e4 e5 e6) = some (ps.map paD, lbR (plD rs ps) k n w e4 e5 e6) := by
  simp [lbI, lbR, lftE, plD]
theorem lb_wh {ps : List (Str × Str)} {rs : List Ru} {F : Str → List Str} {n : Str} (hn : n ∈ rs.map (·.1)) : ∀ (m : Nat) {f w : List Str} {e4 e5 e6 : EV}, Fs e4 → Fs e5 → Fs e6 → Bd ps f w → w.length + cnt ps f < m →
    ∃ b4 b5 b6, Fs b4 ∧ Fs b5 ∧ Fs b6 ∧ whL lbC lbB m (lbR (plD rs ps) (kN rs F n f) n w e4 e5 e6) = some (.nx (lbR (plD rs ps) (kN rs F n (srch ps m f w)) n [] b4 b5 b6))
  | 0, _, _, _, _, _, _, _, _, _, h => absurd h (Nat.not_lt_zero _)
  | m + 1, f, w, e4, e5, e6, h4, h5, h6, bd, h => by
    rcases List.eq_nil_or_concat w with rfl | ⟨w0, o, hw⟩
    · refine ⟨e4, e5, e6, h4, h5, h6, ?_⟩
      have : lbC (lbR (plD rs ps) (kN rs F n f) n [] e4 e5 e6) = some (false, lbR (plD rs ps) (kN rs F n f) n [] e4 e5 e6) := by
        have := ne_stL (w := []) (by simp)
        simp [lbC, lbR, xEmp, lftE, this]
      simp [whL, this, srch]
    · have hw : w = w0 ++ [o] := by simpa using hw
      subst hw
      have bd0 : Bd ps f w0 := ⟨bd.a, by have := bd.b; simp at this; omega, bd.c, fun s hs => bd.d s (by simp [hs]), bd.e⟩
      obtain ⟨b1, b2⟩ := trn_bd ps (ps := ps) (o := o) (fun _ h => h) bd0
      obtain ⟨c5, c6, k5, k6, ef⟩ := lb_for hn ps (ps := ps) (F := F) (o := o) (a0 := plD rs ps) h5 h6 (fun _ h => h) bd0
      obtain ⟨b4, b5, b6, q4, q5, q6, e⟩ := lb_wh hn m (F := F) (e4 := .d (.str o)) (by simp) k5 k6 b1 (by simp at h; omega)
      refine ⟨b4, b5, b6, q4, q5, q6, ?_⟩
      have ec : lbC (lbR (plD rs ps) (kN rs F n f) n (w0 ++ [o]) e4 e5 e6) = some (true, lbR (plD rs ps) (kN rs F n f) n (w0 ++ [o]) e4 e5 e6) := by
        have := ne_stL bd.d
        simp [lbC, lbR, xEmp, lftE, this]
      have ep : sLft 1 (sSet 4 (xPop 3)) (lbR (plD rs ps) (kN rs F n f) n (w0 ++ [o]) e4 e5 e6) = some (.nx (lbR (plD rs ps) (kN rs F n f) n w0 (.d (.str o)) e5 e6)) := by
        have e1 := stL_last w0 o
        have e2 := stL_drop w0 o
        simp only [lbR]
        simp [sLft, nx1, lftE, xPop, e1, e2, free_fs h4]
      have eb : lbB (lbR (plD rs ps) (kN rs F n f) n (w0 ++ [o]) e4 e5 e6) = some (.nx (lbR (plD rs ps) (kN rs F n (trn ps o f w0).1) n (trn ps o f w0).2 (.d (.str o)) c5 c6)) := by
        unfold lbB
        rw [sSeq, ep, Option.bind_some]
        show sFor lbI lbG lbIf _ = _
        rw [e_for, lb_it]
        exact ef
      have es : srch ps (m + 1) f (w0 ++ [o]) = srch ps m (trn ps o f w0).1 (trn ps o f w0).2 := by
        simp [srch]
      rw [es, ← e]
      simp [whL, ec, eb]
end K18
set_option exponentiation.threshold 5000
set_option maxRecDepth 100000
set_option maxHeartbeats 4000000
namespace K18
open PySem PySem.Spec PyProof.Rows L2 DL
theorem kN_nil {rs : List Ru} {F : Str → List Str} {n : Str} (h : F n = []) : kF rs F = kN rs F n [] := by
  unfold kN
  congr 1
  funext x
  simp only [upF]
  split
  · rename_i e; rw [e, h]
  · rfl
theorem lb_round {ps : List (Str × Str)} {rs : List Ru} {F : Str → List Str} {n : Str} {e2 e3 e4 e5 e6 : EV} (hp : ps.length ≤ 36) (hn : n ∈ rs.map (·.1)) (hs : PyData.strOk n = true) (he : ∀ p ∈ ps, PyData.strOk p.2 = true) (hF : F n = []) (h2 : Fs e2) (h3 : Fs e3) (h4 : Fs e4) (h5 : Fs e5) (h6 : Fs e6) :
    ∃ b4 b5 b6, Fs b4 ∧ Fs b5 ∧ Fs b6 ∧ DL.stepF (lftG 1 (gNm 2)) lbN (.str n) [.d (plD rs ps), .own (.od (kF rs F)) false, e2, e3, e4, e5, e6, .un, .un] = some (.nx [.d (plD rs ps), .own (.od (kF rs (upF F n (S ps n)))) false, .d (.str n), .own (.ol []) false, b4, b5, b6, .un, .un]) := by
  have bd := bd0 hp hs he
  obtain ⟨b4, b5, b6, q4, q5, q6, e⟩ := lb_wh (ps := ps) (rs := rs) (F := F) hn 1000 (f := []) (w := [n]) h4 h5 h6 bd (by have := bd.b; omega)
  refine ⟨b4, b5, b6, q4, q5, q6, ?_⟩
  rw [kN_nil hF]
  have e1 : (lftG 1 (gNm 2)) (.str n) [.d (plD rs ps), .own (.od (kN rs F n [])) false, e2, e3, e4, e5, e6, .un, .un] = some [.d (plD rs ps), .own (.od (kN rs F n [])) false, .d (.str n), e3, e4, e5, e6, .un, .un] := by
    simp [lftG, free_fs h2]
  have e0 : sLft 1 (sNew 3 (nLst (aCons (xVar 2) (aNil)))) [.d (plD rs ps), .own (.od (kN rs F n [])) false, .d (.str n), e3, e4, e5, e6, .un, .un] = some (.nx (lbR (plD rs ps) (kN rs F n []) n [n] e4 e5 e6)) := by
    simp [sLft, nx1, lftE, nLst, allV, sizeL, free_fs h3, lbR, stL]
  rw [e_stepF, e1, Option.bind_some]
  unfold lbN
  rw [sSeq, e0, Option.bind_some]
  show whL lbC lbB 1000 _ = _
  rw [e]
  rfl
theorem lb_names {ps : List (Str × Str)} {rs : List Ru} (hp : ps.length ≤ 36) (he : ∀ p ∈ ps, PyData.strOk p.2 = true) : ∀ (xs : List Str) {F : Str → List Str} {e2 e3 e4 e5 e6 : EV}, xs.Nodup → (∀ n ∈ xs, n ∈ rs.map (·.1) ∧ PyData.strOk n = true ∧ F n = []) → Fs e2 → Fs e3 → Fs e4 → Fs e5 → Fs e6 →
    ∃ b2 b3 b4 b5 b6, forL (lftG 1 (gNm 2)) lbN (xs.map PyData.str) [.d (plD rs ps), .own (.od (kF rs F)) false, e2, e3, e4, e5, e6, .un, .un] = some (.nx [.d (plD rs ps), .own (.od (kF rs fun x => if x ∈ xs then S ps x else F x)) false, b2, b3, b4, b5, b6, .un, .un])
  | [], F, e2, e3, e4, e5, e6, _, _, _, _, _, _, _ => ⟨e2, e3, e4, e5, e6, by simp [forL]⟩
  | n :: xs, F, e2, e3, e4, e5, e6, nd, hx, h2, h3, h4, h5, h6 => by
    obtain ⟨n1, n2, n3⟩ := hx n List.mem_cons_self
    rw [List.nodup_cons] at nd
    obtain ⟨b4, b5, b6, q4, q5, q6, e⟩ := lb_round (e2 := e2) (e3 := e3) hp n1 n2 he n3 h2 h3 h4 h5 h6
    obtain ⟨c2, c3, c4, c5, c6, e'⟩ := lb_names hp he xs (rs := rs) (F := upF F n (S ps n)) (e2 := .d (.str n)) (e3 := .own (.ol []) false) nd.2 (fun m hm => by
      obtain ⟨m1, m2, m3⟩ := hx m (List.mem_cons_of_mem _ hm)
      refine ⟨m1, m2, ?_⟩
      have : m ≠ n := by rintro rfl; exact nd.1 hm
      simp [upF, this, m3]) (by simp) (by simp) q4 q5 q6
    refine ⟨c2, c3, c4, c5, c6, ?_⟩
    have ef : (fun x => if x ∈ xs then S ps x else upF F n (S ps n) x) = fun x => if x ∈ n :: xs then S ps x else F x := by
      funext x
      simp only [upF, List.mem_cons]
      by_cases c1 : x = n
      · subst c1; simp
      · simp [c1]
    rw [ef] at e'
    rw [← e', List.map_cons, e_forC]
    unfold DL.stepF at e
    cases hg : lftG 1 (gNm 2) (.str n) [.d (plD rs ps), .own (.od (kF rs F)) false, e2, e3, e4, e5, e6, .un, .un] with
    | none => rw [hg] at e; cases e
    | some ρ3 => rw [hg, Option.bind_some] at e; rw [Option.bind_some, e, Option.bind_some]
def un8 (d : PyData) : Nv := [.d d, .un, .un, .un, .un, .un, .un, .un, .un]
theorem get_none {acc : List (Key × PyData)} {k : Key} (h : k ∉ acc.map (·.1)) : getD' acc k = none := by
  unfold getD'
  rw [Option.map_eq_none_iff, List.find?_eq_none]
  intro p hp
  simp
  rintro rfl
  exact h (List.mem_map_of_mem hp)
theorem lb_pairs {a : PyData} : ∀ (xs : List Ru) {acc : List (Key × PyData)}, (acc.map (·.1) ++ xs.map fun r => (Sum.inr r.1 : Key)).Nodup → acc.length + xs.length ≤ 1000 →
    dcL (gTp 3 (gsCons (gNm 2) (gsCons (gNm 7) (gsCons (gNm 8) (gsNil))))) (xVar 2) [2, 7, 8] (xs.map ruD) (un8 a) acc = some (acc ++ xs.map fun r => ((Sum.inr r.1 : Key), PyData.list []), un8 a)
  | [], acc, _, _ => by simp [dcL]
  | r :: xs, acc, nd, hl => by
    have hk : (Sum.inr r.1 : Key) ∉ acc.map (·.1) := by
      rw [List.nodup_append] at nd
      intro h
      exact nd.2.2 _ h _ (by simp) rfl
    have hg := get_none hk
    have ih := lb_pairs xs (a := a) (acc := acc ++ [(.inr r.1, .list [])]) (by simpa using nd) (by simp at hl ⊢; omega)
    have hl2 : acc.length < 16777216 := by simp at hl; omega
    rw [List.map_cons, dcL]
    simp only [un8] at ih ⊢
    simp [ruD, keyD, hg, hl2, sizeL, wipeN]
    rw [ih]
    simp
theorem t_behind {ps : List (Str × Str)} {rs : List Ru} (hp : ps.length ≤ 36) (hl : rs.length ≤ 6) (nd : (rs.map (·.1)).Nodup) (hn : ∀ r ∈ rs, PyData.strOk r.1 = true) (he : ∀ p ∈ ps, PyData.strOk p.2 = true) :
    m_l_behind [.d (plD rs ps)] = some (.n (.od (kF rs (S ps))), [.d (plD rs ps)]) := by
  have e1 : lbP (un8 (plD rs ps)) = some (kF rs (fun _ => []), un8 (plD rs ps)) := by
    have := lb_pairs rs (a := plD rs ps) (acc := []) (by
      have : (rs.map fun r => (Sum.inr r.1 : Key)) = (rs.map (·.1)).map Sum.inr := by simp
      simp only [List.map_nil, List.nil_append]
      rw [this]
      exact List.Pairwise.map _ (fun a b h => by simpa using h) nd) (by simp; omega)
    unfold lbP nPairs
    have hi : iOf (x2 idxD (xVar 0) (xC (.int 0))) (un8 (plD rs ps)) = some (rs.map ruD, un8 (plD rs ps)) := by simp [un8, plD]
    rw [hi, Option.bind_some, if_pos (by rfl)]
    show dcL _ _ _ (rs.map ruD) (un8 (plD rs ps)) [] = _
    rw [this]
    rfl
  obtain ⟨b2, b3, b4, b5, b6, e2⟩ := lb_names hp he (rs.map (·.1)) (rs := rs) (F := fun _ => []) (e2 := .un) (e3 := .un) (e4 := .un) (e5 := .un) (e6 := .un) nd (fun n h => by
    obtain ⟨r, hr, rfl⟩ := List.mem_map.mp h
    exact ⟨h, hn r hr, rfl⟩) (by simp) (by simp) (by simp) (by simp) (by simp)
  have ek : (kF rs fun x => if x ∈ rs.map (·.1) then S ps x else []) = kF rs (S ps) := by
    unfold kF
    refine List.map_congr_left fun r hr => ?_
    show (Sum.inr r.1, PyData.list (stL (if r.1 ∈ rs.map (·.1) then S ps r.1 else []))) = _
    rw [if_pos (List.mem_map_of_mem hr)]
  rw [ek] at e2
  have e3 : sNest 1 lbP (un8 (plD rs ps)) = some (.nx [.d (plD rs ps), .own (.od (kF rs fun _ => [])) false, .un, .un, .un, .un, .un, .un, .un]) := by
    unfold sNest
    rw [e1, Option.bind_some]
    simp [un8]
  have e4 : sForK 1 (gNm 2) lbN [.d (plD rs ps), .own (.od (kF rs fun _ => [])) false, .un, .un, .un, .un, .un, .un, .un] = some (.nx [.d (plD rs ps), .own (.od (kF rs (S ps))) false, b2, b3, b4, b5, b6, .un, .un]) := by
    have : (kF rs fun _ => []).map (fun p => kD p.1) = (rs.map (·.1)).map PyData.str := by simp [kF, kD]
    have e5 : sForK 1 (gNm 2) lbN [.d (plD rs ps), .own (.od (kF rs fun _ => [])) false, .un, .un, .un, .un, .un, .un, .un] = (match forL (lftG 1 (gNm 2)) lbN ((kF rs fun _ => []).map fun p => kD p.1) [.d (plD rs ps), .own (.od (kF rs fun _ => [])) false, .un, .un, .un, .un, .un, .un, .un] with
      | some (.nx ρ') => some (.nx ρ')
      | _ => none) := rfl
    rw [e5, this, e2]
  have e6 : b_l_behind (un8 (plD rs ps)) = some (.rn (.od (kF rs (S ps))) [.d (plD rs ps), .un, b2, b3, b4, b5, b6, .un, .un]) := by
    rw [lb_eq]
    unfold sEnd
    rw [sSeq, e3, Option.bind_some]
    show (match sSeq (sForK 1 (gNm 2) lbN) (nRet 1) _ with | some (.rn o ρ') => some (Fl.rn o ρ') | some (.rt o ρ') => some (.rt o ρ') | _ => none) = _
    rw [sSeq, e4, Option.bind_some]
    rfl
  show (match b_l_behind (un8 (plD rs ps)) with | some (.rt d ρ) => _ | some (.rn o ρ) => _ | some (.nx ρ) => _ | _ => none) = _
  rw [e6]
  rfl
end K18
set_option exponentiation.threshold 5000
set_option maxRecDepth 100000
set_option maxHeartbeats 4000000
namespace K18
open PySem PySem.Spec PyProof.Rows L2 DL
/-- what a plan's facts are here -/
structure Pf (rs : List Ru) (ps : List (Str × Str)) : Prop where
  hp : ps.length ≤ 36
  hl : rs.length ≤ 6
  nd : (rs.map (·.1)).Nodup
  hn : ∀ r ∈ rs, PyData.strOk r.1 = true
  he : ∀ p ∈ ps, PyData.strOk p.2 = true
theorem so_nm {s : Str} (h : K16.nmOk s = true) : PyData.strOk s = true := by
  unfold K16.nmOk at h
  rw [Bool.and_eq_true] at h
  have := SeqAt.canLay_of_shaped (shaped_ok h.1 (by simp [PyData.depth]))
  simpa [PyData.canLay0] using this
theorem pf_of {b : Nat} {rs : List Ru} {ps : List (Str × Str)} (h : PlanOk b K16.NM rs ps) : Pf rs ps := by
  obtain ⟨n1, n2⟩ := K16.plan_names h
  have l1 : (rs.map (·.1)).length ≤ 6 := by
    have := h.pre.length_le
    simpa [K16.NM] using this
  refine ⟨h.len, by simpa using l1, ?_, fun r hr => so_nm (n1 r hr), fun p hp => so_nm (n2 p hp).2⟩
  exact h.pre.sublist.nodup (by decide +kernel)
theorem x1_of {h : PyData → Option PyData} {a : XE} {ρ ρ1 : Nv} {d z : PyData} (e : a ρ = some (d, ρ1)) (hz : h d = some z) : x1 h a ρ = some (z, ρ1) := by
  show ((a ρ).bind fun p => (h p.1).map fun z => (z, p.2)) = _
  rw [e, Option.bind_some, hz]; rfl
/-! ### follows_of -/
def LL (rs : List Ru) (ps : List (Str × Str)) : List (Str × Str) := rs.flatMap fun r => (S ps r.1).map fun s => (r.1, s)
theorem srch_len {ps : List (Str × Str)} : ∀ (n : Nat) {f w : List Str}, Bd ps f w → (srch ps n f w).length ≤ 40
  | 0, f, w, h => by have := h.a; simp [srch]; omega
  | n + 1, f, w, h => by
    rcases List.eq_nil_or_concat w with rfl | ⟨w0, o, hw⟩
    · have := h.a; simp [srch]; omega
    · have hw : w = w0 ++ [o] := by simpa using hw
      subst hw
      have bd0 : Bd ps f w0 := ⟨h.a, by have := h.b; simp at this; omega, h.c, fun s hs => h.d s (by simp [hs]), h.e⟩
      have := srch_len n (trn_bd ps (ps := ps) (o := o) (fun _ h => h) bd0).1
      simpa [srch] using this
theorem trn_mem {ps : List (Str × Str)} : ∀ {qs : List (Str × Str)} {o : Str} {f w : List Str}, (∀ q ∈ qs, q ∈ ps) → (∀ s ∈ f, ∃ p ∈ ps, p.2 = s) → ∀ s ∈ (trn qs o f w).1, ∃ p ∈ ps, p.2 = s
  | [], o, f, w, _, h => h
  | q :: qs, o, f, w, hq, h => by
    unfold trn
    split
    · refine trn_mem (fun x hx => hq x (List.mem_cons_of_mem _ hx)) fun s hs => ?_
      rcases List.mem_append.mp hs with hs | hs
      · exact h s hs
      · have : s = q.2 := by simpa using hs
        exact ⟨q, hq q List.mem_cons_self, this.symm⟩
    · exact trn_mem (fun x hx => hq x (List.mem_cons_of_mem _ hx)) h
theorem srch_mem {ps : List (Str × Str)} : ∀ (n : Nat) {f w : List Str}, (∀ s ∈ f, ∃ p ∈ ps, p.2 = s) → ∀ s ∈ srch ps n f w, ∃ p ∈ ps, p.2 = s
  | 0, f, w, h => h
  | n + 1, f, w, h => by
    unfold srch
    split
    · exact h
    · exact srch_mem n (trn_mem (fun _ h => h) h)
theorem S_len {rs : List Ru} {ps : List (Str × Str)} (P : Pf rs ps) {r : Ru} (hr : r ∈ rs) : (S ps r.1).length ≤ 40 := srch_len 1000 (bd0 P.hp (P.hn r hr) P.he)
theorem LL_len {rs : List Ru} {ps : List (Str × Str)} (P : Pf rs ps) : (LL rs ps).length ≤ 240 := by
  have : ∀ xs : List Ru, (∀ r ∈ xs, r ∈ rs) → (LL xs ps).length ≤ 40 * xs.length := by
    intro xs
    induction xs with
    | nil => intro _; simp [LL]
    | cons r xs ih =>
      intro h
      have h1 := ih fun x hx => h x (List.mem_cons_of_mem _ hx)
      have h2 := S_len P (h r List.mem_cons_self)
      simp [LL] at h1 ⊢
      omega
  have := this rs fun _ h => h
  have := P.hl
  omega
theorem sorted_L (L : List (Str × Str)) (h : L.length ≤ 240) : sortedX (.list (L.map paD)) = some (.list (sortD (L.map paD))) := by
  have h1 : allAlikeB (L.map paD) = true := by
    unfold allAlikeB
    rw [List.all_eq_true]
    intro x hx
    rw [List.all_eq_true]
    intro y hy
    obtain ⟨p, _, rfl⟩ := List.mem_map.mp hx
    obtain ⟨q, _, rfl⟩ := List.mem_map.mp hy
    rfl
  have h2 : sortableB (L.map paD) = true := by
    unfold sortableB
    rw [Bool.or_eq_true]
    left
    rw [List.all_eq_true]
    intro x hx
    obtain ⟨p, _, rfl⟩ := List.mem_map.mp hx
    rfl
  have h3 : ∀ M : List (Str × Str), PyData.hasDictAll (M.map paD) = false ∧ PyData.depthAll (M.map paD) ≤ 5 := by
    intro M
    induction M with
    | nil => exact ⟨rfl, Nat.zero_le _⟩
    | cons p M ih =>
      refine ⟨?_, ?_⟩
      · simp [PyData.hasDictAll, paD, PyData.hasDict, ih.1]
      · have := ih.2
        simp [PyData.depthAll, paD, PyData.depth]
        omega
  obtain ⟨h3, h4⟩ := h3 L
  have e0 : sortedX (.list (L.map paD)) = DL.sortedD (.list (L.map paD)) := rfl
  rw [e0]
  show (if _ then _ else _) = _
  rw [if_pos ⟨h1, h2, h3, by rw [List.length_map, sizeL]; omega, by omega⟩]
theorem t_follows {rs : List Ru} {ps : List (Str × Str)} (P : Pf rs ps) : m_follows_of [.d (plD rs ps)] = some (.d (.tuple (sortD ((LL rs ps).map paD))), [.d (plD rs ps)]) := by
  have ec : xFz (nLc2 (iOf (xVar 1)) (gNm 3) (cYes) (iOf (xCall (arity 2 m_names_behind) (aCons (xVar 2) (aCons (x2 idxD (xVar 3) (xC (.int 0))) (aNil))))) (gNm 4) (cYes) (xTup (aCons (x2 idxD (xVar 3) (xC (.int 0))) (aCons (xVar 4) (aNil)))) [3, 4] [4])
      [.d (plD rs ps), .d (.tuple (rs.map ruD)), .d (.tuple (ps.map paD)), .un, .un] = some (.list ((LL rs ps).map paD), [.d (plD rs ps), .d (.tuple (rs.map ruD)), .d (.tuple (ps.map paD)), .un, .un]) := by
    refine fz_lc2 (ds := rs.map ruD) (ρ1 := [.d (plD rs ps), .d (.tuple (rs.map ruD)), .d (.tuple (ps.map paD)), .un, .un]) (by simp) rfl ?_
    rw [lc2_pure (k := ruD) (k1 := PyData.str) (fun r => S ps r.1) (fun r s => some (paD (r.1, s))) 40 rs [] (fun r hr => ⟨[.d (plD rs ps), .d (.tuple (rs.map ruD)), .d (.tuple (ps.map paD)), .d (ruD r), .un], by simp, rfl, ?_, rfl, ?_, by simp [wipeN], S_len P hr⟩) (by have := P.hl; simp; omega)]
    · simp [LL, List.map_flatMap]
      rfl
    · have := t_names P.hp (P.hn r hr) P.he
      simp [ruD] at this ⊢
      simp [this, stL]
    · intro s hs
      simp [e_lcS, ruD, paD, wipeN, sizeL]
  have es := sorted_L (LL rs ps) (LL_len P)
  generalize LL rs ps = L at *
  refine run_wp ?_
  unfold b_follows_of
  refine wp_nx (ρ1 := [.d (plD rs ps), .d (.tuple (rs.map ruD)), .d (.tuple (ps.map paD)), .un, .un]) (by simp [plD]) ?_
  exact wp_ret (we_of (x1_of (x1_of ec es) rfl) ⟨_, rfl, rfl⟩)
/-! ### the active names -/
def actS (rs : List Ru) : List PyData := rs.filterMap fun r => if r.2.2 = true then some (.str r.1) else none
theorem t_active {rs : List Ru} {ps : List (Str × Str)} (P : Pf rs ps) : m_active_names [.d (plD rs ps)] = some (.d (.tuple (actS rs)), [.d (plD rs ps)]) ∧ m_l_active [.d (plD rs ps)] = some (.d (.list (actS rs)), [.d (plD rs ps)]) := by
  have ec : xFz (nLc (iOf (x2 idxD (xVar 0) (xC (.int 0)))) (gTp 3 (gsCons (gNm 1) (gsCons (gNm 2) (gsCons (gNm 3) (gsNil))))) (xTru (xVar 3)) (xVar 1) [1, 2, 3]) [.d (plD rs ps), .un, .un, .un] = some (.list (actS rs), [.d (plD rs ps), .un, .un, .un]) := by
    refine fz_pure (k := ruD) (xs := rs) (fun r => if r.2.2 = true then some (.str r.1) else none) (by simp [plD]) rfl (fun r _ => ?_) (by have := P.hl; omega)
    cases h : r.2.2 <;> simp [e_lcS, ruD, h, truD, wipeN]
  generalize actS rs = A at *
  constructor
  · refine run_wp ?_
    unfold b_active_names
    exact wp_ret (we_of (x1_of ec rfl) ⟨_, rfl, rfl⟩)
  · refine run_wp ?_
    unfold b_l_active
    exact wp_ret (we_of ec ⟨_, rfl, rfl⟩)
end K18
set_option exponentiation.threshold 5000
set_option maxRecDepth 100000
set_option maxHeartbeats 4000000
namespace K18
open PySem PySem.Spec PyProof.Rows L2 DL
theorem neS (s : Str) : neD (.str s) (.str s) = some (.bool false) := by simp [neD]
theorem rep {d : PyData} {D S : Nat} (h : K16.Gd (10 ^ 59) D S d) (hD : D ≤ 60) (hS : S ≤ 16777216) : reprD d = some (.str d.shown) := repr_ok (show (10 : Nat) ^ 59 < 10 ^ 60 by decide +kernel) h.o (Nat.le_trans h.d hD) (Nat.le_trans h.s hS)
theorem t_many (ns : List Int) : ∃ k : Nat, K16.m_l_many [.scr ns, .d (.int 12)] = some (.d (.int k), [.scr ns, .d (.int 12)]) ∧ k ≤ 12 := by
  have e := K16.ne_ints ns
  cases h : ns.isEmpty with
  | true => exact ⟨1, by simp [K16.m_l_many, e_run, K16.b_l_many, sizeL, xScrCmp, e, h], by decide⟩
  | false => exact ⟨12, by simp [K16.m_l_many, e_run, K16.b_l_many, sizeL, xScrCmp, e, h], by decide⟩
/-! ### by hand -/
def clH : RQ.Cl := ⟨1, 5, none, none⟩
def rsH : List Ru := [("a", clH, true), ("b", clH, false), ("c", clH, true), ("d", clH, true)]
def psH : List (Str × Str) := [("a", "b"), ("b", "d")]
theorem cl_eq : cD clH = .tuple [.tuple [.int 1, .int 1], .tuple [.int 5, .int 1], .none, .none] := by rfl
theorem pfH : Pf rsH psH := ⟨by decide, by decide, by decide +kernel, by decide +kernel, by decide +kernel⟩
theorem pfE : Pf [] [] := ⟨by decide, by decide, by decide, by simp, by simp⟩
theorem pfN : Pf rsH [] := ⟨by decide, by decide, by decide +kernel, by decide +kernel, by simp⟩
def lsH : List (Str × Str) := [("a", "b"), ("a", "d"), ("b", "d")]
theorem LLH : LL rsH psH = lsH := by decide +kernel
theorem LLN : LL rsH [] = [] := by decide +kernel
def LH : List PyData := [paD ("a", "b"), paD ("a", "d"), paD ("b", "d")]
theorem sortH : sortD LH = LH := by
  unfold sortD
  exact List.mergeSort_of_pairwise (by decide +kernel)
theorem aH : actS rsH = [.str "a", .str "c", .str "d"] := by rfl
theorem t_hand : m_l_by_hand [] = some (.d (.bool true), []) := by
  have a1 := (t_active pfH).1
  have f1 := t_follows pfH
  have a2 := (t_active pfE).1
  have f2 := t_follows pfE
  have f3 := t_follows pfN
  rw [LLH] at f1
  rw [LLN] at f3
  rw [show lsH.map paD = LH from rfl, sortH] at f1
  have s0 : sortD [] = [] := by simp [sortD]
  rw [show (([] : List (Str × Str)).map paD) = [] from rfl, s0] at f3
  rw [show ((LL [] []).map paD) = [] from rfl, s0] at f2
  rw [aH] at a1
  have r1 : reprD (.tuple [.str "a", .str "c", .str "d"]) = some (.str (PyData.tuple [.str "a", .str "c", .str "d"]).shown) := rep (D := 20) (S := 1000000) (K16.gdB_ok (by kernel_rfl)) (by decide) (by decide)
  have r2 : reprD (.tuple LH) = some (.str (PyData.tuple LH).shown) := rep (D := 20) (S := 1000000) (K16.gdB_ok (by kernel_rfl)) (by decide) (by decide)
  have eP : ∀ rs ps, plD rs ps = .tuple [.tuple (rs.map ruD), .tuple (ps.map paD)] := fun _ _ => rfl
  have eR : rsH.map ruD = [.tuple [.str "a", cD clH, .bool true], .tuple [.str "b", cD clH, .bool false], .tuple [.str "c", cD clH, .bool true], .tuple [.str "d", cD clH, .bool true]] := rfl
  have eS : psH.map paD = [.tuple [.str "a", .str "b"], .tuple [.str "b", .str "d"]] := rfl
  have eL : LH = [.tuple [.str "a", .str "b"], .tuple [.str "a", .str "d"], .tuple [.str "b", .str "d"]] := rfl
  rw [eP, eR, eS] at a1 f1
  rw [eP, eR] at f3
  rw [eP] at a2 f2
  simp only [List.map_nil] at a2 f2 f3
  rw [show actS [] = [] from rfl] at a2
  rw [eL] at f1 r2
  rw [cl_eq] at a1 f1 f3
  have q0 : eqD (.tuple []) (.tuple []) = some (.bool true) := by rfl
  refine run_wp ?_
  unfold b_l_by_hand
  refine wp_nx (ρ1 := [.d (.tuple [.tuple [.int 1, .int 1], .tuple [.int 5, .int 1], .none, .none]), .un, .un]) (by simp [sizeL]) ?_
  generalize PyData.tuple [.tuple [.int 1, .int 1], .tuple [.int 5, .int 1], .none, .none] = C at *
  refine wp_nx (ρ1 := [.d C, .d (.tuple [.tuple [.str "a", C, .bool true], .tuple [.str "b", C, .bool false], .tuple [.str "c", C, .bool true], .tuple [.str "d", C, .bool true]]), .un]) (by simp [sizeL]) ?_
  generalize hR : PyData.tuple [.tuple [.str "a", C, .bool true], .tuple [.str "b", C, .bool false], .tuple [.str "c", C, .bool true], .tuple [.str "d", C, .bool true]] = R at *
  refine wp_nx (ρ1 := [.d C, .d R, .d (.tuple [R, .tuple [.tuple [.str "a", .str "b"], .tuple [.str "b", .str "d"]]])]) (by simp [sizeL]) ?_
  generalize hG : PyData.tuple [R, .tuple [.tuple [.str "a", .str "b"], .tuple [.str "b", .str "d"]]] = G at *
  refine wp_nx (ρ1 := [.d C, .d R, .d G]) (by simp [sizeL, a1, r1, neS]) ?_
  refine wp_nx (ρ1 := [.d C, .d R, .d G]) (by simp [sizeL, f1, r2, neS]) ?_
  exact wp_ret (we_of (b := .bool true) (ρ' := [.d C, .d R, .d G]) (by simp [sizeL, a2, f2, f3, q0, xAnd, truD]) ⟨_, rfl, rfl⟩)
end K18
set_option exponentiation.threshold 5000
set_option maxRecDepth 100000
set_option maxHeartbeats 4000000
namespace K18
open PySem PySem.Spec PyProof.Rows L2 DL
theorem wp_forI {α : Type} {n : XN} {g : XG} {b : XS} {ρ ρ0 : Nv} {Q : Fl → Prop} {kvs : List (Key × PyData)} (k : α → PyData) (xs : List α) (J : List α → Nv → Prop) (hn : n ρ = some (.od kvs, ρ0)) (hk : (kvs.map fun kv => PyData.tuple [kD kv.1, kv.2]) = xs.map k) (h0 : J xs ρ0)
    (hs : ∀ x xs ρ, J (x :: xs) ρ → ∃ ρ1, DL.stepF g b (k x) ρ = some (.nx ρ1) ∧ J xs ρ1) (hq : ∀ ρ1, J [] ρ1 → Q (.nx ρ1)) : Wp (sForI n g b) ρ Q := by
  obtain ⟨ρ1, e, h⟩ := for_J k J hs xs ρ0 h0
  refine ⟨_, ?_, hq ρ1 h⟩
  unfold sForI
  rw [hn, Option.bind_some]
  show forL g b (kvs.map fun kv => PyData.tuple [kD kv.1, kv.2]) ρ0 = _
  rw [hk]
  exact e
def itD' (ps : List (Str × Str)) (r : Ru) : PyData := .tuple [.str r.1, .list (stL (S ps r.1))]
theorem gd_pair {a b : Str} (ha : K16.nmOk a = true) (hb : K16.nmOk b = true) : K16.Gd (10 ^ 59) 1 228 (paD (a, b)) := K16.gd_all (M := 108) (D := 0) (fun x hx => by
  simp only [List.mem_cons, List.not_mem_nil, or_false] at hx
  rcases hx with rfl | rfl
  · exact K16.gd_nm ha _
  · exact K16.gd_nm hb _) (by simp)
theorem gd_X {rs : List Ru} {ps : List (Str × Str)} (P : Pf rs ps) (h1 : ∀ r ∈ rs, K16.nmOk r.1 = true) (h2 : ∀ p ∈ ps, K16.nmOk p.2 = true) : K16.Gd (10 ^ 59) 5 1000000 (.list [.tuple (actS rs), .tuple (sortD ((LL rs ps).map paD))]) := by
  have ga : K16.Gd (10 ^ 59) 2 60000 (.tuple (actS rs)) := by
    have : K16.Gd (10 ^ 59) 1 60000 (.tuple (actS rs)) := K16.gd_all (M := 108) (D := 0) (fun x hx => by
      obtain ⟨r, hr, e⟩ := List.mem_filterMap.mp hx
      split at e
      · cases e; exact K16.gd_nm (h1 r hr) _
      · cases e) (by
      have : (actS rs).length ≤ rs.length := List.length_filterMap_le _ _
      have := P.hl
      have : (108 + 2) * (actS rs).length ≤ (108 + 2) * 6 := Nat.mul_le_mul_left _ (by omega)
      omega)
    exact this.mono (Nat.le_refl _) (by decide) (Nat.le_refl _)
  have gs : K16.Gd (10 ^ 59) 2 60000 (.tuple (sortD ((LL rs ps).map paD))) := K16.gd_all (M := 228) (D := 1) (fun x hx => by
    have hx : x ∈ (LL rs ps).map paD := (List.mergeSort_perm _ _).mem_iff.mp hx
    obtain ⟨p, hp, rfl⟩ := List.mem_map.mp hx
    unfold LL at hp
    obtain ⟨r, hr, hp⟩ := List.mem_flatMap.mp hp
    obtain ⟨s, hs, rfl⟩ := List.mem_map.mp hp
    obtain ⟨q, hq, rfl⟩ := srch_mem 1000 (ps := ps) (f := []) (w := [r.1]) (by simp) s hs
    exact gd_pair (h1 r hr) (h2 q hq)) (by
    have e : (sortD ((LL rs ps).map paD)).length = (LL rs ps).length := by unfold sortD; rw [List.length_mergeSort, List.length_map]
    rw [e]
    have := LL_len P
    have : (228 + 2) * (LL rs ps).length ≤ (228 + 2) * 240 := Nat.mul_le_mul_left _ (by omega)
    omega)
  have gAll : ∀ y ∈ [PyData.tuple (actS rs), .tuple (sortD ((LL rs ps).map paD))], K16.Gd (10 ^ 59) 2 60000 y := fun y hy => by
    simp only [List.mem_cons, List.not_mem_nil, or_false] at hy
    rcases hy with rfl | rfl
    · exact ga
    · exact gs
  refine K16.gd_lst (okA_iff.mpr fun y hy => (gAll y hy).o) (by have := depthA_iff.mpr fun y hy => (gAll y hy).d; omega) ?_
  have := K16.szA_le (M := 60000) fun y hy => (gAll y hy).s
  simp at this
  omega
theorem law_true (ns : List Int) (hl : ns.length ≤ sizeLine) : m_law [.scr ns] = some (.d (.bool true), [.scr ns]) := by
  obtain ⟨o, ef, f0⟩ := K16.t_feed ns
  obtain ⟨K, em, hK⟩ := t_many ns
  refine run_wp ?_
  unfold b_law
  refine wp_nx (ρ1 := [.scr ns, .own o false, .un, .un, .un, .un, .un, .un, .un, .un]) (by simp only [p_l_feed]; simp [ef]) ?_
  refine wp_nx (ρ1 := [.scr ns, .own o false, .un, .un, .un, .un, .un, .un, .un, .un]) (by simp [t_hand]) ?_
  have hr : iRng (xCall (arity 2 m_l_many) (aSlot 0 (aCons (xC (.int 12)) (aNil)))) [.scr ns, .own o false, .un, .un, .un, .un, .un, .un, .un, .un] = some ((List.range K).map fun (j : Nat) => PyData.int j, [.scr ns, .own o false, .un, .un, .un, .un, .un, .un, .un, .un]) :=
    e_rngN (n := K) (by simp only [p_l_many]; simp [em]) (by omega)
  refine wp_seq (wp_forW (fun (j : Nat) => PyData.int j) (List.range K) (fun ys ρ => ∃ (N : Nat) (o : OD) (a2 a3 a4 a5 a6 a7 a8 : EV), K16.Fd N o ∧ N + 1000 * ys.length ≤ 20000 ∧ Fs a2 ∧ Fs a3 ∧ Fs a4 ∧ Fs a5 ∧ Fs a6 ∧ Fs a7 ∧ Fs a8 ∧ ρ = [.scr ns, .own o false, a2, a3, a4, a5, a6, a7, a8, .un])
    hr ⟨0, o, .un, .un, .un, .un, .un, .un, .un, f0, by rw [List.length_range]; omega, by simp, by simp, by simp, by simp, by simp, by simp, by simp, rfl⟩ ?_ ?_)
  · rintro j ys ρ ⟨N, o, a2, a3, a4, a5, a6, a7, a8, fo, hN, f2, f3, f4, f5, f6, f7, f8, rfl⟩
    rw [List.length_cons] at hN
    refine ⟨[.scr ns, .own o false, .d (.int j), a3, a4, a5, a6, a7, a8, .un], by simp [free_fs f2], ?_⟩
    obtain ⟨rs, ps, o1, e1, hpl, fo1⟩ := K16.t_l_plan fo (by omega) true
    have P := pf_of hpl
    obtain ⟨n1, n2⟩ := K16.plan_names hpl
    have gP := K16.gd_plan hpl
    have rP := rep gP (by decide) (by decide)
    have gX := gd_X P n1 fun p hp => (n2 p hp).2
    have rX := rep gX (by decide) (by decide)
    have eB := t_behind P.hp P.hl P.nd P.hn P.he
    obtain ⟨eA, eA2⟩ := t_active P
    have eF := t_follows P
    have eS := sorted_L (LL rs ps) (LL_len P)
    have lS : ∀ r ∈ rs, (S ps r.1).length ≤ 40 := fun r hr => S_len P hr
    have lL := LL_len P
    have eit : ((kF rs (S ps)).map fun kv => PyData.tuple [kD kv.1, kv.2]) = rs.map (itD' ps) := by simp [kF, itD', kD]
    generalize hpd : plD rs ps = T at *
    generalize (PyData.list [.tuple (actS rs), .tuple (sortD ((LL rs ps).map paD))]).shown = Sx at *
    generalize T.shown = Sp at *
    refine wp_nx (ρ1 := [.scr ns, .own o1 false, .d (.int j), .d T, a4, a5, a6, a7, a8, .un]) (by simp only [p_l_plan]; simp [e1, free_fs f3]) ?_
    refine wp_nx (ρ1 := [.scr ns, .own o1 false, .d (.int j), .d T, .d (.str Sp), .own (.ol []) false, a6, a7, a8, .un]) (by simp [rP, putR, nLst, allV, sizeL, free_fs f4, free_fs f5]) ?_
    refine wp_seq (wp_forI (itD' ps) rs (fun xs ρ => (∀ r ∈ xs, r ∈ rs) ∧ ∃ acc b6 b7, Fs b6 ∧ Fs b7 ∧ acc ++ LL xs ps = LL rs ps ∧ ρ = [.scr ns, .own o1 false, .d (.int j), .d T, .d (.str Sp), .own (.ol (acc.map paD)) false, b6, b7, a8, .un])
      (by simp [nCall, gCall, eB]) eit ⟨fun r h => h, [], a6, a7, f6, f7, rfl, rfl⟩ ?_ ?_)
    · rintro r xs ρ ⟨hx, acc, b6, b7, q6, q7, hacc, rfl⟩
      refine ⟨[.scr ns, .own o1 false, .d (.int j), .d T, .d (.str Sp), .own (.ol ((acc ++ (S ps r.1).map fun s => (r.1, s)).map paD)) false, .d (.str r.1), .d (.list (stL (S ps r.1))), a8, .un], ?_, fun y hy => hx y (List.mem_cons_of_mem _ hy), _, _, _, by simp, by simp, by rw [← hacc]; simp [LL], rfl⟩
      have ls := lS r (hx r List.mem_cons_self)
      have la : acc.length ≤ 240 := by
        have := congrArg List.length hacc
        rw [List.length_append] at this
        omega
      have ec : xFz (nLc (iOf (xVar 7)) (gNm 9) (cYes) (xTup (aCons (xVar 6) (aCons (xVar 9) (aNil)))) [9]) [.scr ns, .own o1 false, .d (.int j), .d T, .d (.str Sp), .own (.ol (acc.map paD)) false, .d (.str r.1), .d (.list (stL (S ps r.1))), a8, .un]
          = some (.list ((S ps r.1).map fun s => paD (r.1, s)), [.scr ns, .own o1 false, .d (.int j), .d T, .d (.str Sp), .own (.ol (acc.map paD)) false, .d (.str r.1), .d (.list (stL (S ps r.1))), a8, .un]) := by
        refine fz_map (k := PyData.str) (xs := S ps r.1) (fun s => paD (r.1, s)) (by simp [stL]) rfl (fun s _ => ?_) (by omega)
        simp [e_lcS, wipeN, sizeL, paD]
      have eg : gTp 2 (gsCons (gNm 6) (gsCons (gNm 7) (gsNil))) (itD' ps r) [.scr ns, .own o1 false, .d (.int j), .d T, .d (.str Sp), .own (.ol (acc.map paD)) false, b6, b7, a8, .un] = some [.scr ns, .own o1 false, .d (.int j), .d T, .d (.str Sp), .own (.ol (acc.map paD)) false, .d (.str r.1), .d (.list (stL (S ps r.1))), a8, .un] := by
        simp [itD', free_fs q6, free_fs q7]
      rw [e_stepF, eg, Option.bind_some]
      have ee := ext_of (i := 5) (zs := acc.map paD) (vs := acc.map paD) (b := false) (io := false) (by rfl) ec (by rfl) (by simp; omega)
      show (xExt 5 _ _).map _ = _
      rw [ee]
      simp [Function.comp_def]
    rintro ρ ⟨-, acc, b6, b7, q6, q7, hacc, rfl⟩
    have hacc : acc = LL rs ps := by simpa [LL] using hacc
    subst hacc
    refine wp_nx (ρ1 := [.scr ns, .own o1 false, .d (.int j), .d T, .d (.str Sp), .own (.ol ((LL rs ps).map paD)) false, b6, b7, .d (.list [.tuple (actS rs), .tuple (sortD ((LL rs ps).map paD))]), .un]) (by simp [eA2, eS, odD, tupleD, allV, sizeL, free_fs f8]) ?_
    generalize sortD ((LL rs ps).map paD) = Y at *
    generalize actS rs = A at *
    refine wp_nx (ρ1 := [.scr ns, .own o1 false, .d (.int j), .d T, .d (.str Sp), .own (.ol ((LL rs ps).map paD)) false, b6, b7, .d (.list [.tuple A, .tuple Y]), .un]) (by simp [eA, eF, rX, sizeL, neS]) ?_
    exact wp_of (r := .nx [.scr ns, .own o1 false, .d (.int j), .d T, .d (.str Sp), .own (.ol ((LL rs ps).map paD)) false, b6, b7, .d (.list [.tuple A, .tuple Y]), .un]) (by simp [eA, eF, rX, rP, sizeL, neS]) ⟨_, rfl, N + 1000, o1, _, _, _, _, b6, b7, _, fo1, by omega, by simp, by simp, by simp, by simp, q6, q7, by simp, rfl⟩
  · rintro ρ ⟨N, o, a2, a3, a4, a5, a6, a7, a8, fo, hN, f2, f3, f4, f5, f6, f7, f8, rfl⟩
    exact wp_ret (we_of rfl ⟨_, rfl, rfl⟩)
end K18
namespace K18
open PySem PySem.Spec PyProof.Rows L2 DL
theorem all_mk {P : Program} {w : World} {K : PySem.W.Frag} {h : Heap} {mg : Str → Option Value} {fa : Addr} (X : K.In h) (G : h.Ns mainGlobals mg) (hfa : mg "law" = some (.ref fa))
    (e_l_feed : DefEx K "_law_feed" (topS 5))
    (e_active_names : DefEx K "active_names" (topS 1))
    (e_names_behind : DefEx K "names_behind" (topS 2))
    (e_follows_of : DefEx K "follows_of" (topS 3))
    (e_l_by_hand : DefEx K "_law_by_hand" (topS 22))
    (e_l_many : DefEx K "_law_many" (topS 21))
    (e_l_draw : DefEx K "_law_draw" (topS 6))
    (e_l_any : DefEx K "_law_any" (topS 7))
    (e_l_gcd : DefEx K "_law_gcd" (topS 8))
    (e_l_fraction : DefEx K "_law_fraction" (topS 9))
    (e_l_add : DefEx K "_law_add" (topS 10))
    (e_l_times : DefEx K "_law_times" (topS 11))
    (e_l_less : DefEx K "_law_less" (topS 12))
    (e_l_larger : DefEx K "_law_larger" (topS 14))
    (e_l_smaller : DefEx K "_law_smaller" (topS 13))
    (e_l_made : DefEx K "_law_made" (topS 15))
    (e_l_normal : DefEx K "_law_normal" (topS 16))
    (e_l_clause : DefEx K "_law_clause" (topS 17))
    (e_l_plan : DefEx K "_law_plan" (topS 18))
    (e_l_behind : DefEx K "_law_behind" (topS 20))
    (e_l_active : DefEx K "_law_active" (topS 19))
    (e_law : DefEx K "law" (topS 23))
    (n_abs : PySem.W.nsIn K mainGlobals "abs" = some none)
    (n_dict : PySem.W.nsIn K mainGlobals "dict" = some none)
    (n_len : PySem.W.nsIn K mainGlobals "len" = some none)
    (n_list : PySem.W.nsIn K mainGlobals "list" = some none)
    (n_range : PySem.W.nsIn K mainGlobals "range" = some none)
    (n_repr : PySem.W.nsIn K mainGlobals "repr" = some none)
    (n_sorted : PySem.W.nsIn K mainGlobals "sorted" = some none)
    (n_tuple : PySem.W.nsIn K mainGlobals "tuple" = some none)
    : ∃ fd : FuncData, (∀ (s : Shared) (u : Value), BindsTo s fd ⟨[u], []⟩ [("_law_script", u)]) ∧ ∀ base : Heap, K.In base → base.Ns mainGlobals mg → FnG P w K mg base 8 fa fd ["_law_script"] m_law := by
  obtain ⟨f5, fd5, d5⟩ := def_at (ps := ["_law_script"]) X G e_l_feed fun _ _ _ _ _ _ us hl => match us, hl with | [_], _ => rfl
  obtain ⟨f1, fd1, d1⟩ := def_at (ps := ["plan"]) X G e_active_names fun _ _ _ _ _ _ us hl => match us, hl with | [_], _ => rfl
  obtain ⟨f2, fd2, d2⟩ := def_at (ps := ["pairs", "name"]) X G e_names_behind fun _ _ _ _ _ _ us hl => match us, hl with | [_, _], _ => rfl
  obtain ⟨f3, fd3, d3⟩ := def_at (ps := ["plan"]) X G e_follows_of fun _ _ _ _ _ _ us hl => match us, hl with | [_], _ => rfl
  obtain ⟨f22, fd22, d22⟩ := def_at (ps := []) X G e_l_by_hand fun _ _ _ _ _ _ us hl => match us, hl with | [], _ => rfl
  obtain ⟨f21, fd21, d21⟩ := def_at (ps := ["_law_script", "_law_count"]) X G e_l_many fun _ _ _ _ _ _ us hl => match us, hl with | [_, _], _ => rfl
  obtain ⟨f6, fd6, d6⟩ := def_at (ps := ["_law_feed_here", "_law_many_here"]) X G e_l_draw fun _ _ _ _ _ _ us hl => match us, hl with | [_, _], _ => rfl
  obtain ⟨f7, fd7, d7⟩ := def_at (ps := ["_law_feed_here", "_law_some"]) X G e_l_any fun _ _ _ _ _ _ us hl => match us, hl with | [_, _], _ => rfl
  obtain ⟨f8, fd8, d8⟩ := def_at (ps := ["_law_one", "_law_other"]) X G e_l_gcd fun _ _ _ _ _ _ us hl => match us, hl with | [_, _], _ => rfl
  obtain ⟨f9, fd9, d9⟩ := def_at (ps := ["_law_over", "_law_under"]) X G e_l_fraction fun _ _ _ _ _ _ us hl => match us, hl with | [_, _], _ => rfl
  obtain ⟨f10, fd10, d10⟩ := def_at (ps := ["_law_one", "_law_other"]) X G e_l_add fun _ _ _ _ _ _ us hl => match us, hl with | [_, _], _ => rfl
  obtain ⟨f11, fd11, d11⟩ := def_at (ps := ["_law_one", "_law_other"]) X G e_l_times fun _ _ _ _ _ _ us hl => match us, hl with | [_, _], _ => rfl
  obtain ⟨f12, fd12, d12⟩ := def_at (ps := ["_law_one", "_law_other"]) X G e_l_less fun _ _ _ _ _ _ us hl => match us, hl with | [_, _], _ => rfl
  obtain ⟨f14, fd14, d14⟩ := def_at (ps := ["_law_one", "_law_other"]) X G e_l_larger fun _ _ _ _ _ _ us hl => match us, hl with | [_, _], _ => rfl
  obtain ⟨f13, fd13, d13⟩ := def_at (ps := ["_law_one", "_law_other"]) X G e_l_smaller fun _ _ _ _ _ _ us hl => match us, hl with | [_, _], _ => rfl
  obtain ⟨f15, fd15, d15⟩ := def_at (ps := ["_law_rule", "_law_x"]) X G e_l_made fun _ _ _ _ _ _ us hl => match us, hl with | [_, _], _ => rfl
  obtain ⟨f16, fd16, d16⟩ := def_at (ps := ["_law_factor", "_law_plus", "_law_low", "_law_high"]) X G e_l_normal fun _ _ _ _ _ _ us hl => match us, hl with | [_, _, _, _], _ => rfl
  obtain ⟨f17, fd17, d17⟩ := def_at (ps := ["_law_feed_here"]) X G e_l_clause fun _ _ _ _ _ _ us hl => match us, hl with | [_], _ => rfl
  obtain ⟨f18, fd18, d18⟩ := def_at (ps := ["_law_feed_here", "_law_most"]) X G e_l_plan fun _ _ _ _ _ _ us hl => match us, hl with | [_, _], _ => rfl
  obtain ⟨f20, fd20, d20⟩ := def_at (ps := ["_law_agreed"]) X G e_l_behind fun _ _ _ _ _ _ us hl => match us, hl with | [_], _ => rfl
  obtain ⟨f19, fd19, d19⟩ := def_at (ps := ["_law_agreed"]) X G e_l_active fun _ _ _ _ _ _ us hl => match us, hl with | [_], _ => rfl
  obtain ⟨f23, fd23, d23⟩ := def_at (ps := ["_law_script"]) X G e_law fun _ _ _ _ _ _ us hl => match us, hl with | [_], _ => rfl
  have T : Txt K mg (fun i => [0, f1, f2, f3, 0, f5, f6, f7, f8, f9, f10, f11, f12, f13, f14, f15, f16, f17, f18, f19, f20, f21, f22, f23].getD i 0) (fun i => [fd23, fd1, fd2, fd3, fd23, fd5, fd6, fd7, fd8, fd9, fd10, fd11, fd12, fd13, fd14, fd15, fd16, fd17, fd18, fd19, fd20, fd21, fd22, fd23].getD i fd23) := {
    d_l_feed := d5
    d_active_names := d1
    d_names_behind := d2
    d_follows_of := d3
    d_l_by_hand := d22
    d_l_many := d21
    d_l_draw := d6
    d_l_any := d7
    d_l_gcd := d8
    d_l_fraction := d9
    d_l_add := d10
    d_l_times := d11
    d_l_less := d12
    d_l_larger := d14
    d_l_smaller := d13
    d_l_made := d15
    d_l_normal := d16
    d_l_clause := d17
    d_l_plan := d18
    d_l_behind := d20
    d_l_active := d19
    d_law := d23
    q_follows_of_0_plan := pb_none (fun_d d3.F) fun _ _ _ _ _ _ us ws h1 h2 => match us, ws, h1, h2 with | [], [w0], _, _ => ⟨[w0], rfl, rfl, .at_ rfl (.nil)⟩
    q_active_names_0_plan := pb_none (fun_d d1.F) fun _ _ _ _ _ _ us ws h1 h2 => match us, ws, h1, h2 with | [], [w0], _, _ => ⟨[w0], rfl, rfl, .at_ rfl (.nil)⟩
    n_abs := PySem.W.mg_none_of X G n_abs
    n_dict := PySem.W.mg_none_of X G n_dict
    n_len := PySem.W.mg_none_of X G n_len
    n_list := PySem.W.mg_none_of X G n_list
    n_range := PySem.W.mg_none_of X G n_range
    n_repr := PySem.W.mg_none_of X G n_repr
    n_sorted := PySem.W.mg_none_of X G n_sorted
    n_tuple := PySem.W.mg_none_of X G n_tuple }
  have e := hfa.symm.trans d23.g
  cases e
  exact ⟨fd23, fun s u => .of_eq (d23.be [u] rfl), fun base _ _ => ok_law T⟩
end K18

open PySem PySem.W PyProof.Rows in
set_option maxRecDepth 100000 in
set_option maxHeartbeats 0 in
theorem PySem.Challenge.cw_stackorder_k18_active_and_follows_holds : PySem.Challenge.rw_stackorder_k18_active_and_follows.Holds := by
  w_on; o_law; k_head; (case hw => w_witness2)
  k_fill
  refine DL.walk_d (l := PySem.Challenge.rw_stackorder_k18_active_and_follows) (k := 8) (m := K18.m_law) (x := "_law_script") rfl (by decide) rfl ⟨rfl, by decide, by decide⟩ (fun w h Y => PySem.W.kIn_of Y) ?F (fun ns hl => K18.law_true ns (Nat.le_trans hl (by decide)))
  case F =>
    intro w mg fa h KX G hmg
    refine' K18.all_mk KX G hmg ?e_l_feed ?e_active_names ?e_names_behind ?e_follows_of ?e_l_by_hand ?e_l_many ?e_l_draw ?e_l_any ?e_l_gcd ?e_l_fraction ?e_l_add ?e_l_times ?e_l_less ?e_l_larger ?e_l_smaller ?e_l_made ?e_l_normal ?e_l_clause ?e_l_plan ?e_l_behind ?e_l_active ?e_law ?n_abs ?n_dict ?n_len ?n_list ?n_range ?n_repr ?n_sorted ?n_tuple
    (case e_l_feed => exact ⟨_, _, _, _, _, _, _, _, _, _, by k_is, by k_is, by k_is, by k_is⟩)
    (case e_active_names => exact ⟨_, _, _, _, _, _, _, _, _, _, by k_is, by k_is, by k_is, by k_is⟩)
    (case e_names_behind => exact ⟨_, _, _, _, _, _, _, _, _, _, by k_is, by k_is, by k_is, by k_is⟩)
    (case e_follows_of => exact ⟨_, _, _, _, _, _, _, _, _, _, by k_is, by k_is, by k_is, by k_is⟩)
    (case e_l_by_hand => exact ⟨_, _, _, _, _, _, _, _, _, _, by k_is, by k_is, by k_is, by k_is⟩)
    (case e_l_many => exact ⟨_, _, _, _, _, _, _, _, _, _, by k_is, by k_is, by k_is, by k_is⟩)
    (case e_l_draw => exact ⟨_, _, _, _, _, _, _, _, _, _, by k_is, by k_is, by k_is, by k_is⟩)
    (case e_l_any => exact ⟨_, _, _, _, _, _, _, _, _, _, by k_is, by k_is, by k_is, by k_is⟩)
    (case e_l_gcd => exact ⟨_, _, _, _, _, _, _, _, _, _, by k_is, by k_is, by k_is, by k_is⟩)
    (case e_l_fraction => exact ⟨_, _, _, _, _, _, _, _, _, _, by k_is, by k_is, by k_is, by k_is⟩)
    (case e_l_add => exact ⟨_, _, _, _, _, _, _, _, _, _, by k_is, by k_is, by k_is, by k_is⟩)
    (case e_l_times => exact ⟨_, _, _, _, _, _, _, _, _, _, by k_is, by k_is, by k_is, by k_is⟩)
    (case e_l_less => exact ⟨_, _, _, _, _, _, _, _, _, _, by k_is, by k_is, by k_is, by k_is⟩)
    (case e_l_larger => exact ⟨_, _, _, _, _, _, _, _, _, _, by k_is, by k_is, by k_is, by k_is⟩)
    (case e_l_smaller => exact ⟨_, _, _, _, _, _, _, _, _, _, by k_is, by k_is, by k_is, by k_is⟩)
    (case e_l_made => exact ⟨_, _, _, _, _, _, _, _, _, _, by k_is, by k_is, by k_is, by k_is⟩)
    (case e_l_normal => exact ⟨_, _, _, _, _, _, _, _, _, _, by k_is, by k_is, by k_is, by k_is⟩)
    (case e_l_clause => exact ⟨_, _, _, _, _, _, _, _, _, _, by k_is, by k_is, by k_is, by k_is⟩)
    (case e_l_plan => exact ⟨_, _, _, _, _, _, _, _, _, _, by k_is, by k_is, by k_is, by k_is⟩)
    (case e_l_behind => exact ⟨_, _, _, _, _, _, _, _, _, _, by k_is, by k_is, by k_is, by k_is⟩)
    (case e_l_active => exact ⟨_, _, _, _, _, _, _, _, _, _, by k_is, by k_is, by k_is, by k_is⟩)
    (case e_law => exact ⟨_, _, _, _, _, _, _, _, _, _, by k_is, by k_is, by k_is, by k_is⟩)
    (case n_abs => k_is)
    (case n_dict => k_is)
    (case n_len => k_is)
    (case n_list => k_is)
    (case n_range => k_is)
    (case n_repr => k_is)
    (case n_sorted => k_is)
    (case n_tuple => k_is)
