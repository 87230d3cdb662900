import PyProof.Rows.All
import Wide.All
import OpenK.AllK
import Wide.FinOn
import HandS.ForMost
import HandS.IsInst
import HandS.TupAny
import HandS.Wide
import HandS.Deep
import HandS.Style
import HandS.RaiseMore
import HandS.More
import HandS.TupMul
import PyProof.Rows.IntBool
import OpenK.KMore
import HandS.Star
import HandS.Defaults
import HandS.Iter
import HandS.Zip
import KE.SortData
import HandS.Conv
import KE.KDictSum
import HandS.DictComp
import KE.KParD
import HandS.TupSets
import KE.GoesEnum
import KE.SortKeyHeap
import PyProof.TupleOfSeq
import HandS.TupLen
import HandS.SetFor
import HandS.Strs
import KE.KDictDisplayH
import HandS.Flow
import KE.KDictZip
import KE.KDictCopyH
import KE.KDictWalk
import KE.KeyNested
import KE.KDictKeyed
import KE.KUnpackStar
import KE.KDictPairs
import PySem.Challenge.RW_stackorder_k04_chains
import PyProof.ReprLen
import PyProof.StrLawsRepr
import PyProof.FitsInt
import PyProof.StrLawsIn
import KE.KEqSeq
set_option Elab.async false
set_option linter.all false
set_option maxRecDepth 100000
set_option maxHeartbeats 2000000
namespace DL
open PySem L2

/-- a dict's key as a datum -/
def kD : Key → PyData
  | .inl i => .int i
  | .inr x => .str x

/-- tuples of the module's own top: not empty; at the front a text only if it is the clauses' names -/
def kOk : List PyData → Bool
  | [] => false
  | .str x :: _ :: _ :: _ :: _ => x == "factor"
  | .str _ :: _ => false
  | _ => true
/-- C is the one class of the name n in K; its instances are plain ones -/
structure IsC (K : PySem.W.Frag) (n : Str) (C : Addr) : Prop where
  at_ : PySem.W.nsIn K mainGlobals n = some (some (.ref C))
  cls : Cls K C
  ha : PySem.W.findIn K (.ref C) "__class__" = some (some (.builtin "object.__class__"))
  hn : PySem.W.specialIn K (.builtin "object.__class__") "__get__" = some (some (.builtin "getset_descriptor.__get__"))
  htk : PySem.W.takesIn K (.builtin "object.__class__") = some true
  hm : PySem.W.mroIn K C (.type "object") = some true
  six : ∀ N ∈ ["int", "bool", "str", "list", "tuple", "dict"], PySem.W.kitOne K (.ref C) (.type N) = some false
theorem IsC.eq {K : PySem.W.Frag} {n : Str} {C C' : Addr} (h : IsC K n C) (h' : IsC K n C') : C' = C := by
  have e := h'.at_
  rw [h.at_] at e
  cases e
  rfl
/-- an instance of the class n as a datum -/
abbrev insD (n : Str) (fs : List (Str × PyData)) : PyData := .dict ((.none, .str n) :: fs.map fun p => (.str p.1, p.2))
/-- a tuple of which it is known that it has no names of its own, as a datum -/
abbrev ptD (ds : List PyData) : PyData := .dict [(.none, .none), (.none, .list ds)]
/-- a datum that stands for an instance (or such a tuple) -/
def isI : PyData → Bool
  | .dict ((.none, _) :: _) => true
  | _ => false
mutual
/-- v stands for d in the heap H -/
inductive Rp (K : PySem.W.Frag) (H : Hp) : V → PyData → Prop
  | non : Rp K H .non .none
  | bl (b : Bool) : Rp K H (.bl b) (.bool b)
  | int (i : Int) : Rp K H (.int i) (.int i)
  | str (x : Str) : Rp K H (.str x) (.str x)
  | lst {a : Addr} {xs : List V} {ds : List PyData} : H a = some (.lst xs) → RpA K H xs ds → Rp K H (.ref a) (.list ds)
  | tup {a : Addr} {xs : List V} {ds : List PyData} : H a = some (.tup xs) → RpA K H xs ds → Rp K H (.ref a) (.tuple ds)
  | tuk {a : Addr} {xs : List V} {ds : List PyData} : SqT K H a xs → kOk ds = true → RpA K H xs ds → Rp K H (.ref a) (.tuple ds)
  | dic {a : Addr} {kvs : List (Key × V)} {ds : List PyData} : H a = some (.dK kvs) → RpA K H (kvs.map (·.2)) ds → Rp K H (.ref a) (.dict ((kvs.map fun p => kD p.1).zip ds))
  | dit {a : Addr} {kvs : List (List Key × V)} {ds : List PyData} : H a = some (.dT kvs) → RpA K H (kvs.map (·.2)) ds → Rp K H (.ref a) (.dict ((kvs.map fun p => PyData.tuple (p.1.map kD)).zip ds))
  | ins {a C dx : Addr} {n : Str} {vs : List (Str × V)} {fs : List (Str × PyData)} : IsC K n C → H a = some (.ins C dx vs) → vs.map (·.1) = fs.map (·.1) → RpA K H (vs.map (·.2)) (fs.map (·.2)) → Rp K H (.ref a) (.dict ((.none, .str n) :: fs.map fun p => (.str p.1, p.2)))
  | ptu {a : Addr} {o : Obj} {xs : List V} {ds : List PyData} : H a = some (.frz o (.tup xs)) → o.cls = .type "tuple" ∧ o.dict = none → RpA K H xs ds → Rp K H (.ref a) (.dict [(.none, .none), (.none, .list ds)])
inductive RpA (K : PySem.W.Frag) (H : Hp) : List V → List PyData → Prop
  | nil : RpA K H [] []
  | cons {v : V} {vs : List V} {d : PyData} {ds : List PyData} : Rp K H v d → RpA K H vs ds → RpA K H (v :: vs) (d :: ds)
end
theorem sqT_mono {K : PySem.W.Frag} {H H' : Hp} (e : Same H H') {a : Addr} {xs : List V} (h : SqT K H a xs) : SqT K H' a xs := by
  rcases h with (h | ⟨o, h⟩) | h
  · exact .inl (.inl (e _ _ h))
  · exact .inl (.inr ⟨o, e _ _ h⟩)
  · exact .inr h
mutual
theorem Rp.mono {K : PySem.W.Frag} {H H' : Hp} (e : Same H H') : ∀ {d : PyData} {v : V}, Rp K H v d → Rp K H' v d
  | _, _, .non => .non
  | _, _, .bl b => .bl b
  | _, _, .int i => .int i
  | _, _, .str x => .str x
  | _, _, .lst h r => .lst (e _ _ h) (RpA.mono e r)
  | _, _, .tup h r => .tup (e _ _ h) (RpA.mono e r)
  | _, _, .tuk h k r => .tuk (sqT_mono e h) k (RpA.mono e r)
  | _, _, .dic h r => .dic (e _ _ h) (RpA.mono e r)
  | _, _, .dit h r => .dit (e _ _ h) (RpA.mono e r)
  | _, _, .ins c h k r => .ins c (e _ _ h) k (RpA.mono e r)
  | _, _, .ptu h k r => .ptu (e _ _ h) k (RpA.mono e r)
theorem RpA.mono {K : PySem.W.Frag} {H H' : Hp} (e : Same H H') : ∀ {ds : List PyData} {vs : List V}, RpA K H vs ds → RpA K H' vs ds
  | _, _, .nil => .nil
  | _, _, .cons h r => .cons (Rp.mono e h) (RpA.mono e r)
end
section
variable {K : PySem.W.Frag} {H : Hp}
theorem RpA.length : ∀ {vs : List V} {ds : List PyData}, RpA K H vs ds → vs.length = ds.length
  | _, _, .nil => rfl
  | _, _, .cons _ t => congrArg (· + 1) (RpA.length t)
theorem RpA.get : ∀ {vs : List V} {ds : List PyData}, RpA K H vs ds → ∀ {i : Nat} {d : PyData}, ds[i]? = some d → ∃ v, vs[i]? = some v ∧ Rp K H v d
  | _, _, .nil, _, _, e => by simp at e
  | _, _, .cons r _, 0, _, e => by simp at e; subst e; exact ⟨_, rfl, r⟩
  | _, _, .cons _ t, i + 1, _, e => by
    obtain ⟨v, h1, h2⟩ := RpA.get t (i := i) (by simpa using e)
    exact ⟨v, by simpa using h1, h2⟩
theorem RpA.getV : ∀ {vs : List V} {ds : List PyData}, RpA K H vs ds → ∀ {i : Nat} {v : V}, vs[i]? = some v → ∃ d, ds[i]? = some d ∧ Rp K H v d
  | _, _, .nil, _, _, e => by simp at e
  | _, _, .cons r _, 0, _, e => by simp at e; subst e; exact ⟨_, rfl, r⟩
  | _, _, .cons _ t, i + 1, _, e => by
    obtain ⟨v, h1, h2⟩ := RpA.getV t (i := i) (by simpa using e)
    exact ⟨v, by simpa using h1, h2⟩
theorem RpA.append : ∀ {vs ws : List V} {ds es : List PyData}, RpA K H vs ds → RpA K H ws es → RpA K H (vs ++ ws) (ds ++ es)
  | _, _, _, _, .nil, s => s
  | _, _, _, _, .cons r t, s => .cons r (RpA.append t s)
theorem RpA.take : ∀ {vs : List V} {ds : List PyData} (n : Nat), RpA K H vs ds → RpA K H (vs.take n) (ds.take n)
  | _, _, 0, _ => .nil
  | _, _, _ + 1, .nil => .nil
  | _, _, n + 1, .cons r t => .cons r (RpA.take n t)
theorem RpA.drop : ∀ {vs : List V} {ds : List PyData} (n : Nat), RpA K H vs ds → RpA K H (vs.drop n) (ds.drop n)
  | _, _, 0, r => r
  | _, _, _ + 1, .nil => .nil
  | _, _, n + 1, .cons _ t => RpA.drop n t
theorem RpA.reverse : ∀ {vs : List V} {ds : List PyData}, RpA K H vs ds → RpA K H vs.reverse ds.reverse
  | _, _, .nil => .nil
  | _, _, .cons r t => by
    rw [List.reverse_cons, List.reverse_cons]
    exact RpA.append (RpA.reverse t) (.cons r .nil)
theorem RpA.dropLast {vs : List V} {ds : List PyData} (h : RpA K H vs ds) : RpA K H vs.dropLast ds.dropLast := by
  rw [List.dropLast_eq_take, List.dropLast_eq_take, h.length]
  exact h.take _
theorem RpA.set : ∀ {vs : List V} {ds : List PyData} (n : Nat) {v : V} {d : PyData}, RpA K H vs ds → Rp K H v d → RpA K H (vs.set n v) (ds.set n d)
  | _, _, _, _, _, .nil, _ => .nil
  | _, _, 0, _, _, .cons _ t, r => .cons r t
  | _, _, n + 1, _, _, .cons q t, r => .cons q (RpA.set n t r)
mutual
theorem Rp.toDp : ∀ {d : PyData} {v : V}, Rp K H v d → d.hasDict = false → Dp K H v d
  | _, _, .non, _ => .non
  | _, _, .bl b, _ => .bl b
  | _, _, .int i, _ => .int i
  | _, _, .str x, _ => .str x
  | _, _, .lst h r, e => .lst (SqL.of h) (RpA.toDp r (by simpa [PyData.hasDict] using e))
  | _, _, .tup h r, e => .tup (SqT.of h) (RpA.toDp r (by simpa [PyData.hasDict] using e))
  | _, _, .tuk h _ r, e => .tup h (RpA.toDp r (by simpa [PyData.hasDict] using e))
  | _, _, .dic h r, e => by simp [PyData.hasDict] at e
  | _, _, .dit h r, e => by simp [PyData.hasDict] at e
  | _, _, .ins _ h _ r, e => by simp [PyData.hasDict] at e
  | _, _, .ptu _ _ _, e => by simp [PyData.hasDict] at e
theorem RpA.toDp : ∀ {ds : List PyData} {vs : List V}, RpA K H vs ds → PyData.hasDictAll ds = false → DpAll K H vs ds
  | _, _, .nil, _ => .nil
  | _, _, .cons h r, e => by
    simp only [PyData.hasDictAll, Bool.or_eq_false_iff] at e
    exact .cons (Rp.toDp h e.1) (RpA.toDp r e.2)
end
end

/-- an object of the def's own -/
inductive OD where
  | ol (xs : List PyData)
  | od (kvs : List (Key × PyData))
  | ot (kvs : List (List Key × PyData))
  | oi (n : Str) (fs : List (Str × PyData))
/-- what else a slot holds: the script; a class of the module -/
inductive SlP where
  | ints (ns : List Int)
  | cls (n : Str)
instance : Coe (List Int) SlP := ⟨SlP.ints⟩
/-- nothing; a datum; an object of one's own (io: the caller's, lent); the script -/
inductive EV where
  | un
  | d (x : PyData)
  | own (o : OD) (io : Bool)
  | scr (p : SlP)
abbrev Nv := List EV

def odD : OD → PyData
  | .ol xs => .list xs
  | .od kvs => .dict ((kvs.map fun p => kD p.1).zip (kvs.map (·.2)))
  | .ot kvs => .dict ((kvs.map fun p => PyData.tuple (p.1.map kD)).zip (kvs.map (·.2)))
  | .oi n fs => insD n fs

/-- the object at a is o, its parts stand in Z -/
def ObAt (K : PySem.W.Frag) (Z H : Hp) (a : Addr) : OD → Prop
  | .ol xs => ∃ vs, H a = some (.lst vs) ∧ RpA K Z vs xs
  | .od kvs => ∃ vs : List (Key × V), H a = some (.dK vs) ∧ vs.map (·.1) = kvs.map (·.1) ∧ RpA K Z (vs.map (·.2)) (kvs.map (·.2))
  | .ot kvs => ∃ vs : List (List Key × V), H a = some (.dT vs) ∧ vs.map (·.1) = kvs.map (·.1) ∧ RpA K Z (vs.map (·.2)) (kvs.map (·.2))
  | .oi n fs => ∃ (C dx : Addr) (vs : List (Str × V)), IsC K n C ∧ H a = some (.ins C dx vs) ∧ vs.map (·.1) = fs.map (·.1) ∧ RpA K Z (vs.map (·.2)) (fs.map (·.2))
theorem ObAt.some {K : PySem.W.Frag} {Z H : Hp} {a : Addr} {o : OD} (h : ObAt K Z H a o) : ∃ u, H a = some u ∧ Mut (some u) := by
  cases o with
  | ol xs => obtain ⟨vs, e, _⟩ := h; exact ⟨_, e, trivial⟩
  | od kvs => obtain ⟨vs, e, _⟩ := h; exact ⟨_, e, trivial⟩
  | ot kvs => obtain ⟨vs, e, _⟩ := h; exact ⟨_, e, trivial⟩
  | oi n fs => obtain ⟨C, dx, vs, _, e, _⟩ := h; exact ⟨_, e, trivial⟩
theorem ObAt.move {K : PySem.W.Frag} {Z Z' H H' : Hp} {a : Addr} {o : OD} (h : ObAt K Z H a o) (z : Same Z Z') (e : H' a = H a) : ObAt K Z' H' a o := by
  cases o with
  | ol xs => obtain ⟨vs, q, r⟩ := h; exact ⟨vs, e.trans q, r.mono z⟩
  | od kvs => obtain ⟨vs, q, k, r⟩ := h; exact ⟨vs, e.trans q, k, r.mono z⟩
  | ot kvs => obtain ⟨vs, q, k, r⟩ := h; exact ⟨vs, e.trans q, k, r.mono z⟩
  | oi n fs => obtain ⟨C, dx, vs, c, q, k, r⟩ := h; exact ⟨C, dx, vs, c, e.trans q, k, r.mono z⟩
/-- frozen, it is a datum -/
theorem ObAt.rp {K : PySem.W.Frag} {Z H : Hp} {a : Addr} {o : OD} (h : ObAt K Z H a o) (zH : Same Z H) (hz : Z a = H a) : Rp K Z (.ref a) (odD o) := by
  cases o with
  | ol xs => obtain ⟨vs, q, r⟩ := h; exact .lst (hz.trans q) r
  | od kvs =>
    obtain ⟨vs, q, k, r⟩ := h
    have e : (kvs.map fun p => kD p.1) = vs.map fun p => kD p.1 := by
      have := congrArg (List.map kD) k
      simpa [List.map_map, Function.comp_def] using this.symm
    show Rp K Z (.ref a) (.dict ((kvs.map fun p => kD p.1).zip (kvs.map (·.2))))
    rw [e]
    exact .dic (hz.trans q) r
  | ot kvs =>
    obtain ⟨vs, q, k, r⟩ := h
    have e : (kvs.map fun p => PyData.tuple (p.1.map kD)) = vs.map fun p => PyData.tuple (p.1.map kD) := by
      have := congrArg (List.map fun (l : List Key) => PyData.tuple (l.map kD)) k
      simpa [List.map_map, Function.comp_def] using this.symm
    show Rp K Z (.ref a) (.dict ((kvs.map fun p => PyData.tuple (p.1.map kD)).zip (kvs.map (·.2))))
    rw [e]
    exact .dit (hz.trans q) r
  | oi n fs =>
    obtain ⟨C, dx, vs, c, q, k, r⟩ := h
    exact .ins c (hz.trans q) k r

/-- the fixed part: what was frozen at the entry, the heap at the entry, what must stay, the lent objects -/
structure Fx where
  F0 : Hp
  H0 : Hp
  Fr : Hp
  ino : Nat → Option Addr

/-- slot i holds the own object at a -/
def AtS (ρ : Nv) (σ : St) (i : Nat) (a : Addr) : Prop := (∃ o io, ρ[i]? = some (EV.own o io)) ∧ σ[i]? = some (some (V.ref a))

def ScA (K : PySem.W.Frag) (Z : Hp) (a : Addr) : SlP → Prop
  | .ints ns => SqL K Z a (ns.map V.int)
  | .cls n => IsC K n a
theorem ScA.mono {K : PySem.W.Frag} {Z Z' : Hp} (z : Same Z Z') {a : Addr} : ∀ {p : SlP}, ScA K Z a p → ScA K Z' a p
  | .ints _, h => z.seq h
  | .cls _, h => h
structure Rl (K : PySem.W.Frag) (Φ : Fx) (Z : Hp) (σ : St) (H : Hp) (ρ : Nv) : Prop where
  len : ρ.length = σ.length
  zH : Same Z H
  zN : ∀ a o, Z a = some o → (∀ xs, o ≠ .tup xs) → Φ.F0 a = some o ∨ (Φ.H0 a = none ∧ Φ.Fr a = none)
  f0 : ∀ a, Φ.H0 a = none → Φ.F0 a = none
  fr : Same Φ.Fr H
  dom : ∀ a, H a = none → Φ.H0 a = none
  inj : ∀ i j a, AtS ρ σ i a → AtS ρ σ j a → i = j
  sep : ∀ i a, AtS ρ σ i a → Z a = none ∧ Φ.Fr a = none
  dat : ∀ (i : Nat) (x : PyData), ρ[i]? = some (EV.d x) → ∃ v, σ[i]? = some (some v) ∧ Rp K Z v x
  scr : ∀ (i : Nat) (p : SlP), ρ[i]? = some (EV.scr p) → ∃ a, σ[i]? = some (some (V.ref a)) ∧ ScA K Z a p
  own : ∀ (i : Nat) (o : OD) (io : Bool), ρ[i]? = some (EV.own o io) → ∃ a, σ[i]? = some (some (V.ref a)) ∧ ObAt K Z H a o
  loc : ∀ (i : Nat) (o : OD) (a : Addr), ρ[i]? = some (EV.own o false) → σ[i]? = some (some (V.ref a)) → Φ.H0 a = none
  ino : ∀ (i : Nat) (a : Addr), Φ.ino i = some a → σ[i]? = some (some (V.ref a)) ∧ ∃ o, ρ[i]? = some (EV.own o true)
  io : ∀ (i : Nat) (o : OD), ρ[i]? = some (EV.own o true) → ∃ a, Φ.ino i = some a

section
variable {K : PySem.W.Frag} {Φ : Fx} {Z : Hp} {σ : St} {H : Hp} {ρ : Nv}
theorem Rl.at_some (R : Rl K Φ Z σ H ρ) {i : Nat} {a : Addr} (h : AtS ρ σ i a) : ∃ u, H a = some u ∧ Mut (some u) := by
  obtain ⟨⟨o, io, e⟩, s⟩ := h
  obtain ⟨b, sb, ob⟩ := R.own i o io e
  rw [s] at sb
  cases sb
  exact ob.some
theorem same_new {H : Hp} {p : Addr} {o : HO} (h : H p = none) : Same H (upd H p o) := fun b u e => by
  rw [upd_ne (ne_of_none e h)]
  exact e
theorem same_both {Z H : Hp} {p : Addr} {o : HO} (h : Same Z H) : Same (upd Z p o) (upd H p o) := fun b u e => by
  by_cases hb : b = p
  · subst hb
    rw [upd_same] at e ⊢
    exact e
  · rw [upd_ne hb] at e ⊢
    exact h b u e
/-- a new frozen object -/
theorem Rl.fresh (R : Rl K Φ Z σ H ρ) {p : Addr} {o : HO} (h : H p = none) : Same Z (upd Z p o) ∧ Rl K Φ (upd Z p o) σ (upd H p o) ρ := by
  have zp : Z p = none := R.zH.free h
  have zs : Same Z (upd Z p o) := same_new zp
  refine ⟨zs, R.len, same_both R.zH, ?_, R.f0, R.fr.trans (same_new h), ?_, R.inj, ?_, ?_, ?_, ?_, R.loc, R.ino, R.io⟩
  · intro a u e nt
    by_cases ha : a = p
    · subst ha; exact .inr ⟨R.dom _ h, R.fr.free h⟩
    · rw [upd_ne ha] at e; exact R.zN a u e nt
  · intro a e
    by_cases ha : a = p
    · subst ha; exact R.dom _ h
    · rw [upd_ne ha] at e; exact R.dom a e
  · intro i a hi
    obtain ⟨u, e, _⟩ := R.at_some hi
    rw [upd_ne (ne_of_none e h)]
    exact R.sep i a hi
  · intro i x e
    obtain ⟨v, q, r⟩ := R.dat i x e
    exact ⟨v, q, r.mono zs⟩
  · intro i ns e
    obtain ⟨a, q, r⟩ := R.scr i ns e
    exact ⟨a, q, r.mono zs⟩
  · intro i o' io e
    obtain ⟨a, q, ob⟩ := R.own i o' io e
    obtain ⟨u, eu, _⟩ := ob.some
    exact ⟨a, q, ob.move zs (upd_ne (ne_of_none eu h))⟩
/-- a new object that nobody holds yet, not frozen -/
theorem Rl.laid (R : Rl K Φ Z σ H ρ) {p : Addr} {o : HO} (h : H p = none) : Rl K Φ Z σ (upd H p o) ρ := by
  refine ⟨R.len, R.zH.trans (same_new h), R.zN, R.f0, R.fr.trans (same_new h), ?_, R.inj, R.sep, R.dat, R.scr, ?_, R.loc, R.ino, R.io⟩
  · intro a e
    by_cases ha : a = p
    · subst ha; exact R.dom _ h
    · rw [upd_ne ha] at e; exact R.dom a e
  · intro i o' io e
    obtain ⟨a, q, ob⟩ := R.own i o' io e
    obtain ⟨u, eu, _⟩ := ob.some
    exact ⟨a, q, ob.move (Same.refl Z) (upd_ne (ne_of_none eu h))⟩
/-- freeze an object that no slot holds -/
theorem Rl.freeze (R : Rl K Φ Z σ H ρ) {a : Addr} {o : HO} (h : H a = some o) (hz : Z a = none) (h0 : Φ.H0 a = none) (hf : Φ.Fr a = none) (hn : ∀ i, ¬ AtS ρ σ i a) : Same Z (upd Z a o) ∧ Rl K Φ (upd Z a o) σ H ρ := by
  have zs : Same Z (upd Z a o) := same_new hz
  have zH : Same (upd Z a o) H := fun b u e => by
    by_cases hb : b = a
    · subst hb; rw [upd_same] at e; rw [h]; exact e
    · rw [upd_ne hb] at e; exact R.zH b u e
  refine ⟨zs, R.len, zH, ?_, R.f0, R.fr, R.dom, R.inj, ?_, ?_, ?_, ?_, R.loc, R.ino, R.io⟩
  · intro b u e nt
    by_cases hb : b = a
    · subst hb; exact .inr ⟨h0, hf⟩
    · rw [upd_ne hb] at e; exact R.zN b u e nt
  · intro i b hi
    have hb : b ≠ a := fun e => hn i (e ▸ hi)
    rw [upd_ne hb]
    exact R.sep i b hi
  · intro i x e
    obtain ⟨v, q, r⟩ := R.dat i x e
    exact ⟨v, q, r.mono zs⟩
  · intro i ns e
    obtain ⟨b, q, r⟩ := R.scr i ns e
    exact ⟨b, q, r.mono zs⟩
  · intro i o' io e
    obtain ⟨b, q, ob⟩ := R.own i o' io e
    exact ⟨b, q, ob.move zs rfl⟩
/-- a slot is stored with a datum -/
theorem Rl.store (R : Rl K Φ Z σ H ρ) {i : Nat} {v : V} {x : PyData} (hi : i < ρ.length) (hn : ∀ o, ρ[i]? ≠ some (EV.own o true)) (r : Rp K Z v x) : Rl K Φ Z (σ.set i (some v)) H (ρ.set i (EV.d x)) := by
  have hs : i < σ.length := R.len ▸ hi
  have at_ : ∀ j a, AtS (ρ.set i (EV.d x)) (σ.set i (some v)) j a → j ≠ i ∧ AtS ρ σ j a := by
    rintro j a ⟨⟨o, io, e⟩, s⟩
    by_cases hj : i = j
    · subst hj
      rw [List.getElem?_set_self hi] at e
      cases e
    · rw [List.getElem?_set_ne hj] at e s
      exact ⟨Ne.symm hj, ⟨o, io, e⟩, s⟩
  refine ⟨by simp [R.len], R.zH, R.zN, R.f0, R.fr, R.dom, ?_, ?_, ?_, ?_, ?_, ?_, ?_, ?_⟩
  · intro j k a h1 h2
    exact R.inj j k a (at_ j a h1).2 (at_ k a h2).2
  · intro j a h
    exact R.sep j a (at_ j a h).2
  · intro j y e
    by_cases hj : i = j
    · subst hj
      rw [List.getElem?_set_self hi] at e
      cases e
      exact ⟨v, List.getElem?_set_self hs, r⟩
    · rw [List.getElem?_set_ne hj] at e ⊢
      exact R.dat j y e
  · intro j ns e
    by_cases hj : i = j
    · subst hj
      rw [List.getElem?_set_self hi] at e
      cases e
    · rw [List.getElem?_set_ne hj] at e ⊢
      exact R.scr j ns e
  · intro j o io e
    by_cases hj : i = j
    · subst hj
      rw [List.getElem?_set_self hi] at e
      cases e
    · rw [List.getElem?_set_ne hj] at e ⊢
      exact R.own j o io e
  · intro j o a e s
    by_cases hj : i = j
    · subst hj
      rw [List.getElem?_set_self hi] at e
      cases e
    · rw [List.getElem?_set_ne hj] at e s
      exact R.loc j o a e s
  · intro j a e
    have hj : i ≠ j := by
      rintro rfl
      obtain ⟨_, o, q⟩ := R.ino i a e
      exact hn o q
    rw [List.getElem?_set_ne hj, List.getElem?_set_ne hj]
    exact R.ino j a e
  · intro j o e
    by_cases hj : i = j
    · subst hj
      rw [List.getElem?_set_self hi] at e
      cases e
    · rw [List.getElem?_set_ne hj] at e
      exact R.io j o e
/-- a slot is stored with a new object of one's own -/
theorem Rl.hold (R : Rl K Φ Z σ H ρ) {i : Nat} {a : Addr} {o : OD} (hi : i < ρ.length) (hn : ∀ o, ρ[i]? ≠ some (EV.own o true)) (ob : ObAt K Z H a o) (hz : Z a = none) (hf : Φ.Fr a = none) (h0 : Φ.H0 a = none)
    (hna : ∀ i, ¬ AtS ρ σ i a) : Rl K Φ Z (σ.set i (some (V.ref a))) H (ρ.set i (EV.own o false)) := by
  have hs : i < σ.length := R.len ▸ hi
  have at_ : ∀ j b, AtS (ρ.set i (EV.own o false)) (σ.set i (some (V.ref a))) j b → (j = i ∧ b = a) ∨ (j ≠ i ∧ AtS ρ σ j b) := by
    rintro j b ⟨⟨o', io, e⟩, s⟩
    by_cases hj : i = j
    · subst hj
      rw [List.getElem?_set_self hs] at s
      cases s
      exact .inl ⟨rfl, rfl⟩
    · rw [List.getElem?_set_ne hj] at e s
      exact .inr ⟨Ne.symm hj, ⟨o', io, e⟩, s⟩
  refine ⟨by simp [R.len], R.zH, R.zN, R.f0, R.fr, R.dom, ?_, ?_, ?_, ?_, ?_, ?_, ?_, ?_⟩
  · intro j k b h1 h2
    rcases at_ j b h1 with ⟨rfl, rfl⟩ | ⟨h3, h4⟩
    · rcases at_ k b h2 with ⟨rfl, _⟩ | ⟨_, h5⟩
      · rfl
      · exact absurd h5 (hna _)
    · rcases at_ k b h2 with ⟨rfl, rfl⟩ | ⟨_, h5⟩
      · exact absurd h4 (hna _)
      · exact R.inj j k b h4 h5
  · intro j b h
    rcases at_ j b h with ⟨rfl, rfl⟩ | ⟨_, h4⟩
    · exact ⟨hz, hf⟩
    · exact R.sep j b h4
  · intro j y e
    by_cases hj : i = j
    · subst hj
      rw [List.getElem?_set_self hi] at e
      cases e
    · rw [List.getElem?_set_ne hj] at e ⊢
      exact R.dat j y e
  · intro j ns e
    by_cases hj : i = j
    · subst hj
      rw [List.getElem?_set_self hi] at e
      cases e
    · rw [List.getElem?_set_ne hj] at e ⊢
      exact R.scr j ns e
  · intro j o' io e
    by_cases hj : i = j
    · subst hj
      rw [List.getElem?_set_self hi] at e
      cases e
      exact ⟨a, List.getElem?_set_self hs, ob⟩
    · rw [List.getElem?_set_ne hj] at e ⊢
      exact R.own j o' io e
  · intro j o' b e s
    by_cases hj : i = j
    · subst hj
      rw [List.getElem?_set_self hs] at s
      cases s
      exact h0
    · rw [List.getElem?_set_ne hj] at e s
      exact R.loc j o' b e s
  · intro j b e
    have hj : i ≠ j := by
      rintro rfl
      obtain ⟨_, o, q⟩ := R.ino i b e
      exact hn o q
    rw [List.getElem?_set_ne hj, List.getElem?_set_ne hj]
    exact R.ino j b e
  · intro j o' e
    by_cases hj : i = j
    · subst hj
      rw [List.getElem?_set_self hi] at e
      cases e
    · rw [List.getElem?_set_ne hj] at e
      exact R.io j o' e
/-- an own object is read as a datum: it is frozen -/
theorem Rl.read (R : Rl K Φ Z σ H ρ) {i : Nat} {o : OD} (e : ρ[i]? = some (EV.own o false)) : ∃ a Z', σ[i]? = some (some (V.ref a)) ∧ Same Z Z' ∧ Rl K Φ Z' σ H (ρ.set i (EV.d (odD o))) ∧ Rp K Z' (.ref a) (odD o) := by
  obtain ⟨a, s, ob⟩ := R.own i o false e
  obtain ⟨u, hu, _⟩ := ob.some
  have ai : AtS ρ σ i a := ⟨⟨o, false, e⟩, s⟩
  have hz := (R.sep i a ai).1
  have hi : i < ρ.length := (List.getElem?_eq_some_iff.mp e).1
  have hs : i < σ.length := R.len ▸ hi
  have ss : σ.set i (some (V.ref a)) = σ := by
    apply List.ext_getElem?
    intro j
    by_cases hj : i = j
    · subst hj; rw [List.getElem?_set_self hs, s]
    · rw [List.getElem?_set_ne hj]
  -- first forget the slot
  have R1 : Rl K Φ Z σ H (ρ.set i EV.un) := by
    have at_ : ∀ j b, AtS (ρ.set i EV.un) σ j b → j ≠ i ∧ AtS ρ σ j b := by
      rintro j b ⟨⟨o', io, e'⟩, s'⟩
      by_cases hj : i = j
      · subst hj
        rw [List.getElem?_set_self hi] at e'
        cases e'
      · rw [List.getElem?_set_ne hj] at e'
        exact ⟨Ne.symm hj, ⟨o', io, e'⟩, s'⟩
    refine ⟨by simp [R.len], R.zH, R.zN, R.f0, R.fr, R.dom, fun j k b h1 h2 => R.inj j k b (at_ j b h1).2 (at_ k b h2).2, fun j b h => R.sep j b (at_ j b h).2, ?_, ?_, ?_, ?_, ?_, ?_⟩
    · intro j y q
      by_cases hj : i = j
      · subst hj; rw [List.getElem?_set_self hi] at q; cases q
      · rw [List.getElem?_set_ne hj] at q; exact R.dat j y q
    · intro j ns q
      by_cases hj : i = j
      · subst hj; rw [List.getElem?_set_self hi] at q; cases q
      · rw [List.getElem?_set_ne hj] at q; exact R.scr j ns q
    · intro j o' io q
      by_cases hj : i = j
      · subst hj; rw [List.getElem?_set_self hi] at q; cases q
      · rw [List.getElem?_set_ne hj] at q; exact R.own j o' io q
    · intro j o' b q s'
      by_cases hj : i = j
      · subst hj; rw [List.getElem?_set_self hi] at q; cases q
      · rw [List.getElem?_set_ne hj] at q; exact R.loc j o' b q s'
    · intro j b q
      obtain ⟨q1, o', q2⟩ := R.ino j b q
      have hj : i ≠ j := by
        rintro rfl
        rw [e] at q2
        cases q2
      rw [List.getElem?_set_ne hj]
      exact ⟨q1, o', q2⟩
    · intro j o' q
      by_cases hj : i = j
      · subst hj; rw [List.getElem?_set_self hi] at q; cases q
      · rw [List.getElem?_set_ne hj] at q; exact R.io j o' q
  have hna : ∀ j, ¬ AtS (ρ.set i EV.un) σ j a := by
    rintro j ⟨⟨o', io, e'⟩, s'⟩
    by_cases hj : i = j
    · subst hj
      rw [List.getElem?_set_self hi] at e'
      cases e'
    · rw [List.getElem?_set_ne hj] at e'
      exact hj (R.inj i j a ai ⟨⟨o', io, e'⟩, s'⟩)
  obtain ⟨zs, R2⟩ := R1.freeze hu hz (R.loc i o a e s) (R.sep i a ai).2 hna
  have rp : Rp K (upd Z a u) (.ref a) (odD o) := (ob.move zs rfl).rp R2.zH (by rw [upd_same, hu])
  have R3 := R2.store (i := i) (by simpa using hi) (fun o' q => by rw [List.getElem?_set_self hi] at q; cases q) rp
  rw [ss, List.set_set] at R3
  exact ⟨a, _, s, zs, R3, rp⟩
/-- an own object is changed -/
theorem Rl.mutate (R : Rl K Φ Z σ H ρ) {i : Nat} {o o' : OD} {io : Bool} {a : Addr} {u : HO} (e : ρ[i]? = some (EV.own o io)) (s : σ[i]? = some (some (V.ref a))) (ob : ObAt K Z (upd H a u) a o') : Rl K Φ Z σ (upd H a u) (ρ.set i (EV.own o' io)) := by
  have hi : i < ρ.length := (List.getElem?_eq_some_iff.mp e).1
  have ai : AtS ρ σ i a := ⟨⟨o, io, e⟩, s⟩
  obtain ⟨hz, hf⟩ := R.sep i a ai
  obtain ⟨w, hw, _⟩ := R.at_some ai
  have at_ : ∀ j b, AtS (ρ.set i (EV.own o' io)) σ j b → AtS ρ σ j b := by
    rintro j b ⟨⟨o2, io2, e2⟩, s2⟩
    by_cases hj : i = j
    · subst hj
      exact ⟨⟨o, io, e⟩, s2⟩
    · rw [List.getElem?_set_ne hj] at e2
      exact ⟨⟨o2, io2, e2⟩, s2⟩
  refine ⟨by simp [R.len], ?_, R.zN, R.f0, ?_, ?_, fun j k b h1 h2 => R.inj j k b (at_ j b h1) (at_ k b h2), fun j b h => R.sep j b (at_ j b h), ?_, ?_, ?_, ?_, ?_, ?_⟩
  · intro b v q
    rw [upd_ne (ne_of_none q hz)]
    exact R.zH b v q
  · intro b v q
    rw [upd_ne (ne_of_none q hf)]
    exact R.fr b v q
  · intro b q
    by_cases hb : b = a
    · subst hb; rw [upd_same] at q; cases q
    · rw [upd_ne hb] at q; exact R.dom b q
  · intro j y q
    by_cases hj : i = j
    · subst hj; rw [List.getElem?_set_self hi] at q; cases q
    · rw [List.getElem?_set_ne hj] at q; exact R.dat j y q
  · intro j ns q
    by_cases hj : i = j
    · subst hj; rw [List.getElem?_set_self hi] at q; cases q
    · rw [List.getElem?_set_ne hj] at q; exact R.scr j ns q
  · intro j o2 io2 q
    by_cases hj : i = j
    · subst hj
      rw [List.getElem?_set_self hi] at q
      cases q
      exact ⟨a, s, ob⟩
    · rw [List.getElem?_set_ne hj] at q
      obtain ⟨b, sb, ob2⟩ := R.own j o2 io2 q
      have hb : b ≠ a := by
        rintro rfl
        exact hj (R.inj i j b ai ⟨⟨o2, io2, q⟩, sb⟩)
      exact ⟨b, sb, ob2.move (Same.refl Z) (upd_ne hb)⟩
  · intro j o2 b q s2
    by_cases hj : i = j
    · subst hj
      rw [List.getElem?_set_self hi] at q
      cases q
      exact R.loc i o b e s2
    · rw [List.getElem?_set_ne hj] at q
      exact R.loc j o2 b q s2
  · intro j b q
    obtain ⟨q1, o2, q2⟩ := R.ino j b q
    refine ⟨q1, ?_⟩
    by_cases hj : i = j
    · subst hj
      rw [e] at q2
      cases q2
      exact ⟨o', List.getElem?_set_self hi⟩
    · rw [List.getElem?_set_ne hj]
      exact ⟨o2, q2⟩
  · intro j o2 q
    by_cases hj : i = j
    · subst hj
      rw [List.getElem?_set_self hi] at q
      cases q
      exact R.io i o e
    · rw [List.getElem?_set_ne hj] at q
      exact R.io j o2 q
end
end DL
set_option maxRecDepth 100000
set_option maxHeartbeats 2000000
namespace DL
open PySem L2

abbrev XE := Nv → Option (PyData × Nv)
abbrev XT := Nv → Option (Bool × Nv)
abbrev XB := Nv → Option PyData
/-- an argument: a datum, or the object (the script) that slot i holds -/
inductive AV where
  | v (d : PyData)
  | s (i : Nat)
abbrev XA := Nv → Option (List AV × Nv)

/-- a value that is looked at for a moment: frozen, or an own object whose parts are frozen -/
def Rb (K : PySem.W.Frag) (Z H : Hp) (v : V) (d : PyData) : Prop :=
  Rp K Z v d ∨ ∃ a o, v = .ref a ∧ ObAt K Z H a o ∧ d = odD o
inductive AvA (K : PySem.W.Frag) (Z : Hp) (σ : St) : List V → List AV → Prop
  | nil : AvA K Z σ [] []
  | v {x : V} {xs : List V} {d : PyData} {as : List AV} : Rp K Z x d → AvA K Z σ xs as → AvA K Z σ (x :: xs) (.v d :: as)
  | s {x : V} {xs : List V} {i : Nat} {as : List AV} : σ[i]? = some (some x) → AvA K Z σ xs as → AvA K Z σ (x :: xs) (.s i :: as)
theorem AvA.mono {K : PySem.W.Frag} {Z Z' : Hp} {σ : St} (z : Same Z Z') : ∀ {xs : List V} {as : List AV}, AvA K Z σ xs as → AvA K Z' σ xs as
  | _, _, .nil => .nil
  | _, _, .v r t => .v (r.mono z) (AvA.mono z t)
  | _, _, .s r t => .s r (AvA.mono z t)

/-- the reading t meets the function f -/
def ME (K : PySem.W.Frag) (t : TE) (f : XE) : Prop := ∀ (Φ : Fx) (Z : Hp) (σ : St) (H : Hp) (ρ : Nv) (d : PyData) (ρ' : Nv), Rl K Φ Z σ H ρ → f ρ = some (d, ρ') →
  ∀ Q : VK, (∀ v H' Z', Same Z Z' → Rl K Φ Z' σ H' ρ' → Rp K Z' v d → Q v H') → t σ H Q
/-- .. with a value for a moment -/
def MO (K : PySem.W.Frag) (t : TE) (f : XE) : Prop := ∀ (Φ : Fx) (Z : Hp) (σ : St) (H : Hp) (ρ : Nv) (d : PyData) (ρ' : Nv), Rl K Φ Z σ H ρ → f ρ = some (d, ρ') →
  ∀ Q : VK, (∀ v H' Z', Same Z Z' → Rl K Φ Z' σ H' ρ' → Rb K Z' H' v d → Q v H') → t σ H Q
/-- .. nothing changes -/
def MB (K : PySem.W.Frag) (t : TE) (f : XB) : Prop := ∀ (Φ : Fx) (Z : Hp) (σ : St) (H : Hp) (ρ : Nv) (d : PyData), Rl K Φ Z σ H ρ → f ρ = some d →
  ∀ Q : VK, (∀ v, Rb K Z H v d → Q v H) → t σ H Q
def MT (K : PySem.W.Frag) (t : TT) (f : XT) : Prop := ∀ (Φ : Fx) (Z : Hp) (σ : St) (H : Hp) (ρ : Nv) (d : Bool) (ρ' : Nv), Rl K Φ Z σ H ρ → f ρ = some (d, ρ') →
  ∀ Q : Bool → Hp → Prop, (∀ H' Z', Same Z Z' → Rl K Φ Z' σ H' ρ' → Q d H') → t σ H Q
def MA (K : PySem.W.Frag) (t : TA) (f : XA) : Prop := ∀ (Φ : Fx) (Z : Hp) (σ : St) (H : Hp) (ρ : Nv) (as : List AV) (ρ' : Nv), Rl K Φ Z σ H ρ → f ρ = some (as, ρ') →
  ∀ Q : List V → Hp → Prop, (∀ vs H' Z', Same Z Z' → Rl K Φ Z' σ H' ρ' → AvA K Z' σ vs as → Q vs H') → t σ H Q

def ED (X : Cx) (e : Expr) (f : XE) : Prop := ∃ t, PE X e t ∧ ME X.K t f
def OD' (X : Cx) (e : Expr) (f : XE) : Prop := ∃ t, PE X e t ∧ MO X.K t f
def BD (X : Cx) (e : Expr) (f : XB) : Prop := ∃ t, PE X e t ∧ MB X.K t f
def TD (X : Cx) (e : Expr) (f : XT) : Prop := ∃ t, PT X e t ∧ MT X.K t f
def WD (X : Cx) (e : Expr) (f : XT) : Prop := ∃ t, PW X e t ∧ MT X.K t f
def AD (X : Cx) (es : List Expr) (f : XA) : Prop := ∃ t, PA X es t ∧ MA X.K t f

/-- a pure function as one that hands on the environment -/
def xB (f : XB) : XE := fun ρ => (f ρ).map fun d => (d, ρ)

section
variable {X : Cx} {e : Expr} {f : XE} {g : XB}
theorem ED.od (h : ED X e f) : OD' X e f := by
  obtain ⟨t, p, m⟩ := h
  exact ⟨t, p, fun Φ Z σ H ρ d ρ' R q Q k => m Φ Z σ H ρ d ρ' R q Q fun v H' Z' z R' r => k v H' Z' z R' (.inl r)⟩
theorem BD.od (h : BD X e g) : OD' X e (xB g) := by
  obtain ⟨t, p, m⟩ := h
  refine ⟨t, p, fun Φ Z σ H ρ d ρ' R q Q k => ?_⟩
  unfold xB at q
  cases hg : g ρ with
  | none => rw [hg] at q; cases q
  | some d' =>
    rw [hg] at q
    cases q
    exact m Φ Z σ H ρ d R hg Q fun v r => k v H Z (Same.refl Z) R r
end

def bVar (i : Nat) : XB := fun ρ => match ρ[i]? with
  | some (.d x) => some x
  | some (.own o _) => some (odD o)
  | _ => none
def xVar (i : Nat) : XE := fun ρ => match ρ[i]? with
  | some (.d x) => some (x, ρ)
  | some (.own o false) => some (odD o, ρ.set i (.d (odD o)))
  | _ => none
def xC (d : PyData) : XE := fun ρ => some (d, ρ)
def bC (d : PyData) : XB := fun _ => some d
section
variable {X : Cx} {pos : Pos}
theorem ed_var (i : Nat) {x : Str} (hN : X.N[i]? = some x := by rfl) (hv : Vis X.env.scope x := by first | exact Or.inl rfl | exact Or.inr (Or.inl rfl) | exact Or.inr (Or.inr rfl)) (hd : (x == ("__debug__" : Str)) = false := by decide)
    (hcd : (x == ("__classdict__" : Str)) = false := by decide) : ED X (.Name x pos) (xVar i) := by
  refine ⟨tVar i, pe_var hN hv hd hcd, fun Φ Z σ H ρ d ρ' R q Q k => ?_⟩
  unfold xVar at q
  split at q
  · rename_i x' e
    cases q
    obtain ⟨v, s, r⟩ := R.dat _ _ e
    exact ⟨v, s, k v H Z (Same.refl Z) R r⟩
  · rename_i o e
    cases q
    obtain ⟨a, Z', s, z, R', r⟩ := R.read e
    exact ⟨_, s, k _ H Z' z R' r⟩
  · cases q
theorem ed_c {e : Expr} {v : V} {d : PyData} (h : PE X e (tC v)) (r : ∀ Z : Hp, Rp X.K Z v d) : ED X e (xC d) :=
  ⟨tC v, h, fun Φ Z σ H ρ d' ρ' R q Q k => by
    cases q
    exact k v H Z (Same.refl Z) R (r Z)⟩
theorem ed_int {i : Int} {j} : ED X (.Constant (.int i) j pos) (xC (.int i)) := ed_c pe_int fun _ => .int i
theorem ed_bl {b : Bool} {j} : ED X (.Constant (.bool b) j pos) (xC (.bool b)) := ed_c pe_bl fun _ => .bl b
theorem ed_non {j} : ED X (.Constant .none j pos) (xC .none) := ed_c pe_non fun _ => .non
theorem ed_str {x : Str} {j} : ED X (.Constant (.str x) j pos) (xC (.str x)) := ed_c pe_str fun _ => .str x
/-- a constant of the module -/
theorem ed_glob {x : Str} {v : V} {d : PyData} (h : ∃ u, X.mg x = some u ∧ RelV v u) (r : ∀ Z : Hp, Rp X.K Z v d) (hg : Gl X x := by rfl) (hd : (x == ("__debug__" : Str)) = false := by decide) : ED X (.Name x pos) (xC d) := by
  obtain ⟨u, hm, hu⟩ := h
  exact ed_c (pe_glob hg hm hu hd) r
end

section
variable {K : PySem.W.Frag} {Z H : Hp} {v : V}
theorem Rb.int {i : Int} (h : Rb K Z H v (.int i)) : v = .int i := by
  rcases h with h | ⟨a, o, _, _, e⟩
  · cases h; rfl
  · cases o <;> cases e
theorem Rb.bl {i : Bool} (h : Rb K Z H v (.bool i)) : v = .bl i := by
  rcases h with h | ⟨a, o, _, _, e⟩
  · cases h; rfl
  · cases o <;> cases e
theorem Rb.str {i : Str} (h : Rb K Z H v (.str i)) : v = .str i := by
  rcases h with h | ⟨a, o, _, _, e⟩
  · cases h; rfl
  · cases o <;> cases e
theorem Rb.non (h : Rb K Z H v .none) : v = .non := by
  rcases h with h | ⟨a, o, _, _, e⟩
  · cases h; rfl
  · cases o <;> cases e
theorem Rb.lst {ds : List PyData} (zH : Same Z H) (h : Rb K Z H v (.list ds)) : ∃ a xs, v = .ref a ∧ H a = some (.lst xs) ∧ RpA K Z xs ds := by
  rcases h with h | ⟨a, o, e1, ob, e⟩
  · cases h with
    | lst h r => exact ⟨_, _, rfl, zH _ _ h, r⟩
  · cases o with
    | ol xs =>
      cases e
      obtain ⟨vs, q, r⟩ := ob
      exact ⟨a, vs, e1, q, r⟩
    | od _ => cases e
    | ot _ => cases e
    | oi _ _ => cases e
theorem Rb.tup {ds : List PyData} (zH : Same Z H) (h : Rb K Z H v (.tuple ds)) : ∃ a xs, v = .ref a ∧ SqT K H a xs ∧ RpA K Z xs ds := by
  rcases h with h | ⟨a, o, e1, ob, e⟩
  · cases h with
    | tup h r => exact ⟨_, _, rfl, SqT.of (zH _ _ h), r⟩
    | tuk h _ r => exact ⟨_, _, rfl, sqT_mono zH h, r⟩
  · cases o <;> cases e
theorem Rb.dict {ds : List (PyData × PyData)} (zH : Same Z H) (h : Rb K Z H v (.dict ds)) :
    (∃ a, v = .ref a ∧ isI (.dict ds) = false ∧ ((∃ kvs, H a = some (.dK kvs)) ∨ ∃ kvs, H a = some (.dT kvs))) ∨ (∃ a n C dx vs, v = .ref a ∧ (isI (.dict ds) = true ∧ ∀ es, PyData.dict ds ≠ ptD es) ∧ IsC K n C ∧ H a = some (.ins C dx vs)) ∨ (∃ a o xs es, v = .ref a ∧ PyData.dict ds = ptD es ∧ H a = some (.frz o (.tup xs))) := by
  have nk : ∀ (ks : List Key) (ds : List PyData), isI (.dict ((ks.map kD).zip ds)) = false := fun ks ds => by
    cases ks with
    | nil => rfl
    | cons k ks => cases ds with
      | nil => rfl
      | cons d ds => cases k <;> rfl
  have nt : ∀ (ks : List (List Key)) (ds : List PyData), isI (.dict ((ks.map fun k => PyData.tuple (k.map kD)).zip ds)) = false := fun ks ds => by
    cases ks with
    | nil => rfl
    | cons k ks => cases ds with
      | nil => rfl
      | cons d ds => rfl
  rcases h with h | ⟨a, o, e1, ob, e⟩
  · generalize ed : PyData.dict ds = dd at h
    cases h with
    | dic h r =>
      rename_i a kvs ds'
      refine .inl ⟨_, rfl, ?_, .inl ⟨_, zH _ _ h⟩⟩
      have := nk (kvs.map (·.1)) ds'
      rwa [List.map_map] at this
    | dit h r =>
      rename_i a kvs ds'
      refine .inl ⟨_, rfl, ?_, .inr ⟨_, zH _ _ h⟩⟩
      have := nt (kvs.map (·.1)) ds'
      rwa [List.map_map] at this
    | ins c h k r => exact .inr (.inl ⟨_, _, _, _, _, rfl, ⟨by first | rfl | (rw [ed]; rfl), fun es e => by first | (cases e; done) | (rw [ed] at e; cases e)⟩, c, zH _ _ h⟩)
    | ptu h _ _ => exact .inr (.inr ⟨_, _, _, _, rfl, by first | rfl | exact ed, zH _ _ h⟩)
    | _ => cases ed
  · cases o with
    | ol xs => cases e
    | od kvs =>
      obtain ⟨vs, q, _⟩ := ob
      refine .inl ⟨a, e1, ?_, .inl ⟨_, q⟩⟩
      rw [e]
      have := nk (kvs.map (·.1)) (kvs.map (·.2))
      rwa [List.map_map] at this
    | ot kvs =>
      obtain ⟨vs, q, _⟩ := ob
      refine .inl ⟨a, e1, ?_, .inr ⟨_, q⟩⟩
      rw [e]
      have := nt (kvs.map (·.1)) (kvs.map (·.2))
      rwa [List.map_map] at this
    | oi n fs =>
      obtain ⟨C, dx, vs, c, q, _⟩ := ob
      exact .inr (.inl ⟨a, n, C, dx, vs, e1, ⟨by rw [e]; rfl, fun es e2 => by rw [e] at e2; cases e2⟩, c, q⟩)
/-- as seen in the whole heap -/
theorem Rb.rp {d : PyData} (zH : Same Z H) (h : Rb K Z H v d) : Rp K H v d := by
  rcases h with h | ⟨a, o, rfl, ob, rfl⟩
  · exact h.mono zH
  · exact (ob.move zH rfl).rp (Same.refl H) rfl
end

def R2M (K : PySem.W.Frag) (r : R2) (g : PyData → PyData → Option PyData) : Prop := ∀ (Φ : Fx) (Z : Hp) (σ : St) (H : Hp) (ρ : Nv) (x y : V) (d1 d2 z : PyData), Rl K Φ Z σ H ρ → Rb K Z H x d1 → Rb K Z H y d2 → g d1 d2 = some z →
  ∀ Q : VK, (∀ v H' Z', Same Z Z' → Rl K Φ Z' σ H' ρ → Rp K Z' v z → Q v H') → r x y H Q
def x2 (g : PyData → PyData → Option PyData) (a b : XE) : XE := fun ρ => (a ρ).bind fun p => (b p.2).bind fun q => (g p.1 q.1).map fun z => (z, q.2)
def b2 (g : PyData → PyData → Option PyData) (a b : XB) : XB := fun ρ => (a ρ).bind fun p => (b ρ).bind fun q => g p q
theorem R2M.or {K : PySem.W.Frag} {r r' : R2} {g g' : PyData → PyData → Option PyData} (h : R2M K r g) (h' : R2M K r' g') : R2M K (fun x y H Q => r x y H Q ∨ r' x y H Q) (fun x y => (g x y).or (g' x y)) := by
  intro Φ Z σ H ρ x y d1 d2 z R rx ry e Q k
  replace e : (g d1 d2).or (g' d1 d2) = some z := e
  cases hg : g d1 d2 with
  | some z' =>
    rw [hg] at e
    cases e
    exact .inl (h Φ Z σ H ρ x y d1 d2 z R rx ry hg Q k)
  | none =>
    rw [hg] at e
    exact .inr (h' Φ Z σ H ρ x y d1 d2 z R rx ry e Q k)
theorem me_op {K : PySem.W.Frag} {r : R2} {g : PyData → PyData → Option PyData} {ta tb : TE} {a b : XE} (hr : R2M K r g) (ha : ME K ta a) (hb : MO K tb b) : ME K (tOp r ta tb) (x2 g a b) := by
  intro Φ Z σ H ρ d ρ' R q Q k
  unfold x2 at q
  cases e1 : a ρ with
  | none => rw [e1] at q; cases q
  | some p =>
    rw [e1] at q
    cases e2 : b p.2 with
    | none => rw [Option.bind_some, e2] at q; cases q
    | some s =>
      rw [Option.bind_some, e2, Option.bind_some] at q
      cases e3 : g p.1 s.1 with
      | none => rw [e3] at q; cases q
      | some z =>
        rw [e3] at q
        cases q
        refine ha Φ Z σ H ρ p.1 p.2 R e1 _ fun x H1 Z1 z1 R1 r1 => ?_
        refine hb Φ Z1 σ H1 p.2 s.1 s.2 R1 e2 _ fun y H2 Z2 z2 R2 r2 => ?_
        exact hr Φ Z2 σ H2 s.2 x y p.1 s.1 _ R2 (.inl (r1.mono z2)) r2 e3 Q fun v H' Z' z' R' r' => k v H' Z' ((z1.trans z2).trans z') R' r'
section
variable {X : Cx} {a b : Expr} {fa fb : XE} {ga gb : XB} {g : PyData → PyData → Option PyData} {r : R2} {pos : Pos}
theorem ed_bin {op : Operator} (ho : OpR X (binaryOp op) r) (hr : R2M X.K r g) (ha : ED X a fa) (hb : OD' X b fb) : ED X (.BinOp a op b pos) (x2 g fa fb) := by
  obtain ⟨ta, pa, ma⟩ := ha
  obtain ⟨tb, pb, mb⟩ := hb
  exact ⟨_, pe_op ho pa pb, me_op hr ma mb⟩
theorem ed_cmp {op : CmpOp} (ho : OpR X (compareOp op) r) (hr : R2M X.K r g) (ha : ED X a fa) (hb : OD' X b fb) (hm : behindInMarks op b = false := by first | rfl | exact nobehind _ (by decide) (by decide)) : ED X (.Compare a [op] [b] pos) (x2 g fa fb) := by
  obtain ⟨ta, pa, ma⟩ := ha
  obtain ⟨tb, pb, mb⟩ := hb
  exact ⟨_, pe_cmpR ho pa pb hm, me_op hr ma mb⟩
/-- a bool's expression as a test -/
def tst (f : XE) : XT := fun ρ => (f ρ).bind fun p => match p.1 with
  | .bool b => some (b, p.2)
  | _ => none
theorem mt_tst {K : PySem.W.Frag} {t : TE} {f : XE} (h : ME K t f) : MT K (tTest t) (tst f) := by
  intro Φ Z σ H ρ d ρ' R q Q k
  unfold tst at q
  cases e1 : f ρ with
  | none => rw [e1] at q; cases q
  | some p =>
    rw [e1, Option.bind_some] at q
    split at q
    · rename_i b' e
      cases q
      refine h Φ Z σ H ρ p.1 p.2 R e1 _ fun v H1 Z1 z1 R1 r1 => ?_
      rw [e] at r1
      cases r1
      exact ⟨_, rfl, k H1 Z1 z1 R1⟩
    · cases q
theorem td_cmp {op : CmpOp} (ho : OpR X (compareOp op) r) (hr : R2M X.K r g) (ha : ED X a fa) (hb : OD' X b fb) (hm : behindInMarks op b = false := by first | rfl | exact nobehind _ (by decide) (by decide)) : TD X (.Compare a [op] [b] pos) (tst (x2 g fa fb)) := by
  obtain ⟨ta, pa, ma⟩ := ha
  obtain ⟨tb, pb, mb⟩ := hb
  exact ⟨_, pt_cmpR ho pa pb hm, mt_tst (me_op hr ma mb)⟩
end
end DL
set_option maxRecDepth 100000
set_option maxHeartbeats 2000000
namespace DL
open PySem L2

def addD : PyData → PyData → Option PyData
  | .int i, .int j => some (.int (i + j))
  | .bool b, .int j => some (.int ((if b = true then (1 : Int) else 0) + j))
  | .int i, .bool b => some (.int (i + if b = true then (1 : Int) else 0))
  | .str x, .str y => if x.length + y.length ≤ sizeLine then some (.str (x ++ y)) else none
  | .list x, .list y => if x.length + y.length ≤ sizeLine then some (.list (x ++ y)) else none
  | .tuple x, .tuple y => if x.length + y.length ≤ sizeLine then some (.tuple (x ++ y)) else none
  | _, _ => none
def subD : PyData → PyData → Option PyData
  | .int i, .int j => some (.int (i - j))
  | .bool b, .int j => some (.int ((if b = true then (1 : Int) else 0) - j))
  | .int i, .bool b => some (.int (i - if b = true then (1 : Int) else 0))
  | _, _ => none
def mulD : PyData → PyData → Option PyData
  | .int i, .int j => if i.natAbs.log2 + j.natAbs.log2 < 1000000 then some (.int (i * j)) else none
  | .list l, .int k => if -(2 ^ 63) ≤ k ∧ k < 2 ^ 63 ∧ l.length * k.toNat ≤ sizeLine then some (.list (List.replicate k.toNat l).flatten) else none
  | .tuple l, .int k => if l.length ≠ 0 ∧ 2 ≤ k ∧ k ≤ 1000 ∧ l.length ≤ 1000 then some (.tuple (List.replicate k.toNat l).flatten) else none
  | _, _ => none
def fdivD : PyData → PyData → Option PyData
  | .int i, .int j => if 0 < j ∧ j.natAbs.log2 < 9000 then some (.int (i / j)) else if j ≠ 0 ∧ j.natAbs < 1073741824 then some (.int (i.fdiv j)) else none
  | _, _ => none
def modD : PyData → PyData → Option PyData
  | .int i, .int j => if 0 < j then some (.int (i % j)) else if j ≠ 0 then some (.int (i.fmod j)) else none
  | _, _ => none
def powD : PyData → PyData → Option PyData
  | .int i, .int j => if 0 ≤ j ∧ j ≤ 1000000 ∧ i.natAbs < 2 ^ 64 then some (.int (i ^ j.toNat)) else none
  | _, _ => none

theorem addD_shape {x y z : PyData} (h : addD x y = some z) : (∃ i j, x = .int i ∧ y = .int j ∧ z = .int (i + j)) ∨ (∃ i j, x = .str i ∧ y = .str j ∧ i.length + j.length ≤ sizeLine ∧ z = .str (i ++ j)) ∨
    (∃ i j, x = .list i ∧ y = .list j ∧ i.length + j.length ≤ sizeLine ∧ z = .list (i ++ j)) ∨ (∃ i j, x = .tuple i ∧ y = .tuple j ∧ i.length + j.length ≤ sizeLine ∧ z = .tuple (i ++ j)) ∨
    (∃ b j, x = .bool b ∧ y = .int j ∧ z = .int ((if b = true then (1 : Int) else 0) + j)) ∨ ∃ i b, x = .int i ∧ y = .bool b ∧ z = .int (i + if b = true then (1 : Int) else 0) := by
  unfold addD at h
  split at h
  · cases h; exact .inl ⟨_, _, rfl, rfl, rfl⟩
  · cases h; exact .inr (.inr (.inr (.inr (.inl ⟨_, _, rfl, rfl, rfl⟩))))
  · cases h; exact .inr (.inr (.inr (.inr (.inr ⟨_, _, rfl, rfl, rfl⟩))))
  · split at h
    · cases h; exact .inr (.inl ⟨_, _, rfl, rfl, by assumption, rfl⟩)
    · cases h
  · split at h
    · cases h; exact .inr (.inr (.inl ⟨_, _, rfl, rfl, by assumption, rfl⟩))
    · cases h
  · split at h
    · cases h; exact .inr (.inr (.inr (.inl ⟨_, _, rfl, rfl, by assumption, rfl⟩)))
    · cases h
  · cases h

section
variable {K : PySem.W.Frag} {Φ : Fx} {Z : Hp} {σ : St} {H : Hp} {ρ : Nv} {Q : VK} {z : PyData}
/-- a flat answer -/
theorem ends_flat {v : V} (R : Rl K Φ Z σ H ρ) (r : Rp K Z v z) (k : ∀ v H' Z', Same Z Z' → Rl K Φ Z' σ H' ρ → Rp K Z' v z → Q v H') : Q v H := k v H Z (Same.refl Z) R r
/-- a new list, a new tuple -/
theorem ends_lst {vs : List V} {ds : List PyData} (R : Rl K Φ Z σ H ρ) (r : RpA K Z vs ds) (k : ∀ v H' Z', Same Z Z' → Rl K Φ Z' σ H' ρ → Rp K Z' v (.list ds) → Q v H') {p : Addr} (hp : H p = none) : Q (.ref p) (upd H p (.lst vs)) := by
  obtain ⟨z, R'⟩ := R.fresh (o := .lst vs) hp
  exact k _ _ _ z R' (.lst upd_same (r.mono z))
theorem ends_tup {vs : List V} {ds : List PyData} (R : Rl K Φ Z σ H ρ) (r : RpA K Z vs ds) (k : ∀ v H' Z', Same Z Z' → Rl K Φ Z' σ H' ρ → Rp K Z' v (.tuple ds) → Q v H') {p : Addr} (hp : H p = none) : Q (.ref p) (upd H p (.tup vs)) := by
  obtain ⟨z, R'⟩ := R.fresh (o := .tup vs) hp
  exact k _ _ _ z R' (.tup upd_same (r.mono z))
/-- a tuple that is looked at is frozen -/
theorem Rb.tupR {v : V} {ds : List PyData} (h : Rb K Z H v (.tuple ds)) : Rp K Z v (.tuple ds) := by
  rcases h with h | ⟨a, o, e1, ob, e⟩
  · exact h
  · cases o <;> cases e
end
theorem RpA.nil_iff {K : PySem.W.Frag} {Z : Hp} {vs : List V} {ds : List PyData} (r : RpA K Z vs ds) : vs = [] ↔ ds = [] := by
  constructor
  · rintro rfl; cases r; rfl
  · rintro rfl; cases r; rfl

def rBI (g : Int → Int → V) : R2 := fun x y H Q => ∃ b j, x = .bl b ∧ y = .int j ∧ Q (g (if b = true then (1 : Int) else 0) j) H
def rIB (g : Int → Int → V) : R2 := fun x y H Q => ∃ i b, x = .int i ∧ y = .bl b ∧ Q (g i (if b = true then (1 : Int) else 0)) H
theorem op_addBI {X : Cx} : OpR X (binaryOp .Add) (rBI fun i j => .int (i + j)) := by
  intro pins s σ H x y v u Q I rx ry h
  obtain ⟨b, j, rfl, rfl, q⟩ := h
  cases rx
  obtain ⟨t, rfl⟩ := ry
  exact PySem.IntBool.add_bool_int ⟨.int _, H, I.tok _, ⟨_, rfl⟩, q⟩
theorem op_addIB {X : Cx} : OpR X (binaryOp .Add) (rIB fun i j => .int (i + j)) := by
  intro pins s σ H x y v u Q I rx ry h
  obtain ⟨i, b, rfl, rfl, q⟩ := h
  obtain ⟨t, rfl⟩ := rx
  cases ry
  exact PySem.add_int_bool ⟨.int _, H, I.tok _, ⟨_, rfl⟩, q⟩
theorem op_subBI {X : Cx} : OpR X (binaryOp .Sub) (rBI fun i j => .int (i - j)) := by
  intro pins s σ H x y v u Q I rx ry h
  obtain ⟨b, j, rfl, rfl, q⟩ := h
  cases rx
  obtain ⟨t, rfl⟩ := ry
  exact PySem.IntBool.sub_bool_int ⟨.int _, H, I.tok _, ⟨_, rfl⟩, q⟩
theorem op_subIB {X : Cx} : OpR X (binaryOp .Sub) (rIB fun i j => .int (i - j)) := by
  intro pins s σ H x y v u Q I rx ry h
  obtain ⟨i, b, rfl, rfl, q⟩ := h
  obtain ⟨t, rfl⟩ := rx
  cases ry
  exact PySem.IntBool.sub_int_bool ⟨.int _, H, I.tok _, ⟨_, rfl⟩, q⟩
def rAdd (K : PySem.W.Frag) : R2 := fun x y H Q => rI0 (fun i j => .int (i + j)) x y H Q ∨ (∃ i j, x = .str i ∧ y = .str j ∧ i.length + j.length ≤ sizeLine ∧ Q (.str (i ++ j)) H) ∨ rCat x y H Q ∨ rCatA K x y H Q ∨ rBI (fun i j => .int (i + j)) x y H Q ∨ rIB (fun i j => .int (i + j)) x y H Q
theorem op_addD {X : Cx} : OpR X (binaryOp .Add) (rAdd X.K) := op_add.or (op_add_str.or (op_cat.or (op_catA.or (op_addBI.or op_addIB))))
def rSub : R2 := fun x y H Q => rI0 (fun i j => .int (i - j)) x y H Q ∨ rBI (fun i j => .int (i - j)) x y H Q ∨ rIB (fun i j => .int (i - j)) x y H Q
theorem op_subD {X : Cx} : OpR X (binaryOp .Sub) rSub := op_sub.or (op_subBI.or op_subIB)
theorem r2_add {K : PySem.W.Frag} : R2M K (rAdd K) addD := by
  intro Φ Z σ H ρ x y d1 d2 z R rx ry e Q k
  rcases addD_shape e with ⟨i, j, rfl, rfl, rfl⟩ | ⟨i, j, rfl, rfl, hl, rfl⟩ | ⟨i, j, rfl, rfl, hl, rfl⟩ | ⟨i, j, rfl, rfl, hl, rfl⟩ | ⟨b, j, rfl, rfl, rfl⟩ | ⟨i, b, rfl, rfl, rfl⟩
  · exact .inl ⟨i, j, rx.int, ry.int, ends_flat R (.int _) k⟩
  · exact .inr (.inl ⟨i, j, rx.str, ry.str, hl, ends_flat R (.str _) k⟩)
  · obtain ⟨a, xs, e1, h1, r1⟩ := rx.lst R.zH
    obtain ⟨b, ys, e2, h2, r2⟩ := ry.lst R.zH
    exact .inr (.inr (.inl ⟨a, b, xs, ys, e1, e2, h1, h2, by rw [r1.length, r2.length]; exact hl, fun p hp => ends_lst R (r1.append r2) k hp⟩))
  · have q1 := rx.tupR
    have q2 := ry.tupR
    obtain ⟨a, xs, e1, h1, r1⟩ := rx.tup R.zH
    obtain ⟨b, ys, e2, h2, r2⟩ := ry.tup R.zH
    refine .inr (.inr (.inr (.inl ⟨a, b, xs, ys, e1, e2, h1, h2, by rw [r1.length, r2.length]; exact hl, fun h => ?_, fun h h' => ?_, fun _ _ p hp => ends_tup R (r1.append r2) k hp⟩)))
    · have : i = [] := r1.nil_iff.mp h
      subst this
      rw [← e2]
      exact ends_flat R q2 k
    · have : j = [] := r2.nil_iff.mp h'
      subst this
      rw [← e1]
      rw [List.append_nil] at k
      exact ends_flat R q1 k
  · exact .inr (.inr (.inr (.inr (.inl ⟨b, j, rx.bl, ry.int, ends_flat R (.int _) k⟩))))
  · exact .inr (.inr (.inr (.inr (.inr ⟨i, b, rx.int, ry.bl, ends_flat R (.int _) k⟩))))
theorem r2_sub {K : PySem.W.Frag} : R2M K rSub subD := by
  intro Φ Z σ H ρ x y d1 d2 z R rx ry e Q k
  unfold subD at e
  split at e
  · cases e; exact .inl ⟨_, _, rx.int, ry.int, ends_flat R (.int _) k⟩
  · cases e; exact .inr (.inl ⟨_, _, rx.bl, ry.int, ends_flat R (.int _) k⟩)
  · cases e; exact .inr (.inr ⟨_, _, rx.int, ry.bl, ends_flat R (.int _) k⟩)
  · cases e
def rMul (K : PySem.W.Frag) : R2 := fun x y H Q => rI CMulW (fun i j => .int (i * j)) x y H Q ∨ rRep x y H Q ∨ rRepT K x y H Q
theorem op_mulD {X : Cx} : OpR X (binaryOp .Mult) (rMul X.K) := op_mulW.or (op_rep.or op_repT)
theorem RpA.rep {K : PySem.W.Frag} {Z : Hp} {vs : List V} {ds : List PyData} (r : RpA K Z vs ds) : ∀ n : Nat, RpA K Z (List.replicate n vs).flatten (List.replicate n ds).flatten
  | 0 => .nil
  | n + 1 => by
    rw [List.replicate_succ, List.replicate_succ, List.flatten_cons, List.flatten_cons]
    exact r.append (RpA.rep r n)
theorem r2_mul {K : PySem.W.Frag} : R2M K (rMul K) mulD := by
  intro Φ Z σ H ρ x y d1 d2 z R rx ry e Q k
  unfold mulD at e
  split at e
  · split at e
    · cases e; exact .inl ⟨_, _, rx.int, ry.int, by assumption, ends_flat R (.int _) k⟩
    · cases e
  · split at e
    · rename_i h
      cases e
      obtain ⟨a, xs, e1, h1, r1⟩ := rx.lst R.zH
      exact .inr (.inl ⟨a, _, xs, e1, ry.int, h1, h.1, h.2.1, by rw [r1.length]; exact h.2.2, fun p hp => ends_lst R (r1.rep _) k hp⟩)
    · cases e
  · split at e
    · rename_i h
      cases e
      obtain ⟨a, xs, e1, h1, r1⟩ := rx.tup R.zH
      exact .inr (.inr ⟨a, _, xs, e1, ry.int, h1, fun q => h.1 (by rw [← r1.length, q]; rfl), h.2.1, h.2.2.1, by rw [r1.length]; exact h.2.2.2, fun p hp => ends_tup R (r1.rep _) k hp⟩)
    · cases e
  · cases e
def rFdiv : R2 := fun x y H Q => rI CDivW (fun i j => .int (i / j)) x y H Q ∨ rI CDivN (fun i j => .int (i.fdiv j)) x y H Q
theorem op_fdivD {X : Cx} : OpR X (binaryOp .FloorDiv) rFdiv := op_fdivW.or op_fdivN
theorem r2_fdiv {K : PySem.W.Frag} : R2M K rFdiv fdivD := by
  intro Φ Z σ H ρ x y d1 d2 z R rx ry e Q k
  unfold fdivD at e
  split at e
  · split at e
    · cases e; exact .inl ⟨_, _, rx.int, ry.int, by assumption, ends_flat R (.int _) k⟩
    · split at e
      · cases e; exact .inr ⟨_, _, rx.int, ry.int, by assumption, ends_flat R (.int _) k⟩
      · cases e
  · cases e
def rMod : R2 := fun x y H Q => rI (fun _ j => 0 < j) (fun i j => .int (i % j)) x y H Q ∨ rI (fun _ j => j ≠ 0) (fun i j => .int (i.fmod j)) x y H Q
theorem op_modD {X : Cx} : OpR X (binaryOp .Mod) rMod := op_mod.or op_modN
theorem r2_mod {K : PySem.W.Frag} : R2M K rMod modD := by
  intro Φ Z σ H ρ x y d1 d2 z R rx ry e Q k
  unfold modD at e
  split at e
  · split at e
    · cases e; exact .inl ⟨_, _, rx.int, ry.int, by assumption, ends_flat R (.int _) k⟩
    · split at e
      · cases e; exact .inr ⟨_, _, rx.int, ry.int, by assumption, ends_flat R (.int _) k⟩
      · cases e
  · cases e
theorem r2_pow {K : PySem.W.Frag} : R2M K (rI CPow fun i j => .int (i ^ j.toNat)) powD := by
  intro Φ Z σ H ρ x y d1 d2 z R rx ry e Q k
  unfold powD at e
  split at e
  · split at e
    · cases e; exact ⟨_, _, rx.int, ry.int, by assumption, ends_flat R (.int _) k⟩
    · cases e
  · cases e

def ltD : PyData → PyData → Option PyData
  | .int i, .int j => some (.bool (decide (i < j)))
  | .str i, .str j => some (.bool (decide (i.cps.toList < j.cps.toList)))
  | _, _ => none
def leD : PyData → PyData → Option PyData
  | .int i, .int j => some (.bool (decide (i ≤ j)))
  | .str i, .str j => some (.bool (!decide (j.cps.toList < i.cps.toList)))
  | _, _ => none
def gtD : PyData → PyData → Option PyData
  | .int i, .int j => some (.bool (decide (j < i)))
  | _, _ => none
def geD : PyData → PyData → Option PyData
  | .int i, .int j => some (.bool (decide (j ≤ i)))
  | _, _ => none
/-- == of data at any depth -/
def eqD (x y : PyData) : Option PyData := match x, y with
  | .str a, .str b => some (.bool (a == b))
  | x, y => if SeqAt.shaped x && SeqAt.shaped y then some (.bool (PyData.eqv x y)) else none
def neD (x y : PyData) : Option PyData := match x, y with
  | .str a, .str b => some (.bool (!(a == b)))
  | x, y => if SeqAt.shaped x && SeqAt.shaped y then some (.bool (!PyData.eqv x y)) else none
theorem neD_of {x y : PyData} (hx : SeqAt.shaped x = true) (hy : SeqAt.shaped y = true) : neD x y = some (.bool (!PyData.eqv x y)) := by
  unfold neD
  split
  · simp [PyData.eqv]
  · rw [hx, hy]; rfl
def noneD : PyData → Bool
  | .none => true
  | _ => false
def isNonD (x y : PyData) : Option PyData := match y with
  | .none => some (.bool (noneD x))
  | _ => none
def notNonD (x y : PyData) : Option PyData := match y with
  | .none => some (.bool (!noneD x))
  | _ => none
/-- in: a sign or text in a text; an item (data) in a list, in a tuple of flat items -/
def flatD : PyData → Bool
  | .none | .bool _ | .int _ | .str _ => true
  | _ => false
def inD (x y : PyData) : Option PyData := match x, y with
  | .str i, .str j => some (.bool (!(Builtin.Str.occurrences j i 0 j.length 1).isEmpty))
  | d, .list ds => if SeqAt.shaped d && SeqAt.shaped (.list ds) then some (.bool (ds.any fun z => PyData.eqv z d)) else none
  | d, .tuple ds => if flatD d && ds.all flatD then some (.bool (ds.any fun z => PyData.eqv z d)) else none
  | _, _ => none
def notInD (x y : PyData) : Option PyData := (inD x y).bind fun b => match b with
  | .bool c => some (.bool (!c))
  | _ => none

def rLt : R2 := fun x y H Q => rI0 (fun i j => .bl (decide (i < j))) x y H Q ∨ (∃ i j, x = .str i ∧ y = .str j ∧ Q (.bl (decide (i.cps.toList < j.cps.toList))) H)
theorem op_ltD {X : Cx} : OpR X (compareOp .Lt) rLt := op_lt.or op_lt_str
theorem r2_lt {K : PySem.W.Frag} : R2M K rLt ltD := by
  intro Φ Z σ H ρ x y d1 d2 z R rx ry e Q k
  unfold ltD at e
  split at e
  · cases e; exact .inl ⟨_, _, rx.int, ry.int, ends_flat R (.bl _) k⟩
  · cases e; exact .inr ⟨_, _, rx.str, ry.str, ends_flat R (.bl _) k⟩
  · cases e
theorem r2_gt {K : PySem.W.Frag} : R2M K (rI0 fun i j => .bl (decide (j < i))) gtD := by
  intro Φ Z σ H ρ x y d1 d2 z R rx ry e Q k
  unfold gtD at e
  split at e
  · cases e; exact ⟨_, _, rx.int, ry.int, ends_flat R (.bl _) k⟩
  · cases e
theorem r2_ge {K : PySem.W.Frag} : R2M K (rI0 fun i j => .bl (decide (j ≤ i))) geD := by
  intro Φ Z σ H ρ x y d1 d2 z R rx ry e Q k
  unfold geD at e
  split at e
  · cases e; exact ⟨_, _, rx.int, ry.int, ends_flat R (.bl _) k⟩
  · cases e
theorem noDict_of_shaped {d : PyData} (h : SeqAt.shaped d = true) : d.hasDict = false := PyData.hasDict_of_canLay d (SeqAt.canLay_of_shaped h)
theorem Rb.dp {K : PySem.W.Frag} {Z H : Hp} {v : V} {d : PyData} (zH : Same Z H) (h : Rb K Z H v d) (s : SeqAt.shaped d = true) : Dp K H v d := (h.rp zH).toDp (noDict_of_shaped s)
def rEqX (K : PySem.W.Frag) : R2 := fun x y H Q => (∃ a b, x = .str a ∧ y = .str b ∧ Q (.bl (a == b)) H) ∨ rEqD K x y H Q
def rNeX (K : PySem.W.Frag) : R2 := fun x y H Q => (∃ a b, x = .str a ∧ y = .str b ∧ Q (.bl (!(a == b))) H) ∨ rNeD K x y H Q
theorem op_eqSt {X : Cx} : OpR X (compareOp .Eq) (fun x y H Q => ∃ a b, x = .str a ∧ y = .str b ∧ Q (.bl (a == b)) H) := by
  intro pins s σ H x y v u Q I rx ry h
  obtain ⟨a, b, rfl, rfl, q⟩ := h
  obtain ⟨t, rfl⟩ := rx
  obtain ⟨t', rfl⟩ := ry
  exact PyProof.Rows.eq_str ⟨.bl (a == b), H, I, rfl, q⟩
theorem op_neSt {X : Cx} : OpR X (compareOp .NotEq) (fun x y H Q => ∃ a b, x = .str a ∧ y = .str b ∧ Q (.bl (!(a == b))) H) := by
  intro pins s σ H x y v u Q I rx ry h
  obtain ⟨a, b, rfl, rfl, q⟩ := h
  obtain ⟨t, rfl⟩ := rx
  obtain ⟨t', rfl⟩ := ry
  exact PyProof.Rows.ne_str ⟨.bl (!(a == b)), H, I, rfl, q⟩
theorem op_eqX {X : Cx} (hu : X.A.units + 64 < cLine) : OpR X (compareOp .Eq) (rEqX X.K) := op_eqSt.or (op_eqD hu)
theorem op_neX {X : Cx} (hu : X.A.units + 64 < cLine) : OpR X (compareOp .NotEq) (rNeX X.K) := op_neSt.or (op_neD hu)
theorem r2_eq {K : PySem.W.Frag} : R2M K (rEqX K) eqD := by
  intro Φ Z σ H ρ x y d1 d2 z R rx ry e Q k
  unfold eqD at e
  split at e
  · cases e
    exact .inl ⟨_, _, rx.str, ry.str, ends_flat R (.bl _) k⟩
  · split at e
    · rename_i h
      rw [Bool.and_eq_true] at h
      cases e; exact .inr ⟨_, _, rx.dp R.zH h.1, ry.dp R.zH h.2, h.1, h.2, ends_flat R (.bl _) k⟩
    · cases e
theorem r2_ne {K : PySem.W.Frag} : R2M K (rNeX K) neD := by
  intro Φ Z σ H ρ x y d1 d2 z R rx ry e Q k
  unfold neD at e
  split at e
  · cases e
    exact .inl ⟨_, _, rx.str, ry.str, ends_flat R (.bl _) k⟩
  · split at e
    · rename_i h
      rw [Bool.and_eq_true] at h
      cases e; exact .inr ⟨_, _, rx.dp R.zH h.1, ry.dp R.zH h.2, h.1, h.2, ends_flat R (.bl _) k⟩
    · cases e
theorem rb_none {K : PySem.W.Frag} {Z H : Hp} {v : V} {d : PyData} (h : Rb K Z H v d) : decide (v = .non) = noneD d := by
  rcases h with h | ⟨a, o, rfl, ob, rfl⟩
  · cases h <;> rfl
  · cases o <;> rfl
theorem r2_isN {K : PySem.W.Frag} : R2M K (fun x y H Q => y = .non ∧ Q (.bl (decide (x = .non))) H) isNonD := by
  intro Φ Z σ H ρ x y d1 d2 z R rx ry e Q k
  unfold isNonD at e
  split at e
  · cases e
    refine ⟨ry.non, ?_⟩
    rw [rb_none rx]
    exact ends_flat R (.bl _) k
  · cases e
theorem r2_notN {K : PySem.W.Frag} : R2M K (fun x y H Q => y = .non ∧ Q (.bl (!decide (x = .non))) H) notNonD := by
  intro Φ Z σ H ρ x y d1 d2 z R rx ry e Q k
  unfold notNonD at e
  split at e
  · cases e
    refine ⟨ry.non, ?_⟩
    rw [rb_none rx]
    exact ends_flat R (.bl _) k
  · cases e
theorem flat_rb {K : PySem.W.Frag} {Z H : Hp} {v : V} {d : PyData} (h : Rb K Z H v d) (f : flatD d = true) : flatV v = true := by
  rcases h with h | ⟨a, o, rfl, ob, rfl⟩
  · cases h <;> first | rfl | cases f
  · cases o <;> cases f
theorem eqv_flat {K : PySem.W.Frag} {Z : Hp} {v w : V} {d e : PyData} (h : Rp K Z v d) (h' : Rp K Z w e) (f : flatD d = true) (f' : flatD e = true) : eqV v w = PyData.eqv d e := by
  cases h <;> first | (cases f; done) | skip
  all_goals cases h' <;> first | (cases f'; done) | skip
  all_goals (simp [eqV, PyData.eqv] <;> done)
theorem flats {K : PySem.W.Frag} {Z : Hp} : ∀ {xs : List V} {ds : List PyData}, RpA K Z xs ds → ds.all flatD = true → xs.all flatV = true
  | _, _, .nil, _ => rfl
  | _, _, .cons r t, f => by
    rw [List.all_cons, Bool.and_eq_true] at f ⊢
    exact ⟨flat_rb (H := Z) (.inl r) f.1, flats t f.2⟩
theorem anys {K : PySem.W.Frag} {Z : Hp} {v : V} {d : PyData} (h : Rp K Z v d) (f : flatD d = true) : ∀ {xs : List V} {ds : List PyData}, RpA K Z xs ds → ds.all flatD = true → inV v xs = ds.any fun z => PyData.eqv z d
  | _, _, .nil, _ => rfl
  | _, _, .cons r t, g => by
    rw [List.all_cons, Bool.and_eq_true] at g
    show ((_ :: _).any fun y => eqV y v) = _
    rw [List.any_cons, List.any_cons, eqv_flat r h g.1 f]
    congr 1
    exact anys h f t g.2
theorem rb_flat {K : PySem.W.Frag} {Z H : Hp} {v : V} {d : PyData} (h : Rb K Z H v d) (f : flatD d = true) : Rp K Z v d := by
  rcases h with h | ⟨a, o, rfl, ob, rfl⟩
  · exact h
  · cases o <;> cases f
def rNotInA (K : PySem.W.Frag) : R2 := fun x y H Q => (∃ i j, x = .str i ∧ y = .str j ∧ Q (.bl (!(!(Builtin.Str.occurrences j i 0 j.length 1).isEmpty))) H) ∨ rNotInD K x y H Q ∨ rIn K true x y H Q
theorem op_notInA {X : Cx} (hu : X.A.units + 65 < cLine) : OpR X (compareOp .NotIn) (rNotInA X.K) := op_notIn_str.or ((op_notInD hu).or op_notIn_seq)
theorem r2_notIn {K : PySem.W.Frag} : R2M K (rNotInA K) notInD := by
  intro Φ Z σ H ρ x y d1 d2 z R rx ry e Q k
  unfold notInD inD at e
  split at e
  · cases e; exact .inl ⟨_, _, rx.str, ry.str, ends_flat R (.bl _) k⟩
  · split at e
    · rename_i h
      rw [Bool.and_eq_true] at h
      cases e
      exact .inr (.inl ⟨_, _, rx.dp R.zH h.1, ry.dp R.zH h.2, h.1, h.2, ends_flat R (.bl _) k⟩)
    · cases e
  · split at e
    · rename_i h
      rw [Bool.and_eq_true] at h
      cases e
      obtain ⟨a, xs, e1, h1, r1⟩ := ry.tup R.zH
      have f := rb_flat rx h.1
      refine .inr (.inr ⟨a, xs, e1, .inr h1, flat_rb rx h.1, flats r1 h.2, ?_⟩)
      rw [if_pos rfl, anys f h.1 r1 h.2]
      exact ends_flat R (.bl _) k
    · cases e
  · cases e

def idxD : PyData → PyData → Option PyData
  | .list xs, .int i => atI xs i
  | .tuple xs, .int i => atI xs i
  | .str z, .int i => if z.length ≤ sizeLine then (atI z.cps.toList i).map fun c => .str ⟨#[c]⟩ else none
  | _, _ => none
theorem atI_rp {K : PySem.W.Frag} {Z : Hp} {xs : List V} {ds : List PyData} {i : Int} {d : PyData} (r : RpA K Z xs ds) (h : atI ds i = some d) : ∃ v, atI xs i = some v ∧ Rp K Z v d := by
  unfold atI at h ⊢
  rw [r.length]
  cases e : ixN ds.length i with
  | none => rw [e] at h; cases h
  | some j =>
    rw [e, Option.bind_some] at h
    obtain ⟨v, h1, h2⟩ := r.get h
    exact ⟨v, h1, h2⟩
theorem r2_idx {K : PySem.W.Frag} : R2M K (rIx K) idxD := by
  intro Φ Z σ H ρ x y d1 d2 z R rx ry e Q k
  unfold idxD at e
  split at e
  · obtain ⟨a, xs, e1, h1, r1⟩ := rx.lst R.zH
    obtain ⟨v, h2, r2⟩ := atI_rp r1 e
    exact .inl ⟨a, xs, _, v, e1, ry.int, SqL.of h1, h2, ends_flat R r2 k⟩
  · obtain ⟨a, xs, e1, h1, r1⟩ := rx.tup R.zH
    obtain ⟨v, h2, r2⟩ := atI_rp r1 e
    exact .inr (.inl ⟨a, xs, _, v, e1, ry.int, h1, h2, ends_flat R r2 k⟩)
  · split at e
    · rename_i z0 i hz
      cases ha : atI z0.cps.toList i with
      | none => rw [ha] at e; cases e
      | some c =>
        rw [ha] at e
        cases e
        exact .inr (.inr ⟨z0, i, c, rx.str, ry.int, hz, ha, ends_flat R (.str _) k⟩)
    · cases e
  · cases e
section
variable {X : Cx} {a b : Expr} {fa fb : XE} {ga gb : XB} {pos : Pos}
theorem ed_ix (ha : ED X a fa) (hb : OD' X b fb) (hs : PlainIx b := by intro _ _; rfl) : ED X (.Subscript a b pos) (x2 idxD fa fb) := by
  obtain ⟨ta, pa, ma⟩ := ha
  obtain ⟨tb, pb, mb⟩ := hb
  exact ⟨_, pe_ix ix_seq pa pb hs, me_op r2_idx ma mb⟩
end
end DL
set_option maxRecDepth 100000
set_option maxHeartbeats 2000000
namespace DL
open PySem L2

/-- the truth of a datum -/
def truD : PyData → Option Bool
  | .none => some false
  | .bool b => some b
  | .int i => some (i != 0)
  | .str y => if y.length ≤ sizeLine then some ((y.length : Int) != 0) else none
  | .list xs => some (!xs.isEmpty)
  | .tuple xs => some (!xs.isEmpty)
  | .dict _ => none
def xTru (f : XE) : XT := fun ρ => (f ρ).bind fun p => (truD p.1).map fun b => (b, p.2)
theorem RpA.empty {K : PySem.W.Frag} {Z : Hp} {vs : List V} {ds : List PyData} (r : RpA K Z vs ds) : vs.isEmpty = ds.isEmpty := by cases r <;> rfl
theorem tru_rb {K : PySem.W.Frag} {Z H : Hp} {v : V} {d : PyData} {b : Bool} (zH : Same Z H) (r : Rb K Z H v d) (e : truD d = some b) : TruV K v H b := by
  cases d with
  | none => cases e; rw [r.non]; exact rfl
  | bool c => cases e; rw [r.bl]; exact rfl
  | int i => cases e; rw [r.int]; exact rfl
  | str y =>
    replace e : (if y.length ≤ sizeLine then some ((y.length : Int) != 0) else none) = some b := e
    split at e
    · cases e; rw [r.str]; exact ⟨by assumption, rfl⟩
    · cases e
  | list xs =>
    cases e
    obtain ⟨a, vs, rfl, h, q⟩ := r.lst zH
    exact .inl ⟨vs, SqL.of h, by rw [q.empty]⟩
  | tuple xs =>
    cases e
    obtain ⟨a, vs, rfl, h, q⟩ := r.tup zH
    exact .inr (.inl ⟨vs, h, by rw [q.empty]⟩)
  | dict _ => cases e
section
variable {X : Cx} {a b e c : Expr} {fa fb : XE} {f : XE} {ta tb : XT} {pos : Pos} {rest : List Expr}
theorem td_tru (h : OD' X a fa) (he : ∀ whole, isTrue a X.env whole = (do let v ← whole; standAt a.pos; holding [v] (truthy v)) := by intro _; rfl) : TD X a (xTru fa) := by
  obtain ⟨t, p, m⟩ := h
  refine ⟨_, pt_truth p he, fun Φ Z σ H ρ d ρ' R q Q k => ?_⟩
  unfold xTru at q
  cases e1 : fa ρ with
  | none => rw [e1] at q; cases q
  | some s =>
    rw [e1, Option.bind_some] at q
    cases e2 : truD s.1 with
    | none => rw [e2] at q; cases q
    | some b =>
      rw [e2] at q
      cases q
      exact m Φ Z σ H ρ s.1 s.2 R e1 _ fun v H1 Z1 z1 R1 r1 => ⟨_, tru_rb R1.zH r1 e2, k H1 Z1 z1 R1⟩
def xAndT (a b : XT) : XT := fun ρ => (a ρ).bind fun p => if p.1 = true then b p.2 else some (false, p.2)
def xOrT (a b : XT) : XT := fun ρ => (a ρ).bind fun p => if p.1 = true then some (true, p.2) else b p.2
def xNotT (a : XT) : XT := fun ρ => (a ρ).map fun p => (!p.1, p.2)
theorem wd_and1 (h : TD X a ta) : WD X (.BoolOp .And [a] pos) ta := by obtain ⟨t, p, m⟩ := h; exact ⟨t, pw_and1 p, m⟩
theorem wd_or1 (h : TD X a ta) : WD X (.BoolOp .Or [a] pos) ta := by obtain ⟨t, p, m⟩ := h; exact ⟨t, pw_or1 p, m⟩
theorem WD.td (h : WD X a ta) : TD X a ta := by obtain ⟨t, p, m⟩ := h; exact ⟨t, p.pt, m⟩
theorem mt_and {K : PySem.W.Frag} {t u : TT} {a b : XT} (h1 : MT K t a) (h2 : MT K u b) : MT K (tAnd t u) (xAndT a b) := by
  intro Φ Z σ H ρ d ρ' R q Q k
  unfold xAndT at q
  cases e1 : a ρ with
  | none => rw [e1] at q; cases q
  | some p =>
    rw [e1, Option.bind_some] at q
    refine h1 Φ Z σ H ρ p.1 p.2 R e1 _ fun H1 Z1 z1 R1 => ?_
    by_cases hp : p.1 = true
    · rw [if_pos hp] at q ⊢
      exact h2 Φ Z1 σ H1 p.2 d ρ' R1 q Q fun H2 Z2 z2 R2 => k H2 Z2 (z1.trans z2) R2
    · rw [if_neg hp] at q ⊢
      cases q
      exact k H1 Z1 z1 R1
theorem mt_or {K : PySem.W.Frag} {t u : TT} {a b : XT} (h1 : MT K t a) (h2 : MT K u b) : MT K (tOr t u) (xOrT a b) := by
  intro Φ Z σ H ρ d ρ' R q Q k
  unfold xOrT at q
  cases e1 : a ρ with
  | none => rw [e1] at q; cases q
  | some p =>
    rw [e1, Option.bind_some] at q
    refine h1 Φ Z σ H ρ p.1 p.2 R e1 _ fun H1 Z1 z1 R1 => ?_
    by_cases hp : p.1 = true
    · rw [if_pos hp] at q ⊢
      cases q
      exact k H1 Z1 z1 R1
    · rw [if_neg hp] at q ⊢
      exact h2 Φ Z1 σ H1 p.2 d ρ' R1 q Q fun H2 Z2 z2 R2 => k H2 Z2 (z1.trans z2) R2
theorem wd_and (ha : TD X a ta) (hb : WD X (.BoolOp .And (b :: rest) pos) tb) : WD X (.BoolOp .And (a :: b :: rest) pos) (xAndT ta tb) := by
  obtain ⟨t, p, m⟩ := ha
  obtain ⟨u, q, n⟩ := hb
  exact ⟨_, pw_and p q, mt_and m n⟩
theorem wd_or (ha : TD X a ta) (hb : WD X (.BoolOp .Or (b :: rest) pos) tb) : WD X (.BoolOp .Or (a :: b :: rest) pos) (xOrT ta tb) := by
  obtain ⟨t, p, m⟩ := ha
  obtain ⟨u, q, n⟩ := hb
  exact ⟨_, pw_or p q, mt_or m n⟩
theorem td_not (ha : TD X a ta) : TD X (.UnaryOp .Not a pos) (xNotT ta) := by
  obtain ⟨t, p, m⟩ := ha
  refine ⟨_, pt_not p, fun Φ Z σ H ρ d ρ' R q Q k => ?_⟩
  unfold xNotT at q
  cases e1 : ta ρ with
  | none => rw [e1] at q; cases q
  | some s =>
    rw [e1] at q
    cases q
    exact m Φ Z σ H ρ s.1 s.2 R e1 _ fun H1 Z1 z1 R1 => k H1 Z1 z1 R1
/-- and, or, not as values: all but the last a bool -/
def xAnd (a b : XE) : XE := fun ρ => (a ρ).bind fun p => match p.1 with
  | .bool true => b p.2
  | .bool false => some (.bool false, p.2)
  | _ => none
def xOr (a b : XE) : XE := fun ρ => (a ρ).bind fun p => match p.1 with
  | .bool true => some (.bool true, p.2)
  | .bool false => b p.2
  | _ => none
def xNot (a : XE) : XE := fun ρ => (a ρ).bind fun p => match p.1 with
  | .bool b => some (.bool (!b), p.2)
  | _ => none
theorem ed_one {op} (h : ED X a fa) : ED X (.BoolOp op [a] pos) fa := by obtain ⟨t, p, m⟩ := h; exact ⟨t, pe_one p, m⟩
theorem ed_and (ha : ED X a fa) (hb : ED X (.BoolOp .And (b :: rest) pos) fb) : ED X (.BoolOp .And (a :: b :: rest) pos) (xAnd fa fb) := by
  obtain ⟨t, p, m⟩ := ha
  obtain ⟨u, q, n⟩ := hb
  refine ⟨_, pe_and p q, fun Φ Z σ H ρ d ρ' R q Q k => ?_⟩
  unfold xAnd at q
  cases e1 : fa ρ with
  | none => rw [e1] at q; cases q
  | some s =>
    rw [e1, Option.bind_some] at q
    refine m Φ Z σ H ρ s.1 s.2 R e1 _ fun v H1 Z1 z1 R1 r1 => ?_
    split at q
    · rename_i e
      rw [e] at r1
      cases r1
      refine ⟨true, rfl, ?_⟩
      rw [if_pos rfl]
      exact n Φ Z1 σ H1 s.2 d ρ' R1 q Q fun v H2 Z2 z2 R2 r2 => k v H2 Z2 (z1.trans z2) R2 r2
    · rename_i e
      rw [e] at r1
      cases r1
      cases q
      refine ⟨false, rfl, ?_⟩
      rw [if_neg Bool.false_ne_true]
      exact k _ H1 Z1 z1 R1 (.bl false)
    · cases q
theorem ed_not (ha : ED X a fa) : ED X (.UnaryOp .Not a pos) (xNot fa) := by
  obtain ⟨t, p, m⟩ := ha
  refine ⟨_, pe_not p, fun Φ Z σ H ρ d ρ' R q Q k => ?_⟩
  unfold xNot at q
  cases e1 : fa ρ with
  | none => rw [e1] at q; cases q
  | some s =>
    rw [e1, Option.bind_some] at q
    refine m Φ Z σ H ρ s.1 s.2 R e1 _ fun v H1 Z1 z1 R1 r1 => ?_
    split at q
    · rename_i b' e
      rw [e] at r1
      cases r1
      cases q
      exact ⟨_, rfl, k _ H1 Z1 z1 R1 (.bl _)⟩
    · cases q
/-- a if t else b -/
def xIf (t : XT) (a b : XE) : XE := fun ρ => (t ρ).bind fun p => if p.1 = true then a p.2 else b p.2
theorem ed_if (hc : TD X c ta) (ha : ED X a fa) (hb : ED X b fb) : ED X (.IfExp c a b pos) (xIf ta fa fb) := by
  obtain ⟨t, p, m⟩ := hc
  obtain ⟨u, q, n⟩ := ha
  obtain ⟨w, r, o⟩ := hb
  refine ⟨_, pe_ifExp p q r, fun Φ Z σ H ρ d ρ' R q Q k => ?_⟩
  unfold xIf at q
  cases e1 : ta ρ with
  | none => rw [e1] at q; cases q
  | some s =>
    rw [e1, Option.bind_some] at q
    refine m Φ Z σ H ρ s.1 s.2 R e1 _ fun H1 Z1 z1 R1 => ?_
    by_cases hp : s.1 = true
    · rw [if_pos hp] at q ⊢
      exact n Φ Z1 σ H1 s.2 d ρ' R1 q Q fun v H2 Z2 z2 R2 r2 => k v H2 Z2 (z1.trans z2) R2 r2
    · rw [if_neg hp] at q ⊢
      exact o Φ Z1 σ H1 s.2 d ρ' R1 q Q fun v H2 Z2 z2 R2 r2 => k v H2 Z2 (z1.trans z2) R2 r2
/-- -a -/
def negD : PyData → Option PyData
  | .int i => some (.int (-i))
  | _ => none
def x1 (g : PyData → Option PyData) (f : XE) : XE := fun ρ => (f ρ).bind fun p => (g p.1).map fun z => (z, p.2)
theorem ed_neg (ha : OD' X a fa) : ED X (.UnaryOp .USub a pos) (x1 negD fa) := by
  obtain ⟨t, p, m⟩ := ha
  refine ⟨_, pe_un un_neg p, fun Φ Z σ H ρ d ρ' R q Q k => ?_⟩
  unfold x1 at q
  cases e1 : fa ρ with
  | none => rw [e1] at q; cases q
  | some s =>
    rw [e1, Option.bind_some] at q
    refine m Φ Z σ H ρ s.1 s.2 R e1 _ fun v H1 Z1 z1 R1 r1 => ?_
    unfold negD at q
    split at q
    · rename_i i e
      rw [e] at r1
      cases q
      exact ⟨i, r1.int, k _ H1 Z1 z1 R1 (.int _)⟩
    · cases q
end

def xChain (g g' : PyData → PyData → Option PyData) (a b c : XE) : XE := fun ρ => (a ρ).bind fun p => (b p.2).bind fun q => (g p.1 q.1).bind fun z => match z with
  | .bool true => (c q.2).bind fun r => (g' q.1 r.1).map fun z => (z, r.2)
  | .bool false => some (.bool false, q.2)
  | _ => none
section
variable {X : Cx} {a b c : Expr} {fa fb fc : XE} {g g' : PyData → PyData → Option PyData} {r r' : R2} {pos : Pos}
end
end DL
set_option maxRecDepth 100000
set_option maxHeartbeats 2000000
namespace DL
open PySem L2

def aNil : XA := fun ρ => some ([], ρ)
def aCons (f : XE) (r : XA) : XA := fun ρ => (f ρ).bind fun p => (r p.2).map fun q => (.v p.1 :: q.1, q.2)
/-- the object that slot i holds goes as it is -/
def aSlot (i : Nat) (r : XA) : XA := fun ρ => match ρ[i]? with
  | some (.own _ _) => (r ρ).map fun q => (.s i :: q.1, q.2)
  | some (.scr _) => (r ρ).map fun q => (.s i :: q.1, q.2)
  | _ => none
section
variable {X : Cx} {e : Expr} {es : List Expr} {f : XE} {r : XA} {pos : Pos}
theorem ad_nil : AD X [] aNil := ⟨tNil, pa_nil, fun Φ Z σ H ρ as ρ' R q Q k => by
  cases q
  exact k [] H Z (Same.refl Z) R .nil⟩
theorem ad_cons (he : ED X e f) (hr : AD X es r) (hs : starEach (e :: es) X.env = (false, eval e X.env) :: starEach es X.env := by rfl) : AD X (e :: es) (aCons f r) := by
  obtain ⟨t, p, m⟩ := he
  obtain ⟨u, q, n⟩ := hr
  refine ⟨_, pa_cons p q hs, fun Φ Z σ H ρ as ρ' R q Q k => ?_⟩
  unfold aCons at q
  cases e1 : f ρ with
  | none => rw [e1] at q; cases q
  | some s =>
    rw [e1, Option.bind_some] at q
    cases e2 : r s.2 with
    | none => rw [e2] at q; cases q
    | some w =>
      rw [e2] at q
      cases q
      refine m Φ Z σ H ρ s.1 s.2 R e1 _ fun v H1 Z1 z1 R1 r1 => ?_
      exact n Φ Z1 σ H1 s.2 w.1 w.2 R1 e2 _ fun vs H2 Z2 z2 R2 r2 => k _ H2 Z2 (z1.trans z2) R2 (.v (r1.mono z2) r2)
theorem ad_slot (i : Nat) {x : Str} (hr : AD X es r) (hN : X.N[i]? = some x := by rfl) (hv : Vis X.env.scope x := by first | exact Or.inl rfl | exact Or.inr (Or.inl rfl) | exact Or.inr (Or.inr rfl)) (hd : (x == ("__debug__" : Str)) = false := by decide)
    (hcd : (x == ("__classdict__" : Str)) = false := by decide) (hs : starEach (.Name x pos :: es) X.env = (false, eval (.Name x pos) X.env) :: starEach es X.env := by rfl) : AD X (.Name x pos :: es) (aSlot i r) := by
  obtain ⟨u, q, n⟩ := hr
  refine ⟨_, pa_cons (pe_var hN hv hd hcd) q hs, fun Φ Z σ H ρ as ρ' R q Q k => ?_⟩
  have go : ∀ v, σ[i]? = some (some v) → (r ρ).map (fun q => (AV.s i :: q.1, q.2)) = some (as, ρ') → tCons (tVar i) u σ H Q := fun v hv q => by
    cases e2 : r ρ with
    | none => rw [e2] at q; cases q
    | some w =>
      rw [e2] at q
      cases q
      exact ⟨v, hv, n Φ Z σ H ρ w.1 w.2 R e2 _ fun vs H2 Z2 z2 R2 r2 => k _ H2 Z2 z2 R2 (.s hv r2)⟩
  unfold aSlot at q
  split at q
  · rename_i o io e
    obtain ⟨a, s, _⟩ := R.own _ _ _ e
    exact go _ s q
  · rename_i ns e
    obtain ⟨a, s, _⟩ := R.scr _ _ e
    exact go _ s q
  · cases q
end
/-- all of them data -/
def allV : List AV → Option (List PyData)
  | [] => some []
  | .v d :: as => (allV as).map (d :: ·)
  | .s _ :: _ => none
theorem allV_rp {K : PySem.W.Frag} {Z : Hp} {σ : St} : ∀ {vs : List V} {as : List AV} {ds : List PyData}, AvA K Z σ vs as → allV as = some ds → RpA K Z vs ds
  | _, _, _, .nil, e => by cases e; exact .nil
  | _, _, _, .v (d := d) (as := as) r t, e => by
    replace e : (allV as).map (d :: ·) = some _ := e
    cases e2 : allV as with
    | none => rw [e2] at e; cases e
    | some l =>
      rw [e2] at e
      cases e
      exact .cons r (allV_rp t e2)
  | _, _, _, .s _ _, e => by cases e

def xTup (r : XA) : XE := fun ρ => (r ρ).bind fun p => (allV p.1).bind fun ds => if ds.length ≤ sizeLine then some (.tuple ds, p.2) else none
def xLst (r : XA) : XE := fun ρ => (r ρ).bind fun p => (allV p.1).bind fun ds => if ds.length ≤ sizeLine then some (.list ds, p.2) else none
section
variable {X : Cx} {es : List Expr} {r : XA} {pos : Pos}
theorem ed_tup {k : Nat} (h : AD X es r) : ED X (.Tuple es k pos) (xTup r) := by
  obtain ⟨t, p, m⟩ := h
  refine ⟨_, pe_tup p, fun Φ Z σ H ρ d ρ' R q Q k => ?_⟩
  unfold xTup at q
  cases e1 : r ρ with
  | none => rw [e1] at q; cases q
  | some s =>
    rw [e1, Option.bind_some] at q
    cases e2 : allV s.1 with
    | none => rw [e2] at q; cases q
    | some ds =>
      rw [e2, Option.bind_some] at q
      split at q
      · cases q
        refine m Φ Z σ H ρ s.1 s.2 R e1 _ fun vs H1 Z1 z1 R1 r1 => ?_
        have rp := allV_rp r1 e2
        refine ⟨by rw [rp.length]; assumption, fun p hp => ?_⟩
        exact ends_tup R1 rp (fun v H' Z' z' R' r' => k v H' Z' (z1.trans z') R' r') hp
      · cases q
theorem ed_lst (h : AD X es r) : ED X (.List es pos) (xLst r) := by
  obtain ⟨t, p, m⟩ := h
  refine ⟨_, pe_lst p, fun Φ Z σ H ρ d ρ' R q Q k => ?_⟩
  unfold xLst at q
  cases e1 : r ρ with
  | none => rw [e1] at q; cases q
  | some s =>
    rw [e1, Option.bind_some] at q
    cases e2 : allV s.1 with
    | none => rw [e2] at q; cases q
    | some ds =>
      rw [e2, Option.bind_some] at q
      split at q
      · cases q
        refine m Φ Z σ H ρ s.1 s.2 R e1 _ fun vs H1 Z1 z1 R1 r1 => ?_
        have rp := allV_rp r1 e2
        refine ⟨by rw [rp.length]; assumption, fun p hp => ?_⟩
        exact ends_lst R1 rp (fun v H' Z' z' R' r' => k v H' Z' (z1.trans z') R' r') hp
      · cases q
end

/-- the new object is at a, nobody holds it -/
structure New (K : PySem.W.Frag) (Φ : Fx) (Z : Hp) (σ : St) (H : Hp) (ρ : Nv) (a : Addr) (o : OD) : Prop where
  ob : ObAt K Z H a o
  z : Z a = none
  fr : Φ.Fr a = none
  h0 : Φ.H0 a = none
  no : ∀ i, ¬ AtS ρ σ i a
abbrev XN := Nv → Option (OD × Nv)
def MN (K : PySem.W.Frag) (t : TE) (f : XN) : Prop := ∀ (Φ : Fx) (Z : Hp) (σ : St) (H : Hp) (ρ : Nv) (o : OD) (ρ' : Nv), Rl K Φ Z σ H ρ → f ρ = some (o, ρ') →
  ∀ Q : VK, (∀ a H' Z', Same Z Z' → Rl K Φ Z' σ H' ρ' → New K Φ Z' σ H' ρ' a o → Q (.ref a) H') → t σ H Q
def ND (X : Cx) (e : Expr) (f : XN) : Prop := ∃ t, PE X e t ∧ MN X.K t f
theorem New.of {K : PySem.W.Frag} {Φ : Fx} {Z : Hp} {σ : St} {H : Hp} {ρ : Nv} (R : Rl K Φ Z σ H ρ) {p : Addr} {u : HO} {o : OD} (hp : H p = none) (ob : ObAt K Z (upd H p u) p o) : New K Φ Z σ (upd H p u) ρ p o :=
  ⟨ob, R.zH.free hp, R.fr.free hp, R.dom _ hp, fun i h => by
    obtain ⟨w, e, _⟩ := R.at_some h
    rw [hp] at e
    cases e⟩
/-- a list display, held -/
def nLst (r : XA) : XN := fun ρ => (r ρ).bind fun p => (allV p.1).bind fun ds => if ds.length ≤ sizeLine then some (.ol ds, p.2) else none
section
variable {X : Cx} {es : List Expr} {r : XA} {pos : Pos}
theorem nd_lst (h : AD X es r) : ND X (.List es pos) (nLst r) := by
  obtain ⟨t, p, m⟩ := h
  refine ⟨_, pe_lst p, fun Φ Z σ H ρ d ρ' R q Q k => ?_⟩
  unfold nLst at q
  cases e1 : r ρ with
  | none => rw [e1] at q; cases q
  | some s =>
    rw [e1, Option.bind_some] at q
    cases e2 : allV s.1 with
    | none => rw [e2] at q; cases q
    | some ds =>
      rw [e2, Option.bind_some] at q
      split at q
      · cases q
        refine m Φ Z σ H ρ s.1 s.2 R e1 _ fun vs H1 Z1 z1 R1 r1 => ?_
        have rp := allV_rp r1 e2
        refine ⟨by rw [rp.length]; assumption, fun p hp => ?_⟩
        exact k p _ Z1 z1 (R1.laid hp) (New.of R1 hp ⟨vs, upd_same, rp⟩)
      · cases q
/-- a list + a list, held -/
def nCat (a b : XE) : XN := fun ρ => (a ρ).bind fun p => (b p.2).bind fun q => match p.1, q.1 with
  | .list x, .list y => if x.length + y.length ≤ sizeLine then some (.ol (x ++ y), q.2) else none
  | _, _ => none
end

def C1M (K : PySem.W.Frag) (r : List V → Hp → VK → Prop) (g : PyData → Option PyData) : Prop := ∀ (Φ : Fx) (Z : Hp) (σ : St) (H : Hp) (ρ : Nv) (x : V) (d z : PyData), Rl K Φ Z σ H ρ → Rb K Z H x d → g d = some z →
  ∀ Q : VK, (∀ v H' Z', Same Z Z' → Rl K Φ Z' σ H' ρ → Rp K Z' v z → Q v H') → r [x] H Q
theorem me_c1 {K : PySem.W.Frag} {r : List V → Hp → VK → Prop} {g : PyData → Option PyData} {t : TE} {f : XE} (hr : C1M K r g) (h : MO K t f) : ME K (tCB r (tCons t tNil)) (x1 g f) := by
  intro Φ Z σ H ρ d ρ' R q Q k
  unfold x1 at q
  cases e1 : f ρ with
  | none => rw [e1] at q; cases q
  | some s =>
    rw [e1, Option.bind_some] at q
    cases e2 : g s.1 with
    | none => rw [e2] at q; cases q
    | some z =>
      rw [e2] at q
      cases q
      refine h Φ Z σ H ρ s.1 s.2 R e1 _ fun v H1 Z1 z1 R1 r1 => ?_
      exact hr Φ Z1 σ H1 s.2 v s.1 _ R1 r1 e2 Q fun v H2 Z2 z2 R2 r2 => k v H2 Z2 (z1.trans z2) R2 r2
section
variable {X : Cx} {e : Expr} {f : XE} {g : PyData → Option PyData} {r : List V → Hp → VK → Prop} {x : Str} {p pos : Pos}
theorem ed_c1 {id : String} (hc : CallR X (.builtin id) r) (hr : C1M X.K r g) (hm : X.mg x = none) (hv : bootBuiltins x = some (.builtin id)) (he : OD' X e f) (hg : Gl X x := by rfl) (hn : x ≠ "__name__" := by decide) (hdb : (x == ("__debug__" : Str)) = false := by decide)
    (hs : starEach [e] X.env = (false, eval e X.env) :: starEach [] X.env := by rfl) : ED X (.Call (.Name x p) [e] [] pos) (x1 g f) := by
  obtain ⟨t, q, m⟩ := he
  exact ⟨_, pe_callB hc hg hm hv (pa_cons q pa_nil hs) hn hdb hs, me_c1 hr m⟩
theorem ed_t1 {id : String} (hc : CallR X (.type id) r) (hr : C1M X.K r g) (hm : X.mg x = none) (hv : bootBuiltins x = some (.type id)) (he : OD' X e f) (hg : Gl X x := by rfl) (hn : x ≠ "__name__" := by decide) (hdb : (x == ("__debug__" : Str)) = false := by decide)
    (hs : starEach [e] X.env = (false, eval e X.env) :: starEach [] X.env := by rfl) : ED X (.Call (.Name x p) [e] [] pos) (x1 g f) := by
  obtain ⟨t, q, m⟩ := he
  exact ⟨_, pe_callTy hc hg hm hv (pa_cons q pa_nil hs) hn hdb hs, me_c1 hr m⟩
end
def lenD : PyData → Option PyData
  | .str y => if y.length ≤ sizeLine then some (.int y.length) else none
  | .list xs => some (.int xs.length)
  | .tuple xs => some (.int xs.length)
  | _ => none
def absD : PyData → Option PyData
  | .int i => some (.int (if i < 0 then -i else i))
  | _ => none
def ordD : PyData → Option PyData
  | .str x => if x.length = 1 then some (.int (x.cps.getD 0 0 : Nat)) else none
  | _ => none
def listD : PyData → Option PyData
  | .list xs => some (.list xs)
  | .tuple xs => some (.list xs)
  | _ => none
def intD : PyData → Option PyData
  | .int i => some (.int i)
  | .bool k => some (.int (if k then 1 else 0))
  | _ => none
section
variable {K : PySem.W.Frag}
theorem c1_len : C1M K (fun xs H Q => ∃ x n, xs = [x] ∧ LenV K x H n ∧ Q (.int n) H) lenD := by
  intro Φ Z σ H ρ x d z R rx e Q k
  unfold lenD at e
  split at e
  · split at e
    · cases e
      rw [rx.str]
      exact ⟨_, _, rfl, ⟨by assumption, rfl⟩, ends_flat R (.int _) k⟩
    · cases e
  · cases e
    obtain ⟨a, vs, rfl, h, q⟩ := rx.lst R.zH
    exact ⟨_, _, rfl, .inl ⟨vs, SqL.of h, rfl⟩, by rw [q.length]; exact ends_flat R (.int _) k⟩
  · cases e
    obtain ⟨a, vs, rfl, h, q⟩ := rx.tup R.zH
    exact ⟨_, _, rfl, .inr ⟨vs, h, rfl⟩, by rw [q.length]; exact ends_flat R (.int _) k⟩
  · cases e
theorem c1_abs : C1M K (fun xs H Q => ∃ i, xs = [.int i] ∧ Q (.int (if i < 0 then -i else i)) H) absD := by
  intro Φ Z σ H ρ x d z R rx e Q k
  unfold absD at e
  split at e
  · cases e
    rw [rx.int]
    exact ⟨_, rfl, ends_flat R (.int _) k⟩
  · cases e
theorem c1_list : C1M K (fun xs H Q => ∃ p ys, xs = [.ref p] ∧ (SqL K H p ys ∨ SqT K H p ys) ∧ ∀ l, H l = none → Q (.ref l) (upd H l (.lst ys))) listD := by
  intro Φ Z σ H ρ x d z R rx e Q k
  unfold listD at e
  split at e
  · cases e
    obtain ⟨a, vs, rfl, h, q⟩ := rx.lst R.zH
    exact ⟨a, vs, rfl, .inl (SqL.of h), fun l hl => ends_lst R q k hl⟩
  · cases e
    obtain ⟨a, vs, rfl, h, q⟩ := rx.tup R.zH
    exact ⟨a, vs, rfl, .inr h, fun l hl => ends_lst R q k hl⟩
  · cases e
end

def reprD (d : PyData) : Option PyData := if d.hasDict = false ∧ d.showable = true ∧ d.depth ≤ 60 ∧ d.shown.length ≤ sizeLine then some (.str d.shown) else none
def rRepr (K : PySem.W.Frag) : List V → Hp → VK → Prop := fun xs H Q => ∃ x d, xs = [x] ∧ Dp K H x d ∧ d.showable = true ∧ d.hasDict = false ∧ d.depth ≤ 60 ∧ d.shown.length ≤ sizeLine ∧ Q (.str d.shown) H
theorem call_reprD {X : Cx} (hg : X.A.guards = some []) (hu : X.A.units + 64 < cLine) : CallR X (.builtin "repr") (rRepr X.K) := by
  intro pins s σ H xs us Q I r h
  obtain ⟨x, d, rfl, hd, hs, hn, hp, hl, q⟩ := h
  obtain ⟨u, rfl, ru⟩ := vals1 r
  obtain ⟨as, rd⟩ := Dp.reads I d x u hd ru
  cases rd with
  | none =>
    simp only [PyData.shown] at q
    exact PySem.P.repr_of_none ⟨.str _, H, I.tok _, ⟨_, rfl⟩, q⟩
  | bool b =>
    simp only [PyData.shown] at q
    refine PySem.P.repr_of_bool ⟨.str _, H, I.tok _, ⟨s.toks, ?_⟩, q⟩
    cases b <;> rfl
  | int i t =>
    simp only [PyData.shown] at q
    exact PySem.P.repr_of_int (by simpa [PyData.showable] using hs) ⟨.str _, H, I.tok _, ⟨_, rfl⟩, q⟩
  | str y t =>
    simp only [PyData.shown] at q hl
    exact PySem.P.repr_of_str ⟨.str _, H, I.tok _, ⟨_, rfl⟩, q⟩ hl
  | list h1 h2 h3 h4 =>
    refine repr_of_reads' (.list h1 h2 h3 h4) hs (PySem.PyData.noDict_hsm hn) hg (by omega) (fun _ _ e => e) (fun h' u tk hk => ?_) hl
    exact ⟨.str _, H, I.kept hk, ⟨_, rfl⟩, q⟩
  | tuple h1 h2 h3 h4 =>
    refine repr_of_reads' (.tuple h1 h2 h3 h4) hs (PySem.PyData.noDict_hsm hn) hg (by omega) (fun _ _ e => e) (fun h' u tk hk => ?_) hl
    exact ⟨.str _, H, I.kept hk, ⟨_, rfl⟩, q⟩
  | dict h1 h2 h3 h4 h5 => simp [PyData.hasDict] at hn
theorem c1_repr {K : PySem.W.Frag} : C1M K (rRepr K) reprD := by
  intro Φ Z σ H ρ x d z R rx e Q k
  unfold reprD at e
  split at e
  · rename_i h
    cases e
    exact ⟨x, d, rfl, (rx.rp R.zH).toDp h.1, h.2.1, h.1, h.2.2.1, h.2.2.2, ends_flat R (.str _) k⟩
  · cases e
end DL
set_option maxRecDepth 100000
set_option maxHeartbeats 2000000
namespace DL
open PySem L2

def tyNm : PyData → String
  | .none => "NoneType"
  | .bool _ => "bool"
  | .int _ => "int"
  | .str _ => "str"
  | .list _ => "list"
  | .tuple _ => "tuple"
  | .dict ((.none, _) :: _) => "object"
  | .dict _ => "dict"
def isIntD : PyData → Bool
  | .int _ => true
  | .bool _ => true
  | _ => false
def isBlD : PyData → Bool
  | .bool _ => true
  | _ => false
def isTupD : PyData → Bool
  | .tuple _ => true
  | .dict [(.none, .none), (.none, .list _)] => true
  | _ => false
def isDctD : PyData → Bool
  | .dict ((.none, _) :: _) => false
  | .dict _ => true
  | _ => false
/-- g says whether a datum is of the built-in class N -/
structure KitG (N : String) (g : PyData → Bool) : Prop where
  ty : ∀ d, isI d = false → kitB (tyNm d) N = some (g d)
  no : ∀ d, isI d = true → (∀ es, d ≠ ptD es) → g d = false
  pt : ∀ es, kitB "tuple" N = some (g (ptD es))
  six : N ∈ ["int", "bool", "str", "list", "tuple", "dict"]
theorem isI_shape {d : PyData} (h : isI d = true) : ∃ y r, d = .dict ((.none, y) :: r) := by
  unfold isI at h
  split at h
  · exact ⟨_, _, rfl⟩
  · cases h
theorem tyNm_dict {ps : List (PyData × PyData)} (h : isI (.dict ps) = false) : tyNm (.dict ps) = "dict" ∧ isDctD (.dict ps) = true := by
  cases ps with
  | nil => exact ⟨rfl, rfl⟩
  | cons p r =>
    obtain ⟨k, y⟩ := p
    cases k <;> first | exact ⟨rfl, rfl⟩ | (exact absurd h (by simp [isI]))
theorem kit_of' {N : String} {g : PyData → Bool} (six : N ∈ ["int", "bool", "str", "list", "tuple", "dict"]) (no : ∀ y r, (∀ es, PyData.dict ((.none, y) :: r) ≠ ptD es) → g (.dict ((.none, y) :: r)) = false) (pt : ∀ es, kitB "tuple" N = some (g (ptD es))) (b : Bool) (hb : kitB "dict" N = some b) (hd : ∀ ps, isI (.dict ps) = false → g (.dict ps) = b)
    (h : ∀ d, (∀ ps, d ≠ .dict ps) → kitB (tyNm d) N = some (g d)) : KitG N g := by
  refine ⟨fun d hd' => ?_, fun d hd' hp => ?_, pt, six⟩
  · cases d with
    | dict ps => rw [(tyNm_dict hd').1, hd ps hd', hb]
    | _ => exact h _ fun ps => nofun
  · obtain ⟨y, r, rfl⟩ := isI_shape hd'
    exact no y r hp
theorem kit_int : KitG "int" isIntD := kit_of' (by decide) (fun _ _ _ => rfl) (fun es => show kitB "tuple" "int" = some false by decide +kernel) false (by decide +kernel) (fun _ _ => rfl) fun d hd => by cases d <;> first | (simp only [tyNm, isIntD]; decide +kernel) | exact absurd rfl (hd _)
theorem kit_bool : KitG "bool" isBlD := kit_of' (by decide) (fun _ _ _ => rfl) (fun es => show kitB "tuple" "bool" = some false by decide +kernel) false (by decide +kernel) (fun _ _ => rfl) fun d hd => by cases d <;> first | (simp only [tyNm, isBlD]; decide +kernel) | exact absurd rfl (hd _)
theorem tup_no {d : PyData} (h : ∀ es, d ≠ ptD es) (h2 : ∀ ds, d ≠ .tuple ds) : isTupD d = false := by
  unfold isTupD
  split
  · exact absurd rfl (h2 _)
  · exact absurd rfl (h _)
  · rfl
theorem kit_tuple : KitG "tuple" isTupD := kit_of' (by decide) (fun _ _ hp => tup_no hp fun _ => nofun) (fun es => show kitB "tuple" "tuple" = some true by decide +kernel) false (by decide +kernel) (fun ps hi => tup_no (fun es e => by rw [e] at hi; cases hi) fun _ => nofun) fun d hd => by cases d <;> first | (simp only [tyNm, isTupD]; decide +kernel) | exact absurd rfl (hd _)
theorem tyx_rb {K : PySem.W.Frag} {Z H : Hp} {v : V} {d : PyData} (zH : Same Z H) (r : Rb K Z H v d) {N : String} {g : PyData → Bool} (G : KitG N g) : ∃ t, TyX K H v t ∧ PySem.W.kitOne K t (.type N) = some (g d) := by
  cases d with
  | none => rw [r.non]; exact ⟨_, .base .non, kit_ty (G.ty PyData.none rfl)⟩
  | bool c => rw [r.bl]; exact ⟨_, .base (.bl c), kit_ty (G.ty (.bool c) rfl)⟩
  | int i => rw [r.int]; exact ⟨_, .base (.int i), kit_ty (G.ty (.int i) rfl)⟩
  | str y => rw [r.str]; exact ⟨_, .base (.str y), kit_ty (G.ty (.str y) rfl)⟩
  | list xs =>
    obtain ⟨a, vs, rfl, h, q⟩ := r.lst zH
    exact ⟨_, .base (.lst h), kit_ty (G.ty (.list xs) rfl)⟩
  | tuple xs =>
    obtain ⟨a, vs, rfl, h, q⟩ := r.tup zH
    rcases h with (h | ⟨o, h⟩) | ⟨o, its, n, hk, hc, _⟩
    · exact ⟨_, .base (.tup h), kit_ty (G.ty (.tuple xs) rfl)⟩
    · exact ⟨_, .fTuple h, kit_ty (G.ty (.tuple xs) rfl)⟩
    · exact ⟨_, .kTuple hk hc, kit_ty (G.ty (.tuple xs) rfl)⟩
  | dict xs =>
    rcases r.dict zH with ⟨a, rfl, hi, ⟨kvs, h⟩ | ⟨kvs, h⟩⟩ | ⟨a, n, C, dx, vs, rfl, hi, c, h⟩ | ⟨a, o, ys, es, rfl, ep, h⟩
    · have := G.ty _ hi
      rw [(tyNm_dict hi).1] at this
      exact ⟨_, .base (.dK h), kit_ty this⟩
    · have := G.ty _ hi
      rw [(tyNm_dict hi).1] at this
      exact ⟨_, .base (.dT h), kit_ty this⟩
    · refine ⟨_, .base (.ins h c.cls c.ha c.hn c.htk c.hm), ?_⟩
      rw [G.no _ hi.1 hi.2]
      exact c.six N G.six
    · rw [ep]
      exact ⟨_, .fTuple h, kit_ty (G.pt es)⟩
def xIsi (g : PyData → Bool) (f : XE) : XE := fun ρ => (f ρ).map fun p => (.bool (g p.1), p.2)
section
variable {X : Cx} {e : Expr} {f : XE} {x n : Str} {p p2 pos : Pos}
theorem ed_isi {N : String} {g : PyData → Bool} (hk : KitG N g) (hm : X.mg x = none) (hv : bootBuiltins x = some (.builtin "isinstance")) (hm2 : X.mg n = none) (hv2 : bootBuiltins n = some (.type N)) (he : OD' X e f)
    (hg : Gl X x := by rfl) (hg2 : Gl X n := by rfl) (hn : x ≠ "__name__" := by decide) (hdb : (x == ("__debug__" : Str)) = false := by decide) (hn2 : n ≠ "__name__" := by decide) (hdb2 : (n == ("__debug__" : Str)) = false := by decide)
    (hs : starEach [e, .Name n p2] X.env = (false, eval e X.env) :: starEach [.Name n p2] X.env := by rfl) (hs2 : starEach [.Name n p2] X.env = (false, eval (.Name n p2) X.env) :: starEach [] X.env := by rfl) :
    ED X (.Call (.Name x p) [e, .Name n p2] [] pos) (xIsi g f) := by
  obtain ⟨t, q, m⟩ := he
  refine ⟨_, pe_callB call_isi hg hm hv (pa_cons q (pa_cons (pe_bltn hg2 hm2 hv2 (v := .ty N) rfl hn2 hdb2) pa_nil hs2) hs) hn hdb hs (by rw [hs2]; rfl), fun Φ Z σ H ρ d ρ' R q Q k => ?_⟩
  unfold xIsi at q
  cases e1 : f ρ with
  | none => rw [e1] at q; cases q
  | some s =>
    rw [e1] at q
    cases q
    refine m Φ Z σ H ρ s.1 s.2 R e1 _ fun v H1 Z1 z1 R1 r1 => ?_
    obtain ⟨ty, h1, h2⟩ := tyx_rb R1.zH r1 hk
    exact ⟨v, .ty N, _, _, _, rfl, .ty N, h1, h2, k _ H1 Z1 z1 R1 (.bl _)⟩
end

abbrev XO := Nv → Option (Option Int × Nv)
def MP (K : PySem.W.Frag) (t : TO) (f : XO) : Prop := ∀ (Φ : Fx) (Z : Hp) (σ : St) (H : Hp) (ρ : Nv) (o : Option Int) (ρ' : Nv), Rl K Φ Z σ H ρ → f ρ = some (o, ρ') →
  ∀ Q : Option Int → Hp → Prop, (∀ H' Z', Same Z Z' → Rl K Φ Z' σ H' ρ' → Q o H') → t σ H Q
def PD (X : Cx) (e : Option Expr) (f : XO) : Prop := ∃ t, PO X e t ∧ MP X.K t f
def oNone : XO := fun ρ => some (none, ρ)
def oSome (f : XE) : XO := fun ρ => (f ρ).bind fun p => match p.1 with
  | .int i => some (some i, p.2)
  | _ => none
def cutD (ds : List PyData) (lo hi : Option Int) : List PyData := (ds.drop (HT.sIx ds.length 0 lo)).take (HT.sIx ds.length ds.length hi - HT.sIx ds.length 0 lo)
def slD : PyData → Option Int → Option Int → Option PyData
  | .list xs, lo, hi => some (.list (cutD xs lo hi))
  | .tuple xs, lo, hi => some (.tuple (cutD xs lo hi))
  | .str z, lo, hi => if z.length ≤ sizeLine then some (.str (cutS z lo hi)) else none
  | _, _, _ => none
def xSl (f : XE) (lo hi : XO) : XE := fun ρ => (f ρ).bind fun p => (lo p.2).bind fun l => (hi l.2).bind fun h => (slD p.1 l.1 h.1).map fun z => (z, h.2)
theorem cut_rp {K : PySem.W.Frag} {Z : Hp} {vs : List V} {ds : List PyData} (lo hi : Option Int) (r : RpA K Z vs ds) : RpA K Z (cutV vs lo hi) (cutD ds lo hi) := by
  unfold cutV cutD
  rw [r.length]
  exact (r.drop _).take _
theorem cut_all {ds : List PyData} {lo hi : Option Int} (h : HT.sIx ds.length 0 lo = 0 ∧ HT.sIx ds.length ds.length hi = ds.length) : cutD ds lo hi = ds := by
  unfold cutD
  rw [h.1, h.2]
  simp
def rSlD (K : PySem.W.Frag) : V → Option Int → Option Int → Hp → VK → Prop := fun x lo hi H Q => rSlL K x lo hi H Q ∨ rSlA K x lo hi H Q ∨ rSlS x lo hi H Q
section
variable {X : Cx} {e : Expr} {f : XE} {lo hi : Option Expr} {fl fh : XO} {p2 pos : Pos}
theorem pd_some (h : ED X e f) : PD X (some e) (oSome f) := by
  obtain ⟨t, p, m⟩ := h
  refine ⟨_, po_some p, fun Φ Z σ H ρ o ρ' R q Q k => ?_⟩
  unfold oSome at q
  cases e1 : f ρ with
  | none => rw [e1] at q; cases q
  | some s =>
    rw [e1, Option.bind_some] at q
    split at q
    · rename_i i ei
      cases q
      refine m Φ Z σ H ρ s.1 s.2 R e1 _ fun v H1 Z1 z1 R1 r1 => ?_
      rw [ei] at r1
      cases r1
      exact ⟨i, rfl, k H1 Z1 z1 R1⟩
    · cases q
theorem ed_sl (he : ED X e f) (hl : PD X lo fl) (hh : PD X hi fh) : ED X (.Subscript e (.Slice lo hi none p2) pos) (xSl f fl fh) := by
  obtain ⟨t, p, m⟩ := he
  obtain ⟨tl, pl, ml⟩ := hl
  obtain ⟨th, ph, mh⟩ := hh
  refine ⟨_, pe_slice (r := rSlD X.K) (sl_list.or (sl_tupA.or sl_str)) p pl ph, fun Φ Z σ H ρ d ρ' R q Q k => ?_⟩
  unfold xSl at q
  cases e1 : f ρ with
  | none => rw [e1] at q; cases q
  | some s =>
    rw [e1, Option.bind_some] at q
    cases e2 : fl s.2 with
    | none => rw [e2] at q; cases q
    | some l =>
      rw [e2, Option.bind_some] at q
      cases e3 : fh l.2 with
      | none => rw [e3] at q; cases q
      | some h =>
        rw [e3, Option.bind_some] at q
        cases e4 : slD s.1 l.1 h.1 with
        | none => rw [e4] at q; cases q
        | some z =>
          rw [e4] at q
          cases q
          refine m Φ Z σ H ρ s.1 s.2 R e1 _ fun v H1 Z1 z1 R1 r1 => ?_
          refine ml Φ Z1 σ H1 s.2 l.1 l.2 R1 e2 _ fun H2 Z2 z2 R2 => ?_
          refine mh Φ Z2 σ H2 l.2 h.1 h.2 R2 e3 _ fun H3 Z3 z3 R3 => ?_
          have r3 : Rp X.K Z3 v s.1 := (r1.mono z2).mono z3
          have k3 : ∀ v H' Z', Same Z3 Z' → Rl X.K Φ Z' σ H' h.2 → Rp X.K Z' v d → Q v H' := fun v H' Z' z R r => k v H' Z' (((z1.trans z2).trans z3).trans z) R r
          unfold slD at e4
          split at e4
          · rename_i xs _ _ es
            cases e4
            rw [es] at r3
            obtain ⟨a, vs, rfl, ha, rr⟩ := Rb.lst R3.zH (.inl r3)
            exact .inl ⟨a, vs, rfl, SqL.of ha, fun p hp => ends_lst R3 (cut_rp _ _ rr) k3 hp⟩
          · rename_i xs _ _ es
            cases e4
            rw [es] at r3
            obtain ⟨a, vs, rfl, ha, rr⟩ := Rb.tup R3.zH (.inl r3)
            refine .inr (.inl ⟨a, vs, rfl, ha, fun hw => ?_, fun _ p hp => ends_tup R3 (cut_rp _ _ rr) k3 hp⟩)
            rw [rr.length] at hw
            rw [cut_all hw] at k3
            exact ends_flat R3 r3 k3
          · split at e4
            · cases e4
              rename_i es hz
              rw [es] at r3
              cases r3
              exact .inr (.inr ⟨_, rfl, hz, ends_flat R3 (.str _) k3⟩)
            · cases e4
          · cases e4
end

def xScr (i : Nat) (lo hi : Option Int) : XE := fun ρ => match ρ[i]? with
  | some (.scr (.ints ns)) => some (.list (cutD (ns.map PyData.int) lo hi), ρ)
  | _ => none
theorem ints_rp {K : PySem.W.Frag} {Z : Hp} : ∀ ns : List Int, RpA K Z (ns.map V.int) (ns.map PyData.int)
  | [] => .nil
  | n :: r => .cons (.int n) (ints_rp r)
section
variable {X : Cx} {p2 pos vpos : Pos}
theorem ed_scrTo (i : Nat) {x : Str} {n : Int} {j : Nat} {cp : Pos} (hN : X.N[i]? = some x := by rfl) (hv : Vis X.env.scope x := by first | exact Or.inl rfl | exact Or.inr (Or.inl rfl) | exact Or.inr (Or.inr rfl)) (hd : (x == ("__debug__" : Str)) = false := by decide)
    (hcd : (x == ("__classdict__" : Str)) = false := by decide) : ED X (.Subscript (.Name x vpos) (.Slice none (some (.Constant (.int n) j cp)) none p2) pos) (xScr i none (some n)) := by
  refine ⟨_, pe_slice sl_list (pe_var hN hv hd hcd) po_none (po_some pe_int), fun Φ Z σ H ρ d ρ' R q Q k => ?_⟩
  unfold xScr at q
  split at q
  · rename_i ns e
    cases q
    obtain ⟨a, s, h⟩ := R.scr _ _ e
    exact ⟨_, s, n, rfl, a, _, rfl, R.zH.seq h, fun p hp => ends_lst R (cut_rp none (some n) (ints_rp ns)) k hp⟩
  · cases q
end

inductive Fl where
  | nx (ρ : Nv)
  | rt (d : PyData) (ρ : Nv)
  | rn (o : OD) (ρ : Nv)
  | bk (ρ : Nv)
  | ct (ρ : Nv)
abbrev XS := Nv → Option Fl
/-- what is wanted at a statement's end -/
def FlE (K : PySem.W.Frag) (Φ : Fx) (Z : Hp) (D : Ends) : Fl → Prop
  | .nx ρ' => ∀ σ' H' Z', Same Z Z' → Rl K Φ Z' σ' H' ρ' → D.nx σ' H'
  | .rt d ρ' => ∀ v σ' H' Z', Same Z Z' → Rl K Φ Z' σ' H' ρ' → Rp K Z' v d → D.rt v H'
  | .rn o ρ' => ∀ a σ' H' Z', Same Z Z' → Rl K Φ Z' σ' H' ρ' → New K Φ Z' σ' H' ρ' a o → D.rt (.ref a) H'
  | .bk ρ' => ∀ σ' H' Z', Same Z Z' → Rl K Φ Z' σ' H' ρ' → D.bk σ' H'
  | .ct ρ' => ∀ σ' H' Z', Same Z Z' → Rl K Φ Z' σ' H' ρ' → D.ct σ' H'
theorem FlE.mono {K : PySem.W.Frag} {Φ : Fx} {Z Z' : Hp} {D : Ends} {f : Fl} (z : Same Z Z') (h : FlE K Φ Z D f) : FlE K Φ Z' D f := by
  cases f with
  | nx ρ => exact fun σ' H' Z2 z2 => h σ' H' Z2 (z.trans z2)
  | rt d ρ => exact fun v σ' H' Z2 z2 => h v σ' H' Z2 (z.trans z2)
  | rn o ρ => exact fun v σ' H' Z2 z2 => h v σ' H' Z2 (z.trans z2)
  | bk ρ => exact fun σ' H' Z2 z2 => h σ' H' Z2 (z.trans z2)
  | ct ρ => exact fun σ' H' Z2 z2 => h σ' H' Z2 (z.trans z2)
def MS (K : PySem.W.Frag) (t : TS) (f : XS) : Prop := ∀ (Φ : Fx) (Z : Hp) (σ : St) (H : Hp) (ρ : Nv) (r : Fl), Rl K Φ Z σ H ρ → f ρ = some r → ∀ D : Ends, FlE K Φ Z D r → t D σ H
def SD (X : Cx) (st : Stmt) (f : XS) : Prop := ∃ t, PS X st t ∧ MS X.K t f
def SSD (X : Cx) (st : List Stmt) (f : XS) : Prop := ∃ t, PSs X st t ∧ MS X.K t f
def sNil : XS := fun ρ => some (.nx ρ)
def sSeq (a b : XS) : XS := fun ρ => (a ρ).bind fun r => match r with
  | .nx ρ' => b ρ'
  | r => some r
def sRet (f : XE) : XS := fun ρ => (f ρ).map fun p => .rt p.1 p.2
def sRetN : XS := fun ρ => some (.rt .none ρ)
def sIf (t : XT) (a b : XS) : XS := fun ρ => (t ρ).bind fun p => if p.1 = true then a p.2 else b p.2
def sDrop (f : XE) : XS := fun ρ => (f ρ).map fun p => .nx p.2
def sBrk : XS := fun ρ => some (.bk ρ)
def sCnt : XS := fun ρ => some (.ct ρ)
/-- the slot may be stored: it is there, and lends no caller's object -/
def free (ρ : Nv) (i : Nat) : Bool := match ρ[i]? with
  | some (.own _ true) => false
  | some _ => true
  | none => false
theorem free_lt {ρ : Nv} {i : Nat} (h : free ρ i = true) : i < ρ.length ∧ ∀ o, ρ[i]? ≠ some (EV.own o true) := by
  unfold free at h
  refine ⟨?_, fun o e => ?_⟩
  · cases e : ρ[i]? with
    | none => rw [e] at h; cases h
    | some x => exact (List.getElem?_eq_some_iff.mp e).1
  · rw [e] at h
    cases h
def put (ρ : Nv) (i : Nat) (d : PyData) : Option Nv := if free ρ i = true then some (ρ.set i (.d d)) else none
def sSet (i : Nat) (f : XE) : XS := fun ρ => (f ρ).bind fun p => (put p.2 i p.1).map .nx
def sNew (i : Nat) (f : XN) : XS := fun ρ => (f ρ).bind fun p => if free p.2 i = true then some (.nx (p.2.set i (.own p.1 false))) else none
theorem put_rl {K : PySem.W.Frag} {Φ : Fx} {Z : Hp} {σ : St} {H : Hp} {ρ ρ' : Nv} {i : Nat} {d : PyData} {v : V} (R : Rl K Φ Z σ H ρ) (r : Rp K Z v d) (h : put ρ i d = some ρ') : Rl K Φ Z (σ.set i (some v)) H ρ' := by
  unfold put at h
  split at h
  · rename_i hf
    cases h
    obtain ⟨h1, h2⟩ := free_lt hf
    exact R.store h1 h2 r
  · cases h
section
variable {X : Cx} {e c : Expr} {st : Stmt} {rest a b : List Stmt} {f : XE} {g h : XS} {t : XT} {pos : Pos}
theorem ssd_nil : SSD X [] sNil := ⟨_, pss_nil, fun Φ Z σ H ρ r R q D k => by
  cases q
  exact k σ H Z (Same.refl Z) R⟩
theorem ms_seq {K : PySem.W.Frag} {t u : TS} (m : MS K t g) (n : MS K u h) : MS K (tSeq t u) (sSeq g h) := by
  intro Φ Z σ H ρ r R q D k
  unfold sSeq at q
  cases e1 : g ρ with
  | none => rw [e1] at q; cases q
  | some s =>
    rw [e1, Option.bind_some] at q
    cases s with
    | nx ρ1 => exact m Φ Z σ H ρ _ R e1 _ fun σ1 H1 Z1 z1 R1 => n Φ Z1 σ1 H1 ρ1 r R1 q D (k.mono z1)
    | rt d ρ1 => cases q; exact m Φ Z σ H ρ _ R e1 _ k
    | rn d ρ1 => cases q; exact m Φ Z σ H ρ _ R e1 _ k
    | bk ρ1 => cases q; exact m Φ Z σ H ρ _ R e1 _ k
    | ct ρ1 => cases q; exact m Φ Z σ H ρ _ R e1 _ k
theorem ssd_cons (h1 : SD X st g) (h2 : SSD X rest h) : SSD X (st :: rest) (sSeq g h) := by
  obtain ⟨t, p, m⟩ := h1
  obtain ⟨u, q, n⟩ := h2
  exact ⟨_, pss_cons p q, ms_seq m n⟩
theorem ssd_one (h1 : SD X st g) : SSD X [st] g := by
  obtain ⟨t, p, m⟩ := h1
  exact ⟨_, pss_one p, m⟩
theorem sd_ret (he : ED X e f) : SD X (.Return (some e) pos) (sRet f) := by
  obtain ⟨t, p, m⟩ := he
  refine ⟨_, ps_ret p, fun Φ Z σ H ρ r R q D k => ?_⟩
  unfold sRet at q
  cases e1 : f ρ with
  | none => rw [e1] at q; cases q
  | some s =>
    rw [e1] at q
    cases q
    exact m Φ Z σ H ρ s.1 s.2 R e1 _ fun v H1 Z1 z1 R1 r1 => k v σ H1 Z1 z1 R1 r1
/-- return of a new object -/
def sRetO (f : XN) : XS := fun ρ => (f ρ).map fun p => .rn p.1 p.2
theorem sd_retO {n : XN} (he : ND X e n) : SD X (.Return (some e) pos) (sRetO n) := by
  obtain ⟨t, p, m⟩ := he
  refine ⟨_, ps_ret p, fun Φ Z σ H ρ r R q D k => ?_⟩
  unfold sRetO at q
  cases e1 : n ρ with
  | none => rw [e1] at q; cases q
  | some s =>
    rw [e1] at q
    cases q
    exact m Φ Z σ H ρ s.1 s.2 R e1 _ fun v H1 Z1 z1 R1 r1 => k v σ H1 Z1 z1 R1 r1
theorem sd_if (hc : TD X c t) (ha : SSD X a g) (hb : SSD X b h) : SD X (.If c a b pos) (sIf t g h) := by
  obtain ⟨tc, pc, mc⟩ := hc
  obtain ⟨ta, pa, ma⟩ := ha
  obtain ⟨tb, pb, mb⟩ := hb
  refine ⟨_, ps_if pc pa pb, fun Φ Z σ H ρ r R q D k => ?_⟩
  unfold sIf at q
  cases e1 : t ρ with
  | none => rw [e1] at q; cases q
  | some s =>
    rw [e1, Option.bind_some] at q
    refine mc Φ Z σ H ρ s.1 s.2 R e1 _ fun H1 Z1 z1 R1 => ?_
    by_cases hp : s.1 = true
    · rw [if_pos hp] at q ⊢
      exact ma Φ Z1 σ H1 s.2 r R1 q D (k.mono z1)
    · rw [if_neg hp] at q ⊢
      exact mb Φ Z1 σ H1 s.2 r R1 q D (k.mono z1)
theorem sd_drop (he : ED X e f) (hs : swapsWith e none pos.line X.env = pure false := by rfl) : SD X (.Expr e pos) (sDrop f) := by
  obtain ⟨t, p, m⟩ := he
  refine ⟨_, ps_expr p hs, fun Φ Z σ H ρ r R q D k => ?_⟩
  unfold sDrop at q
  cases e1 : f ρ with
  | none => rw [e1] at q; cases q
  | some s =>
    rw [e1] at q
    cases q
    exact m Φ Z σ H ρ s.1 s.2 R e1 _ fun v H1 Z1 z1 R1 r1 => k σ H1 Z1 z1 R1
theorem sd_set (i : Nat) {x : Str} {pos' : Pos} (hN : X.N.Nodup) (he : ED X e f) (hi : X.N[i]? = some x := by rfl) (hx : Loc X.env.scope x := by first | exact Or.inl rfl | exact Or.inr rfl) (hs : swapsWith e (some (.Name x pos')) pos.line X.env = pure false := by rfl)
    (hf : X.fn x = true ∨ X.env.scope.names.lookup x = some .local := by first | exact .inl rfl | exact .inr rfl) : SD X (.Assign [.Name x pos'] e pos) (sSet i f) := by
  obtain ⟨t, p, m⟩ := he
  refine ⟨_, ps_set hN hi hx p hs hf, fun Φ Z σ H ρ r R q D k => ?_⟩
  unfold sSet at q
  cases e1 : f ρ with
  | none => rw [e1] at q; cases q
  | some s =>
    rw [e1, Option.bind_some] at q
    cases e2 : put s.2 i s.1 with
    | none => rw [e2] at q; cases q
    | some ρ1 =>
      rw [e2] at q
      cases q
      exact m Φ Z σ H ρ s.1 s.2 R e1 _ fun v H1 Z1 z1 R1 r1 => k _ H1 Z1 z1 (put_rl R1 r1 e2)
theorem sd_new (i : Nat) {n : XN} {x : Str} {pos' : Pos} (hN : X.N.Nodup) (he : ND X e n) (hi : X.N[i]? = some x := by rfl) (hx : Loc X.env.scope x := by first | exact Or.inl rfl | exact Or.inr rfl) (hs : swapsWith e (some (.Name x pos')) pos.line X.env = pure false := by rfl)
    (hf : X.fn x = true ∨ X.env.scope.names.lookup x = some .local := by first | exact .inl rfl | exact .inr rfl) : SD X (.Assign [.Name x pos'] e pos) (sNew i n) := by
  obtain ⟨t, p, m⟩ := he
  refine ⟨_, ps_set hN hi hx p hs hf, fun Φ Z σ H ρ r R q D k => ?_⟩
  unfold sNew at q
  cases e1 : n ρ with
  | none => rw [e1] at q; cases q
  | some s =>
    rw [e1, Option.bind_some] at q
    split at q
    · rename_i hfr
      cases q
      obtain ⟨h1, h2⟩ := free_lt hfr
      exact m Φ Z σ H ρ s.1 s.2 R e1 _ fun a H1 Z1 z1 R1 w => k _ H1 Z1 z1 (R1.hold h1 h2 w.ob w.z w.fr w.h0 w.no)
    · cases q
end
end DL
set_option maxRecDepth 100000
set_option maxHeartbeats 2000000
namespace DL
open PySem L2

def xApp (i : Nat) (f : XE) : XE := fun ρ => match ρ[i]? with
  | some (.own (.ol _) _) => (f ρ).bind fun p => match p.2[i]? with
    | some (.own (.ol xs) io) => if xs.length < sizeLine then some (.none, p.2.set i (.own (.ol (xs ++ [p.1])) io)) else none
    | _ => none
  | _ => none
def xExt (i : Nat) (f : XE) : XE := fun ρ => match ρ[i]? with
  | some (.own (.ol _) _) => (f ρ).bind fun p => match p.1, p.2[i]? with
    | .list ys, some (.own (.ol xs) io) => if xs.length + ys.length ≤ sizeLine then some (.none, p.2.set i (.own (.ol (xs ++ ys)) io)) else none
    | _, _ => none
  | _ => none
/-- the own list that stands in slot i -/
theorem Rl.lst {K : PySem.W.Frag} {Φ : Fx} {Z : Hp} {σ : St} {H : Hp} {ρ : Nv} (R : Rl K Φ Z σ H ρ) {i : Nat} {xs : List PyData} {io : Bool} (e : ρ[i]? = some (EV.own (.ol xs) io)) :
    ∃ a vs, σ[i]? = some (some (V.ref a)) ∧ H a = some (.lst vs) ∧ RpA K Z vs xs := by
  obtain ⟨a, s, vs, h, r⟩ := R.own _ _ _ e
  exact ⟨a, vs, s, h, r⟩
section
variable {X : Cx} {e e2 : Expr} {f g : XE} {apos cpos vpos : Pos}
theorem ed_app (i : Nat) {x : Str} (he : ED X e f) (hN : X.N[i]? = some x := by rfl) (hv : Vis X.env.scope x := by first | exact Or.inl rfl | exact Or.inr (Or.inl rfl) | exact Or.inr (Or.inr rfl)) (hd : (x == ("__debug__" : Str)) = false := by decide)
    (hcd : (x == ("__classdict__" : Str)) = false := by decide) (hbase : attributeBase (.Name x vpos) "append" X.env (eval (.Name x vpos) X.env) = eval (.Name x vpos) X.env := by rfl)
    (hfew : ((backTo cpos (starEach [e] X.env)).all (fun x => !x.1) && (backToKw cpos (keywordEach [] X.env)).all (fun x => x.1.isSome) && decide ([e].length + ([] : List Keyword).length + (if ([] : List Keyword).isEmpty then 0 else 1) < 30)) = true := by rfl)
    (hline : (apos.endLine == cpos.line) = true := by rfl) (hs : starEach [e] X.env = (false, eval e X.env) :: starEach [] X.env := by rfl) (hplain : (backTo cpos (starEach [] X.env)).any (·.1) = false := by rfl) :
    ED X (.Call (.Attribute (.Name x vpos) "append" apos) [e] [] cpos) (xApp i f) := by
  obtain ⟨t, p, m⟩ := he
  refine ⟨_, pe_bm PySem.F.plainAttrs_list PySem.F.slot_list_append PySem.F.type_list_append mt_append (pe_var hN hv hd hcd) (pa_cons p pa_nil hs) hbase hfew hline hs hplain, fun Φ Z σ H ρ d ρ' R q Q k => ?_⟩
  unfold xApp at q
  split at q
  · rename_i ys io e0
    obtain ⟨a, vs, s, h, _⟩ := R.lst e0
    cases e1 : f ρ with
    | none => rw [e1] at q; cases q
    | some w =>
      rw [e1, Option.bind_some] at q
      split at q
      · rename_i xs io2 e2
        split at q
        · rename_i hl
          cases q
          refine ⟨_, s, .inl ⟨rfl, vs, SqL.of h⟩, m Φ Z σ H ρ w.1 w.2 R e1 _ fun v H1 Z1 z1 R1 r1 => ?_⟩
          obtain ⟨a2, vs2, s2, h2, rr⟩ := R1.lst e2
          rw [s] at s2
          cases s2
          refine ⟨a, vs2, v, rfl, rfl, h2, by rw [rr.length]; exact hl, ?_⟩
          exact k _ _ Z1 z1 (R1.mutate e2 s ⟨_, upd_same, rr.append (.cons r1 .nil)⟩) .non
        · cases q
      · cases q
  · cases q
theorem ed_ext (i : Nat) {x : Str} (he : ED X e f) (hN : X.N[i]? = some x := by rfl) (hv : Vis X.env.scope x := by first | exact Or.inl rfl | exact Or.inr (Or.inl rfl) | exact Or.inr (Or.inr rfl)) (hd : (x == ("__debug__" : Str)) = false := by decide)
    (hcd : (x == ("__classdict__" : Str)) = false := by decide) (hbase : attributeBase (.Name x vpos) "extend" X.env (eval (.Name x vpos) X.env) = eval (.Name x vpos) X.env := by rfl)
    (hfew : ((backTo cpos (starEach [e] X.env)).all (fun x => !x.1) && (backToKw cpos (keywordEach [] X.env)).all (fun x => x.1.isSome) && decide ([e].length + ([] : List Keyword).length + (if ([] : List Keyword).isEmpty then 0 else 1) < 30)) = true := by rfl)
    (hline : (apos.endLine == cpos.line) = true := by rfl) (hs : starEach [e] X.env = (false, eval e X.env) :: starEach [] X.env := by rfl) (hplain : (backTo cpos (starEach [] X.env)).any (·.1) = false := by rfl) :
    ED X (.Call (.Attribute (.Name x vpos) "extend" apos) [e] [] cpos) (xExt i f) := by
  obtain ⟨t, p, m⟩ := he
  refine ⟨_, pe_bm PySem.F.plainAttrs_list PySem.F.slot_list_extend PySem.F.type_list_extend mt_extend (pe_var hN hv hd hcd) (pa_cons p pa_nil hs) hbase hfew hline hs hplain, fun Φ Z σ H ρ d ρ' R q Q k => ?_⟩
  unfold xExt at q
  split at q
  · rename_i ys io e0
    obtain ⟨a, vs, s, h, _⟩ := R.lst e0
    cases e1 : f ρ with
    | none => rw [e1] at q; cases q
    | some w =>
      rw [e1, Option.bind_some] at q
      split at q
      · rename_i zs xs io2 ez e2
        split at q
        · rename_i hl
          cases q
          refine ⟨_, s, .inl ⟨rfl, vs, SqL.of h⟩, m Φ Z σ H ρ w.1 w.2 R e1 _ fun v H1 Z1 z1 R1 r1 => ?_⟩
          rw [ez] at r1
          obtain ⟨b, ws, rfl, hb, rb⟩ := Rb.lst R1.zH (.inl r1)
          obtain ⟨a2, vs2, s2, h2, rr⟩ := R1.lst e2
          rw [s] at s2
          cases s2
          refine ⟨a, b, vs2, ws, rfl, rfl, h2, hb, by rw [rr.length, rb.length]; exact hl, ?_⟩
          exact k _ _ Z1 z1 (R1.mutate e2 s ⟨_, upd_same, rr.append rb⟩) .non
        · cases q
      · cases q
  · cases q
end

section
variable {κ : Type} [DecidableEq κ]
def getD' (kvs : List (κ × PyData)) (k : κ) : Option PyData := (kvs.find? fun kv => decide (kv.1 = k)).map (·.2)
def putD (kvs : List (κ × PyData)) (k : κ) (d : PyData) : List (κ × PyData) := if (kvs.any fun kv => decide (kv.1 = k)) = true then kvs.map (fun kv => if kv.1 = k then (kv.1, d) else kv) else kvs ++ [(k, d)]
end
theorem get_rp {κ : Type} [DecidableEq κ] {K : PySem.W.Frag} {Z : Hp} {k : κ} : ∀ {vs : List (κ × V)} {kvs : List (κ × PyData)}, vs.map (·.1) = kvs.map (·.1) → RpA K Z (vs.map (·.2)) (kvs.map (·.2)) →
    (∀ d, getD' kvs k = some d → ∃ v, valV vs k = some v ∧ Rp K Z v d) ∧ (valV vs k).isSome = (getD' kvs k).isSome
  | [], [], _, _ => ⟨fun d e => (by cases e), rfl⟩
  | [], _ :: _, e, _ => by cases e
  | _ :: _, [], e, _ => by cases e
  | (a, v) :: vs, (b, d) :: kvs, e, r => by
    rw [List.map_cons, List.map_cons] at e
    injection e with e1 e2
    rw [List.map_cons, List.map_cons] at r
    cases r with
    | cons r1 r2 =>
      have ih := get_rp (k := k) e2 r2
      have e1 : a = b := e1
      subst e1
      by_cases hk : a = k
      · subst hk
        refine ⟨fun d' q => ?_, ?_⟩
        · have : getD' ((a, d) :: kvs) a = some d := by simp [getD', List.find?_cons]
          rw [this] at q
          cases q
          exact ⟨v, valV_pos rfl, r1⟩
        · simp [valV, getD', List.find?_cons]
      · have q1 : getD' ((a, d) :: kvs) k = getD' kvs k := by simp [getD', List.find?_cons, hk]
        rw [q1, valV_neg (p := (a, v)) hk]
        exact ih
theorem keys_any {κ : Type} [DecidableEq κ] {k : κ} : ∀ {vs : List (κ × V)} {kvs : List (κ × PyData)}, vs.map (·.1) = kvs.map (·.1) → (vs.any fun kv => decide (kv.1 = k)) = (kvs.any fun kv => decide (kv.1 = k))
  | [], [], _ => rfl
  | [], _ :: _, e => by cases e
  | _ :: _, [], e => by cases e
  | (a, v) :: vs, (b, d) :: kvs, e => by
    rw [List.map_cons, List.map_cons] at e
    injection e with e1 e2
    have e1 : a = b := e1
    subst e1
    rw [List.any_cons, List.any_cons, keys_any e2]
theorem put_keys {κ : Type} [DecidableEq κ] {k : κ} {v : V} {d : PyData} : ∀ {vs : List (κ × V)} {kvs : List (κ × PyData)}, vs.map (·.1) = kvs.map (·.1) →
    (vs.map fun kv => if kv.1 = k then (kv.1, v) else kv).map (·.1) = (kvs.map fun kv => if kv.1 = k then (kv.1, d) else kv).map (·.1)
  | [], [], _ => rfl
  | [], _ :: _, e => by cases e
  | _ :: _, [], e => by cases e
  | (a, v') :: vs, (b, d') :: kvs, e => by
    rw [List.map_cons, List.map_cons] at e
    injection e with e1 e2
    have e1 : a = b := e1
    subst e1
    have ih := put_keys (k := k) (v := v) (d := d) e2
    simp only [List.map_cons]
    rw [ih]
    by_cases hk : a = k <;> simp [hk]
theorem put_vals {κ : Type} [DecidableEq κ] {K : PySem.W.Frag} {Z : Hp} {k : κ} {v : V} {d : PyData} (h : Rp K Z v d) : ∀ {vs : List (κ × V)} {kvs : List (κ × PyData)}, vs.map (·.1) = kvs.map (·.1) → RpA K Z (vs.map (·.2)) (kvs.map (·.2)) →
    RpA K Z ((vs.map fun kv => if kv.1 = k then (kv.1, v) else kv).map (·.2)) ((kvs.map fun kv => if kv.1 = k then (kv.1, d) else kv).map (·.2))
  | [], [], _, _ => .nil
  | [], _ :: _, e, _ => by cases e
  | _ :: _, [], e, _ => by cases e
  | (a, v') :: vs, (b, d') :: kvs, e, r => by
    rw [List.map_cons, List.map_cons] at e
    injection e with e1 e2
    have e1 : a = b := e1
    subst e1
    rw [List.map_cons, List.map_cons] at r
    cases r with
    | cons r1 r2 =>
      have ih := put_vals (k := k) h e2 r2
      simp only [List.map_cons]
      by_cases hk : a = k
      · simp only [hk, if_true]
        exact .cons h ih
      · simp only [hk, if_false]
        exact .cons r1 ih
theorem put_rp {κ : Type} [DecidableEq κ] {K : PySem.W.Frag} {Z : Hp} {k : κ} {v : V} {d : PyData} {vs : List (κ × V)} {kvs : List (κ × PyData)} (h : Rp K Z v d) (e : vs.map (·.1) = kvs.map (·.1)) (r : RpA K Z (vs.map (·.2)) (kvs.map (·.2))) :
    (putK vs k v).map (·.1) = (putD kvs k d).map (·.1) ∧ RpA K Z ((putK vs k v).map (·.2)) ((putD kvs k d).map (·.2)) := by
  unfold putK putD
  rw [keys_any e]
  split
  · exact ⟨put_keys e, put_vals h e r⟩
  · rw [List.map_append, List.map_append, List.map_append, List.map_append, e]
    exact ⟨rfl, r.append (.cons h .nil)⟩
/-- a key: an int or a text; a tuple of texts -/
def keyD : PyData → Option Key
  | .int i => some (.inl i)
  | .str x => some (.inr x)
  | _ => none
def strKs : List PyData → Option (List Key)
  | [] => some []
  | .str x :: r => (strKs r).map (.inr x :: ·)
  | _ => none
def facB : List PyData → Bool
  | .str x :: _ => x == "factor"
  | _ => false
def keyT : PyData → Option (List Key)
  | .tuple ds => if 4 ≤ ds.length ∧ facB ds = true then none else strKs ds
  | _ => none
theorem keyD_rp {K : PySem.W.Frag} {Z : Hp} {v : V} {d : PyData} {k : Key} (r : Rp K Z v d) (e : keyD d = some k) : v = kV k := by
  unfold keyD at e
  split at e
  · cases e; cases r; rfl
  · cases e; cases r; rfl
  · cases e
theorem strKs_rp {K : PySem.W.Frag} {Z : Hp} : ∀ {vs : List V} {ds : List PyData} {ks : List Key}, RpA K Z vs ds → strKs ds = some ks → vs = ks.map kV
  | _, _, _, .nil, e => by cases e; rfl
  | _, _, _, .cons (d := d) (ds := ds) r t, e => by
    unfold strKs at e
    split at e
    · rename_i h; cases h
    · rename_i b r' h
      cases h
      cases e2 : strKs ds with
      | none => rw [e2] at e; cases e
      | some l =>
        rw [e2] at e
        cases e
        cases r
        rw [strKs_rp t e2]
        rfl
    · cases e
theorem keyT_rp {K : PySem.W.Frag} {Z : Hp} {v : V} {d : PyData} {k : List Key} (r : Rp K Z v d) (e : keyT d = some k) : ∃ b, v = .ref b ∧ Z b = some (.tup (k.map kV)) := by
  unfold keyT at e
  split at e
  · rename_i ds
    split at e
    · cases e
    rename_i hlen
    cases r with
    | tup h rr =>
      rw [strKs_rp rr e] at h
      exact ⟨_, rfl, h⟩
    | tuk h hk rr =>
      exfalso
      cases ds with
      | nil => cases hk
      | cons x l =>
        cases x <;> first | (cases hk; done) | (simp [strKs] at e; done) | skip
        rcases l with _ | ⟨y, _ | ⟨z, _ | ⟨w, l⟩⟩⟩
        · cases hk
        · cases hk
        · cases hk
        · exact hlen ⟨by simp, hk⟩
  · cases e
def ownQ (ρ : Nv) (i : Nat) : Bool := match ρ[i]? with
  | some (.own _ _) => true
  | _ => false
theorem Rl.ownAt {K : PySem.W.Frag} {Φ : Fx} {Z : Hp} {σ : St} {H : Hp} {ρ : Nv} (R : Rl K Φ Z σ H ρ) {i : Nat} (e : ownQ ρ i = true) : ∃ a, σ[i]? = some (some (V.ref a)) := by
  unfold ownQ at e
  split at e
  · rename_i o io h
    obtain ⟨a, s, _⟩ := R.own _ _ _ h
    exact ⟨a, s⟩
  · cases e
/-- d[k] of an own dict -/
def xGet (i : Nat) (f : XE) : XE := fun ρ => if ownQ ρ i = true then (f ρ).bind fun p => match p.2[i]? with
    | some (.own (.od kvs) _) => (keyD p.1).bind fun k => (getD' kvs k).map fun z => (z, p.2)
    | some (.own (.ot kvs) _) => (keyT p.1).bind fun k => (getD' kvs k).map fun z => (z, p.2)
    | _ => none
  else none
/-- d[k] = v -/
def sPut (i : Nat) (fk fv : XE) : XS := fun ρ => (fv ρ).bind fun p => if ownQ p.2 i = true then (fk p.2).bind fun q => match q.2[i]? with
    | some (.own (.od kvs) io) => (keyD q.1).bind fun k => if kvs.length < sizeLine then some (.nx (q.2.set i (.own (.od (putD kvs k p.1)) io))) else none
    | some (.own (.ot kvs) io) => (keyT q.1).bind fun k => if kvs.length < sizeLine then some (.nx (q.2.set i (.own (.ot (putD kvs k p.1)) io))) else none
    | _ => none
  else none
theorem Rl.dct {K : PySem.W.Frag} {Φ : Fx} {Z : Hp} {σ : St} {H : Hp} {ρ : Nv} (R : Rl K Φ Z σ H ρ) {i : Nat} {kvs : List (Key × PyData)} {io : Bool} (e : ρ[i]? = some (EV.own (.od kvs) io)) :
    ∃ a vs, σ[i]? = some (some (V.ref a)) ∧ H a = some (.dK vs) ∧ vs.map (·.1) = kvs.map (·.1) ∧ RpA K Z (vs.map (·.2)) (kvs.map (·.2)) := by
  obtain ⟨a, s, vs, h, r, q⟩ := R.own _ _ _ e
  exact ⟨a, vs, s, h, r, q⟩
theorem Rl.dtt {K : PySem.W.Frag} {Φ : Fx} {Z : Hp} {σ : St} {H : Hp} {ρ : Nv} (R : Rl K Φ Z σ H ρ) {i : Nat} {kvs : List (List Key × PyData)} {io : Bool} (e : ρ[i]? = some (EV.own (.ot kvs) io)) :
    ∃ a vs, σ[i]? = some (some (V.ref a)) ∧ H a = some (.dT vs) ∧ vs.map (·.1) = kvs.map (·.1) ∧ RpA K Z (vs.map (·.2)) (kvs.map (·.2)) := by
  obtain ⟨a, s, vs, h, r, q⟩ := R.own _ _ _ e
  exact ⟨a, vs, s, h, r, q⟩
theorem len_keys {κ : Type} {vs : List (κ × V)} {kvs : List (κ × PyData)} (e : vs.map (·.1) = kvs.map (·.1)) : vs.length = kvs.length := by
  have := congrArg List.length e
  simpa using this
/-- what is asked of an own dict under a key -/
theorem dget_rl {K : PySem.W.Frag} {Φ : Fx} {Z : Hp} {σ : St} {H : Hp} {ρ : Nv} (R : Rl K Φ Z σ H ρ) {i : Nat} {kvs : List (Key × PyData)} {io : Bool} (e : ρ[i]? = some (EV.own (.od kvs) io)) {v : V} {d : PyData} {k : Key} (r : Rp K Z v d) (hk : keyD d = some k) :
    ∃ a o, σ[i]? = some (some (V.ref a)) ∧ DGet H a v o ∧ o.isSome = (getD' kvs k).isSome ∧ ∀ z, getD' kvs k = some z → ∃ w, o = some w ∧ Rp K Z w z := by
  obtain ⟨a, vs, s, h, e1, rr⟩ := R.dct e
  obtain ⟨g1, g2⟩ := get_rp (k := k) e1 rr
  rw [keyD_rp r hk]
  exact ⟨a, _, s, DGet.k h, g2, g1⟩
theorem dgett_rl {K : PySem.W.Frag} {Φ : Fx} {Z : Hp} {σ : St} {H : Hp} {ρ : Nv} (R : Rl K Φ Z σ H ρ) {i : Nat} {kvs : List (List Key × PyData)} {io : Bool} (e : ρ[i]? = some (EV.own (.ot kvs) io)) {v : V} {d : PyData} {k : List Key} (r : Rp K Z v d) (hk : keyT d = some k) :
    ∃ a o, σ[i]? = some (some (V.ref a)) ∧ DGet H a v o ∧ o.isSome = (getD' kvs k).isSome ∧ ∀ z, getD' kvs k = some z → ∃ w, o = some w ∧ Rp K Z w z := by
  obtain ⟨a, vs, s, h, e1, rr⟩ := R.dtt e
  obtain ⟨g1, g2⟩ := get_rp (k := k) e1 rr
  obtain ⟨b, rfl, hb⟩ := keyT_rp r hk
  exact ⟨a, _, s, DGet.t h (R.zH _ _ hb), g2, g1⟩
section
variable {X : Cx} {e v : Expr} {f g : XE} {vpos pos pos' : Pos}
theorem ed_get (i : Nat) {x : Str} (hu : X.A.units + 1 < cLine) (he : ED X e f) (hN : X.N[i]? = some x := by rfl) (hv : Vis X.env.scope x := by first | exact Or.inl rfl | exact Or.inr (Or.inl rfl) | exact Or.inr (Or.inr rfl)) (hd : (x == ("__debug__" : Str)) = false := by decide)
    (hcd : (x == ("__classdict__" : Str)) = false := by decide) (hs : NoSl e := by intro _ _; rfl) : ED X (.Subscript (.Name x vpos) e pos) (xGet i f) := by
  obtain ⟨t, p, m⟩ := he
  refine ⟨_, pe_dget hu (pe_var hN hv hd hcd) p hs, fun Φ Z σ H ρ d ρ' R q Q k => ?_⟩
  unfold xGet at q
  split at q
  · rename_i ho
    obtain ⟨a, s⟩ := R.ownAt ho
    cases e1 : f ρ with
    | none => rw [e1] at q; cases q
    | some w =>
      rw [e1, Option.bind_some] at q
      refine ⟨_, s, m Φ Z σ H ρ w.1 w.2 R e1 _ fun y H1 Z1 z1 R1 r1 => ?_⟩
      split at q
      · rename_i kvs io e2
        cases e3 : keyD w.1 with
        | none => rw [e3] at q; cases q
        | some kk =>
          rw [e3, Option.bind_some] at q
          cases e4 : getD' kvs kk with
          | none => rw [e4] at q; cases q
          | some z =>
            rw [e4] at q
            cases q
            obtain ⟨a2, o, s2, g, _, h⟩ := dget_rl R1 e2 r1 e3
            rw [s] at s2
            cases s2
            obtain ⟨v', rfl, rv⟩ := h _ e4
            exact ⟨a, v', rfl, g, k _ H1 Z1 z1 R1 rv⟩
      · rename_i kvs io e2
        cases e3 : keyT w.1 with
        | none => rw [e3] at q; cases q
        | some kk =>
          rw [e3, Option.bind_some] at q
          cases e4 : getD' kvs kk with
          | none => rw [e4] at q; cases q
          | some z =>
            rw [e4] at q
            cases q
            obtain ⟨a2, o, s2, g, _, h⟩ := dgett_rl R1 e2 r1 e3
            rw [s] at s2
            cases s2
            obtain ⟨v', rfl, rv⟩ := h _ e4
            exact ⟨a, v', rfl, g, k _ H1 Z1 z1 R1 rv⟩
      · cases q
  · cases q
theorem sd_put (i : Nat) {x : Str} (hu : X.A.units + 1 < cLine) (he : ED X e f) (hv' : ED X v g) (hN : X.N[i]? = some x := by rfl) (hv : Vis X.env.scope x := by first | exact Or.inl rfl | exact Or.inr (Or.inl rfl) | exact Or.inr (Or.inr rfl)) (hd : (x == ("__debug__" : Str)) = false := by decide)
    (hcd : (x == ("__classdict__" : Str)) = false := by decide) (hs : swapsWith v (some (.Subscript (.Name x vpos) e pos')) pos.line X.env = pure false := by rfl) : SD X (.Assign [.Subscript (.Name x vpos) e pos'] v pos) (sPut i f g) := by
  obtain ⟨t, p, m⟩ := he
  obtain ⟨t2, p2, m2⟩ := hv'
  refine ⟨_, ps_dput hu (pe_var hN hv hd hcd) p p2 hs, fun Φ Z σ H ρ r R q D k => ?_⟩
  unfold sPut at q
  cases e1 : g ρ with
  | none => rw [e1] at q; cases q
  | some w =>
    rw [e1, Option.bind_some] at q
    split at q
    · rename_i ho
      cases e3 : f w.2 with
      | none => rw [e3] at q; cases q
      | some u =>
        rw [e3, Option.bind_some] at q
        refine m2 Φ Z σ H ρ w.1 w.2 R e1 _ fun y H1 Z1 z1 R1 r1 => ?_
        obtain ⟨a, s⟩ := R1.ownAt ho
        refine ⟨_, s, m Φ Z1 σ H1 w.2 u.1 u.2 R1 e3 _ fun ky H2 Z2 z2 R2 r2 => ?_⟩
        split at q
        · rename_i kvs io e2
          cases e4 : keyD u.1 with
          | none => rw [e4] at q; cases q
          | some kk =>
            rw [e4, Option.bind_some] at q
            split at q
            · rename_i hl
              cases q
              obtain ⟨a2, vs, s2, h, q1, q2⟩ := R2.dct e2
              rw [s] at s2
              cases s2
              obtain ⟨w1, w2⟩ := put_rp (k := kk) (r1.mono z2) q1 q2
              rw [keyD_rp r2 e4]
              exact ⟨a, _, rfl, DPut.k h (by rw [len_keys q1]; exact hl), k _ _ Z2 (z1.trans z2) (R2.mutate e2 s ⟨_, upd_same, w1, w2⟩)⟩
            · cases q
        · rename_i kvs io e2
          cases e4 : keyT u.1 with
          | none => rw [e4] at q; cases q
          | some kk =>
            rw [e4, Option.bind_some] at q
            split at q
            · rename_i hl
              cases q
              obtain ⟨a2, vs, s2, h, q1, q2⟩ := R2.dtt e2
              rw [s] at s2
              cases s2
              obtain ⟨w1, w2⟩ := put_rp (k := kk) (r1.mono z2) q1 q2
              obtain ⟨b, rfl, hb⟩ := keyT_rp r2 e4
              exact ⟨a, _, rfl, DPut.t h (R2.zH _ _ hb) (by rw [len_keys q1]; exact hl), k _ _ Z2 (z1.trans z2) (R2.mutate e2 s ⟨_, upd_same, w1, w2⟩)⟩
            · cases q
        · cases q
    · cases q
end
end DL
set_option maxRecDepth 100000
set_option maxHeartbeats 2000000
namespace DL
open PySem L2

def tOf (K : PySem.W.Frag) (f : XE) : TE := fun σ H Q => ∃ (Φ : Fx) (Z : Hp) (ρ : Nv) (d : PyData) (ρ' : Nv), Rl K Φ Z σ H ρ ∧ f ρ = some (d, ρ') ∧ ∀ v H' Z', Same Z Z' → Rl K Φ Z' σ H' ρ' → Rp K Z' v d → Q v H'
def tOfT (K : PySem.W.Frag) (f : XT) : TT := fun σ H Q => ∃ (Φ : Fx) (Z : Hp) (ρ : Nv) (d : Bool) (ρ' : Nv), Rl K Φ Z σ H ρ ∧ f ρ = some (d, ρ') ∧ ∀ H' Z', Same Z Z' → Rl K Φ Z' σ H' ρ' → Q d H'
theorem me_of {K : PySem.W.Frag} {f : XE} : ME K (tOf K f) f := fun Φ Z σ H ρ d ρ' R q Q k => ⟨Φ, Z, ρ, d, ρ', R, q, k⟩
theorem mt_of {K : PySem.W.Frag} {f : XT} : MT K (tOfT K f) f := fun Φ Z σ H ρ d ρ' R q Q k => ⟨Φ, Z, ρ, d, ρ', R, q, k⟩
theorem ED.pe {X : Cx} {e : Expr} {f : XE} (h : ED X e f) : PE X e (tOf X.K f) := by
  obtain ⟨t, p, m⟩ := h
  exact ⟨fun pins s σ H Q I q => p.run pins s σ H Q I (by
    obtain ⟨Φ, Z, ρ, d, ρ', R, e, k⟩ := q
    exact m Φ Z σ H ρ d ρ' R e Q k)⟩
theorem TD.pt {X : Cx} {e : Expr} {f : XT} (h : TD X e f) : PT X e (tOfT X.K f) := by
  obtain ⟨t, p, m⟩ := h
  exact ⟨fun pins s σ H Q I q => p.run pins s σ H Q I (by
    obtain ⟨Φ, Z, ρ, d, ρ', R, e, k⟩ := q
    exact m Φ Z σ H ρ d ρ' R e Q k)⟩

section
variable {K : PySem.W.Frag} {Φ : Fx} {Z : Hp} {σ σ' : St} {H : Hp} {ρ ρ' : Nv}
/-- other slots hold what they like where nothing is said -/
theorem Rl.reslot (R : Rl K Φ Z σ H ρ) (hl : σ'.length = σ.length) (h : ∀ i : Nat, (∃ e, ρ[i]? = some e ∧ e ≠ EV.un) → σ'[i]? = σ[i]?) : Rl K Φ Z σ' H ρ := by
  have at_ : ∀ i a, AtS ρ σ' i a → AtS ρ σ i a := by
    rintro i a ⟨⟨o, io, e⟩, s⟩
    refine ⟨⟨o, io, e⟩, ?_⟩
    rw [← h i ⟨_, e, by simp⟩]
    exact s
  refine ⟨R.len.trans hl.symm, R.zH, R.zN, R.f0, R.fr, R.dom, fun i j a h1 h2 => R.inj i j a (at_ i a h1) (at_ j a h2), fun i a h1 => R.sep i a (at_ i a h1), ?_, ?_, ?_, ?_, ?_, R.io⟩
  · intro i x e
    rw [h i ⟨_, e, by simp⟩]
    exact R.dat i x e
  · intro i ns e
    rw [h i ⟨_, e, by simp⟩]
    exact R.scr i ns e
  · intro i o io e
    rw [h i ⟨_, e, by simp⟩]
    exact R.own i o io e
  · intro i o a e s
    rw [h i ⟨_, e, by simp⟩] at s
    exact R.loc i o a e s
  · intro i a e
    obtain ⟨s, o, q⟩ := R.ino i a e
    rw [h i ⟨_, q, by simp⟩]
    exact ⟨s, o, q⟩
/-- what a slot holds is forgotten -/
theorem Rl.drop (R : Rl K Φ Z σ H ρ) {i : Nat} (hn : ∀ o, ρ[i]? ≠ some (EV.own o true)) : Rl K Φ Z σ H (ρ.set i .un) := by
  by_cases hi : i < ρ.length
  · have at_ : ∀ j b, AtS (ρ.set i .un) σ j b → j ≠ i ∧ AtS ρ σ j b := by
      rintro j b ⟨⟨o', io, e'⟩, s'⟩
      by_cases hj : i = j
      · subst hj
        rw [List.getElem?_set_self hi] at e'
        cases e'
      · rw [List.getElem?_set_ne hj] at e'
        exact ⟨Ne.symm hj, ⟨o', io, e'⟩, s'⟩
    refine ⟨by simp [R.len], R.zH, R.zN, R.f0, R.fr, R.dom, fun j k b h1 h2 => R.inj j k b (at_ j b h1).2 (at_ k b h2).2, fun j b h => R.sep j b (at_ j b h).2, ?_, ?_, ?_, ?_, ?_, ?_⟩
    · intro j y q
      by_cases hj : i = j
      · subst hj; rw [List.getElem?_set_self hi] at q; cases q
      · rw [List.getElem?_set_ne hj] at q; exact R.dat j y q
    · intro j ns q
      by_cases hj : i = j
      · subst hj; rw [List.getElem?_set_self hi] at q; cases q
      · rw [List.getElem?_set_ne hj] at q; exact R.scr j ns q
    · intro j o' io q
      by_cases hj : i = j
      · subst hj; rw [List.getElem?_set_self hi] at q; cases q
      · rw [List.getElem?_set_ne hj] at q; exact R.own j o' io q
    · intro j o' b q s'
      by_cases hj : i = j
      · subst hj; rw [List.getElem?_set_self hi] at q; cases q
      · rw [List.getElem?_set_ne hj] at q; exact R.loc j o' b q s'
    · intro j b q
      obtain ⟨q1, o', q2⟩ := R.ino j b q
      have hj : i ≠ j := by
        rintro rfl
        exact hn _ q2
      rw [List.getElem?_set_ne hj]
      exact ⟨q1, o', q2⟩
    · intro j o' q
      by_cases hj : i = j
      · subst hj; rw [List.getElem?_set_self hi] at q; cases q
      · rw [List.getElem?_set_ne hj] at q; exact R.io j o' q
  · rw [List.set_eq_of_length_le (by omega)]
    exact R
/-- one object more that must stay -/
def Fx.keep (Φ : Fx) (D : Addr) (o : HO) : Fx := { Φ with Fr := upd Φ.Fr D o }
theorem Rl.keep (R : Rl K Φ Z σ H ρ) {D : Addr} {o : HO} (h : H D = some o) (hz : Z D = none) (hn : ∀ i, ¬ AtS ρ σ i D) (hz0 : ∀ a u, Z a = some u → a ≠ D) : Rl K (Φ.keep D o) Z σ H ρ := by
  refine ⟨R.len, R.zH, ?_, R.f0, ?_, R.dom, R.inj, ?_, R.dat, R.scr, R.own, R.loc, R.ino, R.io⟩
  · intro a u e nt
    rcases R.zN a u e nt with q | ⟨q1, q2⟩
    · exact .inl q
    · refine .inr ⟨q1, ?_⟩
      show upd Φ.Fr D o a = none
      rw [upd_ne (hz0 a u e)]
      exact q2
  · intro a u e
    by_cases ha : a = D
    · subst ha
      have e : upd Φ.Fr a o a = some u := e
      rw [upd_same] at e
      rw [h]
      exact e
    · have e : upd Φ.Fr D o a = some u := e
      rw [upd_ne ha] at e
      exact R.fr a u e
  · intro i a q
    have ha : a ≠ D := fun e => hn i (e ▸ q)
    refine ⟨(R.sep i a q).1, ?_⟩
    show upd Φ.Fr D o a = none
    rw [upd_ne ha]
    exact (R.sep i a q).2
theorem Rl.unkeep {D : Addr} {o : HO} (R : Rl K (Φ.keep D o) Z σ H ρ) (hD : Φ.Fr D = none) : Rl K Φ Z σ H ρ ∧ H D = some o ∧ (∀ i, ¬ AtS ρ σ i D) := by
  have sub : ∀ a, upd Φ.Fr D o a = none → Φ.Fr a = none := fun a e => by
    by_cases ha : a = D
    · subst ha; exact hD
    · rw [upd_ne ha] at e; exact e
  refine ⟨⟨R.len, R.zH, fun a u e nt => ?_, R.f0, fun a u e => ?_, R.dom, R.inj, fun i a q => ?_, R.dat, R.scr, R.own, R.loc, R.ino, R.io⟩, R.fr D o upd_same, fun i q => ?_⟩
  · rcases R.zN a u e nt with q | ⟨q1, q2⟩
    · exact .inl q
    · exact .inr ⟨q1, sub a q2⟩
  · refine R.fr a u ?_
    show upd Φ.Fr D o a = some u
    rw [upd_ne (ne_of_none e hD)]
    exact e
  · exact ⟨(R.sep i a q).1, sub a (R.sep i a q).2⟩
  · have := (R.sep i D q).2
    have e : upd Φ.Fr D o D = none := this
    rw [upd_same] at e
    cases e
/-- the kept object changes -/
theorem Rl.rekeep {D : Addr} {o u : HO} (R : Rl K (Φ.keep D o) Z σ H ρ) (hD : Φ.Fr D = none) (hz : Z D = none) : Rl K (Φ.keep D u) Z σ (upd H D u) ρ := by
  have eq0 : ∀ a, a ≠ D → upd Φ.Fr D u a = upd Φ.Fr D o a := fun a h => by rw [upd_ne h, upd_ne h]
  have hat : ∀ i a, AtS ρ σ i a → a ≠ D := fun i a q e => by
    subst e
    have := (R.sep i a q).2
    have e : upd Φ.Fr a o a = none := this
    rw [upd_same] at e
    cases e
  refine ⟨R.len, fun a w e => ?_, fun a w e nt => ?_, R.f0, fun a w e => ?_, fun a e => ?_, R.inj, fun i a q => ?_, R.dat, R.scr, fun i o' io e => ?_, R.loc, R.ino, R.io⟩
  · rw [upd_ne (ne_of_none e hz)]
    exact R.zH a w e
  · rcases R.zN a w e nt with q | ⟨q1, q2⟩
    · exact .inl q
    · refine .inr ⟨q1, ?_⟩
      show upd Φ.Fr D u a = none
      rw [eq0 a (ne_of_none e hz)]
      exact q2
  · by_cases ha : a = D
    · subst ha
      have e : upd Φ.Fr a u a = some w := e
      rw [upd_same] at e ⊢
      exact e
    · have e : upd Φ.Fr D u a = some w := e
      rw [upd_ne ha] at e ⊢
      exact R.fr a w (by show upd Φ.Fr D o a = some w; rw [upd_ne ha]; exact e)
  · by_cases ha : a = D
    · subst ha
      rw [upd_same] at e
      cases e
    · rw [upd_ne ha] at e
      exact R.dom a e
  · refine ⟨(R.sep i a q).1, ?_⟩
    show upd Φ.Fr D u a = none
    rw [eq0 a (hat i a q)]
    exact (R.sep i a q).2
  · obtain ⟨a, s, ob⟩ := R.own i o' io e
    exact ⟨a, s, ob.move (Same.refl Z) (upd_ne (hat i a ⟨⟨o', io, e⟩, s⟩))⟩
end

abbrev XG := PyData → Nv → Option Nv
def MG (K : PySem.W.Frag) (g : TG) (f : XG) (vs : List Nat) : Prop := ∀ (Φ : Fx) (Z : Hp) (σ : St) (H : Hp) (ρ : Nv) (v : V) (d : PyData) (ρ' : Nv), Rl K Φ Z σ H ρ → Rp K Z v d → f d ρ = some ρ' →
  ∀ Q : St → Hp → Prop, (∀ σ', Rl K Φ Z σ' H ρ' → σ'.length = σ.length → (∀ j, j ∉ vs → σ'[j]? = σ[j]?) → Q σ' H) → g v σ H Q
def GD (X : Cx) (e : Expr) (f : XG) (vs : List Nat) : Prop := ∃ g, PG X e g ∧ MG X.K g f vs
def gOf (K : PySem.W.Frag) (f : XG) (vs : List Nat) : TG := fun v σ H Q => ∃ (Φ : Fx) (Z : Hp) (ρ : Nv) (d : PyData) (ρ' : Nv), Rl K Φ Z σ H ρ ∧ Rp K Z v d ∧ f d ρ = some ρ' ∧
  ∀ σ', Rl K Φ Z σ' H ρ' → σ'.length = σ.length → (∀ j, j ∉ vs → σ'[j]? = σ[j]?) → Q σ' H
theorem mg_of {K : PySem.W.Frag} {f : XG} {vs : List Nat} : MG K (gOf K f vs) f vs := fun Φ Z σ H ρ v d ρ' R r q Q k => ⟨Φ, Z, ρ, d, ρ', R, r, q, k⟩
theorem GD.pg {X : Cx} {e : Expr} {f : XG} {vs : List Nat} (h : GD X e f vs) : PG X e (gOf X.K f vs) := by
  obtain ⟨g, p, m⟩ := h
  exact ⟨fun pins s σ H v u Q I r q => p.run pins s σ H v u Q I r (by
    obtain ⟨Φ, Z, ρ, d, ρ', R, rp, e, k⟩ := q
    exact m Φ Z σ H ρ v d ρ' R rp e Q k)⟩
def gNm (i : Nat) : XG := fun d ρ => put ρ i d
abbrev XGs := List PyData → Nv → Option Nv
def MGs (K : PySem.W.Frag) (g : TGs) (f : XGs) (vs : List Nat) : Prop := ∀ (Φ : Fx) (Z : Hp) (σ : St) (H : Hp) (ρ : Nv) (xs : List V) (ds : List PyData) (ρ' : Nv), Rl K Φ Z σ H ρ → RpA K Z xs ds → f ds ρ = some ρ' →
  ∀ Q : St → Hp → Prop, (∀ σ', Rl K Φ Z σ' H ρ' → σ'.length = σ.length → (∀ j, j ∉ vs → σ'[j]? = σ[j]?) → Q σ' H) → g xs σ H Q
def GsD (X : Cx) (es : List Expr) (f : XGs) (vs : List Nat) : Prop := ∃ g, PGs X es g ∧ MGs X.K g f vs
def gsNil : XGs := fun ds ρ => match ds with
  | [] => some ρ
  | _ => none
def gsCons (f : XG) (r : XGs) : XGs := fun ds ρ => match ds with
  | d :: ds => (f d ρ).bind fun ρ' => r ds ρ'
  | [] => none
def gTp (n : Nat) (f : XGs) : XG := fun d ρ => match d with
  | .tuple ds => if ds.length = n then f ds ρ else none
  | _ => none
section
variable {X : Cx} {e : Expr} {es : List Expr} {f : XG} {r : XGs} {vs ws : List Nat} {pos : Pos}
theorem gd_name (i : Nat) {x : Str} (hN : X.N.Nodup) (hi : X.N[i]? = some x := by rfl) (hx : Loc X.env.scope x := by first | exact Or.inl rfl | exact Or.inr rfl) (hf : X.fn x = true ∨ X.env.scope.names.lookup x = some .local := by first | exact .inl rfl | exact .inr rfl) :
    GD X (.Name x pos) (gNm i) [i] := by
  refine ⟨_, pg_name hN hi hx hf, fun Φ Z σ H ρ v d ρ' R r q Q k => ?_⟩
  exact k _ (put_rl R r q) (by simp) fun j hj => List.getElem?_set_ne (fun e => hj (by simp [e]))
theorem gsd_nil : GsD X [] gsNil [] := ⟨_, pgs_nil, fun Φ Z σ H ρ xs ds ρ' R r q Q k => by
  unfold gsNil at q
  split at q
  · cases q
    cases r
    exact ⟨rfl, k σ R rfl fun _ _ => rfl⟩
  · cases q⟩
theorem gsd_cons (h1 : GD X e f vs) (h2 : GsD X es r ws) (hs : (assignEach (e :: es) X.env).map (·.2) = assign e X.env :: (assignEach es X.env).map (·.2) := by rfl) : GsD X (e :: es) (gsCons f r) (vs ++ ws) := by
  obtain ⟨g, p, m⟩ := h1
  obtain ⟨gs, ps, ms⟩ := h2
  refine ⟨_, pgs_cons p ps hs, fun Φ Z σ H ρ xs ds ρ' R rr q Q k => ?_⟩
  unfold gsCons at q
  split at q
  · rename_i d ds
    cases rr with
    | cons r1 r2 =>
      cases e1 : f d ρ with
      | none => rw [e1] at q; cases q
      | some ρ1 =>
        rw [e1, Option.bind_some] at q
        refine ⟨_, _, rfl, m Φ Z σ H ρ _ d ρ1 R r1 e1 _ fun σ1 R1 l1 s1 => ?_⟩
        refine ms Φ Z σ1 H ρ1 _ ds ρ' R1 r2 q Q fun σ2 R2 l2 s2 => k σ2 R2 (l2.trans l1) fun j hj => ?_
        rw [List.mem_append, not_or] at hj
        exact (s2 j hj.2).trans (s1 j hj.1)
  · cases q
theorem gd_tup {n kk : Nat} (hc : X.calm = true) (h : GsD X es r vs) (hn : (assignEach es X.env).length = n := by rfl) (hst : (assignEach es X.env).findIdx? (·.1) = none := by rfl) : GD X (.Tuple es kk pos) (gTp n r) vs := by
  obtain ⟨g, p, m⟩ := h
  refine ⟨_, pg_tup hc p hn hst, fun Φ Z σ H ρ v d ρ' R rr q Q k => ?_⟩
  unfold gTp at q
  split at q
  · split at q
    · rename_i ds hl
      obtain ⟨a, xs, rfl, h1, r1⟩ := Rb.tup (H := Z) (Same.refl Z) (.inl rr)
      exact ⟨a, xs, rfl, sqT_mono R.zH h1, r1.length.trans hl, m Φ Z σ H ρ xs ds ρ' R r1 q Q k⟩
    · cases q
  · cases q
/-- target = value, the target a tuple of names -/
def sAsg (f : XE) (g : XG) : XS := fun ρ => (f ρ).bind fun p => (g p.1 p.2).map .nx
theorem sd_asg {tg e : Expr} {fe : XE} {g : XG} (he : ED X e fe) (hg : GD X tg g vs) (hs : swapsWithSole [tg] e pos.line X.env = pure false := by rfl) (hw : swappedStores [tg] e X.env = pure none := by rfl)
    (h1 : (assignEach [tg] X.env).map (·.2) = [assign tg X.env] := by rfl) : SD X (.Assign [tg] e pos) (sAsg fe g) := by
  obtain ⟨t, p, m⟩ := he
  obtain ⟨u, q, n⟩ := hg
  refine ⟨_, ps_asg p q hs hw h1, fun Φ Z σ H ρ r R q D k => ?_⟩
  unfold sAsg at q
  cases e1 : fe ρ with
  | none => rw [e1] at q; cases q
  | some w =>
    rw [e1, Option.bind_some] at q
    cases e2 : g w.1 w.2 with
    | none => rw [e2] at q; cases q
    | some ρ1 =>
      rw [e2] at q
      cases q
      refine m Φ Z σ H ρ w.1 w.2 R e1 _ fun v H1 Z1 z1 R1 r1 => ?_
      exact n Φ Z1 σ H1 w.2 v w.1 ρ1 R1 r1 e2 _ fun σ' R2 _ _ => k σ' H1 Z1 z1 R2
/-- a, b = x, y: two local names -/
def sPar (i j : Nat) (f g : XE) : XS := fun ρ => (f ρ).bind fun p => (g p.2).bind fun q => (put q.2 i p.1).bind fun ρ1 => (put ρ1 j q.1).map .nx
theorem sd_par {i j : Nat} {x y : Str} {a b : Expr} {fa fb : XE} {px py pt : Pos} {kt k2 pt2} (hc : X.calm = true) (hN : X.N.Nodup) (ha : ED X a fa) (hb : ED X b fb) (hi : X.N[i]? = some x := by rfl) (hj : X.N[j]? = some y := by rfl) (hij : i ≠ j := by decide)
    (hx : X.env.scope.names.lookup x = some .local := by rfl) (hy : X.env.scope.names.lookup y = some .local := by rfl)
    (hw : swappedStores [.Tuple [.Name x px, .Name y py] kt pt] (.Tuple [a, b] k2 pt2) X.env = pure (some [x, y]) := by rfl)
    (hs : swapsWithSole [.Tuple [.Name x px, .Name y py] kt pt] (.Tuple [a, b] k2 pt2) pos.line X.env = pure false := by rfl)
    (h1 : starEach [a, b] X.env = (false, eval a X.env) :: starEach [b] X.env := by rfl) (h2 : starEach [b] X.env = (false, eval b X.env) :: starEach [] X.env := by rfl) :
    SD X (.Assign [.Tuple [.Name x px, .Name y py] kt pt] (.Tuple [a, b] k2 pt2) pos) (sPar i j fa fb) := by
  obtain ⟨t, p, m⟩ := ha
  obtain ⟨t2, p2, m2⟩ := hb
  refine ⟨_, ps_par hc hN hi hj hij hx hy (pa_cons p (pa_cons p2 pa_nil h2) h1) hw hs, fun Φ Z σ H ρ r R q D k => ?_⟩
  unfold sPar at q
  cases e1 : fa ρ with
  | none => rw [e1] at q; cases q
  | some w =>
    rw [e1, Option.bind_some] at q
    cases e2 : fb w.2 with
    | none => rw [e2] at q; cases q
    | some u =>
      rw [e2, Option.bind_some] at q
      cases e3 : put u.2 i w.1 with
      | none => rw [e3] at q; cases q
      | some ρ1 =>
        rw [e3, Option.bind_some] at q
        cases e4 : put ρ1 j u.1 with
        | none => rw [e4] at q; cases q
        | some ρ2 =>
          rw [e4] at q
          cases q
          refine m Φ Z σ H ρ w.1 w.2 R e1 _ fun v H1 Z1 z1 R1 r1 => ?_
          refine m2 Φ Z1 σ H1 w.2 u.1 u.2 R1 e2 _ fun v2 H2 Z2 z2 R2 r2 => ?_
          exact ⟨v, v2, rfl, k _ H2 Z2 (z1.trans z2) (put_rl (put_rl R2 (r1.mono z2) e3) r2 e4)⟩
end

/-- the iterator gives these items -/
structure Yld (K : PySem.W.Frag) (Z : Hp) (J : It) (ds : List PyData) : Prop where
  go : ∀ i H, Same Z H → i < ds.length → J.go i H
  stop : ∀ i H, Same Z H → i = ds.length → J.stop i H
  item : ∀ i H x H' Φ σ ρ Z2, i < ds.length → Same Z Z2 → Rl K Φ Z2 σ H ρ → J.yld i H x H' → ∃ Z3 d, Same Z2 Z3 ∧ Rl K Φ Z3 σ H' ρ ∧ ds[i]? = some d ∧ Rp K Z3 x d
abbrev XI := Nv → Option (List PyData × Nv)
def MI (K : PySem.W.Frag) (w : TI) (f : XI) : Prop := ∀ (Φ : Fx) (Z : Hp) (σ : St) (H : Hp) (ρ : Nv) (ds : List PyData) (ρ' : Nv), Rl K Φ Z σ H ρ → f ρ = some (ds, ρ') →
  ∀ R' : It → Hp → Prop, (∀ J H' Z', Same Z Z' → Rl K Φ Z' σ H' ρ' → Yld K Z' J ds → R' J H') → w σ H R'
def ID' (X : Cx) (tg e : Expr) (f : XI) : Prop := ∃ w, PI X tg e w ∧ MI X.K w f
theorem pi_orr {X : Cx} {tg e : Expr} {w1 w2 : TI} (h1 : PI X tg e w1) (h2 : PI X tg e w2) : PI X tg e (fun σ H R => w1 σ H R ∨ w2 σ H R) :=
  ⟨fun pins s σ H R I h => h.elim (h1.run pins s σ H R I) (h2.run pins s σ H R I)⟩
theorem yld_list {K : PySem.W.Frag} {Z : Hp} {a : Addr} {xs : List V} {ds : List PyData} (h : Z a = some (.lst xs)) (r : RpA K Z xs ds) : Yld K Z (Itl K a) ds := by
  refine ⟨fun i H z hi => ?_, fun i H z hi => ⟨xs, SqL.of (z _ _ h), by rw [r.length]; omega⟩, fun i H x H' Φ σ ρ Z2 hi z R y => ?_⟩
  · obtain ⟨v, hv, _⟩ := r.get (List.getElem?_eq_getElem hi)
    exact ⟨xs, v, SqL.of (z _ _ h), hv⟩
  · obtain ⟨rfl, y⟩ := y
    have hx := y xs (SqL.of (R.zH _ _ (z _ _ h)))
    obtain ⟨d, hd, rd⟩ := r.getV hx
    exact ⟨Z2, d, Same.refl Z2, R, hd, rd.mono z⟩
theorem yld_tup {K : PySem.W.Frag} {Z : Hp} {a : Addr} {xs : List V} {ds : List PyData} (h : SqT K Z a xs) (r : RpA K Z xs ds) : Yld K Z (Itt K a) ds := by
  refine ⟨fun i H z hi => ?_, fun i H z hi => ⟨xs, sqT_mono z h, by rw [r.length]; omega⟩, fun i H x H' Φ σ ρ Z2 hi z R y => ?_⟩
  · obtain ⟨v, hv, _⟩ := r.get (List.getElem?_eq_getElem hi)
    exact ⟨xs, v, sqT_mono z h, hv⟩
  · obtain ⟨rfl, y⟩ := y
    have hx := y xs (sqT_mono R.zH (sqT_mono z h))
    obtain ⟨d, hd, rd⟩ := r.getV hx
    exact ⟨Z2, d, Same.refl Z2, R, hd, rd.mono z⟩
def rngD (lo : Int) (n : Nat) : List PyData := (List.range n).map fun (i : Nat) => PyData.int (lo + (i : Int))
theorem yld_rng {K : PySem.W.Frag} {Z : Hp} {lo : Int} {n : Nat} : Yld K Z (Itr lo n) (rngD lo n) := by
  have hl : (rngD lo n).length = n := by simp [rngD]
  refine ⟨fun i H z hi => ?_, fun i H z hi => ?_, fun i H x H' Φ σ ρ Z2 hi z R y => ?_⟩
  · show i < n
    omega
  · show n ≤ i
    omega
  · obtain ⟨rfl, rfl⟩ := y
    refine ⟨Z2, .int (lo + i), Same.refl Z2, R, ?_, .int _⟩
    rw [hl] at hi
    simp [rngD, hi]
theorem yld_str {K : PySem.W.Frag} {Z : Hp} {x : Str} : Yld K Z (Its x) (x.cps.toList.map fun c => PyData.str ⟨#[c]⟩) := by
  refine ⟨fun i H z hi => ?_, fun i H z hi => ?_, fun i H y H' Φ σ ρ Z2 hi z R q => ?_⟩
  · show i < x.cps.size
    simpa using hi
  · show x.cps.size ≤ i
    have : i = x.cps.size := by simpa using hi
    omega
  · obtain ⟨rfl, c, hc, rfl⟩ := q
    refine ⟨Z2, .str ⟨#[c]⟩, Same.refl Z2, R, ?_, .str _⟩
    rw [List.getElem?_map, Array.getElem?_toList, hc]
    rfl
/-- the items of a list, a tuple, a text -/
def itD : PyData → Option (List PyData)
  | .list xs => some xs
  | .tuple xs => some xs
  | .str x => some (x.cps.toList.map fun c => PyData.str ⟨#[c]⟩)
  | _ => none
def iOf (f : XE) : XI := fun ρ => (f ρ).bind fun p => (itD p.1).map fun ds => (ds, p.2)
section
variable {X : Cx} {tg e e2 : Expr} {f g : XE} {p pos : Pos}
theorem id_seq (h : ED X e f) : ID' X tg e (iOf f) := by
  obtain ⟨t, pe, m⟩ := h
  refine ⟨_, pi_orr (pi_list pe) (pi_orr (pi_tup pe) (pi_str pe)), fun Φ Z σ H ρ ds ρ' R q R' k => ?_⟩
  unfold iOf at q
  cases e1 : f ρ with
  | none => rw [e1] at q; cases q
  | some w =>
    rw [e1, Option.bind_some] at q
    cases e2 : itD w.1 with
    | none => rw [e2] at q; cases q
    | some l =>
      rw [e2] at q
      cases q
      unfold itD at e2
      split at e2
      · rename_i xs ex
        cases e2
        refine .inl (m Φ Z σ H ρ w.1 w.2 R e1 _ fun v H1 Z1 z1 R1 r1 => ?_)
        rw [ex] at r1
        cases r1 with
        | lst h rr => exact ⟨_, rfl, ⟨_, SqL.of (R1.zH _ _ h)⟩, k _ H1 Z1 z1 R1 (yld_list h rr)⟩
      · rename_i xs ex
        cases e2
        refine .inr (.inl (m Φ Z σ H ρ w.1 w.2 R e1 _ fun v H1 Z1 z1 R1 r1 => ?_))
        rw [ex] at r1
        obtain ⟨a, vs, rfl, h, rr⟩ := Rb.tup (H := Z1) (Same.refl Z1) (.inl r1)
        exact ⟨a, rfl, ⟨vs, sqT_mono R1.zH h⟩, k _ H1 Z1 z1 R1 (yld_tup h rr)⟩
      · rename_i y ex
        cases e2
        refine .inr (.inr (m Φ Z σ H ρ w.1 w.2 R e1 _ fun v H1 Z1 z1 R1 r1 => ?_))
        rw [ex] at r1
        cases r1
        exact ⟨_, rfl, k _ H1 Z1 z1 R1 yld_str⟩
      · cases e2
def iRng (f : XE) : XI := fun ρ => (f ρ).bind fun p => match p.1 with
  | .int j => if -(2 ^ 62) ≤ j ∧ j < 2 ^ 62 then some (rngD 0 j.toNat, p.2) else none
  | _ => none
theorem id_rng (hm : X.mg "range" = none) (h : ED X e f) (hg : Gl X "range" := by rfl) (hs : starEach [e] X.env = [(false, eval e X.env)] := by rfl) : ID' X tg (.Call (.Name "range" p) [e] [] pos) (iRng f) := by
  obtain ⟨t, pe, m⟩ := h
  refine ⟨_, pi_range1 hg hm (pa_cons pe pa_nil hs) hs, fun Φ Z σ H ρ ds ρ' R q R' k => ?_⟩
  unfold iRng at q
  cases e1 : f ρ with
  | none => rw [e1] at q; cases q
  | some w =>
    rw [e1, Option.bind_some] at q
    split at q
    · rename_i j ej
      split at q
      · rename_i hj
        cases q
        refine m Φ Z σ H ρ w.1 w.2 R e1 _ fun v H1 Z1 z1 R1 r1 => ?_
        rw [ej] at r1
        cases r1
        exact ⟨j, rfl, hj.1, hj.2, k _ H1 Z1 z1 R1 yld_rng⟩
      · cases q
    · cases q
end

/-- through the items: the target, the body -/
def forL (g : XG) (b : XS) : List PyData → Nv → Option Fl
  | [], ρ => some (.nx ρ)
  | d :: ds, ρ => (g d ρ).bind fun ρ1 => (b ρ1).bind fun r => match r with
    | .nx ρ2 => forL g b ds ρ2
    | .ct ρ2 => forL g b ds ρ2
    | .bk ρ2 => some (.nx ρ2)
    | .rt x ρ2 => some (.rt x ρ2)
    | .rn x ρ2 => some (.rn x ρ2)
def sFor (it : XI) (g : XG) (b : XS) : XS := fun ρ => (it ρ).bind fun p => forL g b p.1 p.2
theorem ms_for {K : PySem.W.Frag} {w : TI} {g : TG} {tb : TS} {it : XI} {gf : XG} {vs : List Nat} {b : XS} (mi : MI K w it) (mg : MG K g gf vs) (mb : MS K tb b) : MS K (tFor w g tb) (sFor it gf b) := by
  intro Φ Z σ H ρ r R q D k
  unfold sFor at q
  cases e1 : it ρ with
  | none => rw [e1] at q; cases q
  | some p =>
    rw [e1, Option.bind_some] at q
    obtain ⟨ds, ρ1⟩ := p
    refine mi Φ Z σ H ρ ds ρ1 R e1 _ fun J H1 Z1 z1 R1 y => ?_
    have k1 := k.mono z1
    refine ⟨fun i m σ' H' => m = ds.length - i ∧ i ≤ ds.length ∧ ∃ Z' ρ', Same Z1 Z' ∧ Rl K Φ Z' σ' H' ρ' ∧ forL gf b (ds.drop i) ρ' = some r, ⟨ds.length, by simp, Nat.zero_le _, Z1, ρ1, Same.refl Z1, R1, by simpa using q⟩, ?_⟩
    rintro i m σ' H' ⟨rfl, hi, Z', ρ', z', R', q'⟩
    by_cases hlt : i < ds.length
    · refine .inr ⟨y.go i H' (z'.trans R'.zH) hlt, fun σ2 H2 => i + 1 ≤ ds.length ∧ ∃ Z' ρ', Same Z1 Z' ∧ Rl K Φ Z' σ2 H2 ρ' ∧ forL gf b (ds.drop (i + 1)) ρ' = some r, fun σ2 H2 ⟨h1, h2⟩ => ⟨ds.length - (i + 1), by omega, rfl, h1, h2⟩, fun x H2 yl => ?_⟩
      obtain ⟨Z3, d, z3, R3, hd, rd⟩ := y.item i H' x H2 Φ σ' ρ' Z' hlt z' R' yl
      have ed : ds.drop i = d :: ds.drop (i + 1) := by
        rw [List.drop_eq_getElem_cons hlt]
        congr 1
        rw [List.getElem?_eq_getElem hlt] at hd
        exact Option.some.inj hd
      rw [ed] at q'
      unfold forL at q'
      cases e2 : gf d ρ' with
      | none => rw [e2] at q'; cases q'
      | some ρ2 =>
        rw [e2, Option.bind_some] at q'
        cases e3 : b ρ2 with
        | none => rw [e3] at q'; cases q'
        | some f =>
          rw [e3, Option.bind_some] at q'
          refine mg Φ Z3 σ' H2 ρ' x d ρ2 R3 rd e2 _ fun σ3 R4 _ _ => ?_
          refine mb Φ Z3 σ3 H2 ρ2 f R4 e3 _ ?_
          cases f with
          | nx ρ4 => exact fun σ4 H4 Z4 z4 R5 => ⟨hlt, Z4, ρ4, (z'.trans z3).trans z4, R5, q'⟩
          | ct ρ4 => exact fun σ4 H4 Z4 z4 R5 => ⟨hlt, Z4, ρ4, (z'.trans z3).trans z4, R5, q'⟩
          | bk ρ4 =>
            cases q'
            exact fun σ4 H4 Z4 z4 R5 => k1 σ4 H4 Z4 ((z'.trans z3).trans z4) R5
          | rt dd ρ4 =>
            cases q'
            exact fun v σ4 H4 Z4 z4 R5 rr => k1 v σ4 H4 Z4 ((z'.trans z3).trans z4) R5 rr
          | rn dd ρ4 =>
            cases q'
            exact fun v σ4 H4 Z4 z4 R5 rr => k1 v σ4 H4 Z4 ((z'.trans z3).trans z4) R5 rr
    · have e : i = ds.length := by omega
      subst e
      rw [List.drop_length] at q'
      cases q'
      exact .inl ⟨y.stop _ H' (z'.trans R'.zH) rfl, k1 σ' H' Z' z' R'⟩
section
variable {X : Cx} {tg e : Expr} {body : List Stmt} {it : XI} {g : XG} {vs : List Nat} {b : XS} {pos : Pos}
theorem sd_for (hp : PassesOwn (model X.prog X.w) X.A X.env X.xe) (hc : X.calm = true) (hi : ID' X tg e it) (hg : GD X tg g vs) (hb : SSD X body b) (hs : ∀ x, foldedSetIterable e X.env x = pure x := by intro _; rfl) :
    SD X (.For tg e body [] pos) (sFor it g b) := by
  obtain ⟨w, p, m⟩ := hi
  obtain ⟨t, q, n⟩ := hg
  obtain ⟨u, r, o⟩ := hb
  exact ⟨_, ps_for hp hc p q r hs, ms_for m n o⟩
end

def whL (c : XT) (b : XS) : Nat → Nv → Option Fl
  | 0, _ => none
  | n + 1, ρ => (c ρ).bind fun p => if p.1 = true then (b p.2).bind fun r => match r with
      | .nx ρ2 => whL c b n ρ2
      | .ct ρ2 => whL c b n ρ2
      | .bk ρ2 => some (.nx ρ2)
      | .rt x ρ2 => some (.rt x ρ2)
      | .rn x ρ2 => some (.rn x ρ2)
    else some (.nx p.2)
def sWh (n : Nv → Nat) (c : XT) (b : XS) : XS := fun ρ => whL c b (n ρ) ρ
theorem ms_wh {K : PySem.W.Frag} {tc : TT} {tb : TS} {n : Nv → Nat} {c : XT} {b : XS} (mc : MT K tc c) (mb : MS K tb b) : MS K (tWhile tc tb) (sWh n c b) := by
  intro Φ Z σ H ρ r R q D k
  refine ⟨fun m σ' H' => ∃ Z' ρ', Same Z Z' ∧ Rl K Φ Z' σ' H' ρ' ∧ whL c b m ρ' = some r, ⟨n ρ, Z, ρ, Same.refl Z, R, q⟩, ?_⟩
  rintro m σ' H' ⟨Z', ρ', z', R', q'⟩
  cases m with
  | zero => cases q'
  | succ m =>
    unfold whL at q'
    cases e1 : c ρ' with
    | none => rw [e1] at q'; cases q'
    | some p =>
      rw [e1, Option.bind_some] at q'
      refine mc Φ Z' σ' H' ρ' p.1 p.2 R' e1 _ fun H1 Z1 z1 R1 => ?_
      by_cases hp : p.1 = true
      · rw [if_pos hp] at q' ⊢
        cases e2 : b p.2 with
        | none => rw [e2] at q'; cases q'
        | some f =>
          rw [e2, Option.bind_some] at q'
          refine ⟨fun σ2 H2 => ∃ Z' ρ', Same Z Z' ∧ Rl K Φ Z' σ2 H2 ρ' ∧ whL c b m ρ' = some r, fun σ2 H2 h => ⟨m, Nat.lt_succ_self m, h⟩, ?_⟩
          refine mb Φ Z1 σ' H1 p.2 f R1 e2 _ ?_
          cases f with
          | nx ρ4 => exact fun σ4 H4 Z4 z4 R5 => ⟨Z4, ρ4, (z'.trans z1).trans z4, R5, q'⟩
          | ct ρ4 => exact fun σ4 H4 Z4 z4 R5 => ⟨Z4, ρ4, (z'.trans z1).trans z4, R5, q'⟩
          | bk ρ4 =>
            cases q'
            exact fun σ4 H4 Z4 z4 R5 => k σ4 H4 Z4 ((z'.trans z1).trans z4) R5
          | rt dd ρ4 =>
            cases q'
            exact fun v σ4 H4 Z4 z4 R5 rr => k v σ4 H4 Z4 ((z'.trans z1).trans z4) R5 rr
          | rn dd ρ4 =>
            cases q'
            exact fun v σ4 H4 Z4 z4 R5 rr => k v σ4 H4 Z4 ((z'.trans z1).trans z4) R5 rr
      · rw [if_neg hp] at q' ⊢
        cases q'
        exact k σ' H1 Z1 (z'.trans z1) R1
section
variable {X : Cx} {c : Expr} {body : List Stmt} {t : XT} {b : XS} {pos : Pos}
theorem sd_wh (n : Nv → Nat) (hp : PassesOwn (model X.prog X.w) X.A X.env X.xe) (hc : TD X c t) (hb : SSD X body b) : SD X (.While c body [] pos) (sWh n t b) := by
  obtain ⟨w, p, m⟩ := hc
  obtain ⟨u, r, o⟩ := hb
  exact ⟨_, ps_while hp p r, ms_wh m o⟩
end
end DL
set_option maxRecDepth 100000
set_option maxHeartbeats 2000000
namespace DL
open PySem L2

def xFz (n : XN) : XE := fun ρ => (n ρ).map fun p => (odD p.1, p.2)
theorem me_fz {K : PySem.W.Frag} {t : TE} {n : XN} (m : MN K t n) : ME K t (xFz n) := by
  intro Φ Z σ H ρ d ρ' R q Q k
  unfold xFz at q
  cases e1 : n ρ with
  | none => rw [e1] at q; cases q
  | some p =>
    rw [e1] at q
    cases q
    refine m Φ Z σ H ρ p.1 p.2 R e1 _ fun a H1 Z1 z1 R1 w => ?_
    obtain ⟨u, hu, _⟩ := w.ob.some
    obtain ⟨z2, R2⟩ := R1.freeze hu w.z w.h0 w.fr w.no
    exact k _ H1 _ (z1.trans z2) R2 ((w.ob.move z2 rfl).rp R2.zH (by rw [upd_same, hu]))
theorem ND.ed {X : Cx} {e : Expr} {n : XN} (h : ND X e n) : ED X e (xFz n) := by
  obtain ⟨t, p, m⟩ := h
  exact ⟨t, p, me_fz m⟩

def unAt (ρ : Nv) (vs : List Nat) : Bool := vs.all fun v => match ρ[v]? with
  | some .un => true
  | _ => false
def wipeN : Nv → List Nat → Option Nv
  | ρ, [] => some ρ
  | ρ, v :: vs => if free ρ v = true then wipeN (ρ.set v .un) vs else none
theorem unAt_get {ρ : Nv} {vs : List Nat} (h : unAt ρ vs = true) {i : Nat} (hi : i ∈ vs) : ρ[i]? = some EV.un := by
  unfold unAt at h
  have := List.all_eq_true.mp h i hi
  split at this
  · assumption
  · cases this
theorem wipeN_keep : ∀ {vs : List Nat} {ρ ρ' : Nv} {i : Nat}, wipeN ρ vs = some ρ' → ρ[i]? = some EV.un → ρ'[i]? = some EV.un
  | [], _, _, _, h, e => by cases h; exact e
  | v :: vs, ρ, ρ', i, h, e => by
    unfold wipeN at h
    split at h
    · refine wipeN_keep h ?_
      by_cases hv : v = i
      · subst hv
        exact List.getElem?_set_self (List.getElem?_eq_some_iff.mp e).1
      · rw [List.getElem?_set_ne hv]
        exact e
    · cases h
theorem wipeN_un : ∀ {vs : List Nat} {ρ ρ' : Nv}, wipeN ρ vs = some ρ' → ∀ i ∈ vs, ρ'[i]? = some EV.un
  | [], _, _, _, i, hi => by cases hi
  | v :: vs, ρ, ρ', h, i, hi => by
    unfold wipeN at h
    split at h
    · rename_i hf
      rcases List.mem_cons.mp hi with rfl | hi
      · exact wipeN_keep h (List.getElem?_set_self (free_lt hf).1)
      · exact wipeN_un h i hi
    · cases h
theorem wipeN_unAt {vs : List Nat} {ρ ρ' : Nv} (h : wipeN ρ vs = some ρ') : unAt ρ' vs = true := by
  unfold unAt
  rw [List.all_eq_true]
  intro i hi
  rw [wipeN_un h i hi]
theorem wipeN_rl {K : PySem.W.Frag} {Φ : Fx} {Z : Hp} {σ : St} {H : Hp} : ∀ {vs : List Nat} {ρ ρ' : Nv}, Rl K Φ Z σ H ρ → wipeN ρ vs = some ρ' → Rl K Φ Z σ H ρ'
  | [], _, _, R, h => by cases h; exact R
  | v :: vs, ρ, ρ', R, h => by
    unfold wipeN at h
    split at h
    · rename_i hf
      exact wipeN_rl (R.drop (free_lt hf).2) h
    · cases h
theorem wipe_ne {σ : St} : ∀ {vs : List Nat} {i : Nat}, i ∉ vs → (wipe σ vs)[i]? = σ[i]?
  | [], _, _ => rfl
  | v :: vs, i, h => by
    rw [List.mem_cons, not_or] at h
    show ((wipe σ vs).set v none)[i]? = _
    rw [List.getElem?_set_ne (Ne.symm h.1), wipe_ne h.2]
theorem wipe_in {σ : St} : ∀ {vs : List Nat} {i : Nat}, i ∈ vs → i < σ.length → (wipe σ vs)[i]? = some none
  | v :: vs, i, h, hi => by
    show ((wipe σ vs).set v none)[i]? = _
    by_cases hv : v = i
    · subst hv
      exact List.getElem?_set_self (by rw [wipe_length]; exact hi)
    · rw [List.getElem?_set_ne hv]
      rcases List.mem_cons.mp h with rfl | h
      · exact absurd rfl hv
      · exact wipe_in h hi
theorem wipe_eq {σ σ' : St} {vs : List Nat} (hl : σ'.length = σ.length) (h : ∀ j, j ∉ vs → σ'[j]? = σ[j]?) : wipe σ' vs = wipe σ vs := by
  apply List.ext_getElem?
  intro j
  by_cases hj : j ∈ vs
  · by_cases hlt : j < σ.length
    · rw [wipe_in hj hlt, wipe_in hj (by omega)]
    · rw [List.getElem?_eq_none (by rw [wipe_length]; omega), List.getElem?_eq_none (by rw [wipe_length]; omega)]
  · rw [wipe_ne hj, wipe_ne hj, h j hj]
theorem reslot_un {K : PySem.W.Frag} {Φ : Fx} {Z : Hp} {σ σ' : St} {H : Hp} {ρ : Nv} {vs : List Nat} (R : Rl K Φ Z σ H ρ) (hu : unAt ρ vs = true) (hl : σ'.length = σ.length) (h : ∀ j, j ∉ vs → σ'[j]? = σ[j]?) : Rl K Φ Z σ' H ρ := by
  refine R.reslot hl fun i ⟨e, he, hne⟩ => h i fun hi => ?_
  rw [unAt_get hu hi] at he
  cases he
  exact hne rfl

def cYes : XT := fun ρ => some (true, ρ)
def lcL (g : XG) (c : XT) (e : XE) (vs : List Nat) : List PyData → Nv → List PyData → Option (List PyData × Nv)
  | [], ρ, acc => some (acc, ρ)
  | d :: ds, ρ, acc => (g d ρ).bind fun ρ1 => (c ρ1).bind fun p => if p.1 = true then (e p.2).bind fun q => if acc.length < sizeLine then (wipeN q.2 vs).bind fun ρ2 => lcL g c e vs ds ρ2 (acc ++ [q.1]) else none
    else (wipeN p.2 vs).bind fun ρ2 => lcL g c e vs ds ρ2 acc
def nLc (it : XI) (g : XG) (c : XT) (e : XE) (vs : List Nat) : XN := fun ρ => (it ρ).bind fun p => if unAt p.2 vs = true then (lcL g c e vs p.1 p.2 []).map fun q => (.ol q.1, q.2) else none
theorem mn_lc {K : PySem.W.Frag} {w : TI} {g : TG} {tt : TT} {te : TE} {it : XI} {gf : XG} {c : XT} {e : XE} {vs : List Nat} (mi : MI K w it) (mg : MG K g gf vs) (mc : MT K tt c) (me : ME K te e) : MN K (tLc w g tt te vs) (nLc it gf c e vs) := by
  intro Φ Z σ H ρ o ρ' R q Q k
  unfold nLc at q
  cases e1 : it ρ with
  | none => rw [e1] at q; cases q
  | some p =>
    rw [e1, Option.bind_some] at q
    obtain ⟨ds, ρ1⟩ := p
    split at q
    · rename_i hu
      cases e2 : lcL gf c e vs ds ρ1 [] with
      | none => rw [e2] at q; cases q
      | some s =>
        rw [e2] at q
        cases q
        refine mi Φ Z σ H ρ ds ρ1 R e1 _ fun J H1 Z1 z1 R1 y D hD => ?_
        have frD : Φ.Fr D = none := R1.fr.free hD
        have f0D : Φ.F0 D = none := R1.f0 D (R1.dom D hD)
        have zD : ∀ {o Z' σ' H' ρ'}, (∀ xs, o ≠ .tup xs) → Rl K (Φ.keep D o) Z' σ' H' ρ' → Z' D = none := fun {o Z' σ' H' ρ'} no R' => by
          cases hz : Z' D with
          | none => rfl
          | some u =>
            rcases R'.zN D u hz (fun xs e => by have h1 := R'.zH D u hz; have h2 := R'.fr D o upd_same; rw [h1] at h2; cases h2; exact no xs e) with h | ⟨_, h⟩
            · rw [show (Φ.keep D o).F0 D = Φ.F0 D from rfl, f0D] at h
              cases h
            · have h : upd Φ.Fr D o D = none := h
              rw [upd_same] at h
              cases h
        have start : Rl K (Φ.keep D (.lst [])) Z1 σ (upd H1 D (.lst [])) ρ1 := by
          have R2 := R1.laid (o := .lst []) hD
          refine R2.keep upd_same (R1.zH.free hD) (fun i hi => ?_) fun a u e => ne_of_none (R1.zH a u e) hD
          obtain ⟨u, hu, _⟩ := R1.at_some hi
          rw [hD] at hu
          cases hu
        refine ⟨fun i m H' => m = ds.length - i ∧ i ≤ ds.length ∧ ∃ Z' ρ' acc us, Same Z1 Z' ∧ Rl K (Φ.keep D (.lst us)) Z' σ H' ρ' ∧ unAt ρ' vs = true ∧ RpA K Z' us acc ∧ lcL gf c e vs (ds.drop i) ρ' acc = some s,
          ⟨ds.length, by simp, Nat.zero_le _, Z1, ρ1, [], [], Same.refl Z1, start, hu, .nil, by simpa using e2⟩, ?_⟩
        rintro i m H' ⟨rfl, hi, Z', ρ', acc, us, z', R', hu', ra, q'⟩
        by_cases hlt : i < ds.length
        · refine .inr ⟨y.go i H' (z'.trans R'.zH) hlt, fun H2 => i + 1 ≤ ds.length ∧ ∃ Z' ρ' acc us, Same Z1 Z' ∧ Rl K (Φ.keep D (.lst us)) Z' σ H2 ρ' ∧ unAt ρ' vs = true ∧ RpA K Z' us acc ∧ lcL gf c e vs (ds.drop (i + 1)) ρ' acc = some s,
            fun H2 ⟨h1, h2⟩ => ⟨ds.length - (i + 1), by omega, rfl, h1, h2⟩, fun x H2 yl => ?_⟩
          obtain ⟨Z3, d, z3, R3, hd, rd⟩ := y.item i H' x H2 _ σ ρ' Z' hlt z' R' yl
          have ed : ds.drop i = d :: ds.drop (i + 1) := by
            rw [List.drop_eq_getElem_cons hlt]
            congr 1
            rw [List.getElem?_eq_getElem hlt] at hd
            exact Option.some.inj hd
          rw [ed] at q'
          unfold lcL at q'
          cases e3 : gf d ρ' with
          | none => rw [e3] at q'; cases q'
          | some ρ2 =>
            rw [e3, Option.bind_some] at q'
            have R3w : Rl K (Φ.keep D (.lst us)) Z3 (wipe σ vs) H2 ρ' := reslot_un R3 hu' (wipe_length σ vs) fun j hj => wipe_ne hj
            refine mg _ Z3 (wipe σ vs) H2 ρ' x d ρ2 R3w rd e3 _ fun σ3 R4 l3 s3 => ⟨?_, ?_⟩
            · exact wipe_eq (l3.trans (wipe_length σ vs)) fun j hj => (s3 j hj).trans (wipe_ne hj)
            have l3' : σ3.length = σ.length := l3.trans (wipe_length σ vs)
            have s3' : ∀ j, j ∉ vs → σ[j]? = σ3[j]? := fun j hj => ((s3 j hj).trans (wipe_ne hj)).symm
            cases e4 : c ρ2 with
            | none => rw [e4] at q'; cases q'
            | some p =>
              rw [e4, Option.bind_some] at q'
              refine mc _ Z3 σ3 H2 ρ2 p.1 p.2 R4 e4 _ fun H5 Z5 z5 R5 => ?_
              by_cases hp : p.1 = true
              · rw [if_pos hp] at q' ⊢
                cases e5 : e p.2 with
                | none => rw [e5] at q'; cases q'
                | some w =>
                  rw [e5, Option.bind_some] at q'
                  split at q'
                  · rename_i hal
                    cases e6 : wipeN w.2 vs with
                    | none => rw [e6] at q'; cases q'
                    | some ρ4 =>
                      rw [e6, Option.bind_some] at q'
                      refine me _ Z5 σ3 H5 p.2 w.1 w.2 R5 e5 _ fun v H6 Z6 z6 R6 r6 => ?_
                      obtain ⟨_, hDl, _⟩ := R6.unkeep frD
                      have ra6 : RpA K Z6 us acc := ((ra.mono z3).mono z5).mono z6
                      refine ⟨us, hDl, by rw [ra.length]; exact hal, hlt, Z6, ρ4, acc ++ [w.1], us ++ [v], ((z'.trans z3).trans z5).trans z6, ?_, wipeN_unAt e6, ra6.append (.cons r6 .nil), q'⟩
                      exact reslot_un (wipeN_rl (R6.rekeep frD (zD (fun _ e => by cases e) R6)) e6) (wipeN_unAt e6) l3'.symm s3'
                  · cases q'
              · rw [if_neg hp] at q' ⊢
                cases e6 : wipeN p.2 vs with
                | none => rw [e6] at q'; cases q'
                | some ρ4 =>
                  rw [e6, Option.bind_some] at q'
                  refine ⟨hlt, Z5, ρ4, acc, us, (z'.trans z3).trans z5, ?_, wipeN_unAt e6, (ra.mono z3).mono z5, q'⟩
                  exact reslot_un (wipeN_rl R5 e6) (wipeN_unAt e6) l3'.symm s3'
        · have ei : i = ds.length := by omega
          subst ei
          rw [List.drop_length] at q'
          cases q'
          obtain ⟨R7, hDl, hn⟩ := R'.unkeep frD
          exact .inl ⟨y.stop _ H' (z'.trans R'.zH) rfl, k D H' Z' (z1.trans z') R7 ⟨⟨us, hDl, ra⟩, zD (fun _ e => by cases e) R', frD, R1.dom D hD, hn⟩⟩
    · cases q
def TsD (X : Cx) (ifs : List Expr) (f : XT) : Prop := ∃ t, PTs X ifs t ∧ MT X.K t f
theorem tsd_nil {X : Cx} : TsD X [] cYes := ⟨tYes, pts_nil, fun Φ Z σ H ρ d ρ' R q Q k => by
  cases q
  exact k H Z (Same.refl Z) R⟩
theorem tsd_one {X : Cx} {c : Expr} {f : XT} (h : TD X c f) : TsD X [c] f := by
  obtain ⟨t, p, m⟩ := h
  exact ⟨_, pts_one p, m⟩
theorem TsD.pts {X : Cx} {e : List Expr} {f : XT} (h : TsD X e f) : PTs X e (tOfT X.K f) := by
  obtain ⟨t, p, m⟩ := h
  exact ⟨fun pins s σ H Q I q => p.run pins s σ H Q I (by
    obtain ⟨Φ, Z, ρ, d, ρ', R, e, k⟩ := q
    exact m Φ Z σ H ρ d ρ' R e Q k)⟩
theorem ms_asg {K : PySem.W.Frag} {t : TE} {f : XE} {i : Nat} (m : ME K t f) : MS K (tAsg t (gName i)) (sSet i f) := by
  intro Φ Z σ H ρ r R q D k
  unfold sSet at q
  cases e1 : f ρ with
  | none => rw [e1] at q; cases q
  | some s =>
    rw [e1, Option.bind_some] at q
    cases e2 : put s.2 i s.1 with
    | none => rw [e2] at q; cases q
    | some ρ1 =>
      rw [e2] at q
      cases q
      exact m Φ Z σ H ρ s.1 s.2 R e1 _ fun v H1 Z1 z1 R1 r1 => k _ H1 Z1 z1 (put_rl R1 r1 e2)
theorem ms_asgN {K : PySem.W.Frag} {t : TE} {n : XN} {i : Nat} (m : MN K t n) : MS K (tAsg t (gName i)) (sNew i n) := by
  intro Φ Z σ H ρ r R q D k
  unfold sNew at q
  cases e1 : n ρ with
  | none => rw [e1] at q; cases q
  | some s =>
    rw [e1, Option.bind_some] at q
    split at q
    · rename_i hfr
      cases q
      obtain ⟨h1, h2⟩ := free_lt hfr
      exact m Φ Z σ H ρ s.1 s.2 R e1 _ fun a H1 Z1 z1 R1 w => k _ H1 Z1 z1 (R1.hold h1 h2 w.ob w.z w.fr w.h0 w.no)
    · cases q
section
variable {X : Cx} {elt tg iter : Expr} {ifs : List Expr} {scope : Scope} {pos : Pos} {it : XI} {g : XG} {c : XT} {f : XE}
theorem nd_lc {vs : List Nat} (own : List (Str × Nat)) (ok : BlkOk X.N X.env.scope scope own) (hv : own.map (·.2) = vs) (hc : X.calm = true) (hN : X.N.Nodup) (hi : ID' X tg iter it)
    (hg : ∀ (s : Shared) (H : Hp) (C : Addr) (cl : List (Str × Addr)) (fp : List Addr), GD (X.blk s H scope (compEnvC scope cl C X.env) fp) tg g vs) (ht : ∀ (s : Shared) (H : Hp) (C : Addr) (cl : List (Str × Addr)) (fp : List Addr), TsD (X.blk s H scope (compEnvC scope cl C X.env) fp) ifs c)
    (he : ∀ (s : Shared) (H : Hp) (C : Addr) (cl : List (Str × Addr)) (fp : List Addr), ED (X.blk s H scope (compEnvC scope cl C X.env) fp) elt f) (hs : ∀ x, foldedSetIterable iter X.env x = pure x := by intro _; rfl) :
    ND X (.ListComp elt [⟨tg, iter, ifs, 0⟩] scope pos) (nLc it g c f vs) := by
  subst hv
  obtain ⟨w, p, m⟩ := hi
  exact ⟨_, pe_lc (g := gOf X.K g _) (tt := tOfT X.K c) (te := tOf X.K f) hc hN p ok (fun s H C cl fp => (hg s H C cl fp).pg) (fun s H C cl fp => (ht s H C cl fp).pts) (fun s H C cl fp => (he s H C cl fp).pe) hs, mn_lc m mg_of mt_of me_of⟩
theorem sd_setLc {vs : List Nat} (i : Nat) {y : Str} {py spos : Pos} (own : List (Str × Nat)) (ok : BlkOk X.N X.env.scope scope own) (hv : own.map (·.2) = vs) (hc : X.calm = true) (hN : X.N.Nodup) (hi : ID' X tg iter it)
    (hg : ∀ (s : Shared) (H : Hp) (C : Addr) (cl : List (Str × Addr)) (fp : List Addr), GD (X.blk s H scope (compEnvC scope cl C X.env) fp) tg g vs) (ht : ∀ (s : Shared) (H : Hp) (C : Addr) (cl : List (Str × Addr)) (fp : List Addr), TsD (X.blk s H scope (compEnvC scope cl C X.env) fp) ifs c)
    (he : ∀ (s : Shared) (H : Hp) (C : Addr) (cl : List (Str × Addr)) (fp : List Addr), ED (X.blk s H scope (compEnvC scope cl C X.env) fp) elt f)
    (hsw : swapsWith (.ListComp elt [⟨tg, iter, ifs, 0⟩] scope pos) (some (.Name y py)) spos.line X.env = pure true)
    (hy : X.N[i]? = some y := by rfl) (hyl : X.env.scope.names.lookup y = some .local := by rfl) (hs : ∀ x, foldedSetIterable iter X.env x = pure x := by intro _; rfl) :
    SD X (.Assign [.Name y py] (.ListComp elt [⟨tg, iter, ifs, 0⟩] scope pos) spos) (sSet i (xFz (nLc it g c f vs))) ∧ SD X (.Assign [.Name y py] (.ListComp elt [⟨tg, iter, ifs, 0⟩] scope pos) spos) (sNew i (nLc it g c f vs)) := by
  subst hv
  obtain ⟨w, p, m⟩ := hi
  have q := ps_setLc (py := py) (g := gOf X.K g _) (tt := tOfT X.K c) (te := tOf X.K f) hc hN hy hyl hsw p ok (fun s H C cl fp => (hg s H C cl fp).pg) (fun s H C cl fp => (ht s H C cl fp).pts) (fun s H C cl fp => (he s H C cl fp).pe) hs
  exact ⟨⟨_, q, ms_asg (me_fz (mn_lc m mg_of mt_of me_of))⟩, ⟨_, q, ms_asgN (mn_lc m mg_of mt_of me_of)⟩⟩
end

def prX : List (XE × XE) → Nv → Option (List (Key × PyData) × Nv)
  | [], ρ => some ([], ρ)
  | (fk, fv) :: r, ρ => (fk ρ).bind fun p => (fv p.2).bind fun q => (keyD p.1).bind fun k => (prX r q.2).map fun s => ((k, q.1) :: s.1, s.2)
def mergeD : List (Key × PyData) → List (Key × PyData) → List (Key × PyData) := fun kvs more => more.foldl (fun acc kv => putD acc kv.1 kv.2) kvs
def nDisp (ps : List (XE × XE)) : XN := fun ρ => (prX ps ρ).bind fun p => if p.1.length ≤ 15 then some (.od (mergeD [] p.1), p.2) else none
/-- the pairs' readings meet the pairs' functions -/
inductive MPs (K : PySem.W.Frag) : List (TE × TE) → List (XE × XE) → Prop
  | nil : MPs K [] []
  | cons {tk tv : TE} {ts : List (TE × TE)} {fk fv : XE} {fs : List (XE × XE)} : ME K tk fk → ME K tv fv → MPs K ts fs → MPs K ((tk, tv) :: ts) ((fk, fv) :: fs)
theorem prs_meet {K : PySem.W.Frag} : ∀ {ts : List (TE × TE)} {fs : List (XE × XE)}, MPs K ts fs → ∀ (Φ : Fx) (Z : Hp) (σ : St) (H : Hp) (ρ : Nv) (kvs : List (Key × PyData)) (ρ' : Nv), Rl K Φ Z σ H ρ → prX fs ρ = some (kvs, ρ') →
    ∀ Q : List (V × V) → Hp → Prop, (∀ (vs : List (Key × V)) H' Z', Same Z Z' → Rl K Φ Z' σ H' ρ' → vs.map (·.1) = kvs.map (·.1) → RpA K Z' (vs.map (·.2)) (kvs.map (·.2)) → Q (vs.map fun kv => (kV kv.1, kv.2)) H') → tPairs ts σ H Q
  | _, _, .nil, Φ, Z, σ, H, ρ, kvs, ρ', R, q, Q, k => by
    cases q
    exact k [] H Z (Same.refl Z) R rfl .nil
  | _, _, .cons (fk := fk) (fv := fv) (fs := fs) mk mv r, Φ, Z, σ, H, ρ, kvs, ρ', R, q, Q, k => by
    unfold prX at q
    cases e1 : fk ρ with
    | none => rw [e1] at q; cases q
    | some p =>
      rw [e1, Option.bind_some] at q
      cases e2 : fv p.2 with
      | none => rw [e2] at q; cases q
      | some s =>
        rw [e2, Option.bind_some] at q
        cases e3 : keyD p.1 with
        | none => rw [e3] at q; cases q
        | some kk =>
          rw [e3, Option.bind_some] at q
          cases e4 : prX fs s.2 with
          | none => rw [e4] at q; cases q
          | some w =>
            rw [e4] at q
            cases q
            refine mk Φ Z σ H ρ p.1 p.2 R e1 _ fun x H1 Z1 z1 R1 r1 => ?_
            refine mv Φ Z1 σ H1 p.2 s.1 s.2 R1 e2 _ fun y H2 Z2 z2 R2 r2 => ?_
            refine prs_meet r Φ Z2 σ H2 s.2 w.1 w.2 R2 e4 _ fun vs H3 Z3 z3 R3 q1 q2 => ?_
            rw [keyD_rp r1 e3]
            refine k ((kk, y) :: vs) H3 Z3 ((z1.trans z2).trans z3) R3 ?_ (.cons (r2.mono z3) q2)
            rw [List.map_cons, List.map_cons, q1]
theorem merge_rp {K : PySem.W.Frag} {Z : Hp} : ∀ {vs : List (Key × V)} {kvs : List (Key × PyData)} {us : List (Key × V)} {ws : List (Key × PyData)}, vs.map (·.1) = kvs.map (·.1) → RpA K Z (vs.map (·.2)) (kvs.map (·.2)) → us.map (·.1) = ws.map (·.1) → RpA K Z (us.map (·.2)) (ws.map (·.2)) →
    (mergeK us vs).map (·.1) = (mergeD ws kvs).map (·.1) ∧ RpA K Z ((mergeK us vs).map (·.2)) ((mergeD ws kvs).map (·.2))
  | [], [], us, ws, _, _, e, r => ⟨e, r⟩
  | [], _ :: _, _, _, e, _, _, _ => by cases e
  | _ :: _, [], _, _, e, _, _, _ => by cases e
  | (a, v) :: vs, (b, d) :: kvs, us, ws, e, r, e', r' => by
    rw [List.map_cons, List.map_cons] at e
    injection e with e1 e2
    have e1 : a = b := e1
    subst e1
    rw [List.map_cons, List.map_cons] at r
    cases r with
    | cons r1 r2 =>
      obtain ⟨w1, w2⟩ := put_rp (k := a) r1 e' r'
      exact merge_rp (us := putK us a v) (ws := putD ws a d) e2 r2 w1 w2
def PsD (X : Cx) (pos : Pos) (keys : List (Option Expr)) (values : List Expr) (fs : List (XE × XE)) : Prop := ∃ ts, PPs X pos keys values ts ∧ MPs X.K ts fs
section
variable {X : Cx} {pos : Pos} {k v : Expr} {ks : List (Option Expr)} {vs : List Expr} {fk fv : XE} {fs : List (XE × XE)}
theorem psd_nil : PsD X pos [] [] [] := ⟨_, pps_nil, .nil⟩
theorem psd_cons (hk : ED X k fk) (hv : ED X v fv) (hr : PsD X pos ks vs fs) : PsD X pos (some k :: ks) (v :: vs) ((fk, fv) :: fs) := by
  obtain ⟨t, p, m⟩ := hk
  obtain ⟨t2, p2, m2⟩ := hv
  obtain ⟨ts, ps, ms⟩ := hr
  exact ⟨_, pps_cons p p2 ps, .cons m m2 ms⟩
theorem nd_disp (h : PsD X pos ks vs fs) (hall : ks.all (·.isSome) = true := by rfl) (hl : ks.length = vs.length := by rfl) (h0 : ks ≠ [] := by intro z; cases z) (h15 : ks.length ≤ 15 := by decide) : ND X (.Dict ks vs pos) (nDisp fs) := by
  obtain ⟨ts, ps, ms⟩ := h
  refine ⟨_, pe_disp ps hall hl h0 h15, fun Φ Z σ H ρ o ρ' R q Q k => ?_⟩
  unfold nDisp at q
  cases e1 : prX fs ρ with
  | none => rw [e1] at q; cases q
  | some w =>
    rw [e1, Option.bind_some] at q
    split at q
    · rename_i hlen
      cases q
      intro D hD
      have frD : Φ.Fr D = none := R.fr.free hD
      have f0D : Φ.F0 D = none := R.f0 D (R.dom D hD)
      have start : Rl X.K (Φ.keep D (.dK [])) Z σ (upd H D (.dK [])) ρ := by
        have R2 := R.laid (o := .dK []) hD
        refine R2.keep upd_same (R.zH.free hD) (fun i hi => ?_) fun a u e => ne_of_none (R.zH a u e) hD
        obtain ⟨u, hu, _⟩ := R.at_some hi
        rw [hD] at hu
        cases hu
      refine prs_meet ms _ Z σ _ ρ w.1 w.2 start e1 _ fun us H1 Z1 z1 R1 q1 q2 => ?_
      have zD : Z1 D = none := by
        cases hz : Z1 D with
        | none => rfl
        | some u =>
          rcases R1.zN D u hz (fun xs e => by have h1 := R1.zH D u hz; have h2 := R1.fr D (.dK []) upd_same; rw [h1] at h2; cases h2; cases e) with h | ⟨_, h⟩
          · rw [show (Φ.keep D (.dK [])).F0 D = Φ.F0 D from rfl, f0D] at h
            cases h
          · have h : upd Φ.Fr D (.dK []) D = none := h
            rw [upd_same] at h
            cases h
      obtain ⟨_, hDl, _⟩ := R1.unkeep frD
      refine ⟨hDl, us, rfl, by rw [len_keys q1]; exact hlen, ?_⟩
      obtain ⟨R3, hD3, hn⟩ := (R1.rekeep (u := .dK (mergeK [] us)) frD zD).unkeep frD
      obtain ⟨w1, w2⟩ := merge_rp (us := []) (ws := []) q1 q2 rfl .nil
      exact k D _ Z1 z1 R3 ⟨⟨_, hD3, w1, w2⟩, zD, frD, R.dom D hD, hn⟩
    · cases q
end
end DL
set_option maxRecDepth 100000
set_option maxHeartbeats 2000000
namespace DL
open PySem PySem.Spec PyProof.Rows L2

/-- what a def makes of what its parameters hold: the answer, and what the lent objects are then -/
inductive Rv where
  | d (x : PyData)
  | n (o : OD)
abbrev XF := List EV → Option (Rv × List EV)
/-- the answer: a datum, or a new object that nobody holds -/
def RvOk (K : PySem.W.Frag) (Φ : Fx) (Z : Hp) (σ : L2.St) (H : Hp) (ρ : Nv) (v : V) : Rv → Prop
  | .d x => Rp K Z v x
  | .n o => ∃ a, v = .ref a ∧ New K Φ Z σ H ρ a o
/-- the promise that belongs to such a function -/
def spF (K : PySem.W.Frag) (m : XF) (vs : List V) (H : Hp) (Q : VK) : Prop := ∃ (Z Fr : Hp) (ino : Nat → Option Addr) (ρ : Nv) (d : Rv) (ρ' : Nv), m ρ = some (d, ρ') ∧ (∀ (i : Nat) o, ρ[i]? ≠ some (EV.own o false)) ∧ Rl K ⟨Z, H, Fr, ino⟩ Z (vs.map some) H ρ ∧
  ∀ v H' Z', Same Z Z' → Rl K ⟨Z, H, Fr, ino⟩ Z' (vs.map some) H' ρ' → RvOk K ⟨Z, H, Fr, ino⟩ Z' (vs.map some) H' ρ' v d → Q v H'
/-- the def at f keeps it, where no repr is under way -/
structure FnG (P : Program) (w : World) (K : PySem.W.Frag) (mg : Str → Option Value) (base : Heap) (k : Nat) (f : Addr) (fd : FuncData) (ps : List Str) (m : XF) : Prop where
  run : ∀ (A : Around) (outer : List Env) (s : Shared) (H : Hp) (args : Args) (us : List Value) (vs : List V) (Q : VK), Room k A → A.guards = some [] → Env0 P w K mg base A outer s H → BindsTo s fd args (ps.zip us) → Vals vs us →
    vs.length = ps.length → spF K m vs H Q → codeAny (model P w) A (.call (.ref f) args) (CR CX0 outer P w H s Q E0) s
theorem FnG.mono {P : Program} {w : World} {K : PySem.W.Frag} {mg : Str → Option Value} {base : Heap} {j k : Nat} {f : Addr} {fd : FuncData} {ps : List Str} {m : XF} (F : FnG P w K mg base j f fd ps m) (h : j ≤ k) : FnG P w K mg base k f fd ps m :=
  ⟨fun A outer s H args us vs Q hr => F.run A outer s H args us vs Q (hr.mono h)⟩
/-- a function that is defined at fewer places -/
theorem FnG.sub {P : Program} {w : World} {K : PySem.W.Frag} {mg : Str → Option Value} {base : Heap} {k : Nat} {f : Addr} {fd : FuncData} {ps : List Str} {m m' : XF} (F : FnG P w K mg base k f fd ps m) (h : ∀ ρ r, m' ρ = some r → m ρ = some r) : FnG P w K mg base k f fd ps m' :=
  ⟨fun A outer s H args us vs Q hr hg he hb hv hl ⟨Z, Fr, ino, ρ, d, ρ', e, io, R, q⟩ => F.run A outer s H args us vs Q hr hg he hb hv hl ⟨Z, Fr, ino, ρ, d, ρ', h _ _ e, io, R, q⟩⟩

def finA : List EV → List EV → List EV
  | [], _ => []
  | .own o b :: es, e :: ρ => (match e with | .own o' b' => .own o' b' | _ => .own o b) :: finA es ρ
  | e :: es, _ :: ρ => e :: finA es ρ
  | e :: es, [] => e :: es
def runF (n : Nat) (body : XS) : XF := fun es => match body (es ++ List.replicate (n - es.length) .un) with
  | some (.rt d ρ) => some (.d d, finA es ρ)
  | some (.rn o ρ) => some (.n o, finA es ρ)
  | some (.nx ρ) => some (.d .none, finA es ρ)
  | _ => none
theorem finA_length : ∀ es ρ : List EV, (finA es ρ).length = es.length
  | [], _ => rfl
  | e :: es, [] => by cases e <;> rfl
  | e :: es, r :: ρ => by cases e <;> simp [finA, finA_length es ρ]
theorem finA_other : ∀ {es ρ : List EV} {i : Nat} {e : EV}, es[i]? = some e → (∀ o b, e ≠ .own o b) → (finA es ρ)[i]? = some e
  | [], _, _, _, h, _ => by simp at h
  | x :: es, [], i, e, h, hn => by cases x <;> exact h
  | x :: es, r :: ρ, 0, e, h, hn => by
    simp at h
    subst h
    cases x with
    | own o b => exact absurd rfl (hn o b)
    | _ => rfl
  | x :: es, r :: ρ, i + 1, e, h, hn => by
    have h' : es[i]? = some e := by simpa using h
    have ih := finA_other (ρ := ρ) h' hn
    cases x <;> simpa [finA] using ih
theorem finA_own : ∀ {es ρ : List EV} {i : Nat} {o o' : OD} {b b' : Bool}, es[i]? = some (.own o b) → ρ[i]? = some (.own o' b') → (finA es ρ)[i]? = some (.own o' b')
  | [], _, _, _, _, _, _, h, _ => by simp at h
  | x :: es, [], i, _, _, _, _, h, h2 => by simp at h2
  | x :: es, r :: ρ, 0, o, o', b, b', h, h2 => by
    simp at h h2
    subst h h2
    rfl
  | x :: es, r :: ρ, i + 1, o, o', b, b', h, h2 => by
    have ih := finA_own (es := es) (ρ := ρ) (i := i) (by simpa using h) (by simpa using h2)
    cases x <;> simpa [finA] using ih
/-- at a def's end: its parameters as they came, the lent objects as they are -/
theorem fin_rl {K : PySem.W.Frag} {Φ : Fx} {Z Z' : Hp} {vs : List V} {σ : L2.St} {H H' : Hp} {es ρ : Nv} (R0 : Rl K Φ Z (vs.map some) H es) (hio : ∀ (i : Nat) o, es[i]? ≠ some (EV.own o false)) (z : Same Z Z') (R : Rl K Φ Z' σ H' ρ) : Rl K Φ Z' (vs.map some) H' (finA es ρ) ∧ ∀ i a, AtS (finA es ρ) (vs.map some) i a → AtS ρ σ i a := by
  -- a lent object's slot
  have lent : ∀ (i : Nat) o b, es[i]? = some (EV.own o b) → ∃ a o', Φ.ino i = some a ∧ (vs.map some)[i]? = some (some (V.ref a)) ∧ σ[i]? = some (some (V.ref a)) ∧ ρ[i]? = some (EV.own o' true) := fun i o b e => by
    cases b with
    | false => exact absurd e (hio i o)
    | true =>
      obtain ⟨a, ha⟩ := R0.io i o e
      obtain ⟨s1, _⟩ := R0.ino i a ha
      obtain ⟨s2, o', e2⟩ := R.ino i a ha
      exact ⟨a, o', ha, s1, s2, e2⟩
  have own_of : ∀ (i : Nat) o b, (finA es ρ)[i]? = some (EV.own o b) → ∃ o0 b0, es[i]? = some (EV.own o0 b0) := fun i o b e => by
    cases he : es[i]? with
    | none =>
      have hl := List.getElem?_eq_none_iff.mp he
      rw [List.getElem?_eq_none (by rw [finA_length]; exact hl)] at e
      cases e
    | some x =>
      cases x with
      | own o0 b0 => exact ⟨o0, b0, rfl⟩
      | un => rw [finA_other he (fun _ _ q => nomatch q)] at e; cases e
      | d x => rw [finA_other he (fun _ _ q => nomatch q)] at e; cases e
      | scr ns => rw [finA_other he (fun _ _ q => nomatch q)] at e; cases e
  have own_is : ∀ (i : Nat) o b, (finA es ρ)[i]? = some (EV.own o b) → ∃ a, Φ.ino i = some a ∧ (vs.map some)[i]? = some (some (V.ref a)) ∧ σ[i]? = some (some (V.ref a)) ∧ ρ[i]? = some (EV.own o true) ∧ b = true := fun i o b e => by
    obtain ⟨o0, b0, e0⟩ := own_of i o b e
    obtain ⟨a, o', h1, h2, h3, h4⟩ := lent i o0 b0 e0
    rw [finA_own e0 h4] at e
    cases e
    exact ⟨a, h1, h2, h3, h4, rfl⟩
  have at_ : ∀ i a, AtS (finA es ρ) (vs.map some) i a → AtS ρ σ i a := by
    rintro i a ⟨⟨o, b, e⟩, s⟩
    obtain ⟨a', h1, h2, h3, h4, _⟩ := own_is i o b e
    rw [s] at h2
    cases h2
    exact ⟨⟨o, true, h4⟩, h3⟩
  refine ⟨⟨by rw [finA_length]; exact R0.len, R.zH, R.zN, R.f0, R.fr, R.dom, fun i j a h1 h2 => R.inj i j a (at_ i a h1) (at_ j a h2), fun i a h => R.sep i a (at_ i a h), ?_, ?_, ?_, ?_, ?_, ?_⟩, at_⟩
  · intro i x e
    cases he : es[i]? with
    | none =>
      have hl := List.getElem?_eq_none_iff.mp he
      rw [List.getElem?_eq_none (by rw [finA_length]; exact hl)] at e
      cases e
    | some y =>
      cases y with
      | own o b =>
        obtain ⟨a, o', _, _, _, h4⟩ := lent i o b he
        rw [finA_own he h4] at e
        cases e
      | un => rw [finA_other he (fun _ _ q => nomatch q)] at e; cases e
      | scr ns => rw [finA_other he (fun _ _ q => nomatch q)] at e; cases e
      | d y =>
        rw [finA_other he (fun _ _ q => nomatch q)] at e
        cases e
        obtain ⟨v, s, r⟩ := R0.dat i _ he
        exact ⟨v, s, r.mono z⟩
  · intro i ns e
    cases he : es[i]? with
    | none =>
      have hl := List.getElem?_eq_none_iff.mp he
      rw [List.getElem?_eq_none (by rw [finA_length]; exact hl)] at e
      cases e
    | some y =>
      cases y with
      | own o b =>
        obtain ⟨a, o', _, _, _, h4⟩ := lent i o b he
        rw [finA_own he h4] at e
        cases e
      | un => rw [finA_other he (fun _ _ q => nomatch q)] at e; cases e
      | d y => rw [finA_other he (fun _ _ q => nomatch q)] at e; cases e
      | scr ns =>
        rw [finA_other he (fun _ _ q => nomatch q)] at e
        cases e
        obtain ⟨a, s, r⟩ := R0.scr i _ he
        exact ⟨a, s, r.mono z⟩
  · intro i o b e
    obtain ⟨a, h1, h2, h3, h4, _⟩ := own_is i o b e
    obtain ⟨a', s, ob⟩ := R.own i o true h4
    rw [h3] at s
    cases s
    exact ⟨a, h2, ob⟩
  · intro i o a e s
    obtain ⟨_, _, _, _, _, hb⟩ := own_is i o false e
    cases hb
  · intro i a e
    obtain ⟨s, o, eo⟩ := R0.ino i a e
    obtain ⟨s2, o', e2⟩ := R.ino i a e
    exact ⟨s, o', finA_own eo e2⟩
  · intro i o e
    obtain ⟨a, h1, _⟩ := own_is i o true e
    exact ⟨a, h1⟩
/-- at a def's start -/
theorem start_rl {K : PySem.W.Frag} {Φ : Fx} {Z : Hp} {N : List Str} {vs : List V} {H : Hp} {es : Nv} (R : Rl K Φ Z (vs.map some) H es) (hl : vs.length ≤ N.length) : Rl K Φ Z (L2.start N vs) H (es ++ List.replicate (N.length - es.length) .un) := by
  have le : es.length = vs.length := by have := R.len; simpa using this
  have get_ : ∀ (i : Nat) e, (es ++ List.replicate (N.length - es.length) EV.un)[i]? = some e → e ≠ .un → es[i]? = some e := fun i e h hn => by
    by_cases hi : i < es.length
    · rwa [List.getElem?_append_left hi] at h
    · rw [List.getElem?_append_right (by omega), List.getElem?_replicate] at h
      split at h
      · cases h; exact absurd rfl hn
      · cases h
  have st : ∀ i, i < vs.length → (L2.start N vs)[i]? = (vs.map some)[i]? := fun i hi => by
    unfold L2.start
    rw [List.getElem?_append_left (by simpa using hi)]
  have lt_of : ∀ (i : Nat) e, es[i]? = some e → i < vs.length := fun i e h => le ▸ (List.getElem?_eq_some_iff.mp h).1
  have at_ : ∀ i a, AtS (es ++ List.replicate (N.length - es.length) .un) (L2.start N vs) i a → AtS es (vs.map some) i a := by
    rintro i a ⟨⟨o, io, e⟩, s⟩
    have e' := get_ i _ e (fun q => nomatch q)
    exact ⟨⟨o, io, e'⟩, by rw [← st i (lt_of i _ e')]; exact s⟩
  refine ⟨by simp [L2.start]; omega, R.zH, R.zN, R.f0, R.fr, R.dom, fun i j a h1 h2 => R.inj i j a (at_ i a h1) (at_ j a h2), fun i a h => R.sep i a (at_ i a h), ?_, ?_, ?_, ?_, ?_, ?_⟩
  · intro i x e
    have e' := get_ i _ e (fun q => nomatch q)
    rw [st i (lt_of i _ e')]
    exact R.dat i x e'
  · intro i x e
    have e' := get_ i _ e (fun q => nomatch q)
    rw [st i (lt_of i _ e')]
    exact R.scr i x e'
  · intro i o io e
    have e' := get_ i _ e (fun q => nomatch q)
    rw [st i (lt_of i _ e')]
    exact R.own i o io e'
  · intro i o a e s
    have e' := get_ i _ e (fun q => nomatch q)
    rw [st i (lt_of i _ e')] at s
    exact R.loc i o a e' s
  · intro i a e
    obtain ⟨s, o, eo⟩ := R.ino i a e
    have hi := lt_of i _ eo
    rw [st i hi]
    exact ⟨s, o, by rw [List.getElem?_append_left (le ▸ hi)]; exact eo⟩
  · intro i o e
    exact R.io i o (get_ i _ e (fun q => nomatch q))
section
variable {P : Program} {w : World} {K : PySem.W.Frag} {mg : Str → Option Value} {base : Heap}
/-- THE RULE for a def -/
theorem fn_body {x qual : Str} {st : Stmt} {f : Addr} {fd : FuncData} {N ps : List Str} {k : Nat} {body : XS} (F : Fun K x qual st f fd) (S : FnScope N ps (defScope st))
    (hb : ∀ (cdv : Value) (A : Around) (outer : List Env) (s : Shared) (H : Hp), Room k (A.deeper (envOfC qual (defScope st) s.heap.objs.size f cdv)) → A.guards = some [] →
      SSD (cxOf CX0 P w K mg base N qual (defScope st) f cdv A outer s H E0).nox (defBody st) body) : FnG P w K mg base (k + 1) f fd ps (runF N.length body) := by
  obtain ⟨oc, od, kV, doc, pm, an, cdv, ct, osl, rfl, lk, hcd⟩ := F.ex
  refine ⟨fun A outer s H args us vs Q room hG e0 bnd rv hl hsp => ?_⟩
  obtain ⟨Z, Fr, ino, es, d, ρ', hm, hio', R0, hQ⟩ := hsp
  have kin : K.In s.heap := e0.mod.kin.keeps fun b o q => (e0.bs b o q).1
  have nolim : s.heap.NoLimit := e0.mod.nolimit.keeps fun b o q => (e0.bs b o q).1
  have nv : N.length ≥ vs.length := by
    have h1 := congrArg List.length S.pre
    rw [List.length_take] at h1
    omega
  have kinds : ∀ y ∈ ps.zip us, (defScope st).names.lookup y.1 = some .local ∨ ((defScope st).names.lookup y.1 = some .cell ∧ ((cellsFrom (s.heap.objs.size + 1) (defScope st).names []).lookup y.1).isSome = true) := by
    rintro ⟨n, v⟩ hy
    cases S.par n (List.of_mem_zip hy).1 with
    | inl q => exact .inl q
    | inr q => exact .inr ⟨q, PySem.W.cellsFrom_some _ _ _ (.inl q)⟩
  obtain ⟨t, pt, mt⟩ := hb cdv A outer s H (room.deeper _) hG
  have fin : ∀ {σ' : L2.St} {H' : Hp} {v : V} {u : Value} {s' : Shared}, L2.Inv (cxOf CX0 P w K mg base N qual (defScope st) f cdv A outer s H E0) [] σ' H' s' → RelV v u → Q v H' → CE outer P w H s Q u s' :=
    fun {σ' H' v u s'} J ru q => ⟨v, H', J.os, J.bare, J.base, J.hok, ru, q⟩
  have want : t { nx := fun _ H' => Q .non H', rt := Q } (L2.start N vs) H := by
    unfold runF at hm
    cases eb : body (es ++ List.replicate (N.length - es.length) .un) with
    | none => rw [eb] at hm; cases hm
    | some fl =>
      rw [eb] at hm
      refine mt _ Z _ H _ fl (start_rl R0 nv) eb _ ?_
      cases fl with
      | rt d1 ρ1 =>
        cases hm
        exact fun v σ' H' Z' z R r => hQ v H' Z' z (fin_rl R0 hio' z R).1 r
      | rn o1 ρ1 =>
        cases hm
        exact fun a σ' H' Z' z R r => hQ _ H' Z' z (fin_rl R0 hio' z R).1 ⟨a, rfl, r.ob, r.z, r.fr, r.h0, fun i q => r.no i ((fin_rl R0 hio' z R).2 i a q)⟩
      | nx ρ1 =>
        cases hm
        exact fun σ' H' Z' z R => hQ .non H' Z' z (fin_rl R0 hio' z R).1 .non
      | bk ρ1 => cases hm
      | ct ρ1 => cases hm
  refine codeAny_call_function room.depth (kin _ _ lk) rfl S.co S.gen rfl (PySem.W.codeRec_of kin hcd) (bnd _ _ _ _ ?_)
  refine wpAny_newFunctionEnv_cells S.kind kinds fun env he s1 xin => ?_
  subst he
  refine ⟨nolim.keeps xin.toInCall.keep, codeAny_func ?_⟩
  have I : L2.Inv (cxOf CX0 P w K mg base N qual (defScope st) f cdv A outer s H E0) [] (L2.start N vs) H s1 := inv_start S room.hd e0 hl rv xin
  refine wpAny_mono (pt.nox.run [] s1 (L2.start N vs) H _ I want) (fun fl s' hs => ?_) fun _ _ q => q
  match fl, hs with
  | .ret u, ⟨v, σ', H', J, ru, q⟩ => exact fin J ru q
  | .next, ⟨σ', H', J, q⟩ => exact fin (v := V.non) (u := Value.none) J rfl q
  | .brk, ⟨_, _, _, q⟩ => exact q.elim
  | .cont, ⟨_, _, _, q⟩ => exact q.elim
end

def slotsOf : List AV → List Nat
  | [] => []
  | .v _ :: as => slotsOf as
  | .s i :: as => i :: slotsOf as
def entN : List AV → Nv → Option (List EV)
  | [], _ => some []
  | .v d :: as, ρ => (entN as ρ).map (.d d :: ·)
  | .s i :: as, ρ => match ρ[i]? with
    | some (.own o _) => (entN as ρ).map (.own o true :: ·)
    | some (.scr ns) => (entN as ρ).map (.scr ns :: ·)
    | _ => none
def back : List AV → List EV → Nv → Option Nv
  | [], _, ρ => some ρ
  | .v _ :: as, _ :: es, ρ => back as es ρ
  | .s i :: as, e :: es, ρ => match ρ[i]?, e with
    | some (.own _ io), .own o _ => back as es (ρ.set i (.own o io))
    | some (.scr _), .scr _ => back as es ρ
    | _, _ => none
  | _, _, _ => none
def gCall (m : XF) (r : XA) : Nv → Option (Rv × Nv) := fun ρ => (r ρ).bind fun p => if (slotsOf p.1).Nodup then (entN p.1 p.2).bind fun es => (m es).bind fun q => (back p.1 q.2 p.2).map fun ρ' => (q.1, ρ') else none
def xCall (m : XF) (r : XA) : XE := fun ρ => (gCall m r ρ).bind fun p => match p.1 with
  | .d x => some (x, p.2)
  | .n _ => none
def nCall (m : XF) (r : XA) : XN := fun ρ => (gCall m r ρ).bind fun p => match p.1 with
  | .n o => some (o, p.2)
  | .d _ => none
theorem ent_get : ∀ {as : List AV} {ρ : Nv} {es : List EV}, entN as ρ = some es → ∀ {j : Nat} {e : EV}, es[j]? = some e →
    (∃ d, as[j]? = some (.v d) ∧ e = .d d) ∨ (∃ i, as[j]? = some (.s i) ∧ ((∃ o io, ρ[i]? = some (EV.own o io) ∧ e = .own o true) ∨ ∃ ns, ρ[i]? = some (EV.scr ns) ∧ e = .scr ns))
  | [], _, _, h, j, e, he => by cases h; simp at he
  | .v d :: as, ρ, es, h, j, e, he => by
    unfold entN at h
    cases h2 : entN as ρ with
    | none => rw [h2] at h; cases h
    | some l =>
      rw [h2] at h
      cases h
      cases j with
      | zero => simp at he; subst he; exact .inl ⟨d, rfl, rfl⟩
      | succ j => simpa using ent_get h2 (j := j) (e := e) (by simpa using he)
  | .s i :: as, ρ, es, h, j, e, he => by
    unfold entN at h
    split at h
    · rename_i o io ho
      cases h2 : entN as ρ with
      | none => rw [h2] at h; cases h
      | some l =>
        rw [h2] at h
        cases h
        cases j with
        | zero => simp at he; subst he; exact .inr ⟨i, rfl, .inl ⟨o, io, ho, rfl⟩⟩
        | succ j => simpa using ent_get h2 (j := j) (e := e) (by simpa using he)
    · rename_i ns hn
      cases h2 : entN as ρ with
      | none => rw [h2] at h; cases h
      | some l =>
        rw [h2] at h
        cases h
        cases j with
        | zero => simp at he; subst he; exact .inr ⟨i, rfl, .inr ⟨ns, hn, rfl⟩⟩
        | succ j => simpa using ent_get h2 (j := j) (e := e) (by simpa using he)
    · cases h
theorem ent_len : ∀ {as : List AV} {ρ : Nv} {es : List EV}, entN as ρ = some es → es.length = as.length
  | [], _, _, h => by cases h; rfl
  | .v d :: as, ρ, es, h => by
    unfold entN at h
    cases h2 : entN as ρ with
    | none => rw [h2] at h; cases h
    | some l => rw [h2] at h; cases h; simp [ent_len h2]
  | .s i :: as, ρ, es, h => by
    unfold entN at h
    split at h
    · cases h2 : entN as ρ with
      | none => rw [h2] at h; cases h
      | some l => rw [h2] at h; cases h; simp [ent_len h2]
    · cases h2 : entN as ρ with
      | none => rw [h2] at h; cases h
      | some l => rw [h2] at h; cases h; simp [ent_len h2]
    · cases h
theorem ava_get {K : PySem.W.Frag} {Z : Hp} {σ : L2.St} : ∀ {vs : List V} {as : List AV}, AvA K Z σ vs as → ∀ {j : Nat}, (∀ d, as[j]? = some (.v d) → ∃ v, vs[j]? = some v ∧ Rp K Z v d) ∧ (∀ i, as[j]? = some (.s i) → ∃ v, vs[j]? = some v ∧ σ[i]? = some (some v))
  | _, _, .nil, j => ⟨fun d h => (by simp at h), fun i h => (by simp at h)⟩
  | _, _, .v r t, 0 => ⟨fun d h => (by simp at h; subst h; exact ⟨_, rfl, r⟩), fun i h => (by simp at h)⟩
  | _, _, .s r t, 0 => ⟨fun d h => (by simp at h), fun i h => (by simp at h; subst h; exact ⟨_, rfl, r⟩)⟩
  | _, _, .v r t, j + 1 => by simpa using ava_get t (j := j)
  | _, _, .s r t, j + 1 => by simpa using ava_get t (j := j)
theorem ava_len {K : PySem.W.Frag} {Z : Hp} {σ : L2.St} : ∀ {vs : List V} {as : List AV}, AvA K Z σ vs as → vs.length = as.length
  | _, _, .nil => rfl
  | _, _, .v _ t => congrArg (· + 1) (ava_len t)
  | _, _, .s _ t => congrArg (· + 1) (ava_len t)
theorem mem_slots : ∀ {as : List AV} {j i : Nat}, as[j]? = some (.s i) → i ∈ slotsOf as
  | [], _, _, h => by simp at h
  | .v _ :: as, 0, _, h => by simp at h
  | .s k :: as, 0, i, h => by simp at h; subst h; exact List.mem_cons_self
  | .v _ :: as, j + 1, i, h => mem_slots (as := as) (j := j) (by simpa using h)
  | .s k :: as, j + 1, i, h => List.mem_cons_of_mem _ (mem_slots (as := as) (j := j) (by simpa using h))
theorem slots_mem : ∀ {as : List AV} {i : Nat}, i ∈ slotsOf as → ∃ j : Nat, as[j]? = some (AV.s i)
  | .v _ :: as, i, h => by obtain ⟨j, hj⟩ := slots_mem (as := as) h; exact ⟨j + 1, by simpa using hj⟩
  | .s k :: as, i, h => by
    rcases List.mem_cons.mp h with rfl | h
    · exact ⟨0, rfl⟩
    · obtain ⟨j, hj⟩ := slots_mem (as := as) h; exact ⟨j + 1, by simpa using hj⟩
theorem slots_inj : ∀ {as : List AV}, (slotsOf as).Nodup → ∀ {j j' i : Nat}, as[j]? = some (.s i) → as[j']? = some (.s i) → j = j'
  | [], _, _, _, _, h, _ => by simp at h
  | .v _ :: as, n, 0, _, i, h, _ => by simp at h
  | .v _ :: as, n, _, 0, i, _, h => by simp at h
  | .v _ :: as, n, j + 1, j' + 1, i, h, h' => congrArg (· + 1) (slots_inj (as := as) n (by simpa using h) (by simpa using h'))
  | .s k :: as, n, 0, 0, i, h, h' => rfl
  | .s k :: as, n, 0, j' + 1, i, h, h' => by
    simp at h
    subst h
    exact absurd (mem_slots (as := as) (j := j') (by simpa using h')) (List.nodup_cons.mp n).1
  | .s k :: as, n, j + 1, 0, i, h, h' => by
    simp at h'
    subst h'
    exact absurd (mem_slots (as := as) (j := j) (by simpa using h)) (List.nodup_cons.mp n).1
  | .s k :: as, n, j + 1, j' + 1, i, h, h' => congrArg (· + 1) (slots_inj (as := as) (List.nodup_cons.mp n).2 (by simpa using h) (by simpa using h'))
theorem back_len : ∀ {as : List AV} {es : List EV} {ρ ρ' : Nv}, back as es ρ = some ρ' → ρ'.length = ρ.length
  | [], _, _, _, h => by cases h; rfl
  | .v _ :: as, _ :: es, ρ, ρ', h => back_len (as := as) h
  | .s i :: as, e :: es, ρ, ρ', h => by
    unfold back at h
    split at h
    · have := back_len h; simpa using this
    · exact back_len h
    · cases h
  | .v _ :: _, [], _, _, h => by cases h
  | .s _ :: _, [], _, _, h => by cases h
theorem back_other : ∀ {as : List AV} {es : List EV} {ρ ρ' : Nv}, back as es ρ = some ρ' → ∀ {i : Nat}, i ∉ slotsOf as → ρ'[i]? = ρ[i]?
  | [], _, _, _, h, i, _ => by cases h; rfl
  | .v _ :: as, _ :: es, ρ, ρ', h, i, hi => back_other (as := as) h hi
  | .s k :: as, e :: es, ρ, ρ', h, i, hi => by
    have hi' : i ∉ k :: slotsOf as := hi
    rw [List.mem_cons, not_or] at hi'
    unfold back at h
    split at h
    · rw [back_other h hi'.2, List.getElem?_set_ne (Ne.symm hi'.1)]
    · exact back_other h hi'.2
    · cases h
  | .v _ :: _, [], _, _, h, _, _ => by cases h
  | .s _ :: _, [], _, _, h, _, _ => by cases h
theorem back_at : ∀ {as : List AV} {es : List EV} {ρ ρ' : Nv}, back as es ρ = some ρ' → (slotsOf as).Nodup → ∀ {j i : Nat}, as[j]? = some (.s i) →
    (∃ o io o' io', ρ[i]? = some (EV.own o io) ∧ es[j]? = some (.own o' io') ∧ ρ'[i]? = some (EV.own o' io)) ∨ (∃ ns ns', ρ[i]? = some (EV.scr ns) ∧ es[j]? = some (.scr ns') ∧ ρ'[i]? = some (EV.scr ns))
  | [], _, _, _, _, _, _, _, h => by simp at h
  | .v _ :: as, e :: es, ρ, ρ', h, n, 0, i, hj => by simp at hj
  | .v _ :: as, e :: es, ρ, ρ', h, n, j + 1, i, hj => by simpa using back_at (as := as) (es := es) h n (j := j) (by simpa using hj)
  | .s k :: as, e :: es, ρ, ρ', h, n, 0, i, hj => by
    simp at hj
    subst hj
    unfold back at h
    have nk := (List.nodup_cons.mp n).1
    split at h
    · rename_i o io o' io' e1
      refine .inl ⟨o, io, o', io', e1, rfl, ?_⟩
      rw [back_other h nk, List.getElem?_set_self (List.getElem?_eq_some_iff.mp e1).1]
    · rename_i ns ns' e1
      refine .inr ⟨ns, ns', e1, rfl, ?_⟩
      rw [back_other h nk, e1]
    · cases h
  | .s k :: as, e :: es, ρ, ρ', h, n, j + 1, i, hj => by
    have hj' : as[j]? = some (.s i) := by simpa using hj
    have nk := List.nodup_cons.mp n
    have hne : k ≠ i := fun q => nk.1 (q ▸ mem_slots hj')
    unfold back at h
    split at h
    · have ih := back_at h nk.2 hj'
      rw [List.getElem?_set_ne hne] at ih
      simpa using ih
    · simpa using back_at h nk.2 hj'
    · cases h
  | .v _ :: _, [], _, _, h, _, _, _, _ => by cases h
  | .s _ :: _, [], _, _, h, _, _, _, _ => by cases h
/-- the argument's address, if it is lent -/
def inoOf (ρ : Nv) (σ : L2.St) (as : List AV) (j : Nat) : Option Addr := match as[j]? with
  | some (.s i) => match ρ[i]?, σ[i]? with
    | some (.own _ _), some (some (.ref a)) => some a
    | _, _ => none
  | _ => none
theorem inoOf_is {ρ : Nv} {σ : L2.St} {as : List AV} {j : Nat} {a : Addr} (h : inoOf ρ σ as j = some a) : ∃ i, as[j]? = some (.s i) ∧ AtS ρ σ i a := by
  unfold inoOf at h
  split at h
  · rename_i i e
    split at h
    · rename_i o io b e1 e2
      cases h
      exact ⟨i, e, ⟨o, io, e1⟩, e2⟩
    · cases h
  · cases h
theorem inoOf_of {ρ : Nv} {σ : L2.St} {as : List AV} {i j : Nat} {a : Addr} (h : as[j]? = some (.s i)) (q : AtS ρ σ i a) : inoOf ρ σ as j = some a := by
  obtain ⟨⟨o, io, e1⟩, e2⟩ := q
  unfold inoOf
  rw [h]
  simp only [e1, e2]
open Classical in
/-- what must stay through a call: all but the lent objects -/
noncomputable def frOf (H : Hp) (ρ : Nv) (σ : L2.St) (as : List AV) : Hp := fun b => if ∃ j, inoOf ρ σ as j = some b then none else H b
section
variable {K : PySem.W.Frag} {Φ : Fx} {Z : Hp} {σ : L2.St} {H : Hp} {ρ : Nv} {vs : List V} {as : List AV} {es : List EV}
theorem ent_io (he : entN as ρ = some es) (i : Nat) (o : OD) : es[i]? ≠ some (EV.own o false) := fun h => by
  rcases ent_get he h with ⟨d, _, q⟩ | ⟨k, _, ⟨_, _, _, q⟩ | ⟨_, _, q⟩⟩ <;> cases q
theorem call_in (R : Rl K Φ Z σ H ρ) (ra : AvA K Z σ vs as) (he : entN as ρ = some es) (hn : (slotsOf as).Nodup) : Rl K ⟨Z, H, frOf H ρ σ as, inoOf ρ σ as⟩ Z (vs.map some) H es := by
  have vget : ∀ {j : Nat} {v : V}, vs[j]? = some v → (vs.map some)[j]? = some (some v) := fun h => by rw [List.getElem?_map, h]; rfl
  -- an own object that is handed on
  have own_ : ∀ (j : Nat) o b, es[j]? = some (EV.own o b) → ∃ i a o2 io, as[j]? = some (.s i) ∧ ρ[i]? = some (EV.own o io) ∧ o2 = o ∧ b = true ∧ σ[i]? = some (some (V.ref a)) ∧ (vs.map some)[j]? = some (some (V.ref a)) ∧ ObAt K Z H a o := fun j o b h => by
    rcases ent_get he h with ⟨d, _, q⟩ | ⟨i, ei, ⟨o1, io, e1, q⟩ | ⟨ns, _, q⟩⟩
    · cases q
    · cases q
      obtain ⟨a, s, ob⟩ := R.own i o io e1
      obtain ⟨v, hv, sv⟩ := (ava_get ra).2 i ei
      rw [s] at sv
      cases sv
      exact ⟨i, a, o, io, ei, e1, rfl, rfl, s, vget hv, ob⟩
    · cases q
  have at_ : ∀ j a, AtS es (vs.map some) j a → ∃ i, as[j]? = some (.s i) ∧ AtS ρ σ i a := by
    rintro j a ⟨⟨o, b, e⟩, s⟩
    obtain ⟨i, a', _, io, ei, e1, _, _, s1, s2, _⟩ := own_ j o b e
    rw [s] at s2
    cases s2
    exact ⟨i, ei, ⟨o, io, e1⟩, s1⟩
  refine ⟨by simp [ent_len he, ava_len ra], R.zH, fun a o h _ => .inl h, fun a h => R.zH.free h, fun a o h => ?_, fun a h => h, ?_, ?_, ?_, ?_, ?_, ?_, ?_, ?_⟩
  · have h : frOf H ρ σ as a = some o := h
    unfold frOf at h
    split at h
    · cases h
    · exact h
  · intro j j' a h1 h2
    obtain ⟨i, ei, q1⟩ := at_ j a h1
    obtain ⟨i', ei', q2⟩ := at_ j' a h2
    cases R.inj i i' a q1 q2
    exact slots_inj hn ei ei'
  · intro j a h
    obtain ⟨i, ei, q⟩ := at_ j a h
    refine ⟨(R.sep i a q).1, ?_⟩
    show frOf H ρ σ as a = none
    unfold frOf
    rw [if_pos ⟨j, inoOf_of ei q⟩]
  · intro j x h
    rcases ent_get he h with ⟨d, ed, q⟩ | ⟨i, _, ⟨_, _, _, q⟩ | ⟨_, _, q⟩⟩
    · cases q
      obtain ⟨v, hv, r⟩ := (ava_get ra).1 x ed
      exact ⟨v, vget hv, r⟩
    · cases q
    · cases q
  · intro j ns h
    rcases ent_get he h with ⟨d, ed, q⟩ | ⟨i, ei, ⟨_, _, _, q⟩ | ⟨ns', e1, q⟩⟩
    · cases q
    · cases q
    · cases q
      obtain ⟨a, s, hl⟩ := R.scr i ns e1
      obtain ⟨v, hv, sv⟩ := (ava_get ra).2 i ei
      rw [s] at sv
      cases sv
      exact ⟨a, vget hv, hl⟩
  · intro j o b h
    obtain ⟨i, a, _, io, _, _, _, _, _, s2, ob⟩ := own_ j o b h
    exact ⟨a, s2, ob⟩
  · intro j o a h _
    exact absurd h (ent_io he j o)
  · intro j a h
    obtain ⟨i, ei, ⟨⟨o, io, e1⟩, s⟩⟩ := inoOf_is h
    obtain ⟨v, hv, sv⟩ := (ava_get ra).2 i ei
    rw [s] at sv
    cases sv
    refine ⟨vget hv, ?_⟩
    have hlt : j < es.length := by rw [ent_len he]; exact (List.getElem?_eq_some_iff.mp ei).1
    rcases ent_get he (List.getElem?_eq_getElem hlt) with ⟨d, ed, q⟩ | ⟨i', ei', ⟨o', io', e1', q⟩ | ⟨ns', e1', q⟩⟩
    · rw [ei] at ed; cases ed
    · rw [ei] at ei'
      cases ei'
      rw [e1] at e1'
      cases e1'
      exact ⟨o, by rw [List.getElem?_eq_getElem hlt, q]⟩
    · rw [ei] at ei'
      cases ei'
      rw [e1] at e1'
      cases e1'
  · intro j o h
    obtain ⟨i, a, _, io, ei, e1, _, _, s1, _, _⟩ := own_ j o true h
    exact ⟨a, inoOf_of ei ⟨⟨o, io, e1⟩, s1⟩⟩
theorem call_out (R : Rl K Φ Z σ H ρ) (he : entN as ρ = some es) (hn : (slotsOf as).Nodup) {Z' H' : Hp} {us : L2.St} {es' : List EV} {ρ' : Nv} (z : Same Z Z')
    (Rc : Rl K ⟨Z, H, frOf H ρ σ as, inoOf ρ σ as⟩ Z' us H' es') (hb : back as es' ρ = some ρ') : Rl K Φ Z' σ H' ρ' ∧ ∀ i a, AtS ρ' σ i a → AtS ρ σ i a := by
  -- what each slot is now
  have slot_ : ∀ (i : Nat) (o : OD) (io : Bool), ρ'[i]? = some (EV.own o io) → ∃ o0 a, ρ[i]? = some (EV.own o0 io) ∧ σ[i]? = some (some (V.ref a)) ∧ ObAt K Z' H' a o := fun i o io h => by
    by_cases hi : i ∈ slotsOf as
    · obtain ⟨j, hj⟩ := slots_mem hi
      rcases back_at hb hn hj with ⟨o0, io0, o', io', e1, e2, e3⟩ | ⟨ns, ns', _, _, e3⟩
      · rw [h] at e3
        cases e3
        obtain ⟨a, s, _⟩ := R.own i o0 io e1
        obtain ⟨a2, s2, ob⟩ := Rc.own j _ io' e2
        obtain ⟨s3, _⟩ := Rc.ino j a (inoOf_of hj ⟨⟨o0, io, e1⟩, s⟩)
        rw [s2] at s3
        cases s3
        exact ⟨o0, a, e1, s, ob⟩
      · rw [h] at e3
        cases e3
    · rw [back_other hb hi] at h
      obtain ⟨a, s, ob⟩ := R.own i o io h
      refine ⟨o, a, h, s, ob.move z ?_⟩
      obtain ⟨u, hu, _⟩ := ob.some
      have hf : frOf H ρ σ as a = some u := by
        unfold frOf
        rw [if_neg, hu]
        rintro ⟨j, hj⟩
        obtain ⟨i', ei', q⟩ := inoOf_is hj
        have e := R.inj i i' a ⟨⟨o, io, h⟩, s⟩ q
        subst e
        exact hi (mem_slots ei')
      rw [hu]
      exact Rc.fr a u hf
  have at_ : ∀ i a, AtS ρ' σ i a → AtS ρ σ i a := by
    rintro i a ⟨⟨o, io, e⟩, s⟩
    obtain ⟨o0, a', e1, s1, _⟩ := slot_ i o io e
    exact ⟨⟨o0, io, e1⟩, s⟩
  have dat_ : ∀ (i : Nat) e, ρ'[i]? = some e → (∀ o io, e ≠ .own o io) → ρ[i]? = some e := fun i e h hne => by
    by_cases hi : i ∈ slotsOf as
    · obtain ⟨j, hj⟩ := slots_mem hi
      rcases back_at hb hn hj with ⟨o0, io0, o', io', e1, e2, e3⟩ | ⟨ns, ns', e1, _, e3⟩
      · rw [h] at e3
        cases e3
        exact absurd rfl (hne _ _)
      · rw [h] at e3
        cases e3
        exact e1
    · rwa [back_other hb hi] at h
  refine ⟨⟨(back_len hb).trans R.len, Rc.zH, fun a o h nt => ?_, R.f0, fun a u h => ?_, fun a h => R.dom a (Rc.dom a h), fun i j a h1 h2 => R.inj i j a (at_ i a h1) (at_ j a h2), fun i a h => ?_, ?_, ?_, ?_, ?_, ?_, ?_⟩, at_⟩
  · rcases Rc.zN a o h nt with q | ⟨q, _⟩
    · exact R.zN a o q nt
    · exact .inr ⟨R.dom a q, R.fr.free q⟩
  · refine Rc.fr a u ?_
    show frOf H ρ σ as a = some u
    unfold frOf
    rw [if_neg, R.fr a u h]
    rintro ⟨j, hj⟩
    obtain ⟨i, _, q⟩ := inoOf_is hj
    rw [(R.sep i a q).2] at h
    cases h
  · have q := at_ i a h
    refine ⟨?_, (R.sep i a q).2⟩
    cases hz : Z' a with
    | none => rfl
    | some u =>
      exfalso
      rcases Rc.zN a u hz (fun xs ex => by obtain ⟨⟨o, io, e⟩, s⟩ := h; obtain ⟨_, a', _, s1, ob⟩ := slot_ i o io e; rw [s] at s1; cases s1; obtain ⟨w, hw, hm⟩ := ob.some; have h3 := Rc.zH a u hz; rw [hw] at h3; cases h3; rw [ex] at hm; exact hm) with q1 | ⟨q1, _⟩
      · have q1 : Z a = some u := q1
        rw [(R.sep i a q).1] at q1
        cases q1
      · obtain ⟨w, hw, _⟩ := R.at_some q
        have q1 : H a = none := q1
        rw [q1] at hw
        cases hw
  · intro i x h
    obtain ⟨v, s, r⟩ := R.dat i x (dat_ i _ h (fun _ _ q => nomatch q))
    exact ⟨v, s, r.mono z⟩
  · intro i ns h
    obtain ⟨a, s, r⟩ := R.scr i ns (dat_ i _ h (fun _ _ q => nomatch q))
    exact ⟨a, s, r.mono z⟩
  · intro i o io h
    obtain ⟨o0, a, _, s, ob⟩ := slot_ i o io h
    exact ⟨a, s, ob⟩
  · intro i o a h s
    obtain ⟨o0, a', e1, s1, _⟩ := slot_ i o false h
    exact R.loc i o0 a e1 s
  · intro i a h
    obtain ⟨s, o, e⟩ := R.ino i a h
    refine ⟨s, ?_⟩
    cases hi' : ρ'[i]? with
    | none =>
      have l := (List.getElem?_eq_some_iff.mp e).1
      have l2 := List.getElem?_eq_none_iff.mp hi'
      rw [back_len hb] at l2
      omega
    | some x =>
      cases x with
      | own o' io' =>
        obtain ⟨o0, _, e1, _, _⟩ := slot_ i o' io' hi'
        rw [e] at e1
        cases e1
        exact ⟨o', rfl⟩
      | un => rw [dat_ i _ hi' (fun _ _ q => nomatch q)] at e; cases e
      | d x => rw [dat_ i _ hi' (fun _ _ q => nomatch q)] at e; cases e
      | scr ns => rw [dat_ i _ hi' (fun _ _ q => nomatch q)] at e; cases e
  · intro i o h
    obtain ⟨o0, _, e1, _, _⟩ := slot_ i o true h
    exact R.io i o0 e1
end
section
variable {X : Cx} {k : Nat} {f : Addr} {fd : FuncData} {ps : List Str} {m : XF} {x : Str} {p pos : Pos} {e : Expr} {es : List Expr} {r : XA}
/-- what a call asks -/
def tCallG (K : PySem.W.Frag) (n : Nat) (m : XF) (t : TA) : TE := fun σ H Q => t σ H fun vs H1 => vs.length = n ∧ spF K m vs H1 Q
theorem run_g {pins : List (Addr × Obj)} {σ : L2.St} {H : Hp} {s : Shared} {Q : VK} {us : List Value} {vs : List V} (F : FnG X.prog X.w X.K X.mg X.base k f fd ps m) (hr : Room k X.A) (hG : X.A.guards = some []) (hb : Binds X.K fd ps [])
    (I : L2.Inv X pins σ H s) (rv : Vals vs us) (hl : vs.length = ps.length) (h : spF X.K m vs H Q) : wpAny (model X.prog X.w) X.A (call (.ref f) us) (EP X pins σ Q) X.xe s := by
  have hb' := hb s us I.kIn (by rw [List.append_nil, ← rv.length]; exact hl)
  rw [List.append_nil] at hb'
  refine wpAny_call (codeAny_mono (F.run X.A X.stack s H ⟨us, []⟩ us vs Q hr hG I.env0 hb' rv hl h) fun out s' hq => ?_)
  match out, hq with
  | .ok (.ret u), hq => exact I.after hq
  | .error e, hq => exact hq.elim
  | .ok .next, hq => exact hq.elim
  | .ok .brk, hq => exact hq.elim
  | .ok .cont, hq => exact hq.elim
/-- the answer as the caller sees it -/
theorem rv_out {K : PySem.W.Frag} {Φ : Fx} {Z : Hp} {σ : L2.St} {H : Hp} {ρ ρ' : Nv} {Fr' : Hp} {ino' : Nat → Option Addr} {Z' H' : Hp} {us : L2.St} {es' : List EV} {v : V} {x : Rv} (R : Rl K Φ Z σ H ρ) (at_ : ∀ i a, AtS ρ' σ i a → AtS ρ σ i a)
    (h : RvOk K ⟨Z, H, Fr', ino'⟩ Z' us H' es' v x) : RvOk K Φ Z' σ H' ρ' v x := by
  cases x with
  | d x => exact h
  | n o =>
    obtain ⟨a, rfl, w⟩ := h
    have hn : H a = none := w.h0
    refine ⟨a, rfl, w.ob, w.z, R.fr.free hn, R.dom a hn, fun i q => ?_⟩
    obtain ⟨u, hu, _⟩ := R.at_some (at_ i a q)
    rw [hn] at hu
    cases hu
def MC (K : PySem.W.Frag) (t : TE) (f : Nv → Option (Rv × Nv)) : Prop := ∀ (Φ : Fx) (Z : Hp) (σ : L2.St) (H : Hp) (ρ : Nv) (d : Rv) (ρ' : Nv), Rl K Φ Z σ H ρ → f ρ = some (d, ρ') →
  ∀ Q : VK, (∀ v H' Z', Same Z Z' → Rl K Φ Z' σ H' ρ' → RvOk K Φ Z' σ H' ρ' v d → Q v H') → t σ H Q
def CD (X : Cx) (e : Expr) (m : XF) (r : XA) : Prop := ∃ t, PE X e t ∧ MC X.K t (gCall m r)
theorem CD.ed (h : CD X e m r) : ED X e (xCall m r) := by
  obtain ⟨t, p, mc⟩ := h
  refine ⟨t, p, fun Φ Z σ H ρ d ρ' R q Q k => ?_⟩
  unfold xCall at q
  cases e1 : gCall m r ρ with
  | none => rw [e1] at q; cases q
  | some w =>
    obtain ⟨x, ρ1⟩ := w
    rw [e1, Option.bind_some] at q
    cases x with
    | n o => cases q
    | d x => cases q; exact mc Φ Z σ H ρ _ _ R e1 Q k
theorem CD.nd (h : CD X e m r) : ND X e (nCall m r) := by
  obtain ⟨t, p, mc⟩ := h
  refine ⟨t, p, fun Φ Z σ H ρ d ρ' R q Q k => ?_⟩
  unfold nCall at q
  cases e1 : gCall m r ρ with
  | none => rw [e1] at q; cases q
  | some w =>
    obtain ⟨x, ρ1⟩ := w
    rw [e1, Option.bind_some] at q
    cases x with
    | d x => cases q
    | n o => cases q; exact mc Φ Z σ H ρ _ _ R e1 Q fun v H' Z' z R' ⟨a, ev, w⟩ => ev ▸ k a H' Z' z R' w
theorem me_call {K : PySem.W.Frag} {n : Nat} {t : TA} (hn : ∀ as es, m es ≠ none → as = es.length → as = n) (ma : MA K t r) : MC K (tCallG K n m t) (gCall m r) := by
  intro Φ Z σ H ρ d ρ' R q Q kk
  unfold gCall at q
  cases e1 : r ρ with
  | none => rw [e1] at q; cases q
  | some a =>
    rw [e1, Option.bind_some] at q
    split at q
    · rename_i nd
      cases e2 : entN a.1 a.2 with
      | none => rw [e2] at q; cases q
      | some es =>
        rw [e2, Option.bind_some] at q
        cases e3 : m es with
        | none => rw [e3] at q; cases q
        | some w =>
          rw [e3, Option.bind_some] at q
          cases e4 : back a.1 w.2 a.2 with
          | none => rw [e4] at q; cases q
          | some ρ1 =>
            rw [e4] at q
            cases q
            refine ma Φ Z σ H ρ a.1 a.2 R e1 _ fun vs H1 Z1 z1 R1 ra => ⟨?_, ?_⟩
            · refine hn _ es (by rw [e3]; exact fun h => nomatch h) ?_
              rw [ent_len e2, ava_len ra]
            · exact ⟨Z1, _, _, es, w.1, w.2, e3, ent_io e2, call_in R1 ra e2 nd, fun v H2 Z2 z2 Rc rc => kk v H2 Z2 (z1.trans z2) (call_out R1 e2 nd z2 Rc e4).1 (rv_out R1 (call_out R1 e2 nd z2 Rc e4).2 rc)⟩
    · cases q
/-- f(e, ..): the number of arguments is that of the parameters -/
def arity (n : Nat) (m : XF) : XF := fun es => if es.length = n then m es else none
theorem cd_call (F : FnG X.prog X.w X.K X.mg X.base k f fd ps m) (hr : Room k X.A) (hG : X.A.guards = some []) (hm : X.mg x = some (.ref f)) (hk : PySem.W.keepIn X.K (.ref f) = true) (hb : Binds X.K fd ps []) (ha : AD X (e :: es) r)
    (hg : Gl X x := by rfl) (hdb : (x == ("__debug__" : Str)) = false := by decide) (hs : starEach (e :: es) X.env = (false, eval e X.env) :: starEach es X.env := by rfl) (hpl : (backTo pos (starEach es X.env)).any (·.1) = false := by rfl) {ar : Nat} (har : ps.length = ar := by rfl) :
    CD X (.Call (.Name x p) (e :: es) [] pos) (arity ar m) r := by
  subst har
  obtain ⟨t, pa, ma⟩ := ha
  refine ⟨tCallG X.K ps.length (arity ps.length m) t, ⟨fun pins s σ H Q I h => ?_⟩, me_call (fun n es h e => ?_) ma⟩
  · refine wpAny_Call_Name_kw (ld_glob I hg hm ?_ hdb)
    refine PySem.W.callWith_K (h₀ := X.base) I.ok.mod.kin hk (thn (pa.run pos pins s σ H _ I h) fun us s1 ⟨vs, H1, I1, rv, hl, q⟩ => ⟨I1.kIn, ?_⟩) hs hpl
    refine run_g (F.sub fun ρ r h => ?_) hr hG hb I1 rv hl q
    unfold arity at h
    split at h
    · exact h
    · cases h
  · unfold arity at h
    split at h
    · omega
    · exact absurd rfl h
theorem cd_call0 (F : FnG X.prog X.w X.K X.mg X.base k f fd ps m) (hr : Room k X.A) (hG : X.A.guards = some []) (hm : X.mg x = some (.ref f)) (hk : PySem.W.keepIn X.K (.ref f) = true) (hb : Binds X.K fd ps []) (h0 : ps.length = 0 := by rfl)
    (hg : Gl X x := by rfl) (hdb : (x == ("__debug__" : Str)) = false := by decide) : CD X (.Call (.Name x p) [] [] pos) m aNil := by
  refine ⟨fun σ H Q => spF X.K m [] H Q, ⟨fun pins s σ H Q I h => ?_⟩, fun Φ Z σ H ρ d ρ' R q Q kk => ?_⟩
  · refine wpAny_Call_Name_kw (ld_glob I hg hm ?_ hdb)
    exact PySem.W.callWith_K0 I.kIn hk (run_g F hr hG hb I .nil h0.symm h)
  · unfold gCall at q
    have q : (m []).bind (fun w => (back [] w.2 ρ).map fun ρ' => (w.1, ρ')) = some (d, ρ') := q
    cases e3 : m [] with
    | none => rw [e3] at q; cases q
    | some w =>
      rw [e3] at q
      cases q
      exact ⟨Z, _, _, [], w.1, w.2, e3, fun i o h => by simp at h, call_in (as := []) R .nil rfl List.nodup_nil, fun v H2 Z2 z2 Rc rc => kk v H2 Z2 z2 (call_out (as := []) R rfl List.nodup_nil z2 Rc rfl).1 (rv_out R (call_out (as := []) R rfl List.nodup_nil z2 Rc rfl).2 rc)⟩
end
end DL
set_option maxRecDepth 100000
set_option maxHeartbeats 2000000
namespace DL
open PySem PySem.Spec PyProof.Rows L2
section
variable {P : Program} {w : World} {K : PySem.W.Frag} {mg mb : Str → Option Value} {k : Nat} {fa a : Addr} {fd : FuncData} {x : Str} {m : XF} {s1 : Shared} {vs : List Value} {ns : List Int}
/-- what is asked behind the law's call -/
def LawEnd (s1 : Shared) (r : Result) (s' : Shared) : Prop := r = .ok (.ret (.bool true)) ∧ OldK s1.heap s'.heap ∧ s'.os = s1.os ∧ AllBare s'.gens
theorem law_from (kin : K.In s1.heap) (hns : s1.heap.Ns mainGlobals mg) (hb : s1.heap.Ns builtinsNs mb) (hbb : ∀ x : Str, x ≠ "__name__" → mb x = bootBuiltins x) (hlim : s1.heap.NoLimit) (hg : s1.gens = #[])
    (ha : s1.heap.get? a = some { cls := .type "list", data := .seq vs.toArray }) (room : Room k callerA)
    (F : ∀ base : Heap, K.In base → base.Ns mainGlobals mg → FnG P w K mg base k fa fd [x] m) (hbind : ∀ (s : Shared) (u : Value), BindsTo s fd ⟨[u], []⟩ [(x, u)])
    (law : m [.scr ns] = some (.d (.bool true), [.scr ns])) (H : Hp) (hS : SqL K H a (ns.map V.int)) (ok : HOk P w H s1.heap) (hA : ∀ b u, H b = some u → b = a ∧ ∃ o xs, u = .frz o (.lst xs)) (hK : H a ≠ none → K.lookup a = none) :
    codeAny (model P w) callerA (.call (.ref fa) ⟨[.ref a], []⟩) (LawEnd s1) s1 := by
  have nodict : ∀ {b : Addr} {o : Obj} {es : Array DictEntry} {ep : Nat}, s1.heap.get? b = some o → o.data = .dict es ep → H b = none := fun {b o es ep} e d => by
    cases q : H b with
    | none => rfl
    | some u =>
      obtain ⟨rfl, _⟩ := hA b u q
      rw [ha] at e
      cases e
      cases (show Data.seq vs.toArray _ = Data.dict es ep from d)
  have ns_ : ∀ {b : Addr} {f : Str → Option Value}, s1.heap.Ns b f → (hidT s1.heap H).Ns b f := fun {b f} ⟨o, es, ep, e, d, r⟩ => ⟨o, es, ep, hidT_get e (nodict e d), d, r⟩
  have kin' : K.In (hidT s1.heap H) := fun b o e => hidT_get (kin b o e) (by
    cases q : H b with
    | none => rfl
    | some u =>
      obtain ⟨rfl, _⟩ := hA b u q
      rw [hK (by rw [q]; exact fun z => nomatch z)] at e
      cases e)
  have lim' : (hidT s1.heap H).NoLimit := by
    obtain ⟨mc, h1, h2⟩ := hlim
    exact ⟨mc, ns_ h1, h2⟩
  have e0 : Env0 P w K mg (hidT s1.heap H) callerA [] s1 H :=
    { frames := rfl
      mod := ⟨kin', ns_ hns, ⟨mb, ns_ hb, hbb⟩, lim'⟩
      bs := fun b o e => of_hidT e
      bsz := Nat.le_of_eq (hidT_size _ _)
      funs := trivial
      frf := fun b hb => absurd (show b ∈ ([] : List Addr) from hb) (by simp)
      hok := ok
      bare := .of_eq hg }
  have R0 : Rl K ⟨H, H, H, fun _ => none⟩ H [some (V.ref a)] H [.scr ns] :=
    { len := rfl
      zH := Same.refl H
      zN := fun b o h _ => .inl h
      f0 := fun b h => h
      fr := Same.refl H
      dom := fun b h => h
      inj := fun i j b ⟨⟨o, io, e⟩, _⟩ _ => by cases i <;> simp at e
      sep := fun i b ⟨⟨o, io, e⟩, _⟩ => by cases i <;> simp at e
      dat := fun i y e => by cases i <;> simp at e
      scr := fun i l e => by
        cases i with
        | zero => simp at e; subst e; exact ⟨a, rfl, hS⟩
        | succ i => simp at e
      own := fun i o io e => by cases i <;> simp at e
      loc := fun i o b e => by cases i <;> simp at e
      ino := fun i b e => nomatch e
      io := fun i o e => by cases i <;> simp at e }
  have want : spF K m [.ref a] H (fun v _ => v = .bl true) := ⟨H, H, fun _ => none, [.scr ns], _, _, law, fun i o e => by cases i <;> simp at e, R0, fun v H' Z' _ _ r => by cases r; rfl⟩
  refine codeAny_mono ((F _ kin' (ns_ hns)).run callerA [] s1 H ⟨[.ref a], []⟩ [.ref a] [.ref a] _ room rfl e0 (hbind s1 (.ref a)) (.cons rfl .nil) rfl want) fun out s' h => ?_
  match out, h with
  | .error e, h => exact h.elim
  | .ok .next, h => exact h.elim
  | .ok .brk, h => exact h.elim
  | .ok .cont, h => exact h.elim
  | .ok (.ret u), ⟨v, H', os, bare, un, hok', ru, hv⟩ =>
    subst hv
    cases (show u = Value.bool true from ru)
    refine ⟨rfl, OldK.of_keep fun b o e => ?_, os, bare⟩
    cases q : H b with
    | none => exact un.keep b o e q (fun z => absurd (show b ∈ ([] : List Addr) from z) (by simp)) (by simp)
    | some u =>
      obtain ⟨rfl, ob, xs, rfl⟩ := hA b u q
      obtain ⟨e1, _⟩ := ok b _ q
      obtain ⟨e2, _⟩ := hok' b _ (un.frzs b ob _ q)
      rw [e] at e1
      cases e1
      exact e2
theorem law_at (kin : K.In s1.heap) (hns : s1.heap.Ns mainGlobals mg) (hb : s1.heap.Ns builtinsNs mb) (hbb : ∀ x : Str, x ≠ "__name__" → mb x = bootBuiltins x) (hlim : s1.heap.NoLimit) (hg : s1.gens = #[])
    (ha : s1.heap.get? a = some { cls := .type "list", data := .seq vs.toArray }) (hi : IntsAre vs ns) (hl : ns.length ≤ sizeLine) (room : Room k callerA)
    (F : ∀ base : Heap, K.In base → base.Ns mainGlobals mg → FnG P w K mg base k fa fd [x] m) (hbind : ∀ (s : Shared) (u : Value), BindsTo s fd ⟨[u], []⟩ [(x, u)])
    (law : m [.scr ns] = some (.d (.bool true), [.scr ns])) : codeAny (model P w) callerA (.call (.ref fa) ⟨[.ref a], []⟩) (LawEnd s1) s1 := by
  have rel := vals_ints hi
  have len := hi.length
  cases hk : K.lookup a with
  | some o =>
    have e := kin a o hk
    rw [ha] at e
    cases e
    refine law_from kin hns hb hbb hlim hg ha room F hbind law (fun _ => none) ?_ (fun b u z => nomatch z) (fun b u z => nomatch z) fun z => absurd rfl z
    exact .inr ⟨_, vs.toArray, _, hk, rfl, rfl, rfl, by rw [List.size_toArray, len]; exact hl, by simpa using rel⟩
  | none =>
    have at_ : ∀ {b : Addr} {u : HO}, (if b = a then some (HO.frz { cls := .type "list", data := .seq vs.toArray } (.lst (ns.map V.int))) else none) = some u → b = a ∧ u = .frz { cls := .type "list", data := .seq vs.toArray } (.lst (ns.map V.int)) := fun {b u} z => by
      by_cases hb : b = a
      · rw [if_pos hb] at z
        cases z
        exact ⟨hb, rfl⟩
      · rw [if_neg hb] at z
        cases z
    refine law_from kin hns hb hbb hlim hg ha room F hbind law (fun b => if b = a then some (.frz { cls := .type "list", data := .seq vs.toArray } (.lst (ns.map V.int))) else none) (.inl (.inr ⟨_, if_pos rfl⟩)) (fun b u z => ?_) (fun b u z => ?_) fun _ => hk
    · obtain ⟨rfl, rfl⟩ := at_ z
      exact ⟨ha, by rw [List.length_map]; exact hl, vs, _, rel, ha⟩
    · obtain ⟨h1, h2⟩ := at_ z
      exact ⟨h1, _, _, h2⟩
end
theorem walk_d {l : PySem.W.OpenLaw} {n k : Nat} {q : Program} {loose : List Str} {XP : (Str → Option Value) → Heap → Prop} {YP : World → Heap → Prop} {d : DefRec} {K : Params → PySem.W.Frag} {m : XF} {x : Str}
    (hn : l.most = some n) (hn2 : n ≤ sizeLine) (hdf : d.params.defaults = []) (room : Room k callerA) (hY : ∀ (w : World) (h : Heap), YP w h → (K w.params).In h)
    (F : ∀ (w : World) (mg : Str → Option Value) (fa : Addr) (h : Heap), (K w.params).In h → h.Ns mainGlobals mg → mg d.name = some (.ref fa) →
      ∃ fd : FuncData, (∀ (s : Shared) (u : Value), BindsTo s fd ⟨[u], []⟩ [(x, u)]) ∧ ∀ base : Heap, (K w.params).In base → base.Ns mainGlobals mg → FnG l.prog w (K w.params) mg base k fa fd [x] m)
    (law : ∀ ns : List Int, ns.length ≤ n → m [.scr ns] = some (.d (.bool true), [.scr ns])) : PySem.W.WalkO q loose XP YP l.row.toRowW d [] (fun f vs => PySem.call f vs) := by
  refine Att.attach_call hn hdf fun w s₀ s₁ mg mb fa o pm cd doc a vs ns G Y ho hd hcd hmg hobj hints hlen hg => ?_
  have kin := hY w _ Y
  obtain ⟨fd, hb, hF⟩ := F w mg fa _ kin G.T.g hmg
  exact law_at kin G.T.g G.T.b G.T.builtins G.T.nolimit hg hobj hints (Nat.le_trans hlen hn2) room hF hb (law ns hlen)
end DL
set_option maxRecDepth 100000
set_option maxHeartbeats 2000000
namespace DL
open PySem PySem.Spec PyProof.Rows L2

/-- a def of the module as it stands behind the top -/
def DefEx (K : PySem.W.Frag) (x : Str) (st : Stmt) : Prop := ∃ (f : Addr) (oc : Value) (od an : Option Addr) (osl : Array (Option Value)) (kV doc pm cdv ct : Value),
  PySem.W.nsIn K mainGlobals x = some (some (.ref f)) ∧ K.lookup f = some ⟨oc, od, .func (PySem.W.fnOf x x (defArgs st) (defBody st) (defScope st) .none kV doc pm an cdv ct), osl⟩ ∧ PySem.W.codeIn K cdv x = true ∧ PySem.W.keepIn K (.ref f) = true
structure DefAt (K : PySem.W.Frag) (mg : Str → Option Value) (x : Str) (st : Stmt) (ps : List Str) (f : Addr) (fd : FuncData) : Prop where
  F : Fun K x x st f fd
  be : ∀ us : List Value, us.length = ps.length → bindArgs fd ⟨us, []⟩ = pure (ps.zip us)
  g : mg x = some (.ref f)
theorem DefAt.b {K : PySem.W.Frag} {mg : Str → Option Value} {x : Str} {st : Stmt} {ps : List Str} {f : Addr} {fd : FuncData} (h : DefAt K mg x st ps f fd) : Binds K fd ps [] := .all h.be
theorem def_at {K : PySem.W.Frag} {mg : Str → Option Value} {x : Str} {st : Stmt} {ps : List Str} {h : Heap} (X : K.In h) (G : h.Ns mainGlobals mg) (e : DefEx K x st)
    (hb : ∀ (kV doc pm : Value) (an : Option Addr) (cdv ct : Value) (us : List Value), us.length = ps.length → bindArgs (PySem.W.fnOf x x (defArgs st) (defBody st) (defScope st) .none kV doc pm an cdv ct) ⟨us, []⟩ = pure (ps.zip us)) :
    ∃ f fd, DefAt K mg x st ps f fd := by
  obtain ⟨f, oc, od, an, osl, kV, doc, pm, cdv, ct, h1, h2, h3, h4⟩ := e
  exact ⟨f, _, fun_mk h2 h3 h4, hb kV doc pm an cdv ct, PySem.W.mg_of X G h1⟩
theorem _root_.L2.Room.u64 {k : Nat} {A : Around} (r : Room k A) : A.units + 64 < cLine := r.units
theorem _root_.L2.Room.u65 {k : Nat} {A : Around} (r : Room k A) : A.units + 65 < cLine := by have := r.un; omega
theorem _root_.L2.Room.u1 {k : Nat} {A : Around} (r : Room k A) : A.units + 1 < cLine := by have := r.un; omega

theorem b_len : bootBuiltins "len" = some (.builtin "len") := by decide +kernel
theorem b_abs : bootBuiltins "abs" = some (.builtin "abs") := by decide +kernel
theorem b_repr : bootBuiltins "repr" = some (.builtin "repr") := by decide +kernel
theorem b_isinstance : bootBuiltins "isinstance" = some (.builtin "isinstance") := by decide +kernel
theorem b_list : bootBuiltins "list" = some (.type "list") := by decide +kernel
theorem b_tuple : bootBuiltins "tuple" = some (.type "tuple") := by decide +kernel
theorem b_int : bootBuiltins "int" = some (.type "int") := by decide +kernel
theorem b_bool : bootBuiltins "bool" = some (.type "bool") := by decide +kernel
end DL
set_option maxRecDepth 100000
set_option maxHeartbeats 2000000
namespace DL
open PySem PySem.Spec PyProof.Rows L2 HT

theorem fm_congr {α β : Type} {f g : α → Option β} : ∀ {l : List α}, (∀ a ∈ l, f a = g a) → l.filterMap f = l.filterMap g
  | [], _ => rfl
  | a :: l, h => by
    rw [List.filterMap_cons, List.filterMap_cons, h a List.mem_cons_self, fm_congr fun b hb => h b (List.mem_cons_of_mem _ hb)]
theorem rev_pick (xs : Array Value) : ((List.range xs.size).filterMap fun (m : Nat) => xs[(((xs.size : Int) - 1) + (m : Int) * -1).toNat]?).toArray = xs.toList.reverse.toArray := by
  have e : ∀ m ∈ List.range xs.size, xs[(((xs.size : Int) - 1) + (m : Int) * -1).toNat]? = xs.toList.reverse[m]? := fun m hm => by
    have h := List.mem_range.mp hm
    have h2 : (((xs.size : Int) - 1) + (m : Int) * -1).toNat = xs.size - 1 - m := by omega
    rw [h2, List.getElem?_reverse (by simpa using h)]
    simp
  rw [fm_congr e]
  have := pick_run xs.toList.reverse.toArray 0 xs.size
  rw [List.filterMap_map] at this
  simp only [Function.comp_def, Nat.zero_add] at this
  have h3 : (getElem? xs.toList.reverse : Nat → Option Value) = fun x => xs.toList.reverse.toArray[x]? := by
    funext m
    simp
  rw [h3, this]
  simp only [List.drop_zero]
  rw [List.take_of_length_le (by simp)]
section
variable {prog : Program} {w : World} {A : Around} {E : Value → Shared → Prop} {s : Shared}
theorem slice_back {sl : Addr} {vs : Value} {n : Nat} {Q : Int × Int × Nat → Shared → Prop} (hs : s.heap.IsSliceOf sl .none .none vs) (ps : IsPart vs (some (-1))) (h : Q ((n : Int) - 1, -1, n) s) :
    wpAny (model prog w) A (Builtin.Slice.sliceApplied (.ref sl) (pure (n : Int))) Q E s := by
  obtain ⟨os, h1, _, h2⟩ := id hs
  unfold Builtin.Slice.sliceApplied Builtin.Slice.sliceFields
  refine wpAny_bind (wpAny_bind (wpAny_field h1 h2 (x := .none) rfl (wpAny_bind (wpAny_field h1 h2 (x := .none) rfl (wpAny_bind (wpAny_field h1 h2 (x := vs) rfl (wpAny_pure ?_)))))))
  refine wpAny_bind (slicePart_ ps ?_)
  show wpAny _ _ (if ((-1 : Int) == 0) = true then _ else _) _ _ s
  rw [if_neg (by decide)]
  refine wpAny_bind (slicePart_none (wpAny_bind (slicePart_none (wpAny_bind (wpAny_pure ?_)))))
  have e : Builtin.Slice.slicePlaces ((n : Int) - 1) (-1) (-1) = n := by
    unfold Builtin.Slice.slicePlaces
    rw [if_neg (by decide)]
    by_cases hn : ((n : Int) - 1) > -1
    · rw [if_pos hn, show (- -1 : Int) = 1 by decide, Int.ediv_one]
      omega
    · rw [if_neg hn]
      omega
  show wpAny _ _ (pure ((n : Int) - 1, (-1 : Int), Builtin.Slice.slicePlaces ((n : Int) - 1) (-1) (-1))) _ _ s
  rw [e]
  exact wpAny_pure h
theorem getItem_tuple_back {t sl : Addr} {items : Array Value} {vs : Value} {Q : Value → Shared → Prop} (ht : IsTup s.heap t items) (hs : s.heap.IsSliceOf sl .none .none vs) (ps : IsPart vs (some (-1)))
    (h : Q (.ref s.heap.objs.size) { s with heap := s.heap.push { cls := .type "tuple", data := .seq items.toList.reverse.toArray } }) (hsz : items.size ≤ sizeLine) : wpAny (model prog w) A (getItem (.ref t) (.ref sl)) Q E s := by
  have fits : sizeOk (.seq items.toList.reverse.toArray) := by
    show items.toList.reverse.toArray.size ≤ sizeLine
    simpa using hsz
  obtain ⟨os, h1, h2, _⟩ := id hs
  have isS : s.TypeIs (.ref sl) "slice" := ⟨os, h1, h2⟩
  unfold getItem
  try with_reducible refine wpAny_holding ?_
  first | refine wpAny_bind (wpAny_pure ?_) | skip
  refine wpAny_bind (wpAny_sequenceKey ht.typeIs (by decide) ?_)
  refine wpAny_bind (wpAny_callSpecial?_slot (name := Str.ofString "__getitem__") ht.typeIs PyProof.Rows.slot_tuple_getitem (wpAny_call_entry PyProof.Rows.slot_tuple_getitem ht.typeIs entry_tuple_getitem ?_ (args_tuple_getitem _ _)))
  show wpAny _ _ (Builtin.Tuple.tupleItemsOf (.ref t) >>= _) _ _ s
  refine wpAny_bind (tupleItemsOf_ ht ?_)
  refine wpAny_bind (wpAny_typeOf isS ?_)
  rw [if_pos (by decide)]
  refine wpAny_bind (slice_back hs ps ?_)
  have no : ¬ (((((items.size : Nat) : Int) - 1) == 0 && (-1 : Int) == 1 && items.size == items.size) = true) := by
    rw [show ((-1 : Int) == 1) = false by decide, Bool.and_false, Bool.false_and]
    exact Bool.false_ne_true
  show wpAny _ _ (if ((((items.size : Nat) : Int) - 1) == 0 && (-1 : Int) == 1 && items.size == items.size) = true then _ else _) _ _ s
  rw [if_neg no, rev_pick]
  first
    | exact wpAny_bind (m := Builtin.Tuple.tupleExact _) (wpAny_newObj_type (wpAny_pure ⟨_, rfl, wpAny_pure h⟩) fits)
    | exact wpAny_bind (m := Builtin.Tuple.tupleExact _) (wpAny_newObj_type (wpAny_bind (wpAny_pure (wpAny_pure ⟨_, rfl, wpAny_pure h⟩))) fits)
    | exact wpAny_bind (wpAny_bind (m := Builtin.Tuple.tupleExact _) (wpAny_newObj_type (wpAny_pure (wpAny_pure ⟨_, rfl, wpAny_pure h⟩)) fits))
    | exact wpAny_bind (wpAny_bind (m := Builtin.Tuple.tupleExact _) (wpAny_newObj_type (wpAny_pure ⟨_, rfl, wpAny_pure h⟩) fits))
end
/-- t[::-1] of a tuple -/
def tRevT (K : PySem.W.Frag) (te : TE) : TE := fun σ H Q => te σ H fun x H1 => ∃ a xs, x = .ref a ∧ SqT K H1 a xs ∧ ∀ p, H1 p = none → Q (.ref p) (upd H1 p (.tup xs.reverse))
theorem pe_revT {X : Cx} {e : Expr} {te : TE} {k : Nat} {p1 p2 p3 pos : Pos} (he : PE X e te) : PE X (.Subscript e (.Slice none none (some (.UnaryOp .USub (.Constant (.int 1) k p1) p2)) p3) pos) (tRevT X.K te) := by
  refine ⟨fun pins s σ H Q I h => Subscript_ (thn (he.run pins s σ H _ I h) fun v s1 ⟨x, H1, I1, r1, a, xs, ex, hx, q⟩ => ?_)⟩
  subst ex
  cases r1
  have minus : PO X (some (.UnaryOp .USub (.Constant (.int 1) k p1) p2)) (tPart (tUn (rU fun i => .int (-i)) (tC (.int 1)))) := po_some (pe_un un_neg pe_int)
  refine wpAny_Slice (thn (po_none.run pins s1 σ H1 (fun o H2 => o = none ∧ H2 = H1) I1 ⟨rfl, rfl⟩) fun vl s2 ⟨l, H2, I2, pl, el, e2⟩ => ?_)
  subst el e2
  cases pl
  refine thn (po_none.run pins s2 σ H2 (fun o H3 => o = none ∧ H3 = H2) I2 ⟨rfl, rfl⟩) fun vu s3 ⟨u, H3, I3, pu, eu, e3⟩ => ?_
  subst eu e3
  cases pu
  refine thn (minus.run pins s3 σ H3 (fun o H4 => o = some (-1) ∧ H4 = H3) I3 ⟨1, rfl, -1, rfl, rfl, rfl⟩) fun vs s4 ⟨o, H4, I4, ps, eo, e4⟩ => ?_
  subst eo e4
  have I5 : L2.Inv X pins σ H4 { s4 with heap := s4.heap.push { cls := .type "slice", data := .fields #[.none, .none, vs] } } := I4.kept (t' := s4.toks) fun b ob q => Heap.get?_push_of_some _ q
  obtain ⟨its, r, ht, hz⟩ := I5.tuple hx
  have hlen := r.length
  show wpAny (model X.prog X.w) X.A (subscriptTail e (.Slice none none (some (.UnaryOp .USub (.Constant (.int 1) k p1) p2)) p3) (.ref a) (.ref s4.heap.objs.size)) (EP X pins σ Q) X.xe { s4 with heap := s4.heap.push { cls := .type "slice", data := .fields #[.none, .none, vs] } }
  refine tail_any (ops := [.ref a, .ref s4.heap.objs.size]) ht.typeIs (PyProof.Rows.slot_tuple_getitem.lookup) ?_ (by with_unfolding_all rfl)
  refine getItem_tuple_back ht (Heap.IsSliceOf.new _ _ _ vs) ps ?_ (by rw [List.size_toArray]; omega)
  refine ⟨.ref _, _, I5.laid (t' := s4.toks) (o := .tup xs.reverse) (fun b ob q => Heap.get?_push_of_some _ q) (Nat.le_refl _) ?_, rfl, q _ (I5.hok.fresh (Nat.le_refl _))⟩
  exact ⟨by rw [List.length_reverse]; exact hz, _, r.reverse, ⟨_, Heap.get?_push_size _ rfl, rfl, _, rfl⟩⟩
theorem pe_orr {X : Cx} {e : Expr} {t1 t2 : TE} (h1 : PE X e t1) (h2 : PE X e t2) : PE X e (fun σ H Q => t1 σ H Q ∨ t2 σ H Q) :=
  ⟨fun pins s σ H Q I h => h.elim (h1.run pins s σ H Q I) (h2.run pins s σ H Q I)⟩
def revD : PyData → Option PyData
  | .list xs => some (.list xs.reverse)
  | .tuple xs => some (.tuple xs.reverse)
  | _ => none
theorem ed_rev {X : Cx} {e : Expr} {f : XE} {k : Nat} {p1 p2 p3 pos : Pos} (he : ED X e f) : ED X (.Subscript e (.Slice none none (some (.UnaryOp .USub (.Constant (.int 1) k p1) p2)) p3) pos) (x1 revD f) := by
  obtain ⟨t, p, m⟩ := he
  refine ⟨_, pe_orr (pe_revL p) (pe_revT p), fun Φ Z σ H ρ d ρ' R q Q k => ?_⟩
  unfold x1 at q
  cases e1 : f ρ with
  | none => rw [e1] at q; cases q
  | some w =>
    rw [e1, Option.bind_some] at q
    cases e2 : revD w.1 with
    | none => rw [e2] at q; cases q
    | some z =>
      rw [e2] at q
      cases q
      unfold revD at e2
      split at e2
      · rename_i xs ex
        cases e2
        refine .inl (m Φ Z σ H ρ w.1 w.2 R e1 _ fun v H1 Z1 z1 R1 r1 => ?_)
        rw [ex] at r1
        obtain ⟨a, vs, rfl, h, rr⟩ := Rb.lst R1.zH (.inl r1)
        exact ⟨a, vs, rfl, SqL.of h, fun p hp => ends_lst R1 rr.reverse (fun v H' Z' z' R' r' => k v H' Z' (z1.trans z') R' r') hp⟩
      · rename_i xs ex
        cases e2
        refine .inr (m Φ Z σ H ρ w.1 w.2 R e1 _ fun v H1 Z1 z1 R1 r1 => ?_)
        rw [ex] at r1
        obtain ⟨a, vs, rfl, h, rr⟩ := Rb.tup R1.zH (.inl r1)
        exact ⟨a, vs, rfl, h, fun p hp => ends_tup R1 rr.reverse (fun v H' Z' z' R' r' => k v H' Z' (z1.trans z') R' r') hp⟩
      · cases e2

def KD (X : Cx) (kws : List Keyword) (r : XA) : Prop := ∃ t, PK X kws t ∧ MA X.K t r
section
variable {X : Cx} {k : Nat} {f : Addr} {fd : FuncData} {ps : List Str} {m : XF} {x : Str} {p pos : Pos} {e : Expr} {kws : List Keyword} {r : XA} {fe : XE} {nm : Option Str} {kpos : Pos}
theorem kd_nil : KD X [] aNil := ⟨tNil, pk_nil, fun Φ Z σ H ρ as ρ' R q Q k => by
  cases q
  exact k [] H Z (Same.refl Z) R .nil⟩
theorem kd_cons (he : ED X e fe) (hr : KD X kws r) : KD X (⟨nm, e, kpos⟩ :: kws) (aCons fe r) := by
  obtain ⟨t, p, m⟩ := he
  obtain ⟨u, q, n⟩ := hr
  refine ⟨_, pk_cons p q, fun Φ Z σ H ρ as ρ' R q Q k => ?_⟩
  unfold aCons at q
  cases e1 : fe ρ with
  | none => rw [e1] at q; cases q
  | some s =>
    rw [e1, Option.bind_some] at q
    cases e2 : r s.2 with
    | none => rw [e2] at q; cases q
    | some w =>
      rw [e2] at q
      cases q
      refine m Φ Z σ H ρ s.1 s.2 R e1 _ fun v H1 Z1 z1 R1 r1 => ?_
      exact n Φ Z1 σ H1 s.2 w.1 w.2 R1 e2 _ fun vs H2 Z2 z2 R2 r2 => k _ H2 Z2 (z1.trans z2) R2 (.v (r1.mono z2) r2)
end
/-- turns enough for Euclid's loop over slots 0 and 1 -/
def gcdFuel (ρ : Nv) : Nat := match ρ[1]? with
  | some (EV.d (PyData.int j)) => j.natAbs + 1
  | _ => 0
end DL
set_option maxRecDepth 100000
set_option maxHeartbeats 2000000
namespace DL
open PySem PySem.Spec PyProof.Rows L2

/-- a flat datum as a value -/
def cV : PyData → V
  | .bool b => .bl b
  | .int i => .int i
  | .str s => .str s
  | _ => .non
theorem cV_rp {K : PySem.W.Frag} {Z : Hp} {d : PyData} (h : flatD d = true) : Rp K Z (cV d) d := by
  cases d with
  | none => exact .non
  | bool b => exact .bl b
  | int i => exact .int i
  | str s => exact .str s
  | list _ => cases h
  | tuple _ => cases h
  | dict _ => cases h
/-- which of the given values, or which default, stands at each parameter -/
abbrev Sel := List (Nat ⊕ PyData)
inductive Pk {α : Type} (r : PyData → α → Prop) (xs : List α) : Sel → List α → Prop
  | nil : Pk r xs [] []
  | at_ {i : Nat} {z : α} {s : Sel} {zs : List α} : xs[i]? = some z → Pk r xs s zs → Pk r xs (.inl i :: s) (z :: zs)
  | co {d : PyData} {z : α} {s : Sel} {zs : List α} : r d z → Pk r xs s zs → Pk r xs (.inr d :: s) (z :: zs)
theorem vals_get : ∀ {vs : List V} {us : List Value}, Vals vs us → ∀ {i : Nat} {u : Value}, us[i]? = some u → ∃ v, vs[i]? = some v ∧ RelV v u
  | _, _, .nil, i, u, h => by simp at h
  | _, _, .cons a r, 0, u, h => by
    simp at h
    subst h
    exact ⟨_, rfl, a⟩
  | _, _, .cons a r, i + 1, u, h => by
    obtain ⟨v, e, q⟩ := vals_get r (i := i) (u := u) (by simpa using h)
    exact ⟨v, by simpa using e, q⟩
theorem Pk.vals {vs : List V} {us : List Value} (r : Vals vs us) : ∀ {s : Sel} {zs : List Value}, Pk (fun d u => RelV (cV d) u) us s zs → ∃ xs, Vals xs zs ∧ Pk (fun d v => v = cV d) vs s xs
  | _, _, .nil => ⟨[], .nil, .nil⟩
  | _, _, .at_ h t => by
    obtain ⟨xs, a, b⟩ := Pk.vals r t
    obtain ⟨v, e, q⟩ := vals_get r h
    exact ⟨v :: xs, .cons q a, .at_ e b⟩
  | _, _, .co h t => by
    obtain ⟨xs, a, b⟩ := Pk.vals r t
    exact ⟨_ :: xs, .cons h a, .co rfl b⟩
def pick : Sel → List AV → Option (List AV)
  | [], _ => some []
  | .inl i :: s, as => (as[i]?).bind fun a => (pick s as).map (a :: ·)
  | .inr d :: s, as => if flatD d = true then (pick s as).map (.v d :: ·) else none
theorem ava_at {K : PySem.W.Frag} {Z : Hp} {σ : L2.St} : ∀ {xs : List V} {as : List AV}, AvA K Z σ xs as → ∀ {i : Nat} {v : V} {a : AV}, xs[i]? = some v → as[i]? = some a → ∀ {ys : List V} {bs : List AV}, AvA K Z σ ys bs → AvA K Z σ (v :: ys) (a :: bs)
  | _, _, .nil, i, v, a, h, _, _, _, _ => by simp at h
  | _, _, .v r t, 0, v, a, h, h2, _, _, q => by
    simp at h h2
    subst h h2
    exact .v r q
  | _, _, .s r t, 0, v, a, h, h2, _, _, q => by
    simp at h h2
    subst h h2
    exact .s r q
  | _, _, .v r t, i + 1, v, a, h, h2, _, _, q => ava_at t (i := i) (by simpa using h) (by simpa using h2) q
  | _, _, .s r t, i + 1, v, a, h, h2, _, _, q => ava_at t (i := i) (by simpa using h) (by simpa using h2) q
theorem ava_pick {K : PySem.W.Frag} {Z : Hp} {σ : L2.St} {xs : List V} {as : List AV} (r : AvA K Z σ xs as) {s : Sel} {zs : List V} (hp : Pk (fun d v => v = cV d) xs s zs) : ∀ {cs : List AV}, pick s as = some cs → AvA K Z σ zs cs := by
  induction hp with
  | nil => intro cs h; cases h; exact .nil
  | @at_ i z s zs e t ih =>
    intro cs h
    replace h : (as[i]?).bind (fun a => (pick s as).map (a :: ·)) = some cs := h
    cases e1 : as[i]? with
    | none => rw [e1] at h; cases h
    | some a =>
      rw [e1, Option.bind_some] at h
      cases e2 : pick s as with
      | none => rw [e2] at h; cases h
      | some bs =>
        rw [e2] at h
        cases h
        exact ava_at r e e1 (ih e2)
  | @co d z s zs e t ih =>
    intro cs h
    replace h : (if flatD d = true then (pick s as).map (.v d :: ·) else none) = some cs := h
    split at h
    · rename_i hf
      cases e2 : pick s as with
      | none => rw [e2] at h; cases h
      | some bs =>
        rw [e2] at h
        cases h
        subst e
        exact .v (cV_rp hf) (ih e2)
    · cases h
theorem AvA.append {K : PySem.W.Frag} {Z : Hp} {σ : L2.St} : ∀ {xs ys : List V} {as bs : List AV}, AvA K Z σ xs as → AvA K Z σ ys bs → AvA K Z σ (xs ++ ys) (as ++ bs)
  | _, _, _, _, .nil, q => q
  | _, _, _, _, .v r t, q => .v r (AvA.append t q)
  | _, _, _, _, .s r t, q => .s r (AvA.append t q)

/-- what such a call binds: n values by place, the names ks -/
structure PB (K : PySem.W.Frag) (fd : FuncData) (ps : List Str) (n : Nat) (ks : List Str) (s : Sel) : Prop where
  to : ∀ (sh : Shared) (us ws : List Value), K.In sh.heap → us.length = n → ws.length = ks.length → ∃ zs, BindsTo sh fd ⟨us, ks.zip ws⟩ (ps.zip zs) ∧ zs.length = ps.length ∧ Pk (fun d u => RelV (cV d) u) (us ++ ws) s zs
/-- the arguments by place, then those by name, as the parameters stand -/
def aPick (s : Sel) (r rk : XA) : XA := fun ρ => (r ρ).bind fun p => (rk p.2).bind fun q => (pick s (p.1 ++ q.1)).map fun as => (as, q.2)
def tCallP (K : PySem.W.Frag) (n nk : Nat) (s : Sel) (m : XF) (t tk : TA) : TE := fun σ H Q => t σ H fun vs H1 => tk σ H1 fun zs H2 => vs.length = n ∧ zs.length = nk ∧ ∀ xs, Pk (fun d v => v = cV d) (vs ++ zs) s xs → spF K m xs H2 Q
theorem me_callP {K : PySem.W.Frag} {n nk : Nat} {s : Sel} {m : XF} {t tk : TA} {r rk : XA} (hn : ∀ ρ p, r ρ = some p → p.1.length = n) (hk : ∀ ρ p, rk ρ = some p → p.1.length = nk) (ma : MA K t r) (mk : MA K tk rk) : MC K (tCallP K n nk s m t tk) (gCall m (aPick s r rk)) := by
  intro Φ Z σ H ρ d ρ' R q Q kk
  unfold gCall aPick at q
  cases e1 : r ρ with
  | none => rw [e1] at q; cases q
  | some a =>
    rw [e1, Option.bind_some] at q
    cases e1' : rk a.2 with
    | none => rw [e1'] at q; cases q
    | some b =>
      rw [e1', Option.bind_some] at q
      cases e1'' : pick s (a.1 ++ b.1) with
      | none => rw [e1''] at q; cases q
      | some cs =>
        rw [e1''] at q
        simp only [Option.map_some, Option.bind_some] at q
        split at q
        · rename_i nd
          cases e2 : entN cs b.2 with
          | none => rw [e2] at q; cases q
          | some es =>
            rw [e2, Option.bind_some] at q
            cases e3 : m es with
            | none => rw [e3] at q; cases q
            | some w =>
              rw [e3, Option.bind_some] at q
              cases e4 : back cs w.2 b.2 with
              | none => rw [e4] at q; cases q
              | some ρ1 =>
                rw [e4] at q
                cases q
                refine ma Φ Z σ H ρ a.1 a.2 R e1 _ fun vs H1 Z1 z1 R1 ra => ?_
                refine mk Φ Z1 σ H1 a.2 b.1 b.2 R1 e1' _ fun zs H2 Z2 z2 R2 rb => ⟨?_, ?_, fun xs hx => ?_⟩
                · rw [← hn _ _ e1, ava_len ra]
                · rw [← hk _ _ e1', ava_len rb]
                · have rc := ava_pick ((ra.mono z2).append rb) hx e1''
                  exact ⟨Z2, _, _, es, w.1, w.2, e3, ent_io e2, call_in R2 rc e2 nd, fun v H3 Z3 z3 Rc r3 => kk v H3 Z3 ((z1.trans z2).trans z3) (call_out R2 e2 nd z3 Rc e4).1 (rv_out R2 (call_out R2 e2 nd z3 Rc e4).2 r3)⟩
        · cases q
section
variable {X : Cx} {k n : Nat} {f : Addr} {fd : FuncData} {ps ks : List Str} {m : XF} {x : Str} {p pos : Pos} {e : Expr} {es : List Expr} {kws : List Keyword} {r rk : XA} {s : Sel}
theorem run_p {pins : List (Addr × Obj)} {σ : L2.St} {H : Hp} {sh : Shared} {Q : VK} {us ws : List Value} {vs zs : List V} (F : FnG X.prog X.w X.K X.mg X.base k f fd ps m) (hr : Room k X.A) (hG : X.A.guards = some []) (hb : PB X.K fd ps n ks s)
    (I : L2.Inv X pins σ H sh) (rv : Vals vs us) (rz : Vals zs ws) (l1 : vs.length = n) (l2 : zs.length = ks.length) (h : ∀ xs, Pk (fun d v => v = cV d) (vs ++ zs) s xs → spF X.K m xs H Q) : wpAny (model X.prog X.w) X.A (call (.ref f) us (ks.zip ws)) (EP X pins σ Q) X.xe sh := by
  obtain ⟨ys, hB, hl, hp⟩ := hb.to sh us ws I.kIn (rv.length.symm.trans l1) (rz.length.symm.trans l2)
  obtain ⟨xs, rx, px⟩ := Pk.vals (rv.append rz) hp
  refine wpAny_call (codeAny_mono (F.run X.A X.stack sh H ⟨us, ks.zip ws⟩ ys xs Q hr hG I.env0 hB rx (rx.length.trans hl) (h xs px)) fun out s' hq => ?_)
  match out, hq with
  | .ok (.ret u), hq => exact I.after hq
  | .error e, hq => exact hq.elim
  | .ok .next, hq => exact hq.elim
  | .ok .brk, hq => exact hq.elim
  | .ok .cont, hq => exact hq.elim
/-- f(e, ..) with defaults -/
theorem cd_callP (F : FnG X.prog X.w X.K X.mg X.base k f fd ps m) (hr : Room k X.A) (hG : X.A.guards = some []) (hm : X.mg x = some (.ref f)) (hk : PySem.W.keepIn X.K (.ref f) = true) (hb : PB X.K fd ps n [] s) (ha : AD X (e :: es) r)
    (hn : ∀ ρ p, r ρ = some p → p.1.length = n)
    (hg : Gl X x := by rfl) (hdb : (x == ("__debug__" : Str)) = false := by decide) (hs : starEach (e :: es) X.env = (false, eval e X.env) :: starEach es X.env := by rfl) (hpl : (backTo pos (starEach es X.env)).any (·.1) = false := by rfl) :
    CD X (.Call (.Name x p) (e :: es) [] pos) m (aPick s r aNil) := by
  obtain ⟨t, pa, ma⟩ := ha
  refine ⟨tCallP X.K n 0 s m t tNil, ⟨fun pins sh σ H Q I h => ?_⟩, me_callP hn (fun ρ p e => by cases e; rfl) ma (fun Φ Z σ H ρ as ρ' R q Q k => by cases q; exact k [] H Z (Same.refl Z) R .nil)⟩
  refine wpAny_Call_Name_kw (ld_glob I hg hm ?_ hdb)
  refine PySem.W.callWith_K (h₀ := X.base) I.ok.mod.kin hk (thn (pa.run pos pins sh σ H _ I h) fun us s1 ⟨vs, H1, I1, rv, q⟩ => ⟨I1.kIn, ?_⟩) hs hpl
  obtain ⟨l1, l2, q2⟩ := q
  exact run_p F hr hG hb I1 rv .nil l1 rfl q2
/-- f(k = v, ..) -/
theorem cd_callQ (F : FnG X.prog X.w X.K X.mg X.base k f fd ps m) (hr : Room k X.A) (hG : X.A.guards = some []) (hm : X.mg x = some (.ref f)) (hk : PySem.W.keepIn X.K (.ref f) = true) (hb : PB X.K fd ps 0 ks s) (ha : KD X kws rk)
    (hn : ∀ ρ p, rk ρ = some p → p.1.length = ks.length)
    (hg : Gl X x := by rfl) (hdb : (x == ("__debug__" : Str)) = false := by decide) (hall : (backToKw pos (keywordEach kws X.env)).all (·.1.isSome) = true := by rfl) (hks : (backToKw pos (keywordEach kws X.env)).filterMap (·.1) = ks := by rfl)
    (hpl : ((backTo pos (starEach [] X.env)).any (·.1) || (backToKw pos (keywordEach kws X.env)).any (·.1.isNone)) = false := by rfl) :
    CD X (.Call (.Name x p) [] kws pos) m (aPick s aNil rk) := by
  obtain ⟨t, pa, ma⟩ := ha
  refine ⟨tCallP X.K 0 ks.length s m tNil t, ⟨fun pins sh σ H Q I h => ?_⟩, me_callP (fun ρ p e => by cases e; rfl) hn (fun Φ Z σ H ρ as ρ' R q Q k => by cases q; exact k [] H Z (Same.refl Z) R .nil) ma⟩
  refine wpAny_Call_Name_kw (ld_glob I hg hm ?_ hdb)
  refine PySem.W.callWith_KW0 (h₀ := X.base) I.ok.mod.kin hk hall ?_ hpl
  refine thn (pa.run pos pins sh σ H _ I h) fun ws s1 ⟨zs, H1, I1, rv, q⟩ => ⟨I1.kIn, ?_⟩
  rw [hks]
  obtain ⟨l1, l2, q2⟩ := q
  exact run_p F hr hG hb I1 .nil rv rfl l2 q2
/-- f(e, .., k = v, ..) -/
theorem cd_callPQ (F : FnG X.prog X.w X.K X.mg X.base k f fd ps m) (hr : Room k X.A) (hG : X.A.guards = some []) (hm : X.mg x = some (.ref f)) (hk : PySem.W.keepIn X.K (.ref f) = true) (hb : PB X.K fd ps n ks s) (ha : AD X (e :: es) r) (hkw : KD X kws rk)
    (hn : ∀ ρ p, r ρ = some p → p.1.length = n) (hn2 : ∀ ρ p, rk ρ = some p → p.1.length = ks.length)
    (hg : Gl X x := by rfl) (hdb : (x == ("__debug__" : Str)) = false := by decide) (hall : (backToKw pos (keywordEach kws X.env)).all (·.1.isSome) = true := by rfl) (hks : (backToKw pos (keywordEach kws X.env)).filterMap (·.1) = ks := by rfl)
    (he : starEach (e :: es) X.env = (false, eval e X.env) :: starEach es X.env := by rfl)
    (hpl : ((backTo pos (starEach (e :: es) X.env)).any (·.1) || (backToKw pos (keywordEach kws X.env)).any (·.1.isNone)) = false := by rfl) :
    CD X (.Call (.Name x p) (e :: es) kws pos) m (aPick s r rk) := by
  obtain ⟨t, pa, ma⟩ := ha
  obtain ⟨tk, pk, mk⟩ := hkw
  refine ⟨tCallP X.K n ks.length s m t tk, ⟨fun pins sh σ H Q I h => ?_⟩, me_callP hn hn2 ma mk⟩
  refine wpAny_Call_Name_kw (ld_glob I hg hm ?_ hdb)
  refine PySem.W.callWith_KW (h₀ := X.base) I.ok.mod.kin hk hall (thn (pa.run pos pins sh σ H _ I h) fun us s1 ⟨vs, H1, I1, r, q⟩ => ?_) hpl he
  refine thn (pk.run pos pins s1 σ H1 _ I1 q) fun ws s2 ⟨zs, H2, I2, rz, l1, l2, q2⟩ => ⟨I2.kIn, ?_⟩
  rw [hks]
  exact run_p F hr hG hb I2 r rz l1 l2 q2
end
/-- how many arguments a reading makes -/
theorem ln_nil : ∀ (ρ : Nv) (p : List AV × Nv), aNil ρ = some p → p.1.length = 0 := fun ρ p e => by cases e; rfl
theorem ln_cons {f : XE} {r : XA} {n : Nat} (h : ∀ (ρ : Nv) (p : List AV × Nv), r ρ = some p → p.1.length = n) : ∀ (ρ : Nv) (p : List AV × Nv), aCons f r ρ = some p → p.1.length = n + 1 := fun ρ p e => by
  unfold aCons at e
  cases e1 : f ρ with
  | none => rw [e1] at e; cases e
  | some s =>
    rw [e1, Option.bind_some] at e
    cases e2 : r s.2 with
    | none => rw [e2] at e; cases e
    | some w => rw [e2] at e; cases e; exact congrArg Nat.succ (h _ _ e2)
end DL
set_option maxRecDepth 100000
set_option maxHeartbeats 2000000
namespace DL
open PySem PySem.Spec PyProof.Rows L2

/-- the def at f, called with any number of values -/
structure FnV (P : Program) (w : World) (K : PySem.W.Frag) (mg : Str → Option Value) (base : Heap) (k : Nat) (f : Addr) (m : XF) : Prop where
  run : ∀ (A : Around) (outer : List Env) (s : Shared) (H : Hp) (us : List Value) (vs : List V) (Q : VK), Room k A → A.guards = some [] → Env0 P w K mg base A outer s H → Vals vs us → spF K m vs H Q →
    codeAny (model P w) A (.call (.ref f) ⟨us, []⟩) (CR CX0 outer P w H s Q E0) s
theorem FnV.mono {P : Program} {w : World} {K : PySem.W.Frag} {mg : Str → Option Value} {base : Heap} {j k : Nat} {f : Addr} {m : XF} (F : FnV P w K mg base j f m) (h : j ≤ k) : FnV P w K mg base k f m :=
  ⟨fun A outer s H us vs Q hr => F.run A outer s H us vs Q (hr.mono h)⟩
def datEs : List EV → Option (List PyData)
  | [] => some []
  | .d x :: es => (datEs es).map (x :: ·)
  | _ :: _ => none
theorem datEs_map : ∀ {es : List EV} {ds : List PyData}, datEs es = some ds → es = ds.map EV.d
  | [], _, h => by cases h; rfl
  | .d x :: es, ds, h => by
    replace h : (datEs es).map (x :: ·) = some ds := h
    cases e : datEs es with
    | none => rw [e] at h; cases h
    | some r => rw [e] at h; cases h; exact congrArg _ (datEs_map e)
  | .un :: _, _, h => by cases h
  | .own _ _ :: _, _, h => by cases h
  | .scr _ :: _, _, h => by cases h
/-- what the values make a tuple -/
def starF (m : XF) : XF := fun es => (datEs es).bind fun ds => if ds.length ≤ sizeLine then (m [.d (.tuple ds)]).map fun q => (q.1, es) else none
theorem rpa_of {K : PySem.W.Frag} {Z : Hp} : ∀ {vs : List V} {ds : List PyData}, vs.length = ds.length → (∀ (i : Nat) (x : PyData), ds[i]? = some x → ∃ v, vs[i]? = some v ∧ Rp K Z v x) → RpA K Z vs ds
  | [], [], _, _ => .nil
  | [], _ :: _, h, _ => by cases h
  | _ :: _, [], h, _ => by cases h
  | v :: vs, d :: ds, hl, h => by
    obtain ⟨v', e, r⟩ := h 0 d rfl
    cases e
    refine .cons r (rpa_of (by simpa using hl) fun i x hx => ?_)
    obtain ⟨u, e, q⟩ := h (i + 1) x (by simpa using hx)
    exact ⟨u, by simpa using e, q⟩
/-- into the body: the tuple is laid -/
theorem star_in {K : PySem.W.Frag} {m : XF} {vs : List V} {H : Hp} {Q : VK} (h : spF K (starF m) vs H Q) {p : Addr} (hp : H p = none) : vs.length ≤ sizeLine ∧ spF K m [V.ref p] (upd H p (.tup vs)) Q := by
  obtain ⟨Z, Fr, ino, es, d, ρ', hm, hio, R0, hQ⟩ := h
  unfold starF at hm
  cases e1 : datEs es with
  | none => rw [e1] at hm; cases hm
  | some ds =>
    rw [e1, Option.bind_some] at hm
    split at hm
    · rename_i hle
      cases e2 : m [.d (.tuple ds)] with
      | none => rw [e2] at hm; cases hm
      | some w =>
        rw [e2] at hm
        cases hm
        have hes := datEs_map e1
        have hlen : vs.length = ds.length := by
          have := R0.len
          rw [hes, List.length_map, List.length_map] at this
          exact this.symm
        have noown : ∀ (i : Nat) o b, es[i]? ≠ some (EV.own o b) := fun i o b q => by
          rw [hes, List.getElem?_map] at q
          cases h' : ds[i]? <;> rw [h'] at q <;> cases q
        have noscr : ∀ (i : Nat) ns, es[i]? ≠ some (EV.scr ns) := fun i o q => by
          rw [hes, List.getElem?_map] at q
          cases h' : ds[i]? <;> rw [h'] at q <;> cases q
        have noino : ∀ i a, ino i ≠ some a := fun i a q => by
          obtain ⟨_, o, e⟩ := R0.ino i a q
          exact noown i o _ e
        obtain ⟨zs, R1⟩ := R0.fresh (o := .tup vs) hp
        have hra : RpA K (upd Z p (.tup vs)) vs ds := rpa_of hlen fun i x hx => by
          obtain ⟨v, e, r⟩ := R1.dat i x (by rw [hes, List.getElem?_map, hx]; rfl)
          refine ⟨v, ?_, r⟩
          rw [List.getElem?_map] at e
          cases h' : vs[i]? with
          | none => rw [h'] at e; cases e
          | some u => rw [h'] at e; cases e; rfl
        refine ⟨by rw [hlen]; exact hle, upd Z p (.tup vs), Fr, fun _ => none, [.d (.tuple ds)], w.1, w.2, e2, fun i o e => by cases i <;> simp at e, ?_, ?_⟩
        · refine
            { len := rfl
              zH := R1.zH
              zN := fun b o h _ => .inl h
              f0 := fun b h => R1.zH.free h
              fr := R1.fr
              dom := fun b h => h
              inj := fun i j b ⟨⟨o, io, e⟩, _⟩ _ => by cases i <;> simp at e
              sep := fun i b ⟨⟨o, io, e⟩, _⟩ => by cases i <;> simp at e
              dat := fun i y e => ?_
              scr := fun i l e => by cases i <;> simp at e
              own := fun i o io e => by cases i <;> simp at e
              loc := fun i o b e => by cases i <;> simp at e
              ino := fun i b e => nomatch e
              io := fun i o e => by cases i <;> simp at e }
          cases i with
          | zero =>
            simp at e
            subst e
            exact ⟨_, rfl, .tup upd_same hra⟩
          | succ i => simp at e
        · intro v H2 Z2 z2 R2 r2
          have hH : ∀ a, upd H p (.tup vs) a = none → H a = none := fun a e => by
            by_cases ha : a = p
            · subst ha; exact hp
            · rw [upd_ne ha] at e; exact e
          refine hQ v H2 Z2 (zs.trans z2)
            { len := R0.len
              zH := R2.zH
              zN := fun a o q nt => ?_
              f0 := R0.f0
              fr := R2.fr
              dom := fun a q => hH a (R2.dom a q)
              inj := fun i j a ⟨⟨o, io, e⟩, _⟩ _ => absurd e (noown i o io)
              sep := fun i a ⟨⟨o, io, e⟩, _⟩ => absurd e (noown i o io)
              dat := fun i x e => ?_
              scr := fun i ns e => absurd e (noscr i ns)
              own := fun i o io e => absurd e (noown i o io)
              loc := fun i o a e => absurd e (noown i o false)
              ino := fun i a e => absurd e (noino i a)
              io := fun i o e => absurd e (noown i o true) } ?_
          · rcases R2.zN a o q nt with q | ⟨q1, q2⟩
            · by_cases ha : a = p
              · subst ha
                exact .inr ⟨hp, R0.fr.free hp⟩
              · left
                have q' : upd Z p (.tup vs) a = some o := q
                rw [upd_ne ha] at q'
                exact q'
            · exact .inr ⟨hH a q1, q2⟩
          · obtain ⟨u, e', r⟩ := R0.dat i x e
            exact ⟨u, e', r.mono (zs.trans z2)⟩
          · cases hw : w.1 with
            | d x => rw [hw] at r2; exact r2
            | n o =>
              rw [hw] at r2
              obtain ⟨a, rfl, W⟩ := r2
              exact ⟨a, rfl, W.ob, W.z, W.fr, hH a W.h0, fun i ⟨⟨o, io, e⟩, _⟩ => noown i o io e⟩
    · cases hm
section
variable {P : Program} {w : World} {K : PySem.W.Frag} {mg : Str → Option Value} {base : Heap}
/-- THE RULE for def f(*v) -/
theorem fn_bodyV {x qual pv : Str} {st : Stmt} {f : Addr} {fd : FuncData} {N : List Str} {k : Nat} {body : XS} (F : Fun K x qual st f fd) (S : FnScope N [pv] (defScope st))
    (hbind : ∀ us : List Value, bindArgs fd ⟨us, []⟩ = (newTuple us >>= fun t => pure [(pv, t)]))
    (hb : ∀ (cdv : Value) (A : Around) (outer : List Env) (s : Shared) (H : Hp), Room k (A.deeper (envOfC qual (defScope st) s.heap.objs.size f cdv)) → A.guards = some [] →
      SSD (cxOf CX0 P w K mg base N qual (defScope st) f cdv A outer s H E0).nox (defBody st) body) : FnV P w K mg base (k + 1) f (starF (runF N.length body)) := by
  obtain ⟨oc, od, kV, doc, pm, an, cdv, ct, osl, rfl, lk, hcd⟩ := F.ex
  refine ⟨fun A outer s H us vs Q hr hG e0 rv hsp => ?_⟩
  have hn : H s.heap.objs.size = Option.none := e0.hok.fresh (Nat.le_refl _)
  have hz := (star_in hsp hn).1
  have hl2 : us.length ≤ sizeLine := by rw [← rv.length]; exact hz
  refine StX.run_bnd (CX := CX0) lk hcd S hr e0 (G := fun xs H2 => ∃ p, H p = Option.none ∧ xs = [V.ref p] ∧ H2 = upd H p (.tup vs)) (fun A' Ex Q' h => ?_) fun s2 H2 xs ⟨p, hp, ex, eH⟩ hr' => ?_
  · rw [hbind us]
    refine wpAny_bind (wpAny_newTuple (wpAny_pure ?_) hl2)
    have new : ObjOk P w (upd H s.heap.objs.size (.tup vs)) (s.heap.push ({ cls := .type "tuple", data := .seq us.toArray } : Obj)) s.heap.objs.size (.tup vs) := ⟨hz, us, rv, ⟨_, Heap.get?_push_size _ rfl, rfl, _, rfl⟩⟩
    have un := StX.un_laid (fs := frs outer) (s := s) (o := ({ cls := .type "tuple", data := .seq us.toArray } : Obj)) (u := .tup vs) hn
    exact h _ _ [V.ref s.heap.objs.size] [Value.ref s.heap.objs.size] (StX.env0_laid e0 new) un rfl (fun e s' z => z) (.cons rfl .nil) rfl ⟨_, hn, rfl, rfl⟩
  · subst ex eH
    obtain ⟨t, pt, mt⟩ := hb cdv A outer s2 (upd H p (.tup vs)) hr' hG
    refine ⟨t, pt.nox, ?_⟩
    obtain ⟨_, Z, Fr, ino, es, d, ρ', hm, hio', R0, hQ⟩ := star_in hsp hp
    have nv : N.length ≥ [V.ref p].length := by
      have h1 := congrArg List.length S.pre
      rw [List.length_take] at h1
      simp only [List.length_cons, List.length_nil] at h1 ⊢
      omega
    unfold runF at hm
    cases eb : body (es ++ List.replicate (N.length - es.length) .un) with
    | none => rw [eb] at hm; cases hm
    | some fl =>
      rw [eb] at hm
      refine mt _ Z _ _ _ fl (start_rl R0 nv) eb _ ?_
      cases fl with
      | rt d1 ρ1 =>
        cases hm
        exact fun v σ' H' Z' z R r => hQ v H' Z' z (fin_rl R0 hio' z R).1 r
      | rn o1 ρ1 =>
        cases hm
        exact fun a σ' H' Z' z R r => hQ _ H' Z' z (fin_rl R0 hio' z R).1 ⟨a, rfl, r.ob, r.z, r.fr, r.h0, fun i q => r.no i ((fin_rl R0 hio' z R).2 i a q)⟩
      | nx ρ1 =>
        cases hm
        exact fun σ' H' Z' z R => hQ .non H' Z' z (fin_rl R0 hio' z R).1 .non
      | bk ρ1 => cases hm
      | ct ρ1 => cases hm
end

section
variable {X : Cx} {k : Nat} {f : Addr} {m : XF} {x : Str} {p pos sp_ : Pos} {e : Expr} {es : List Expr} {r : XA} {fe : XE}
theorem run_v {pins : List (Addr × Obj)} {σ : L2.St} {H : Hp} {s : Shared} {Q : VK} {us : List Value} {vs : List V} (F : FnV X.prog X.w X.K X.mg X.base k f m) (hr : Room k X.A) (hG : X.A.guards = some [])
    (I : L2.Inv X pins σ H s) (rv : Vals vs us) (h : spF X.K m vs H Q) : wpAny (model X.prog X.w) X.A (call (.ref f) us) (EP X pins σ Q) X.xe s := by
  refine wpAny_call (codeAny_mono (F.run X.A X.stack s H us vs Q hr hG I.env0 rv h) fun out s' hq => ?_)
  match out, hq with
  | .ok (.ret u), hq => exact I.after hq
  | .error e, hq => exact hq.elim
  | .ok .next, hq => exact hq.elim
  | .ok .brk, hq => exact hq.elim
  | .ok .cont, hq => exact hq.elim
def tCallV (K : PySem.W.Frag) (m : XF) (t : TA) : TE := fun σ H Q => t σ H fun vs H1 => spF K m vs H1 Q
theorem me_callV {K : PySem.W.Frag} {t : TA} (ma : MA K t r) : MC K (tCallV K m t) (gCall m r) := by
  intro Φ Z σ H ρ d ρ' R q Q kk
  unfold gCall at q
  cases e1 : r ρ with
  | none => rw [e1] at q; cases q
  | some a =>
    rw [e1, Option.bind_some] at q
    split at q
    · rename_i nd
      cases e2 : entN a.1 a.2 with
      | none => rw [e2] at q; cases q
      | some es =>
        rw [e2, Option.bind_some] at q
        cases e3 : m es with
        | none => rw [e3] at q; cases q
        | some w =>
          rw [e3, Option.bind_some] at q
          cases e4 : back a.1 w.2 a.2 with
          | none => rw [e4] at q; cases q
          | some ρ1 =>
            rw [e4] at q
            cases q
            refine ma Φ Z σ H ρ a.1 a.2 R e1 _ fun vs H1 Z1 z1 R1 ra => ?_
            exact ⟨Z1, _, _, es, w.1, w.2, e3, ent_io e2, call_in R1 ra e2 nd, fun v H2 Z2 z2 Rc rc => kk v H2 Z2 (z1.trans z2) (call_out R1 e2 nd z2 Rc e4).1 (rv_out R1 (call_out R1 e2 nd z2 Rc e4).2 rc)⟩
    · cases q
/-- f(e, ..) -/
theorem cd_callV (F : FnV X.prog X.w X.K X.mg X.base k f m) (hr : Room k X.A) (hG : X.A.guards = some []) (hm : X.mg x = some (.ref f)) (hk : PySem.W.keepIn X.K (.ref f) = true) (ha : AD X (e :: es) r)
    (hg : Gl X x := by rfl) (hdb : (x == ("__debug__" : Str)) = false := by decide) (hs : starEach (e :: es) X.env = (false, eval e X.env) :: starEach es X.env := by rfl) (hpl : (backTo pos (starEach es X.env)).any (·.1) = false := by rfl) :
    CD X (.Call (.Name x p) (e :: es) [] pos) m r := by
  obtain ⟨t, pa, ma⟩ := ha
  refine ⟨tCallV X.K m t, ⟨fun pins s σ H Q I h => ?_⟩, me_callV ma⟩
  refine wpAny_Call_Name_kw (ld_glob I hg hm ?_ hdb)
  exact PySem.W.callWith_K (h₀ := X.base) I.ok.mod.kin hk (thn (pa.run pos pins s σ H _ I h) fun us s1 ⟨vs, H1, I1, rv, q⟩ => ⟨I1.kIn, run_v F hr hG I1 rv q⟩) hs hpl
/-- f() -/
theorem cd_callV0 (F : FnV X.prog X.w X.K X.mg X.base k f m) (hr : Room k X.A) (hG : X.A.guards = some []) (hm : X.mg x = some (.ref f)) (hk : PySem.W.keepIn X.K (.ref f) = true)
    (hg : Gl X x := by rfl) (hdb : (x == ("__debug__" : Str)) = false := by decide) : CD X (.Call (.Name x p) [] [] pos) m aNil := by
  refine ⟨tCallV X.K m tNil, ⟨fun pins s σ H Q I h => ?_⟩, me_callV (fun Φ Z σ H ρ as ρ' R q Q k => by cases q; exact k [] H Z (Same.refl Z) R .nil)⟩
  refine wpAny_Call_Name_kw (ld_glob I hg hm ?_ hdb)
  exact PySem.W.callWith_K0 I.kIn hk (run_v F hr hG I .nil h)
/-- f(*e) -/
def aStar (fe : XE) : XA := fun ρ => (fe ρ).bind fun p => match p.1 with
  | .list ds => some (ds.map .v, p.2)
  | .tuple ds => some (ds.map .v, p.2)
  | _ => none
theorem ava_dat {K : PySem.W.Frag} {Z : Hp} {σ : L2.St} : ∀ {vs : List V} {ds : List PyData}, RpA K Z vs ds → AvA K Z σ vs (ds.map .v)
  | _, _, .nil => .nil
  | _, _, .cons r t => .v r (ava_dat t)
theorem ma_star1 {K : PySem.W.Frag} {te : TE} (m : ME K te fe) : MA K (fun σ H Q => te σ H fun y H1 => ∃ a xs, y = V.ref a ∧ (SqT K H1 a xs ∨ SqL K H1 a xs) ∧ Q xs H1) (aStar fe) := by
  intro Φ Z σ H ρ as ρ' R q Q k
  unfold aStar at q
  cases e1 : fe ρ with
  | none => rw [e1] at q; cases q
  | some w =>
    rw [e1, Option.bind_some] at q
    split at q
    · rename_i ds ew
      cases q
      refine m Φ Z σ H ρ w.1 w.2 R e1 _ fun v H1 Z1 z1 R1 r1 => ?_
      rw [ew] at r1
      obtain ⟨a, xs, rfl, h, ra⟩ := Rb.lst R1.zH (.inl r1)
      exact ⟨a, xs, rfl, .inr (SqL.of h), k _ H1 Z1 z1 R1 (ava_dat ra)⟩
    · rename_i ds ew
      cases q
      refine m Φ Z σ H ρ w.1 w.2 R e1 _ fun v H1 Z1 z1 R1 r1 => ?_
      rw [ew] at r1
      obtain ⟨a, xs, rfl, h, ra⟩ := Rb.tup R1.zH (.inl r1)
      exact ⟨a, xs, rfl, .inl h, k _ H1 Z1 z1 R1 (ava_dat ra)⟩
    · cases q
theorem cd_callVs (F : FnV X.prog X.w X.K X.mg X.base k f m) (hr : Room k X.A) (hG : X.A.guards = some []) (hm : X.mg x = some (.ref f)) (hk : PySem.W.keepIn X.K (.ref f) = true) (he : ED X e fe)
    (hg : Gl X x := by rfl) (hdb : (x == ("__debug__" : Str)) = false := by decide) (hst : starEach [.Starred e sp_] X.env = [(true, eval e X.env)] := by rfl) : CD X (.Call (.Name x p) [.Starred e sp_] [] pos) m (aStar fe) := by
  obtain ⟨te, pe, me⟩ := he
  refine ⟨_, ⟨fun pins s σ H Q I h => ?_⟩, me_callV (ma_star1 me)⟩
  refine wpAny_Call_Name_kw (ld_glob I hg hm ?_ hdb)
  refine PySem.W.callWith_S (h₀ := X.base) I.ok.mod.kin hk (thn (pe.run pins s σ H _ I h) fun v s1 ⟨y, H1, I1, ry, a, xs, ey, hxs, q⟩ => ?_) hst
  subst ey
  obtain rfl : v = Value.ref a := ry
  exact StX.star_any I1 hxs fun us s2 I2 rv => ⟨I2.kIn, run_v F hr hG I2 rv q⟩
end
end DL
set_option maxRecDepth 100000
set_option maxHeartbeats 2000000
namespace DL
open PySem PySem.Spec PyProof.Rows L2
section
variable {P : Program} {w : World} {K : PySem.W.Frag} {mg : Str → Option Value} {base : Heap}
/-- THE RULE for a def with defaults -/
theorem fn_bodyD {x qual : Str} {st : Stmt} {f : Addr} {fd : FuncData} {N ps : List Str} {k : Nat} {body : XS} {dvs : List V} {kws : List (Str × V)} (F : FunD K x qual (defArgs st) (defBody st) (defScope st) dvs kws f fd) (S : FnScope N ps (defScope st))
    (hb : ∀ (cdv : Value) (A : Around) (outer : List Env) (s : Shared) (H : Hp), Room k (A.deeper (envOfC qual (defScope st) s.heap.objs.size f cdv)) → A.guards = some [] →
      SSD (cxOf CX0 P w K mg base N qual (defScope st) f cdv A outer s H E0).nox (defBody st) body) : FnG P w K mg base (k + 1) f fd ps (runF N.length body) := by
  obtain ⟨oc, od, dV, kV, doc, pm, an, cdv, ct, osl, rfl, lk, hcd, _, _⟩ := F.ex
  refine ⟨fun A outer s H args us vs Q room hG e0 bnd rv hl hsp => ?_⟩
  obtain ⟨Z, Fr, ino, es, d, ρ', hm, hio', R0, hQ⟩ := hsp
  have kin : K.In s.heap := e0.mod.kin.keeps fun b o q => (e0.bs b o q).1
  have nolim : s.heap.NoLimit := e0.mod.nolimit.keeps fun b o q => (e0.bs b o q).1
  have nv : N.length ≥ vs.length := by
    have h1 := congrArg List.length S.pre
    rw [List.length_take] at h1
    omega
  have kinds : ∀ y ∈ ps.zip us, (defScope st).names.lookup y.1 = some .local ∨ ((defScope st).names.lookup y.1 = some .cell ∧ ((cellsFrom (s.heap.objs.size + 1) (defScope st).names []).lookup y.1).isSome = true) := by
    rintro ⟨n, v⟩ hy
    cases S.par n (List.of_mem_zip hy).1 with
    | inl q => exact .inl q
    | inr q => exact .inr ⟨q, PySem.W.cellsFrom_some _ _ _ (.inl q)⟩
  obtain ⟨t, pt, mt⟩ := hb cdv A outer s H (room.deeper _) hG
  have fin : ∀ {σ' : L2.St} {H' : Hp} {v : V} {u : Value} {s' : Shared}, L2.Inv (cxOf CX0 P w K mg base N qual (defScope st) f cdv A outer s H E0) [] σ' H' s' → RelV v u → Q v H' → CE outer P w H s Q u s' :=
    fun {σ' H' v u s'} J ru q => ⟨v, H', J.os, J.bare, J.base, J.hok, ru, q⟩
  have want : t { nx := fun _ H' => Q .non H', rt := Q } (L2.start N vs) H := by
    unfold runF at hm
    cases eb : body (es ++ List.replicate (N.length - es.length) .un) with
    | none => rw [eb] at hm; cases hm
    | some fl =>
      rw [eb] at hm
      refine mt _ Z _ H _ fl (start_rl R0 nv) eb _ ?_
      cases fl with
      | rt d1 ρ1 =>
        cases hm
        exact fun v σ' H' Z' z R r => hQ v H' Z' z (fin_rl R0 hio' z R).1 r
      | rn o1 ρ1 =>
        cases hm
        exact fun a σ' H' Z' z R r => hQ _ H' Z' z (fin_rl R0 hio' z R).1 ⟨a, rfl, r.ob, r.z, r.fr, r.h0, fun i q => r.no i ((fin_rl R0 hio' z R).2 i a q)⟩
      | nx ρ1 =>
        cases hm
        exact fun σ' H' Z' z R => hQ .non H' Z' z (fin_rl R0 hio' z R).1 .non
      | bk ρ1 => cases hm
      | ct ρ1 => cases hm
  refine codeAny_call_function room.depth (kin _ _ lk) rfl S.co S.gen rfl (PySem.W.codeRec_of kin hcd) (bnd _ _ _ _ ?_)
  refine wpAny_newFunctionEnv_cells S.kind kinds fun env he s1 xin => ?_
  subst he
  refine ⟨nolim.keeps xin.toInCall.keep, codeAny_func ?_⟩
  have I : L2.Inv (cxOf CX0 P w K mg base N qual (defScope st) f cdv A outer s H E0) [] (L2.start N vs) H s1 := inv_start S room.hd e0 hl rv xin
  refine wpAny_mono (pt.nox.run [] s1 (L2.start N vs) H _ I want) (fun fl s' hs => ?_) fun _ _ q => q
  match fl, hs with
  | .ret u, ⟨v, σ', H', J, ru, q⟩ => exact fin J ru q
  | .next, ⟨σ', H', J, q⟩ => exact fin (v := V.non) (u := Value.none) J rfl q
  | .brk, ⟨_, _, _, q⟩ => exact q.elim
  | .cont, ⟨_, _, _, q⟩ => exact q.elim
end
/-- a def with defaults as it stands behind the top -/
def DefExD (K : PySem.W.Frag) (x : Str) (st : Stmt) (dvs : List V) (kws : List (Str × V)) : Prop := ∃ (f : Addr) (oc : Value) (od an : Option Addr) (osl : Array (Option Value)) (dV kV doc pm cdv ct : Value),
  PySem.W.nsIn K mainGlobals x = some (some (.ref f)) ∧ K.lookup f = some ⟨oc, od, .func (PySem.W.fnOf x x (defArgs st) (defBody st) (defScope st) dV kV doc pm an cdv ct), osl⟩ ∧ PySem.W.codeIn K cdv x = true ∧ PySem.W.keepIn K (.ref f) = true ∧ DflV K dV dvs ∧ KwdV K kV kws
structure DefAtD (K : PySem.W.Frag) (mg : Str → Option Value) (x : Str) (st : Stmt) (dvs : List V) (kws : List (Str × V)) (f : Addr) (fd : FuncData) : Prop where
  F : FunD K x x (defArgs st) (defBody st) (defScope st) dvs kws f fd
  g : mg x = some (.ref f)
theorem def_atD {K : PySem.W.Frag} {mg : Str → Option Value} {x : Str} {st : Stmt} {dvs : List V} {kws : List (Str × V)} {h : Heap} (X : K.In h) (G : h.Ns mainGlobals mg) (e : DefExD K x st dvs kws) : ∃ f fd, DefAtD K mg x st dvs kws f fd := by
  obtain ⟨f, oc, od, an, osl, dV, kV, doc, pm, cdv, ct, h1, h2, h3, h4, h5, h6⟩ := e
  exact ⟨f, _, ⟨⟨oc, od, dV, kV, doc, pm, an, cdv, ct, osl, rfl, h2, h3, h5, h6⟩, h4⟩, PySem.W.mg_of X G h1⟩
theorem fun_d {K : PySem.W.Frag} {x qual : Str} {st : Stmt} {f : Addr} {fd : FuncData} (F : Fun K x qual st f fd) : FunD K x qual (defArgs st) (defBody st) (defScope st) [] [] f fd := by
  obtain ⟨oc, od, kV, doc, pm, an, cdv, ct, osl, rfl, lk, hcd⟩ := F.ex
  exact ⟨⟨oc, od, .none, kV, doc, pm, an, cdv, ct, osl, rfl, lk, hcd, .inl ⟨rfl, rfl⟩, .inl rfl⟩, F.kp⟩
section
variable {K : PySem.W.Frag} {x qual : Str} {params : Arguments} {body : List Stmt} {scope : Scope} {f : Addr} {fd : FuncData} {ps ks : List Str} {n : Nat} {s : Sel} {ds : List PyData} {dvs : List V} {kws : List (Str × V)}
/-- a plain def -/
theorem pb_none (F : FunD K x qual params body scope [] kws f fd)
    (h : ∀ (kV doc pm : Value) (an : Option Addr) (cdv ct : Value) (us ws : List Value), us.length = n → ws.length = ks.length →
      ∃ zs, bindArgs (PySem.W.fnOf x qual params body scope .none kV doc pm an cdv ct) ⟨us, ks.zip ws⟩ = pure (ps.zip zs) ∧ zs.length = ps.length ∧ Pk (fun d u => RelV (cV d) u) (us ++ ws) s zs) : PB K fd ps n ks s := by
  obtain ⟨oc, od, dV, kV, doc, pm, an, cdv, ct, osl, rfl, lk, hcd, hD, hK⟩ := F.ex
  rcases hD with ⟨_, rfl⟩ | ⟨e, _⟩
  · refine ⟨fun sh us ws hin h1 h2 => ?_⟩
    obtain ⟨zs, e, hl, hp⟩ := h kV doc pm an cdv ct us ws h1 h2
    exact ⟨zs, .of_eq e, hl, hp⟩
  · exact absurd rfl e
/-- defaults fill up -/
theorem pb_dfl (F : FunD K x qual params body scope dvs kws f fd) (hd : dvs ≠ [])
    (h : ∀ (T : Addr) (kV doc pm : Value) (an : Option Addr) (cdv ct : Value) (us ws its : List Value), us.length = n → ws.length = ks.length → Vals dvs its →
      ∃ k zs, bindArgs (PySem.W.fnOf x qual params body scope (.ref T) kV doc pm an cdv ct) ⟨us, ks.zip ws⟩ = seqItems? (.ref T) >>= k ∧ k (some its.toArray) = pure (ps.zip zs) ∧ zs.length = ps.length ∧ Pk (fun d u => RelV (cV d) u) (us ++ ws) s zs) : PB K fd ps n ks s := by
  obtain ⟨oc, od, dV, kV, doc, pm, an, cdv, ct, osl, rfl, lk, hcd, hD, hK⟩ := F.ex
  rcases hD with ⟨e, _⟩ | ⟨_, T, o, its, m, rfl, lT, oT, rT⟩
  · exact absurd e hd
  · refine ⟨fun sh us ws hin h1 h2 => ?_⟩
    obtain ⟨k, zs, e1, e2, hl, hp⟩ := h T kV doc pm an cdv ct us ws its h1 h2 rT
    refine ⟨zs, BindsTo.of_looks fun M => ?_, hl, hp⟩
    rw [e1]
    exact looks_items hin lT oT (.of_pure e2)
end
/-- a def f(*v) -/
structure DefAtV (K : PySem.W.Frag) (mg : Str → Option Value) (x : Str) (st : Stmt) (pv : Str) (f : Addr) (fd : FuncData) : Prop where
  F : Fun K x x st f fd
  bv : ∀ us : List Value, bindArgs fd ⟨us, []⟩ = (newTuple us >>= fun t => pure [(pv, t)])
  g : mg x = some (.ref f)
theorem def_atV {K : PySem.W.Frag} {mg : Str → Option Value} {x pv : Str} {st : Stmt} {h : Heap} (X : K.In h) (G : h.Ns mainGlobals mg) (e : DefEx K x st)
    (hb : ∀ (kV doc pm : Value) (an : Option Addr) (cdv ct : Value) (us : List Value), bindArgs (PySem.W.fnOf x x (defArgs st) (defBody st) (defScope st) .none kV doc pm an cdv ct) ⟨us, []⟩ = (newTuple us >>= fun t => pure [(pv, t)])) :
    ∃ f fd, DefAtV K mg x st pv f fd := by
  obtain ⟨f, oc, od, an, osl, kV, doc, pm, cdv, ct, h1, h2, h3, h4⟩ := e
  exact ⟨f, _, fun_mk h2 h3 h4, hb kV doc pm an cdv ct, PySem.W.mg_of X G h1⟩
end DL
set_option maxRecDepth 100000
set_option maxHeartbeats 2000000
namespace DL
open PySem PySem.Spec PyProof.Rows L2
end DL
set_option maxRecDepth 100000
set_option maxHeartbeats 2000000
namespace DL
open PySem PySem.Spec PyProof.Rows L2
mutual
inductive KT (K : PySem.W.Frag) : Value → PyData → Prop
  | non : KT K .none .none
  | bl (b : Bool) : KT K (.bool b) (.bool b)
  | int (i : Int) (t : Tok) : KT K (.int i t) (.int i)
  | str (x : Str) (t : Tok) : KT K (.str x t) (.str x)
  | tup {a : Addr} {o : Obj} {its : Array Value} {n : Nat} {ds : List PyData} : K.lookup a = some o → o.cls = .type "tuple" → o.data = .seq its n → its.size ≤ sizeLine → KTA K its.toList ds → kOk ds = true → KT K (.ref a) (.tuple ds)
inductive KTA (K : PySem.W.Frag) : List Value → List PyData → Prop
  | nil : KTA K [] []
  | cons {u : Value} {us : List Value} {d : PyData} {ds : List PyData} : KT K u d → KTA K us ds → KTA K (u :: us) (d :: ds)
end
mutual
theorem KT.rp {K : PySem.W.Frag} : ∀ {u : Value} {d : PyData}, KT K u d → ∃ v, RelV v u ∧ ∀ Z : Hp, Rp K Z v d
  | _, _, .non => ⟨.non, rfl, fun _ => .non⟩
  | _, _, .bl b => ⟨.bl b, rfl, fun _ => .bl b⟩
  | _, _, .int i t => ⟨.int i, ⟨t, rfl⟩, fun _ => .int i⟩
  | _, _, .str x t => ⟨.str x, ⟨t, rfl⟩, fun _ => .str x⟩
  | _, _, .tup (a := a) (o := o) (its := its) (n := n) h1 h2 h3 h4 h5 h6 => by
    obtain ⟨vs, r, q⟩ := KTA.rp h5
    exact ⟨.ref a, rfl, fun Z => .tuk (.inr ⟨o, its, n, h1, h2, h3, h4, r⟩) h6 (q Z)⟩
theorem KTA.rp {K : PySem.W.Frag} : ∀ {us : List Value} {ds : List PyData}, KTA K us ds → ∃ vs, Vals vs us ∧ ∀ Z : Hp, RpA K Z vs ds
  | _, _, .nil => ⟨[], .nil, fun _ => .nil⟩
  | _, _, .cons a b => by
    obtain ⟨v, r, q⟩ := KT.rp a
    obtain ⟨vs, rs, qs⟩ := KTA.rp b
    exact ⟨v :: vs, .cons r rs, fun Z => .cons (q Z) (qs Z)⟩
end
def ConT (K : PySem.W.Frag) (x : Str) (d : PyData) : Prop := ∃ u, PySem.W.nsIn K mainGlobals x = some (some u) ∧ KT K u d
def ConV (K : PySem.W.Frag) (mg : Str → Option Value) (x : Str) (d : PyData) : Prop := ∃ v u, mg x = some u ∧ RelV v u ∧ ∀ Z : Hp, Rp K Z v d
theorem con_atT {K : PySem.W.Frag} {mg : Str → Option Value} {x : Str} {d : PyData} {h : Heap} (X : K.In h) (G : h.Ns mainGlobals mg) (e : ConT K x d) : ConV K mg x d := by
  obtain ⟨u, h1, h2⟩ := e
  obtain ⟨v, r, q⟩ := h2.rp
  exact ⟨v, u, PySem.W.mg_of X G h1, r, q⟩
theorem ed_globT {X : Cx} {pos : Pos} {x : Str} {d : PyData} (h : ConV X.K X.mg x d) (hg : Gl X x := by rfl) (hd : (x == ("__debug__" : Str)) = false := by decide) : ED X (.Name x pos) (xC d) := by
  obtain ⟨v, u, hm, hu, r⟩ := h
  exact ed_glob ⟨u, hm, hu⟩ r hg hd
end DL
set_option maxRecDepth 100000
set_option maxHeartbeats 2000000
namespace DL
open PySem PySem.Spec PyProof.Rows L2
abbrev XR := Nv → Option (Rv × Nv)
def RD (X : Cx) (e : Expr) (f : XR) : Prop := ∃ t, PE X e t ∧ MC X.K t f
def rD (f : XE) : XR := fun ρ => (f ρ).map fun p => (.d p.1, p.2)
def rN (n : XN) : XR := fun ρ => (n ρ).map fun p => (.n p.1, p.2)
theorem ED.rd {X : Cx} {e : Expr} {f : XE} (h : ED X e f) : RD X e (rD f) := by
  obtain ⟨t, p, m⟩ := h
  refine ⟨t, p, fun Φ Z σ H ρ d ρ' R q Q k => ?_⟩
  unfold rD at q
  cases e1 : f ρ with
  | none => rw [e1] at q; cases q
  | some w => rw [e1] at q; cases q; exact m Φ Z σ H ρ _ _ R e1 Q k
theorem ND.rd {X : Cx} {e : Expr} {n : XN} (h : ND X e n) : RD X e (rN n) := by
  obtain ⟨t, p, m⟩ := h
  refine ⟨t, p, fun Φ Z σ H ρ d ρ' R q Q k => ?_⟩
  unfold rN at q
  cases e1 : n ρ with
  | none => rw [e1] at q; cases q
  | some w => rw [e1] at q; cases q; exact m Φ Z σ H ρ _ _ R e1 Q fun a H' Z' z R' W => k _ H' Z' z R' ⟨a, rfl, W⟩
def Rv.new : Rv → Prop
  | .d _ => False
  | .n _ => True
section
variable {K : PySem.W.Frag}
def putR (ρ : Nv) (i : Nat) : Rv → Option Nv
  | .d x => put ρ i x
  | .n o => if free ρ i = true then some (ρ.set i (.own o false)) else none
end
def sParR (i j : Nat) (f g : XR) : XS := fun ρ => (f ρ).bind fun p => (g p.2).bind fun q => (putR q.2 i p.1).bind fun ρ1 => (putR ρ1 j q.1).map .nx
def sParR3 (i j l : Nat) (f g h : XR) : XS := fun ρ => (f ρ).bind fun p => (g p.2).bind fun q => (h q.2).bind fun s => (putR s.2 i p.1).bind fun ρ1 => (putR ρ1 j q.1).bind fun ρ2 => (putR ρ2 l s.1).map .nx
end DL
set_option maxRecDepth 100000
set_option maxHeartbeats 2000000
namespace DL
open PySem PySem.Spec PyProof.Rows L2 RZ
section
variable {K : PySem.W.Frag} {Z : Hp} {a b : Addr} {xs ys : List V} {ds es : List PyData}
end
section
variable {X : Cx} {e e2 : Expr} {f g : XE} {p pos tpos : Pos} {elts : List Expr} {kk : Nat}
end
end DL
set_option maxRecDepth 100000
set_option maxHeartbeats 2000000
namespace DL
open PySem PySem.Spec PyProof.Rows L2 PySem.W PySem.SeqAt
def headB : PyData → PyData → Bool
  | .tuple (.str n :: _), .tuple (.str m :: _) => decide (n ≠ m)
  | _, _ => false
def simB (d d' : PyData) : Bool := alike d d' || headB d d'
def Row (d : PyData) : Prop := ∃ n r, d = .tuple (.str n :: r)
section
variable {prog : Program} {w : World} {A : Around} {s : Shared}
variable {E : Value → Shared → Prop} {β : Type} {vs : List Value} {bs : List β} {enc : β → PyData} {R : Value → β → Prop}
end
end DL
set_option maxRecDepth 100000
set_option maxHeartbeats 2000000
namespace DL
open PySem PySem.Spec PyProof.Rows L2
def allAlikeB (ds : List PyData) : Bool := ds.all fun d => ds.all fun d' => simB d d'
def alikesB (ds : List PyData) : Bool := ds.all fun d => ds.all fun d' => PySem.W.alike d d'
def emptyB (ds : List PyData) : Bool := (match ds with | .tuple [] :: _ => true | _ => false) && ds.all fun d => match d with | .tuple _ => true | _ => false
def rowsB (ds : List PyData) : Bool := ds.all fun d => match d with | .tuple (.str _ :: _) => true | _ => false
def sortableB (ds : List PyData) : Bool := rowsB ds || (alikesB ds && ((ds.all fun d => match d with | .tuple (_ :: _) => true | _ => false) || (ds.all fun d => match d with | .none => false | .tuple _ => false | _ => true) || emptyB ds))
def sortD (ds : List PyData) : List PyData := ds.mergeSort (PySem.W.dataLe false id)
def sortedD : PyData → Option PyData
  | .list ds => if allAlikeB ds = true ∧ sortableB ds = true ∧ PyData.hasDictAll ds = false ∧ ds.length ≤ sizeLine ∧ PyData.depthAll ds ≤ 50 then some (.list (sortD ds)) else none
  | _ => none

end DL
set_option maxRecDepth 100000
set_option maxHeartbeats 2000000
namespace DL
open PySem PySem.Spec PyProof.Rows L2
section
variable {K : PySem.W.Frag} {Φ : Fx} {Z : Hp} {σ : L2.St} {H : Hp} {ρ : Nv}
end
end DL
set_option maxRecDepth 100000
set_option maxHeartbeats 2000000
namespace DL
open PySem PySem.Spec PyProof.Rows L2
def isKt : PyData → Bool
  | .tuple _ => true
  | _ => false
def sortedX : PyData → Option PyData
  | .dict kvs => if allAlikeB (kvs.map (·.1)) = true ∧ sortableB (kvs.map (·.1)) = true ∧ (kvs.map (·.1)).all isKt = true then some (.list (sortD (kvs.map (·.1)))) else none
  | d => sortedD d
end DL
set_option maxRecDepth 100000
set_option maxHeartbeats 2000000
namespace DL
open PySem PySem.Spec PyProof.Rows L2
def restN (ρ0 : Nv) : Nv → List Nat → Option Nv
  | ρ, [] => some ρ
  | ρ, v :: vs => match ρ0[v]? with
    | some (.d x) => if free ρ v = true then restN ρ0 (ρ.set v (.d x)) vs else none
    | some .un => restN ρ0 ρ vs
    | _ => none
def itS (it : XI) (vs : List Nat) : XI := fun ρ => (it ρ).bind fun p => (wipeN p.2 vs).map fun ρ1 => (p.1, ρ1)
def nSv (n : XN) (vs : List Nat) : XN := fun ρ => (n ρ).bind fun q => (restN ρ q.2 vs).map fun ρ2 => (q.1, ρ2)
theorem mi_s {K : PySem.W.Frag} {w : TI} {it : XI} {vs : List Nat} (m : MI K w it) : MI K w (itS it vs) := by
  intro Φ Z σ H ρ ds ρ' R q R' k
  unfold itS at q
  cases e1 : it ρ with
  | none => rw [e1] at q; cases q
  | some p =>
    rw [e1, Option.bind_some] at q
    cases e2 : wipeN p.2 vs with
    | none => rw [e2] at q; cases q
    | some ρ1 =>
      rw [e2] at q
      cases q
      exact m Φ Z σ H ρ p.1 p.2 R e1 R' fun J H1 Z1 z1 R1 y => k J H1 Z1 z1 (wipeN_rl R1 e2) y
theorem rest_rl {K : PySem.W.Frag} {Φ : Fx} {Z Z' : Hp} {σ : L2.St} {H H' : Hp} {ρ0 : Nv} (R0 : Rl K Φ Z σ H ρ0) (z : Same Z Z') : ∀ {vs : List Nat} {ρ ρ' : Nv}, Rl K Φ Z' σ H' ρ → restN ρ0 ρ vs = some ρ' → Rl K Φ Z' σ H' ρ' ∧ ∀ i a, AtS ρ' σ i a → AtS ρ σ i a
  | [], ρ, ρ', R, h => by cases h; exact ⟨R, fun _ _ h => h⟩
  | v :: vs, ρ, ρ', R, h => by
    unfold restN at h
    split at h
    · rename_i x e0
      split at h
      · rename_i hf
        obtain ⟨h1, h2⟩ := free_lt hf
        obtain ⟨u, hs, r⟩ := R0.dat v x e0
        have R1 := R.store h1 h2 (r.mono z)
        have es : σ.set v (some u) = σ := by
          have hv : v < σ.length := (List.getElem?_eq_some_iff.mp hs).1
          apply List.ext_getElem?
          intro j
          by_cases hj : v = j
          · subst hj; rw [List.getElem?_set_self hv, hs]
          · rw [List.getElem?_set_ne hj]
        rw [es] at R1
        obtain ⟨R2, at2⟩ := rest_rl R0 z R1 h
        refine ⟨R2, fun i a q => ?_⟩
        obtain ⟨⟨o, io, e⟩, s⟩ := at2 i a q
        by_cases hi : v = i
        · subst hi
          rw [List.getElem?_set_self h1] at e
          cases e
        · rw [List.getElem?_set_ne hi] at e
          exact ⟨⟨o, io, e⟩, s⟩
      · cases h
    · exact rest_rl R0 z R h
    · cases h
theorem mn_sv {K : PySem.W.Frag} {t : TE} {n : XN} {vs : List Nat} (m : MN K t n) : MN K t (nSv n vs) := by
  intro Φ Z σ H ρ o ρ' R q Q k
  unfold nSv at q
  cases e1 : n ρ with
  | none => rw [e1] at q; cases q
  | some p =>
    rw [e1, Option.bind_some] at q
    cases e2 : restN ρ p.2 vs with
    | none => rw [e2] at q; cases q
    | some ρ2 =>
      rw [e2] at q
      cases q
      refine m Φ Z σ H ρ p.1 p.2 R e1 Q fun a H1 Z1 z1 R1 w => ?_
      obtain ⟨R2, at2⟩ := rest_rl R z1 R1 e2
      exact k a H1 Z1 z1 R2 ⟨w.ob, w.z, w.fr, w.h0, fun i q => w.no i (at2 i a q)⟩
section
variable {X : Cx} {elt tg iter : Expr} {ifs : List Expr} {scope : Scope} {pos : Pos} {it : XI} {g : XG} {c : XT} {f : XE}
end

theorem lc_turns {K : PySem.W.Frag} {g : TG} {tt : TT} {te : TE} {gf : XG} {c : XT} {e : XE} {vs : List Nat} (mg : MG K g gf vs) (mc : MT K tt c) (me : ME K te e) {Φ : Fx} {D : Addr} (frD : Φ.Fr D = none) (f0D : Φ.F0 D = none) {Z1 : Hp} {σ : L2.St} {J : It} {ds : List PyData}
    (y : Yld K Z1 J ds) {H1 : Hp} {ρ1 : Nv} {us0 : List V} {acc0 : List PyData} (start : Rl K (Φ.keep D (.lst us0)) Z1 σ H1 ρ1) (hu : unAt ρ1 vs = true) (ra0 : RpA K Z1 us0 acc0) {s : List PyData × Nv} (e2 : lcL gf c e vs ds ρ1 acc0 = some s) {Qd : Hp → Prop}
    (fin : ∀ H' Z' us, Same Z1 Z' → Rl K (Φ.keep D (.lst us)) Z' σ H' s.2 → unAt s.2 vs = true → RpA K Z' us s.1 → Qd H') :
    ∃ W : Nat → Nat → Hp → Prop, (∃ m, W 0 m H1) ∧ ∀ i m H, W i m H →
      (J.stop i H ∧ Qd H) ∨ (J.go i H ∧ ∃ Nx : Hp → Prop, (∀ H', Nx H' → ∃ m', m' < m ∧ W (i + 1) m' H') ∧ ∀ x H', J.yld i H x H' → g x (wipe σ vs) H' fun σ2 H2 => wipe σ2 vs = wipe σ vs ∧ tt σ2 H2 fun b H3 =>
        if b = true then te σ2 H3 fun y H4 => ∃ acc, H4 D = some (.lst acc) ∧ acc.length < sizeLine ∧ Nx (upd H4 D (.lst (acc ++ [y]))) else Nx H3) := by
  have zD : ∀ {o Z' σ' H' ρ'}, (∀ xs, o ≠ .tup xs) → Rl K (Φ.keep D o) Z' σ' H' ρ' → Z' D = none := fun {o Z' σ' H' ρ'} no R' => by
    cases hz : Z' D with
    | none => rfl
    | some u =>
      rcases R'.zN D u hz (fun xs e => by have h1 := R'.zH D u hz; have h2 := R'.fr D o upd_same; rw [h1] at h2; cases h2; exact no xs e) with h | ⟨_, h⟩
      · rw [show (Φ.keep D o).F0 D = Φ.F0 D from rfl, f0D] at h
        cases h
      · have h : upd Φ.Fr D o D = none := h
        rw [upd_same] at h
        cases h
  refine ⟨fun i m H' => m = ds.length - i ∧ i ≤ ds.length ∧ ∃ Z' ρ' acc us, Same Z1 Z' ∧ Rl K (Φ.keep D (.lst us)) Z' σ H' ρ' ∧ unAt ρ' vs = true ∧ RpA K Z' us acc ∧ lcL gf c e vs (ds.drop i) ρ' acc = some s,
    ⟨ds.length, by simp, Nat.zero_le _, Z1, ρ1, acc0, us0, Same.refl Z1, start, hu, ra0, by simpa using e2⟩, ?_⟩
  rintro i m H' ⟨rfl, hi, Z', ρ', acc, us, z', R', hu', ra, q'⟩
  by_cases hlt : i < ds.length
  · refine .inr ⟨y.go i H' (z'.trans R'.zH) hlt, fun H2 => i + 1 ≤ ds.length ∧ ∃ Z' ρ' acc us, Same Z1 Z' ∧ Rl K (Φ.keep D (.lst us)) Z' σ H2 ρ' ∧ unAt ρ' vs = true ∧ RpA K Z' us acc ∧ lcL gf c e vs (ds.drop (i + 1)) ρ' acc = some s,
      fun H2 ⟨h1, h2⟩ => ⟨ds.length - (i + 1), by omega, rfl, h1, h2⟩, fun x H2 yl => ?_⟩
    obtain ⟨Z3, d, z3, R3, hd, rd⟩ := y.item i H' x H2 _ σ ρ' Z' hlt z' R' yl
    have ed : ds.drop i = d :: ds.drop (i + 1) := by
      rw [List.drop_eq_getElem_cons hlt]
      congr 1
      rw [List.getElem?_eq_getElem hlt] at hd
      exact Option.some.inj hd
    rw [ed] at q'
    unfold lcL at q'
    cases e3 : gf d ρ' with
    | none => rw [e3] at q'; cases q'
    | some ρ2 =>
      rw [e3, Option.bind_some] at q'
      have R3w : Rl K (Φ.keep D (.lst us)) Z3 (wipe σ vs) H2 ρ' := reslot_un R3 hu' (wipe_length σ vs) fun j hj => wipe_ne hj
      refine mg _ Z3 (wipe σ vs) H2 ρ' x d ρ2 R3w rd e3 _ fun σ3 R4 l3 s3 => ⟨?_, ?_⟩
      · exact wipe_eq (l3.trans (wipe_length σ vs)) fun j hj => (s3 j hj).trans (wipe_ne hj)
      have l3' : σ3.length = σ.length := l3.trans (wipe_length σ vs)
      have s3' : ∀ j, j ∉ vs → σ[j]? = σ3[j]? := fun j hj => ((s3 j hj).trans (wipe_ne hj)).symm
      cases e4 : c ρ2 with
      | none => rw [e4] at q'; cases q'
      | some p =>
        rw [e4, Option.bind_some] at q'
        refine mc _ Z3 σ3 H2 ρ2 p.1 p.2 R4 e4 _ fun H5 Z5 z5 R5 => ?_
        by_cases hp : p.1 = true
        · rw [if_pos hp] at q' ⊢
          cases e5 : e p.2 with
          | none => rw [e5] at q'; cases q'
          | some w =>
            rw [e5, Option.bind_some] at q'
            split at q'
            · rename_i hal
              cases e6 : wipeN w.2 vs with
              | none => rw [e6] at q'; cases q'
              | some ρ4 =>
                rw [e6, Option.bind_some] at q'
                refine me _ Z5 σ3 H5 p.2 w.1 w.2 R5 e5 _ fun v H6 Z6 z6 R6 r6 => ?_
                obtain ⟨_, hDl, _⟩ := R6.unkeep frD
                have ra6 : RpA K Z6 us acc := ((ra.mono z3).mono z5).mono z6
                refine ⟨us, hDl, by rw [ra.length]; exact hal, hlt, Z6, ρ4, acc ++ [w.1], us ++ [v], ((z'.trans z3).trans z5).trans z6, ?_, wipeN_unAt e6, ra6.append (.cons r6 .nil), q'⟩
                exact reslot_un (wipeN_rl (R6.rekeep frD (zD (fun _ e => by cases e) R6)) e6) (wipeN_unAt e6) l3'.symm s3'
            · cases q'
        · rw [if_neg hp] at q' ⊢
          cases e6 : wipeN p.2 vs with
          | none => rw [e6] at q'; cases q'
          | some ρ4 =>
            rw [e6, Option.bind_some] at q'
            refine ⟨hlt, Z5, ρ4, acc, us, (z'.trans z3).trans z5, ?_, wipeN_unAt e6, (ra.mono z3).mono z5, q'⟩
            exact reslot_un (wipeN_rl R5 e6) (wipeN_unAt e6) l3'.symm s3'
  · have ei : i = ds.length := by omega
    subst ei
    rw [List.drop_length] at q'
    cases q'
    exact .inl ⟨y.stop _ H' (z'.trans R'.zH) rfl, fin H' Z' us z' R' hu' ra⟩

def lc2L (g : XG) (c : XT) (it1 : XI) (g1 : XG) (c1 : XT) (e : XE) (vs vs1 : List Nat) : List PyData → Nv → List PyData → Option (List PyData × Nv)
  | [], ρ, acc => some (acc, ρ)
  | d :: ds, ρ, acc => (g d ρ).bind fun ρ1 => (c ρ1).bind fun p => if p.1 = true then
      (it1 p.2).bind fun w => if unAt w.2 vs1 = true then (lcL g1 c1 e vs1 w.1 w.2 acc).bind fun q => (wipeN q.2 vs).bind fun ρ2 => lc2L g c it1 g1 c1 e vs vs1 ds ρ2 q.1 else none
    else (wipeN p.2 vs).bind fun ρ2 => lc2L g c it1 g1 c1 e vs vs1 ds ρ2 acc
def nLc2 (it : XI) (g : XG) (c : XT) (it1 : XI) (g1 : XG) (c1 : XT) (e : XE) (vs vs1 : List Nat) : XN := fun ρ => (it ρ).bind fun p => if unAt p.2 vs = true then (lc2L g c it1 g1 c1 e vs vs1 p.1 p.2 []).map fun q => (.ol q.1, q.2) else none
theorem mn_lc2 {K : PySem.W.Frag} {w w1 : TI} {g g1 : TG} {tt tt1 : TT} {te : TE} {it it1 : XI} {gf gf1 : XG} {c c1 : XT} {e : XE} {vs vs1 : List Nat} (mi : MI K w it) (mg : MG K g gf vs) (mc : MT K tt c) (mi1 : MI K w1 it1) (mg1 : MG K g1 gf1 vs1) (mc1 : MT K tt1 c1) (me : ME K te e) :
    MN K (tLc2 w g tt w1 g1 tt1 te vs vs1) (nLc2 it gf c it1 gf1 c1 e vs vs1) := by
  intro Φ Z σ H ρ o ρ' R q Q k
  unfold nLc2 at q
  cases e1 : it ρ with
  | none => rw [e1] at q; cases q
  | some p =>
    rw [e1, Option.bind_some] at q
    obtain ⟨ds, ρ1⟩ := p
    split at q
    · rename_i hu
      cases e2 : lc2L gf c it1 gf1 c1 e vs vs1 ds ρ1 [] with
      | none => rw [e2] at q; cases q
      | some s =>
        rw [e2] at q
        cases q
        refine mi Φ Z σ H ρ ds ρ1 R e1 _ fun J H1 Z1 z1 R1 y D hD => ?_
        have frD : Φ.Fr D = none := R1.fr.free hD
        have f0D : Φ.F0 D = none := R1.f0 D (R1.dom D hD)
        have zD : ∀ {o Z' σ' H' ρ'}, (∀ xs, o ≠ .tup xs) → Rl K (Φ.keep D o) Z' σ' H' ρ' → Z' D = none := fun {o Z' σ' H' ρ'} no R' => by
          cases hz : Z' D with
          | none => rfl
          | some u =>
            rcases R'.zN D u hz (fun xs e => by have h1 := R'.zH D u hz; have h2 := R'.fr D o upd_same; rw [h1] at h2; cases h2; exact no xs e) with h | ⟨_, h⟩
            · rw [show (Φ.keep D o).F0 D = Φ.F0 D from rfl, f0D] at h
              cases h
            · have h : upd Φ.Fr D o D = none := h
              rw [upd_same] at h
              cases h
        have start : Rl K (Φ.keep D (.lst [])) Z1 σ (upd H1 D (.lst [])) ρ1 := by
          have R2 := R1.laid (o := .lst []) hD
          refine R2.keep upd_same (R1.zH.free hD) (fun i hi => ?_) fun a u e => ne_of_none (R1.zH a u e) hD
          obtain ⟨u, hu, _⟩ := R1.at_some hi
          rw [hD] at hu
          cases hu
        refine ⟨fun i m H' => m = ds.length - i ∧ i ≤ ds.length ∧ ∃ Z' ρ' acc us, Same Z1 Z' ∧ Rl K (Φ.keep D (.lst us)) Z' σ H' ρ' ∧ unAt ρ' vs = true ∧ RpA K Z' us acc ∧ lc2L gf c it1 gf1 c1 e vs vs1 (ds.drop i) ρ' acc = some s,
          ⟨ds.length, by simp, Nat.zero_le _, Z1, ρ1, [], [], Same.refl Z1, start, hu, .nil, by simpa using e2⟩, ?_⟩
        rintro i m H' ⟨rfl, hi, Z', ρ', acc, us, z', R', hu', ra, q'⟩
        by_cases hlt : i < ds.length
        · refine .inr ⟨y.go i H' (z'.trans R'.zH) hlt, fun H2 => i + 1 ≤ ds.length ∧ ∃ Z' ρ' acc us, Same Z1 Z' ∧ Rl K (Φ.keep D (.lst us)) Z' σ H2 ρ' ∧ unAt ρ' vs = true ∧ RpA K Z' us acc ∧ lc2L gf c it1 gf1 c1 e vs vs1 (ds.drop (i + 1)) ρ' acc = some s,
            fun H2 ⟨h1, h2⟩ => ⟨ds.length - (i + 1), by omega, rfl, h1, h2⟩, fun x H2 yl => ?_⟩
          obtain ⟨Z3, d, z3, R3, hd, rd⟩ := y.item i H' x H2 _ σ ρ' Z' hlt z' R' yl
          have ed : ds.drop i = d :: ds.drop (i + 1) := by
            rw [List.drop_eq_getElem_cons hlt]
            congr 1
            rw [List.getElem?_eq_getElem hlt] at hd
            exact Option.some.inj hd
          rw [ed] at q'
          unfold lc2L at q'
          cases e3 : gf d ρ' with
          | none => rw [e3] at q'; cases q'
          | some ρ2 =>
            rw [e3, Option.bind_some] at q'
            have R3w : Rl K (Φ.keep D (.lst us)) Z3 (wipe σ vs) H2 ρ' := reslot_un R3 hu' (wipe_length σ vs) fun j hj => wipe_ne hj
            refine mg _ Z3 (wipe σ vs) H2 ρ' x d ρ2 R3w rd e3 _ fun σ3 R4 l3 s3 => ⟨?_, ?_⟩
            · exact wipe_eq (l3.trans (wipe_length σ vs)) fun j hj => (s3 j hj).trans (wipe_ne hj)
            have l3' : σ3.length = σ.length := l3.trans (wipe_length σ vs)
            have s3' : ∀ j, j ∉ vs → σ[j]? = σ3[j]? := fun j hj => ((s3 j hj).trans (wipe_ne hj)).symm
            cases e4 : c ρ2 with
            | none => rw [e4] at q'; cases q'
            | some p =>
              rw [e4, Option.bind_some] at q'
              refine mc _ Z3 σ3 H2 ρ2 p.1 p.2 R4 e4 _ fun H5 Z5 z5 R5 => ?_
              by_cases hp : p.1 = true
              · rw [if_pos hp] at q' ⊢
                cases e5 : it1 p.2 with
                | none => rw [e5] at q'; cases q'
                | some v =>
                  rw [e5, Option.bind_some] at q'
                  split at q'
                  · rename_i hu1
                    cases e6 : lcL gf1 c1 e vs1 v.1 v.2 acc with
                    | none => rw [e6] at q'; cases q'
                    | some r =>
                      rw [e6, Option.bind_some] at q'
                      cases e7 : wipeN r.2 vs with
                      | none => rw [e7] at q'; cases q'
                      | some ρ4 =>
                        rw [e7, Option.bind_some] at q'
                        refine mi1 _ Z5 σ3 H5 p.2 v.1 v.2 R5 e5 _ fun J1 H6 Z6 z6 R6 y1 => ?_
                        have ra6 : RpA K Z6 us acc := ((ra.mono z3).mono z5).mono z6
                        refine lc_turns mg1 mc1 me frD f0D y1 R6 hu1 ra6 e6 fun H7 Z7 us7 z7 R7 _ ra7 => ?_
                        refine ⟨hlt, Z7, ρ4, r.1, us7, (((z'.trans z3).trans z5).trans z6).trans z7, ?_, wipeN_unAt e7, ra7, q'⟩
                        exact reslot_un (wipeN_rl R7 e7) (wipeN_unAt e7) l3'.symm s3'
                  · cases q'
              · rw [if_neg hp] at q' ⊢
                cases e6 : wipeN p.2 vs with
                | none => rw [e6] at q'; cases q'
                | some ρ4 =>
                  rw [e6, Option.bind_some] at q'
                  refine ⟨hlt, Z5, ρ4, acc, us, (z'.trans z3).trans z5, ?_, wipeN_unAt e6, (ra.mono z3).mono z5, q'⟩
                  exact reslot_un (wipeN_rl R5 e6) (wipeN_unAt e6) l3'.symm s3'
        · have ei : i = ds.length := by omega
          subst ei
          rw [List.drop_length] at q'
          cases q'
          obtain ⟨R7, hDl, hn⟩ := R'.unkeep frD
          exact .inl ⟨y.stop _ H' (z'.trans R'.zH) rfl, k D H' Z' (z1.trans z') R7 ⟨⟨us, hDl, ra⟩, zD (fun _ e => by cases e) R', frD, R1.dom D hD, hn⟩⟩
    · cases q
def tiOf (K : PySem.W.Frag) (f : XI) : TI := fun σ H R' => ∃ (Φ : Fx) (Z : Hp) (ρ : Nv) (ds : List PyData) (ρ' : Nv), Rl K Φ Z σ H ρ ∧ f ρ = some (ds, ρ') ∧ ∀ J H' Z', Same Z Z' → Rl K Φ Z' σ H' ρ' → Yld K Z' J ds → R' J H'
theorem mi_of {K : PySem.W.Frag} {f : XI} : MI K (tiOf K f) f := fun Φ Z σ H ρ d ρ' R q Q k => ⟨Φ, Z, ρ, d, ρ', R, q, k⟩
theorem ID'.pi {X : Cx} {tg e : Expr} {f : XI} (h : ID' X tg e f) : PI X tg e (tiOf X.K f) := by
  obtain ⟨t, p, m⟩ := h
  exact ⟨fun pins s σ H Q I ⟨Φ, Z, ρ, ds, ρ', R, q, k⟩ => p.run pins s σ H Q I (m Φ Z σ H ρ ds ρ' R q Q k)⟩
section
variable {X : Cx} {elt tg iter tg1 iter1 : Expr} {ifs ifs1 : List Expr} {scope : Scope} {pos : Pos} {it it1 : XI} {g g1 : XG} {c c1 : XT} {f : XE}
end
end DL
set_option maxRecDepth 100000
set_option maxHeartbeats 2000000
namespace DL
open PySem PySem.Spec PyProof.Rows L2

def xChain3 (g g1 g2 : PyData → PyData → Option PyData) (a b c d : XE) : XE := fun ρ => (a ρ).bind fun p => (b p.2).bind fun q => (g p.1 q.1).bind fun z => match z with
  | .bool true => (c q.2).bind fun r => (g1 q.1 r.1).bind fun z => match z with
    | .bool true => (d r.2).bind fun s => (g2 r.1 s.1).map fun z => (z, s.2)
    | .bool false => some (.bool false, r.2)
    | _ => none
  | .bool false => some (.bool false, q.2)
  | _ => none
section
variable {X : Cx} {a b c d : Expr} {fa fb fc fd : XE} {g g1 g2 : PyData → PyData → Option PyData} {r r1 r2 : R2} {pos : Pos} {ta tb tc td : TE}
end

def xOg1 (i : Nat) (g : XE) : XE := fun ρ => match ρ[i]? with
  | some (.own (.od _) _) => (g ρ).bind fun q => match q.2[i]?, keyD q.1 with
    | some (.own (.od kvs) _), some k => some ((getD' kvs k).getD .none, q.2)
    | _, _ => none
  | _ => none
def xOg2 (i : Nat) (g h : XE) : XE := fun ρ => match ρ[i]? with
  | some (.own (.od _) _) => (g ρ).bind fun q => (h q.2).bind fun r => match r.2[i]?, keyD q.1 with
    | some (.own (.od kvs) _), some k => some ((getD' kvs k).getD r.1, r.2)
    | _, _ => none
  | _ => none
section
variable {X : Cx} {e f2 : Expr} {g h : XE} {apos cpos vpos : Pos}
end

def leS (a b : Str) : Bool := !decide (b.cps.toList < a.cps.toList)
def srtS (ks : List Str) : List Str := ks.mergeSort leS
def skeys : List (PyData × PyData) → Option (List Str)
  | [] => some []
  | (.str x, _) :: r => (skeys r).map (x :: ·)
  | _ => none
def sortedKX : PyData → Option PyData
  | .dict ps => (skeys ps).bind fun ks => if ks.length < 64 then some (.list ((srtS ks).map PyData.str)) else none
  | _ => none
end DL
set_option maxRecDepth 100000
set_option maxHeartbeats 2000000
namespace DL
open PySem PySem.Spec PyProof.Rows L2
section
variable {prog : Program} {w : World} {A : Around} {E : Value → Shared → Prop} {d : Addr}
end
section
variable {prog : Program} {w : World} {A : Around} {E : Value → Shared → Prop} {d : Addr}
end
/-- the def at f, called with keywords alone -/
structure FnK (P : Program) (w : World) (K : PySem.W.Frag) (mg : Str → Option Value) (base : Heap) (k : Nat) (f : Addr) (fd : FuncData) (pv : Str) (m : XF) : Prop where
  run : ∀ (A : Around) (outer : List Env) (s : Shared) (H : Hp) (ks : List Str) (us : List Value) (vs : List V) (Q : VK), Room k A → A.guards = some [] → Env0 P w K mg base A outer s H → Vals vs us → vs.length = ks.length → ks.Nodup → ks.length ≤ 1000 →
    bindArgs fd ⟨[], ks.zip us⟩ = ((alloc ({ cls := .type "dict", data := .dict #[] } : Obj) : Sem Addr) >>= fun d => forIn (ks.zip us) PUnit.unit (fun x _ => (nsSet d x.1 x.2 >>= fun _ => pure (ForInStep.yield PUnit.unit))) >>= fun _ => pure [(pv, Value.ref d)]) →
    (∀ p, H p = none → spF K m [V.ref p] (upd H p (.dK ((ks.map Sum.inr).zip vs))) Q) →
    codeAny (model P w) A (.call (.ref f) ⟨[], ks.zip us⟩) (CR CX0 outer P w H s Q E0) s
theorem FnK.mono {P : Program} {w : World} {K : PySem.W.Frag} {mg : Str → Option Value} {base : Heap} {j k : Nat} {f : Addr} {fd : FuncData} {pv : Str} {m : XF} (F : FnK P w K mg base j f fd pv m) (h : j ≤ k) : FnK P w K mg base k f fd pv m :=
  ⟨fun A outer s H ks us vs Q hr => F.run A outer s H ks us vs Q (hr.mono h)⟩
section
variable {P : Program} {w : World} {K : PySem.W.Frag} {mg : Str → Option Value} {base : Heap}
end
section
variable {X : Cx} {k : Nat} {f : Addr} {fd : FuncData} {pv : Str} {m : XF} {x : Str} {p pos : Pos} {ks : List Str} {kws : List Keyword} {rk : XA}
end
theorem GD.mono {X : Cx} {e : Expr} {f : XG} {vs ws : List Nat} (h : GD X e f vs) (hs : ∀ i ∈ vs, i ∈ ws) : GD X e f ws := by
  obtain ⟨g, p, m⟩ := h
  exact ⟨g, p, fun Φ Z σ H ρ v d ρ' R r q Q k => m Φ Z σ H ρ v d ρ' R r q Q fun σ' R' l s => k σ' R' l fun j hj => s j fun hi => hj (hs j hi)⟩
/-- two fors, names that are locals too -/
def nLc2S (it : XI) (g : XG) (c : XT) (it1 : XI) (g1 : XG) (c1 : XT) (e : XE) (vs vs1 : List Nat) : XN := nSv (nLc2 (itS it vs) g c it1 g1 c1 e vs vs1) vs
section
variable {X : Cx} {elt tg iter tg1 iter1 : Expr} {ifs ifs1 : List Expr} {scope : Scope} {pos : Pos} {it it1 : XI} {g g1 : XG} {c c1 : XT} {f : XE}
theorem sd_setLc2S {vs vs1 : List Nat} (i : Nat) {y : Str} {py spos : Pos} (own : List (Str × Nat)) (ok : BlkOk X.N X.env.scope scope own) (hv : own.map (·.2) = vs) (hv1 : ∀ i ∈ vs1, i ∈ own.map (·.2)) (hc : X.calm = true) (hN : X.N.Nodup) (hi : ID' X tg iter it)
    (hg : ∀ (s : Shared) (H : Hp) (C : Addr) (cl : List (Str × Addr)) (fp : List Addr), GD (X.blk s H scope (compEnvC scope cl C X.env) fp) tg g vs) (ht : ∀ (s : Shared) (H : Hp) (C : Addr) (cl : List (Str × Addr)) (fp : List Addr), TsD (X.blk s H scope (compEnvC scope cl C X.env) fp) ifs c)
    (hi1 : ∀ (s : Shared) (H : Hp) (C : Addr) (cl : List (Str × Addr)) (fp : List Addr), ID' (X.blk s H scope (compEnvC scope cl C X.env) fp) tg1 iter1 it1)
    (hg1 : ∀ (s : Shared) (H : Hp) (C : Addr) (cl : List (Str × Addr)) (fp : List Addr), GD (X.blk s H scope (compEnvC scope cl C X.env) fp) tg1 g1 vs1) (ht1 : ∀ (s : Shared) (H : Hp) (C : Addr) (cl : List (Str × Addr)) (fp : List Addr), TsD (X.blk s H scope (compEnvC scope cl C X.env) fp) ifs1 c1)
    (he : ∀ (s : Shared) (H : Hp) (C : Addr) (cl : List (Str × Addr)) (fp : List Addr), ED (X.blk s H scope (compEnvC scope cl C X.env) fp) elt f)
    (hsw : swapsWith (.ListComp elt [⟨tg, iter, ifs, 0⟩, ⟨tg1, iter1, ifs1, 0⟩] scope pos) (some (.Name y py)) spos.line X.env = pure true)
    (hy : X.N[i]? = some y := by rfl) (hyl : X.env.scope.names.lookup y = some .local := by rfl) (hs : ∀ x, foldedSetIterable iter X.env x = pure x := by intro _; rfl) (hs1 : ∀ env x, foldedSetIterable iter1 env x = pure x := by intro _ _; rfl) :
    SD X (.Assign [.Name y py] (.ListComp elt [⟨tg, iter, ifs, 0⟩, ⟨tg1, iter1, ifs1, 0⟩] scope pos) spos) (sSet i (xFz (nLc2S it g c it1 g1 c1 f vs vs1))) ∧ SD X (.Assign [.Name y py] (.ListComp elt [⟨tg, iter, ifs, 0⟩, ⟨tg1, iter1, ifs1, 0⟩] scope pos) spos) (sNew i (nLc2S it g c it1 g1 c1 f vs vs1)) := by
  subst hv
  obtain ⟨w, p, m⟩ := hi
  have q := ps_setLc2 (py := py) (g := gOf X.K g _) (tt := tOfT X.K c) (wi1 := tiOf X.K it1) (g1 := gOf X.K g1 _) (tt1 := tOfT X.K c1) (te := tOf X.K f) hc hN hy hyl hsw p ok hv1 (fun s H C cl fp => (hg s H C cl fp).pg) (fun s H C cl fp => (ht s H C cl fp).pts) (fun s H C cl fp => (hi1 s H C cl fp).pi)
    (fun s H C cl fp => (hg1 s H C cl fp).pg) (fun s H C cl fp => (ht1 s H C cl fp).pts) (fun s H C cl fp => (he s H C cl fp).pe) hs hs1
  exact ⟨⟨_, q, ms_asg (me_fz (mn_sv (mn_lc2 (mi_s m) mg_of mt_of mi_of mg_of mt_of me_of)))⟩, ⟨_, q, ms_asgN (mn_sv (mn_lc2 (mi_s m) mg_of mt_of mi_of mg_of mt_of me_of))⟩⟩
end
end DL
set_option maxRecDepth 100000
set_option maxHeartbeats 2000000
namespace DL
open PySem L2
def b1 (g : PyData → Option PyData) (a : XB) : XB := fun ρ => (a ρ).bind g
section
variable {X : Cx} {e : Expr} {pos : Pos}
end
end DL
set_option maxRecDepth 100000
set_option maxHeartbeats 4000000
namespace DL
open PySem PySem.Spec PyProof.Rows L2
open AutoSeq1 (wpAny_loadPart')
section
variable {prog : Program} {w : World} {A : Around} {E : Value → Shared → Prop} {s : Shared}
end
end DL
set_option maxRecDepth 100000
set_option maxHeartbeats 2000000
namespace DL
open PySem L2
end DL
set_option maxRecDepth 100000
set_option maxHeartbeats 4000000
namespace DL
open PySem L2

section
variable {K : PySem.W.Frag} {Φ : Fx} {Z : Hp} {σ : St} {H : Hp} {ρ : Nv}
/-- what must stay is said anew at the places P, where nobody else looks -/
theorem Rl.reframe (R : Rl K Φ Z σ H ρ) {H2 Fr2 : Hp} (P : Addr → Prop) (hS : ∀ c, ¬ P c → H2 c = H c ∧ Fr2 c = Φ.Fr c) (hz : ∀ c, P c → Z c = none) (h2 : ∀ c, P c → ∃ u, H2 c = some u ∧ (Fr2 c = none ∨ Fr2 c = some u)) (hn : ∀ i a, AtS ρ σ i a → ¬ P a) :
    Rl K { Φ with Fr := Fr2 } Z σ H2 ρ := by
  have zP : ∀ c u, Z c = some u → ¬ P c := fun c u e p => by rw [hz c p] at e; cases e
  refine ⟨R.len, fun a w e => ?_, fun a w e nt => ?_, R.f0, fun a w e => ?_, fun a e => ?_, R.inj, fun i a q => ?_, R.dat, R.scr, fun i o' io e => ?_, R.loc, R.ino, R.io⟩
  · rw [(hS a (zP a w e)).1]
    exact R.zH a w e
  · rcases R.zN a w e nt with q | ⟨q1, q2⟩
    · exact .inl q
    · exact .inr ⟨q1, (hS a (zP a w e)).2.trans q2⟩
  · have e : Fr2 a = some w := e
    by_cases hp : P a
    · obtain ⟨u, hu, h | h⟩ := h2 a hp
      · rw [h] at e; cases e
      · rw [h] at e; cases e; exact hu
    · rw [(hS a hp).2] at e
      rw [(hS a hp).1]
      exact R.fr a w e
  · by_cases hp : P a
    · obtain ⟨u, hu, _⟩ := h2 a hp
      rw [hu] at e; cases e
    · rw [(hS a hp).1] at e
      exact R.dom a e
  · exact ⟨(R.sep i a q).1, (hS a (hn i a q)).2.trans (R.sep i a q).2⟩
  · obtain ⟨a, s, ob⟩ := R.own i o' io e
    exact ⟨a, s, ob.move (Same.refl Z) (hS a (hn i a ⟨⟨o', io, e⟩, s⟩)).1⟩
/-- what must stay and is no tuple is not frozen, where it is new -/
theorem Rl.frZ (R : Rl K Φ Z σ H ρ) {c : Addr} {u : HO} (h : Φ.Fr c = some u) (nt : ∀ xs, u ≠ .tup xs) (h0 : Φ.H0 c = none) : Z c = none := by
  cases hz : Z c with
  | none => rfl
  | some w =>
    have e1 := R.zH c w hz
    have e2 := R.fr c u h
    have e : w = u := Option.some.inj (e1.symm.trans e2)
    rcases R.zN c w hz (by rw [e]; exact nt) with q | ⟨_, q⟩
    · rw [R.f0 c h0] at q; cases q
    · rw [h] at q; cases q
theorem Rl.frN (R : Rl K Φ Z σ H ρ) {c : Addr} {u : HO} (h : Φ.Fr c = some u) : ∀ i, ¬ AtS ρ σ i c := fun i q => by
  have := (R.sep i c q).2
  rw [h] at this
  cases this
end

/-- the inner lists -/
inductive InL (K : PySem.W.Frag) (Z Fr : Hp) : List (Key × V) → List (Key × PyData) → List Addr → Prop
  | nil : InL K Z Fr [] [] []
  | cons {k : Key} {b : Addr} {ws : List V} {xs : List PyData} {vs : List (Key × V)} {kvs : List (Key × PyData)} {bs : List Addr} : Fr b = some (.lst ws) → RpA K Z ws xs → b ∉ bs → InL K Z Fr vs kvs bs → InL K Z Fr ((k, .ref b) :: vs) ((k, .list xs) :: kvs) (b :: bs)
section
variable {K : PySem.W.Frag} {Z Fr : Hp}
theorem InL.mono {Z' Fr' : Hp} (z : Same Z Z') : ∀ {vs : List (Key × V)} {kvs : List (Key × PyData)} {bs : List Addr}, InL K Z Fr vs kvs bs → (∀ b ∈ bs, Fr' b = Fr b) → InL K Z' Fr' vs kvs bs
  | _, _, _, .nil, _ => .nil
  | _, _, _, .cons h r n t, e => .cons ((e _ (by simp)).trans h) (r.mono z) n (t.mono z fun b hb => e b (by simp [hb]))
theorem InL.keys : ∀ {vs : List (Key × V)} {kvs : List (Key × PyData)} {bs : List Addr}, InL K Z Fr vs kvs bs → vs.map (·.1) = kvs.map (·.1)
  | _, _, _, .nil => rfl
  | _, _, _, .cons _ _ _ t => by simp [t.keys]
theorem InL.fr : ∀ {vs : List (Key × V)} {kvs : List (Key × PyData)} {bs : List Addr}, InL K Z Fr vs kvs bs → ∀ b ∈ bs, ∃ ws, Fr b = some (.lst ws)
  | _, _, _, .nil, _, h => by cases h
  | _, _, _, .cons (ws := ws) h r n t, c, hc => by
    rcases List.mem_cons.mp hc with rfl | hc
    · exact ⟨ws, h⟩
    · exact t.fr c hc
/-- what stands under a key -/
theorem InL.get : ∀ {vs : List (Key × V)} {kvs : List (Key × PyData)} {bs : List Addr}, InL K Z Fr vs kvs bs → ∀ k : Key, (valV vs k).isSome = (getD' kvs k).isSome ∧ ∀ z, getD' kvs k = some z → ∃ b ws xs, valV vs k = some (.ref b) ∧ b ∈ bs ∧ z = .list xs ∧ Fr b = some (.lst ws) ∧ RpA K Z ws xs
  | _, _, _, .nil, k => ⟨rfl, fun z e => by simp [getD'] at e⟩
  | _, _, _, .cons (k := k') (b := b) (ws := ws) (xs := xs) (vs := vs) (kvs := kvs) (bs := bs) h r n t, k => by
    have ih := t.get k
    by_cases hk : k' = k
    · subst hk
      refine ⟨by simp [valV, getD'], fun z e => ⟨b, ws, xs, by simp [valV], by simp, ?_, h, r⟩⟩
      simp [getD'] at e
      exact e.symm
    · have e1 : valV ((k', V.ref b) :: vs) k = valV vs k := by simp [valV, hk]
      have e2 : getD' ((k', PyData.list xs) :: kvs) k = getD' kvs k := by simp [getD', hk]
      rw [e1, e2]
      refine ⟨ih.1, fun z e => ?_⟩
      obtain ⟨b2, ws2, xs2, h1, h2, h3, h4, h5⟩ := ih.2 z e
      exact ⟨b2, ws2, xs2, h1, by simp [h2], h3, h4, h5⟩
theorem putD_ne {kvs : List (Key × PyData)} {k k' : Key} {d x : PyData} (h : k' ≠ k) (hs : (getD' kvs k).isSome = true) : putD ((k', x) :: kvs) k d = (k', x) :: putD kvs k d := by
  have ha : (kvs.any fun kv => decide (kv.1 = k)) = true := by
    rw [List.any_eq_true]
    unfold getD' at hs
    rw [Option.isSome_map, List.find?_isSome] at hs
    obtain ⟨p, hp, e⟩ := hs
    exact ⟨p, hp, e⟩
  simp [putD, h, ha]
theorem putD_eq {kvs : List (Key × PyData)} {k : Key} {d x : PyData} (h : k ∉ kvs.map (·.1)) : putD ((k, x) :: kvs) k d = (k, d) :: kvs := by
  have : (kvs.map fun kv => if kv.1 = k then (kv.1, d) else kv) = kvs := by
    conv => rhs; rw [← List.map_id kvs]
    refine List.map_congr_left fun kv hkv => ?_
    rw [if_neg (fun e => h (by rw [← e]; exact List.mem_map_of_mem hkv))]
    rfl
  simp [putD, this]
theorem InL.app {v : V} {d : PyData} (rv : Rp K Z v d) : ∀ {vs : List (Key × V)} {kvs : List (Key × PyData)} {bs : List Addr}, InL K Z Fr vs kvs bs → (kvs.map (·.1)).Nodup → ∀ {k : Key} {b : Addr} {ws : List V} {xs : List PyData},
    valV vs k = some (.ref b) → getD' kvs k = some (.list xs) → Fr b = some (.lst ws) → RpA K Z ws xs → InL K Z (upd Fr b (.lst (ws ++ [v]))) vs (putD kvs k (.list (xs ++ [d]))) bs
  | _, _, _, .nil, _, k, b, ws, xs, e, _, _, _ => by simp [valV] at e
  | _, _, _, .cons (k := k') (b := b') (ws := ws') (xs := xs') (vs := vs) (kvs := kvs) (bs := bs) h r n t, nd, k, b, ws, xs, e, e2, h2, r2 => by
    rw [List.map_cons, List.nodup_cons] at nd
    by_cases hk : k' = k
    · subst hk
      simp [valV] at e
      subst e
      rw [putD_eq nd.1]
      refine .cons upd_same (r2.append (.cons rv .nil)) n (t.mono (Same.refl Z) fun c hc => ?_)
      rw [upd_ne (by rintro rfl; exact n hc)]
    · have e' : valV vs k = some (.ref b) := by simpa [valV, hk] using e
      have e2' : getD' kvs k = some (.list xs) := by simpa [getD', hk] using e2
      rw [putD_ne hk (by rw [e2']; rfl)]
      obtain ⟨b2, ws2, xs2, g1, g2, _⟩ := (t.get k).2 _ e2'
      rw [e'] at g1
      cases g1
      refine .cons ?_ r n (t.app rv nd.2 e' e2' h2 r2)
      rw [upd_ne (by rintro rfl; exact n g2)]
      exact h
end

/-- a lock: the object, where it is, what it holds -/
abbrev Lk := Obj × Addr × List (Key × V)
def LkOk : Option Lk → Hp → Addr → List (Key × V) → Prop
  | none, Fr, a, vs => Fr a = some (.dK vs)
  | some (o, a', vs'), Fr, a, vs => a = a' ∧ vs = vs' ∧ Fr a = some (.frz o (.dK vs))
/-- slot j holds a dict of lists, all of one's own; lk: the dict is locked -/
def NR (K : PySem.W.Frag) (j : Nat) (lk : Option Lk) (Φ : Fx) (Z : Hp) (σ : St) (H : Hp) (ρ : Nv) : Prop := ∃ (Fr : Hp) (a : Addr) (vs : List (Key × V)) (kvs : List (Key × PyData)) (bs : List Addr),
  ρ[j]? = some (.own (.od kvs) false) ∧ σ[j]? = some (some (.ref a)) ∧ LkOk lk Fr a vs ∧ InL K Z Fr vs kvs bs ∧ (kvs.map (·.1)).Nodup ∧ a ∉ bs ∧ (∀ c, c ∈ a :: bs → Φ.Fr c = none ∧ Φ.H0 c = none) ∧ Same Φ.Fr Fr ∧
  Rl K { Φ with Fr := Fr } Z σ H (ρ.set j .un)
section
variable {K : PySem.W.Frag} {j : Nat} {lk : Option Lk} {Φ : Fx} {Z : Hp} {σ : St} {H : Hp} {ρ : Nv}
theorem LkOk.rd {lk : Option Lk} {Fr : Hp} {a : Addr} {vs : List (Key × V)} (h : LkOk lk Fr a vs) : ∃ u, Fr a = some u ∧ (∀ xs, u ≠ .tup xs) ∧ (∀ xs, u ≠ .lst xs) ∧ ∀ H : Hp, H a = some u → Rd H a (.dK vs) := by
  cases lk with
  | none => exact ⟨_, h, (fun _ e => by cases e), (fun _ e => by cases e), (fun H e => .inl e)⟩
  | some l =>
    obtain ⟨o, a', vs'⟩ := l
    obtain ⟨rfl, rfl, h⟩ := h
    exact ⟨_, h, (fun _ e => by cases e), (fun _ e => by cases e), (fun H e => .inr ⟨_, e⟩)⟩
theorem LkOk.other {lk : Option Lk} {Fr : Hp} {a b : Addr} {vs : List (Key × V)} {u : HO} (h : LkOk lk Fr a vs) (hb : a ≠ b) : LkOk lk (upd Fr b u) a vs := by
  cases lk with
  | none => exact (upd_ne hb).trans h
  | some l =>
    obtain ⟨o, a', vs'⟩ := l
    obtain ⟨h1, h2, h⟩ := h
    exact ⟨h1, h2, (upd_ne hb).trans h⟩
end
end DL
set_option maxRecDepth 100000
set_option maxHeartbeats 4000000
namespace DL
open PySem L2

def NT (K : PySem.W.Frag) (j : Nat) (lk : Option Lk) (t : TT) (f : XT) : Prop := ∀ (Φ : Fx) (Z : Hp) (σ : St) (H : Hp) (ρ : Nv) (d : Bool) (ρ' : Nv), NR K j lk Φ Z σ H ρ → f ρ = some (d, ρ') →
  ∀ Q : Bool → Hp → Prop, (∀ H' Z', Same Z Z' → NR K j lk Φ Z' σ H' ρ' → Q d H') → t σ H Q
def NFlE (K : PySem.W.Frag) (j : Nat) (lk : Option Lk) (Φ : Fx) (Z : Hp) (D : Ends) : Fl → Prop
  | .nx ρ' => ∀ σ' H' Z', Same Z Z' → NR K j lk Φ Z' σ' H' ρ' → D.nx σ' H'
  | .rt d ρ' => ∀ v σ' H' Z', Same Z Z' → Rl K Φ Z' σ' H' ρ' → Rp K Z' v d → D.rt v H'
  | .rn o ρ' => ∀ a σ' H' Z', Same Z Z' → Rl K Φ Z' σ' H' ρ' → New K Φ Z' σ' H' ρ' a o → D.rt (.ref a) H'
  | .bk ρ' => ∀ σ' H' Z', Same Z Z' → NR K j lk Φ Z' σ' H' ρ' → D.bk σ' H'
  | .ct ρ' => ∀ σ' H' Z', Same Z Z' → NR K j lk Φ Z' σ' H' ρ' → D.ct σ' H'
theorem NFlE.mono {K : PySem.W.Frag} {j : Nat} {lk : Option Lk} {Φ : Fx} {Z Z' : Hp} {D : Ends} {f : Fl} (z : Same Z Z') (h : NFlE K j lk Φ Z D f) : NFlE K j lk Φ Z' D f := by
  cases f with
  | nx ρ => exact fun σ' H' Z2 z2 => h σ' H' Z2 (z.trans z2)
  | rt d ρ => exact fun v σ' H' Z2 z2 => h v σ' H' Z2 (z.trans z2)
  | rn o ρ => exact fun v σ' H' Z2 z2 => h v σ' H' Z2 (z.trans z2)
  | bk ρ => exact fun σ' H' Z2 z2 => h σ' H' Z2 (z.trans z2)
  | ct ρ => exact fun σ' H' Z2 z2 => h σ' H' Z2 (z.trans z2)
def NTD (X : Cx) (j : Nat) (lk : Option Lk) (e : Expr) (f : XT) : Prop := ∃ t, PT X e t ∧ NT X.K j lk t f
def NWD (X : Cx) (j : Nat) (lk : Option Lk) (e : Expr) (f : XT) : Prop := ∃ t, PW X e t ∧ NT X.K j lk t f

section
variable {K : PySem.W.Frag} {j : Nat} {lk : Option Lk}
end

section
variable {X : Cx} {j : Nat} {lk : Option Lk} {e c : Expr} {st : Stmt} {rest a b : List Stmt} {f : XE} {g h : XS} {t : XT} {pos : Pos}
theorem NWD.td (h : NWD X j lk c t) : NTD X j lk c t := by obtain ⟨t, p, m⟩ := h; exact ⟨t, p.pt, m⟩
end
end DL
set_option maxRecDepth 100000
set_option maxHeartbeats 4000000
namespace DL
open PySem L2

section
variable {X : Cx} {j : Nat} {lk : Option Lk} {e ek : Expr} {f fe fk : XE} {pos vpos spos apos cpos : Pos}
end
end DL
set_option maxRecDepth 100000
set_option maxHeartbeats 4000000
namespace DL
open PySem L2

section
variable {X : Cx} {j : Nat}
end

/-- made, held by no slot -/
def NC (K : PySem.W.Frag) (Φ : Fx) (Z : Hp) (σ : St) (H : Hp) (ρ : Nv) (a : Addr) (kvs : List (Key × PyData)) : Prop := ∃ (Fr : Hp) (vs : List (Key × V)) (bs : List Addr),
  Fr a = some (.dK vs) ∧ InL K Z Fr vs kvs bs ∧ (kvs.map (·.1)).Nodup ∧ a ∉ bs ∧ (∀ c, c ∈ a :: bs → Φ.Fr c = none ∧ Φ.H0 c = none) ∧ Same Φ.Fr Fr ∧ Rl K { Φ with Fr := Fr } Z σ H ρ
end DL
set_option maxRecDepth 100000
set_option maxHeartbeats 4000000
namespace DL
open PySem L2

section
variable {K : PySem.W.Frag} {Z Fr : Hp}
theorem InL.snoc {k : Key} {b : Addr} {ws : List V} {xs : List PyData} (hb : Fr b = some (.lst ws)) (r : RpA K Z ws xs) : ∀ {vs : List (Key × V)} {kvs : List (Key × PyData)} {bs : List Addr}, InL K Z Fr vs kvs bs → b ∉ bs → InL K Z Fr (vs ++ [(k, .ref b)]) (kvs ++ [(k, .list xs)]) (bs ++ [b])
  | _, _, _, .nil, _ => .cons hb r (by simp) .nil
  | _, _, _, .cons h r' n t, hn => by
    rw [List.mem_cons, not_or] at hn
    refine .cons h r' ?_ (t.snoc hb r hn.2)
    intro hm
    rcases List.mem_append.mp hm with hm | hm
    · exact n hm
    · exact hn.1 (by simpa using hm : _ = b).symm
end
theorem nodup_snoc {kvs : List (Key × PyData)} {k : Key} {d : PyData} (h : (kvs.map (·.1)).Nodup) (hk : getD' kvs k = none) : ((kvs ++ [(k, d)]).map (·.1)).Nodup := by
  rw [List.map_append, List.nodup_append]
  refine ⟨h, by simp, fun a ha b hb => ?_⟩
  have hb : b = k := by simpa using hb
  subst hb
  rintro rfl
  obtain ⟨p, hp, rfl⟩ := List.mem_map.mp ha
  unfold getD' at hk
  rw [Option.map_eq_none_iff, List.find?_eq_none] at hk
  exact hk p hp (by simp)
theorem putK_new {vs : List (Key × V)} {k : Key} {v : V} (h : k ∉ vs.map (·.1)) : putK vs k v = vs ++ [(k, v)] := by
  unfold putK
  rw [if_neg]
  rw [List.any_eq_true]
  rintro ⟨p, hp, e⟩
  exact h (by have : p.1 = k := by simpa using e
              rw [← this]; exact List.mem_map_of_mem hp)
theorem notin_of {kvs : List (Key × PyData)} {k : Key} (hk : getD' kvs k = none) : k ∉ kvs.map (·.1) := by
  intro h
  obtain ⟨p, hp, e⟩ := List.mem_map.mp h
  unfold getD' at hk
  rw [Option.map_eq_none_iff, List.find?_eq_none] at hk
  exact hk p hp (by simpa using e)
/-- the list of pairs under way -/
def CI (K : PySem.W.Frag) (Φ : Fx) (Z : Hp) (σ : St) (H : Hp) (ρ : Nv) (D : Addr) (ts : List Addr) (acc : List (Key × PyData)) : Prop := ∃ (Fr : Hp) (vs : List (Key × V)) (bs : List Addr),
  Fr D = some (.lst (ts.map V.ref)) ∧ Paired (fun t kv => Fr t = some (.tup [kV kv.1, kv.2])) ts vs ∧ InL K Z Fr vs acc bs ∧ (acc.map (·.1)).Nodup ∧ D ∉ bs ∧ (∀ c, c ∈ D :: bs → Φ.Fr c = none ∧ Φ.H0 c = none) ∧ Same Φ.Fr Fr ∧ Rl K { Φ with Fr := Fr } Z σ H ρ
theorem len_inl {K : PySem.W.Frag} {Z Fr : Hp} : ∀ {vs : List (Key × V)} {kvs : List (Key × PyData)} {bs : List Addr}, InL K Z Fr vs kvs bs → vs.length = kvs.length
  | _, _, _, .nil => rfl
  | _, _, _, .cons _ _ _ t => by simp [len_inl t]
theorem CI.add {K : PySem.W.Frag} {Φ : Fx} {Z : Hp} {σ : St} {H : Hp} {ρ : Nv} {D : Addr} {ts : List Addr} {acc : List (Key × PyData)} (C : CI K Φ Z σ H ρ D ts acc) {k : Key} (hk : getD' acc k = none) {p t : Addr} (hp : H p = none) (ht : upd H p (.lst []) t = none) :
    CI K Φ Z σ (upd (upd (upd H p (.lst [])) t (.tup [kV k, .ref p])) D (.lst (ts.map V.ref ++ [.ref t]))) ρ D (ts ++ [t]) (acc ++ [(k, .list [])]) := by
  obtain ⟨Fr, vs, bs, h1, h2, h3, h4, h5, h6, h7, R⟩ := C
  have hD0 := h6 D (by simp)
  have hDH : H D = some (.lst (ts.map V.ref)) := R.fr D _ h1
  have tp : t ≠ p := by rintro rfl; rw [upd_same] at ht; cases ht
  have ht0 : H t = none := by rw [upd_ne tp] at ht; exact ht
  have pD : p ≠ D := ne_of_none hDH hp |>.symm
  have tD : t ≠ D := ne_of_none hDH ht0 |>.symm
  have frp : Fr p = none := R.fr.free hp
  have frt : Fr t = none := R.fr.free ht0
  let Fr2 := upd (upd (upd Fr p (.lst [])) t (.tup [kV k, .ref p])) D (.lst (ts.map V.ref ++ [.ref t]))
  have keep : ∀ c u, Fr c = some u → c ≠ D → Fr2 c = some u := fun c u hc hcD => by
    show upd _ _ _ c = _
    rw [upd_ne hcD, upd_ne (ne_of_none hc frt), upd_ne (ne_of_none hc frp)]
    exact hc
  have keepS : ∀ c, c ≠ D → c ≠ t → c ≠ p → Fr2 c = Fr c ∧ (upd (upd (upd H p (.lst [])) t (.tup [kV k, .ref p])) D (.lst (ts.map V.ref ++ [.ref t]))) c = H c := fun c c1 c2 c3 => by
    constructor
    · show upd _ _ _ c = _
      rw [upd_ne c1, upd_ne c2, upd_ne c3]
    · rw [upd_ne c1, upd_ne c2, upd_ne c3]
  have bsfr : ∀ b ∈ bs, Fr2 b = Fr b := fun b hb => by
    obtain ⟨ws, hw⟩ := h3.fr b hb
    rw [keep b _ hw (by rintro rfl; exact h5 hb), hw]
  have e2 : Fr2 p = some (.lst []) := by
    show upd _ _ _ p = _
    rw [upd_ne pD, upd_ne (Ne.symm tp), upd_same]
  have e3 : Fr2 t = some (.tup [kV k, .ref p]) := by
    show upd _ _ _ t = _
    rw [upd_ne tD, upd_same]
  have pbs : p ∉ bs := fun hb => by
    obtain ⟨ws, hw⟩ := h3.fr p hb
    rw [frp] at hw
    cases hw
  refine ⟨Fr2, vs ++ [(k, .ref p)], bs ++ [p], ?_, ?_, (h3.mono (Same.refl Z) bsfr).snoc e2 .nil pbs, nodup_snoc h4 hk, ?_, ?_, ?_, ?_⟩
  · show upd _ _ _ D = _
    rw [upd_same, List.map_append]
    rfl
  · exact Paired.snoc (Paired.mono (fun t' kv hh => keep t' _ hh (by rintro rfl; rw [h1] at hh; cases hh)) h2) e3
  · rw [List.mem_append, not_or]
    exact ⟨h5, by simpa using Ne.symm pD⟩
  · intro c hc
    rcases List.mem_cons.mp hc with rfl | hc
    · exact hD0
    · rcases List.mem_append.mp hc with hc | hc
      · exact h6 c (by simp [hc])
      · have : c = p := by simpa using hc
        subst this
        exact ⟨h7.free frp, R.dom _ hp⟩
  · intro c u hc
    have : Fr c = some u := h7 c u hc
    exact keep c u this (by rintro rfl; rw [hD0.1] at hc; cases hc)
  · refine R.reframe (Fr2 := Fr2) (fun c => c = D ∨ c = t ∨ c = p) (fun c hc => ?_) (fun c hc => ?_) (fun c hc => ?_) fun i c hi hc => ?_
    · rw [not_or, not_or] at hc
      obtain ⟨q1, q2⟩ := keepS c hc.1 hc.2.1 hc.2.2
      exact ⟨q2, q1⟩
    · rcases hc with rfl | rfl | rfl
      · exact R.frZ (u := .lst (ts.map V.ref)) h1 (fun _ e => by cases e) hD0.2
      · exact R.zH.free ht0
      · exact R.zH.free hp
    · rcases hc with rfl | rfl | rfl
      · exact ⟨_, upd_same, .inr upd_same⟩
      · exact ⟨_, by rw [upd_ne tD, upd_same], .inr e3⟩
      · exact ⟨_, by rw [upd_ne pD, upd_ne (Ne.symm tp), upd_same], .inr e2⟩
    · rcases hc with rfl | rfl | rfl
      · exact R.frN (u := .lst (ts.map V.ref)) h1 i hi
      · obtain ⟨u, hu, _⟩ := R.at_some hi
        rw [ht0] at hu; cases hu
      · obtain ⟨u, hu, _⟩ := R.at_some hi
        rw [hp] at hu; cases hu
end DL
set_option maxRecDepth 100000
set_option maxHeartbeats 4000000
namespace DL
open PySem L2

section
variable {X : Cx} {tg iter ke : Expr} {scope : Scope} {it : XI} {g : XG} {fk : XE} {rest : List Stmt} {b : XS} {pos pos' pos2 p cpos tpos lpos : Pos} {kk : Nat}
end

def tLockF (t : TE) : TE := fun σ H Q => t σ H fun x H' => ∃ d u, x = .ref d ∧ H' d = some u ∧ Mut (some u) ∧ ∀ od, Q x (upd H' d (.frz od u))
theorem pe_lockF {X : Cx} {e : Expr} {t : TE} (h : PE X e t) : PE X e (tLockF t) := by
  refine ⟨fun pins s σ H Q I hw => ?_⟩
  refine thn (h.run pins s σ H _ I hw) fun v s1 ⟨x, H1, I1, r, d, u, ex, hd, mu, q⟩ => ?_
  obtain ⟨od, I2⟩ := I1.lock hd mu
  exact ⟨x, _, I2, r, q od⟩
end DL
namespace DL
open PySem L2
section
variable {X : Cx} {pos vpos lpos : Pos}
end
end DL
namespace DL
open PySem L2
end DL
set_option maxRecDepth 100000
set_option maxHeartbeats 4000000
namespace DL
open PySem L2

theorem NC.add {K : PySem.W.Frag} {Φ : Fx} {Z : Hp} {σ : St} {H : Hp} {ρ : Nv} {D : Addr} {acc : List (Key × PyData)} (C : NC K Φ Z σ H ρ D acc) {k : Key} (hk : getD' acc k = none) {p : Addr} (hp : H p = none) :
    ∃ vs : List (Key × V), upd H p (.lst []) D = some (.dK vs) ∧ vs.length = acc.length ∧ NC K Φ Z σ (upd (upd H p (.lst [])) D (.dK (putK vs k (.ref p)))) ρ D (acc ++ [(k, .list [])]) := by
  obtain ⟨Fr, vs, bs, h1, h3, h4, h5, h6, h7, R⟩ := C
  have hD0 := h6 D (by simp)
  have hDH : H D = some (.dK vs) := R.fr D _ h1
  have pD : p ≠ D := ne_of_none hDH hp |>.symm
  have frp : Fr p = none := R.fr.free hp
  have hpk : putK vs k (.ref p) = vs ++ [(k, .ref p)] := putK_new (by rw [h3.keys]; exact notin_of hk)
  refine ⟨vs, by rw [upd_ne (Ne.symm pD)]; exact hDH, len_inl h3, ?_⟩
  rw [hpk]
  let Fr2 := upd (upd Fr p (.lst [])) D (.dK (vs ++ [(k, .ref p)]))
  have keep : ∀ c u, Fr c = some u → c ≠ D → Fr2 c = some u := fun c u hc hcD => by
    show upd _ _ _ c = _
    rw [upd_ne hcD, upd_ne (ne_of_none hc frp)]
    exact hc
  have keepS : ∀ c, c ≠ D → c ≠ p → Fr2 c = Fr c ∧ (upd (upd H p (.lst [])) D (.dK (vs ++ [(k, .ref p)]))) c = H c := fun c c1 c3 => by
    constructor
    · show upd _ _ _ c = _
      rw [upd_ne c1, upd_ne c3]
    · rw [upd_ne c1, upd_ne c3]
  have bsfr : ∀ b ∈ bs, Fr2 b = Fr b := fun b hb => by
    obtain ⟨ws, hw⟩ := h3.fr b hb
    rw [keep b _ hw (by rintro rfl; exact h5 hb), hw]
  have e2 : Fr2 p = some (.lst []) := by
    show upd _ _ _ p = _
    rw [upd_ne pD, upd_same]
  have pbs : p ∉ bs := fun hb => by
    obtain ⟨ws, hw⟩ := h3.fr p hb
    rw [frp] at hw
    cases hw
  refine ⟨Fr2, vs ++ [(k, .ref p)], bs ++ [p], upd_same, (h3.mono (Same.refl Z) bsfr).snoc e2 .nil pbs, nodup_snoc h4 hk, ?_, ?_, ?_, ?_⟩
  · rw [List.mem_append, not_or]
    exact ⟨h5, by simpa using Ne.symm pD⟩
  · intro c hc
    rcases List.mem_cons.mp hc with rfl | hc
    · exact hD0
    · rcases List.mem_append.mp hc with hc | hc
      · exact h6 c (by simp [hc])
      · have : c = p := by simpa using hc
        subst this
        exact ⟨h7.free frp, R.dom _ hp⟩
  · intro c u hc
    exact keep c u (h7 c u hc) (by rintro rfl; rw [hD0.1] at hc; cases hc)
  · refine R.reframe (Fr2 := Fr2) (fun c => c = D ∨ c = p) (fun c hc => ?_) (fun c hc => ?_) (fun c hc => ?_) fun i c hi hc => ?_
    · rw [not_or] at hc
      obtain ⟨q1, q2⟩ := keepS c hc.1 hc.2
      exact ⟨q2, q1⟩
    · rcases hc with rfl | rfl
      · exact R.frZ (u := .dK vs) h1 (fun _ e => by cases e) hD0.2
      · exact R.zH.free hp
    · rcases hc with rfl | rfl
      · exact ⟨_, upd_same, .inr upd_same⟩
      · exact ⟨_, by rw [upd_ne pD, upd_same], .inr e2⟩
    · rcases hc with rfl | rfl
      · exact R.frN (u := .dK vs) h1 i hi
      · obtain ⟨u, hu, _⟩ := R.at_some hi
        rw [hp] at hu; cases hu
section
variable {X : Cx} {tg iter ke : Expr} {scope : Scope} {it : XI} {g : XG} {fk : XE} {rest : List Stmt} {b : XS} {pos pos' cpos lpos : Pos}
end
end DL
namespace DL
open PySem L2
end DL
set_option maxRecDepth 100000
set_option maxHeartbeats 4000000
namespace DL
open PySem L2
section
variable {X : Cx} {ke ve tg iter : Expr} {ifs : List Expr} {scope : Scope} {pos : Pos} {it : XI} {g : XG} {c : XT} {fk fv : XE}
end
end DL
namespace DL
open PySem L2
end DL
set_option maxRecDepth 100000
set_option maxHeartbeats 4000000
namespace DL
open PySem L2
theorem RvOk.laid {K : PySem.W.Frag} {Φ : Fx} {Z : Hp} {σ : L2.St} {H : Hp} {ρ : Nv} {v : V} {r : Rv} {t : Addr} {u : HO} (W : RvOk K Φ Z σ H ρ v r) (ht : H t = none) : RvOk K Φ Z σ (upd H t u) ρ v r := by
  cases r with
  | d x => exact W
  | n o =>
    obtain ⟨a, rfl, V⟩ := W
    obtain ⟨w, hw, _⟩ := V.ob.some
    exact ⟨a, rfl, V.ob.move (Same.refl Z) (upd_ne (ne_of_none hw ht)), V.z, V.fr, V.h0, V.no⟩
end DL
namespace DL
open PySem L2
end DL
set_option maxRecDepth 100000
set_option maxHeartbeats 4000000
namespace DL
open PySem PySem.Spec PyProof.Rows L2
end DL
set_option maxRecDepth 100000
set_option maxHeartbeats 4000000
namespace DL
open PySem L2
end DL
namespace DL
open PySem L2
end DL
set_option maxRecDepth 100000
set_option maxHeartbeats 4000000
namespace DL
open PySem L2
end DL
namespace DL
open PySem L2
section
variable {X : Cx} {pos vpos lpos : Pos}
end
end DL
set_option maxRecDepth 100000
set_option maxHeartbeats 2000000
namespace DL
open PySem PySem.Spec PyProof.Rows L2
def sortedY (d : PyData) : Option PyData := match sortedKX d with
  | some z => some z
  | none => sortedX d
end DL
set_option maxRecDepth 100000
set_option maxHeartbeats 2000000
namespace DL
open PySem PySem.Spec PyProof.Rows L2
def dgK (ps : List (PyData × PyData)) (k : Key) : Option PyData := (ps.find? fun p => decide (keyD p.1 = some k)).map (·.2)
def dgT (ps : List (PyData × PyData)) (k : List Key) : Option PyData := (ps.find? fun p => decide (keyT p.1 = some k)).map (·.2)
def isTup1 : List (PyData × PyData) → Bool
  | (.tuple _, _) :: _ => true
  | _ => false
def isKey1 : List (PyData × PyData) → Bool
  | p :: _ => (keyD p.1).isSome
  | _ => false
/-- what stands under k: none if this is not covered -/
def dgD : PyData → PyData → Option (Option PyData)
  | .dict ps, k => match keyD k with
    | some kk => if isKey1 ps = true then some (dgK ps kk) else none
    | none => match keyT k with
      | some kk => if isTup1 ps = true then some (dgT ps kk) else none
      | none => none
  | _, _ => none
theorem keyD_kD (k : Key) : keyD (kD k) = some k := by cases k <;> rfl
theorem strKs_kD : ∀ {k kk : List Key}, strKs (k.map kD) = some kk → k = kk
  | [], kk, e => by cases e; rfl
  | .inl i :: k, kk, e => by simp [strKs, kD] at e
  | .inr x :: k, kk, e => by
    simp only [List.map_cons, kD, strKs] at e
    cases e2 : strKs (k.map kD) with
    | none => rw [e2] at e; cases e
    | some l =>
      rw [e2] at e
      cases e
      rw [strKs_kD e2]
theorem keyT_map {k kk : List Key} (e : keyT (.tuple (k.map kD)) = some kk) : k = kk := by
  rw [show keyT (.tuple (k.map kD)) = if 4 ≤ (k.map kD).length ∧ facB (k.map kD) = true then none else strKs (k.map kD) from rfl] at e
  split at e
  · cases e
  · exact strKs_kD e
/-- a key that is one: the same tuple of data -/
theorem keyT_back {d : PyData} {kk : List Key} (e : keyT d = some kk) : d = .tuple (kk.map kD) := by
  cases d with
  | tuple ds =>
    have : ∀ (ds : List PyData) (kk : List Key), strKs ds = some kk → ds = kk.map kD := by
      intro ds
      induction ds with
      | nil => intro kk e; cases e; rfl
      | cons x xs ih =>
        intro kk e
        cases x with
        | str s =>
          simp only [strKs] at e
          cases e2 : strKs xs with
          | none => rw [e2] at e; cases e
          | some l =>
            rw [e2] at e
            cases e
            rw [ih l e2]
            rfl
        | _ => simp [strKs] at e
    rw [show keyT (.tuple ds) = if 4 ≤ ds.length ∧ facB ds = true then none else strKs ds from rfl] at e
    split at e
    · cases e
    · rw [this ds kk e]
  | _ => cases e
theorem dgK_of {K : PySem.W.Frag} {Z : Hp} {k : Key} : ∀ {vs : List (Key × V)} {ds : List PyData}, RpA K Z (vs.map (·.2)) ds →
    (∀ d, dgK ((vs.map fun p => kD p.1).zip ds) k = some d → ∃ v, valV vs k = some v ∧ Rp K Z v d) ∧ (valV vs k).isSome = (dgK ((vs.map fun p => kD p.1).zip ds) k).isSome
  | [], _, r => by cases r; exact ⟨fun d e => (by cases e), rfl⟩
  | (a, v) :: vs, _, r => by
    cases r with
    | cons r1 r2 =>
      obtain ⟨h1, h2⟩ := dgK_of (k := k) r2
      by_cases h : a = k
      · subst h
        refine ⟨fun d e => ⟨v, by simp [valV], ?_⟩, by simp [valV, dgK, keyD_kD]⟩
        simp [dgK, keyD_kD] at e
        rw [← e]; exact r1
      · have e1 : ∀ y ds, dgK (((a, v) :: vs).map (fun p => kD p.1) |>.zip (y :: ds)) k = dgK ((vs.map fun p => kD p.1).zip ds) k := fun y ds => by simp [dgK, keyD_kD, h]
        have e2 : valV ((a, v) :: vs) k = valV vs k := by simp [valV, List.find?_cons, h]
        rw [e1, e2]
        exact ⟨h1, h2⟩
theorem dgT_of {K : PySem.W.Frag} {Z : Hp} {k : List Key} (hk : keyT (.tuple (k.map kD)) = some k) : ∀ {vs : List (List Key × V)} {ds : List PyData}, RpA K Z (vs.map (·.2)) ds →
    (∀ d, dgT ((vs.map fun p => PyData.tuple (p.1.map kD)).zip ds) k = some d → ∃ v, valV vs k = some v ∧ Rp K Z v d) ∧ (valV vs k).isSome = (dgT ((vs.map fun p => PyData.tuple (p.1.map kD)).zip ds) k).isSome
  | [], _, r => by cases r; exact ⟨fun d e => (by cases e), rfl⟩
  | (a, v) :: vs, _, r => by
    cases r with
    | cons r1 r2 =>
      obtain ⟨h1, h2⟩ := dgT_of hk r2
      by_cases h : a = k
      · subst h
        refine ⟨fun d e => ⟨v, by simp [valV], ?_⟩, by simp [valV, dgT, hk]⟩
        simp [dgT, hk] at e
        rw [← e]; exact r1
      · have hn : ¬ keyT (.tuple (a.map kD)) = some k := fun q => h (keyT_map q)
        have e1 : ∀ y ds, dgT (((a, v) :: vs).map (fun p => PyData.tuple (p.1.map kD)) |>.zip (y :: ds)) k = dgT ((vs.map fun p => PyData.tuple (p.1.map kD)).zip ds) k := fun y ds => by simp [dgT, hn]
        have e2 : valV ((a, v) :: vs) k = valV vs k := by simp [valV, List.find?_cons, h]
        rw [e1, e2]
        exact ⟨h1, h2⟩
theorem keyT_some {d : PyData} {kk : List Key} (e : keyT d = some kk) : keyT (.tuple (kk.map kD)) = some kk := by rw [← keyT_back e]; exact e
theorem dg_ins {n : Str} {fs : List (Str × PyData)} {k : PyData} {o : Option PyData} (e : dgD (insD n fs) k = some o) : False := by
  have h1 : isKey1 ((PyData.none, PyData.str n) :: fs.map fun p => (PyData.str p.1, p.2)) = false := rfl
  have h2 : isTup1 ((PyData.none, PyData.str n) :: fs.map fun p => (PyData.str p.1, p.2)) = false := rfl
  unfold dgD at e
  simp only [h1, h2] at e
  split at e
  · cases e
  · split at e <;> cases e
theorem dg_pt {ds : List PyData} {k : PyData} {o : Option PyData} (e : dgD (ptD ds) k = some o) : False := by
  have h1 : isKey1 [(PyData.none, PyData.none), (PyData.none, PyData.list ds)] = false := rfl
  have h2 : isTup1 [(PyData.none, PyData.none), (PyData.none, PyData.list ds)] = false := rfl
  unfold dgD at e
  simp only [h1, h2] at e
  split at e
  · cases e
  · split at e <;> cases e
theorem dg_rp {K : PySem.W.Frag} {Z H : Hp} (zH : Same Z H) {x y : V} {d k : PyData} {o : Option PyData} (rx : Rp K Z x d) (ry : Rp K Z y k) (e : dgD d k = some o) :
    ∃ a w, x = .ref a ∧ DGet H a y w ∧ w.isSome = o.isSome ∧ ∀ z, o = some z → ∃ v, w = some v ∧ Rp K Z v z := by
  cases rx with
  | dic h r =>
    rename_i a ws ds
    cases e1 : keyD k with
    | some kk =>
      simp only [dgD, e1] at e
      split at e
      · cases e
        obtain ⟨h1, h2⟩ := dgK_of (k := kk) r
        rw [keyD_rp ry e1]
        exact ⟨a, _, rfl, DGet.k (zH _ _ h), h2, h1⟩
      · cases e
    | none =>
      simp only [dgD, e1] at e
      cases e2 : keyT k with
      | none => rw [e2] at e; cases e
      | some kk =>
        rw [e2] at e
        simp only at e
        split at e
        · rename_i h1
          exfalso
          cases ws with
          | nil => simp [isTup1] at h1
          | cons w ws =>
            cases r with
            | cons r1 r2 =>
              obtain ⟨w1, w2⟩ := w
              cases w1 <;> simp [isTup1, kD] at h1
        · cases e
  | dit h r =>
    rename_i a ws ds
    cases e1 : keyD k with
    | some kk =>
      simp only [dgD, e1] at e
      split at e
      · rename_i h1
        exfalso
        cases ws with
        | nil => simp [isKey1] at h1
        | cons w ws =>
          cases r with
          | cons r1 r2 => simp [isKey1, keyD] at h1
      · cases e
    | none =>
      simp only [dgD, e1] at e
      cases e2 : keyT k with
      | none => rw [e2] at e; cases e
      | some kk =>
        rw [e2] at e
        simp only at e
        split at e
        · cases e
          obtain ⟨h1, h2⟩ := dgT_of (keyT_some e2) r
          obtain ⟨b, rfl, hb⟩ := keyT_rp ry e2
          exact ⟨a, _, rfl, DGet.t (zH _ _ h) (zH _ _ hb), h2, h1⟩
        · cases e
  | ins c h h1 r => exact (dg_ins e).elim
  | ptu h h1 r => exact (dg_pt e).elim
  | _ => cases e
theorem rb_dict {K : PySem.W.Frag} {Z H : Hp} {v : V} {d k : PyData} {o : Option PyData} (h : Rb K Z H v k) (e : dgD d k = some o) : Rp K Z v k := by
  rcases h with h | ⟨a, o, rfl, ob, rfl⟩
  · exact h
  · exfalso
    unfold dgD at e
    split at e
    · cases o <;> simp [odD, keyD, keyT] at e
    · cases e
/-- x[k] -/
def dixD (d k : PyData) : Option PyData := (dgD d k).bind id
def rDg : R2 := fun x y H Q => ∃ a v, x = .ref a ∧ DGet H a y (some v) ∧ Q v H
theorem ob_dg {K : PySem.W.Frag} {Z H : Hp} (zH : Same Z H) {a : Addr} {ob : OD} {y : V} {k : PyData} {o : Option PyData} (hx : ObAt K Z H a ob) (ry : Rp K Z y k) (e : dgD (odD ob) k = some o) :
    ∃ w, DGet H a y w ∧ w.isSome = o.isSome ∧ ∀ z, o = some z → ∃ v, w = some v ∧ Rp K Z v z := by
  cases ob with
  | ol xs => cases e
  | oi n fs => exact (dg_ins e).elim
  | od kvs =>
    obtain ⟨vs, h, h1, r⟩ := hx
    have ed : odD (.od kvs) = .dict ((vs.map fun p => kD p.1).zip (kvs.map (·.2))) := by
      have e2 : (vs.map fun p => kD p.1) = (kvs.map (·.1)).map kD := by rw [← h1, List.map_map]; rfl
      rw [e2]
      show PyData.dict ((kvs.map fun p => kD p.1).zip (kvs.map (·.2))) = _
      rw [List.map_map]
      rfl
    rw [ed] at e
    cases e1 : keyD k with
    | some kk =>
      simp only [dgD, e1] at e
      split at e
      · cases e
        obtain ⟨g1, g2⟩ := dgK_of (k := kk) r
        rw [keyD_rp ry e1]
        exact ⟨_, DGet.k h, g2, g1⟩
      · cases e
    | none =>
      simp only [dgD, e1] at e
      cases e2 : keyT k with
      | none => rw [e2] at e; cases e
      | some kk =>
        rw [e2] at e
        simp only at e
        split at e
        · rename_i h1
          exfalso
          cases vs with
          | nil => simp [isTup1] at h1
          | cons w ws =>
            cases kvs with
            | nil => simp [isTup1] at h1
            | cons q qs =>
              obtain ⟨w1, w2⟩ := w
              cases w1 <;> simp [isTup1, kD] at h1
        · cases e
  | ot kvs =>
    obtain ⟨vs, h, h1, r⟩ := hx
    have ed : odD (.ot kvs) = .dict ((vs.map fun p => PyData.tuple (p.1.map kD)).zip (kvs.map (·.2))) := by
      have e2 : (vs.map fun p => PyData.tuple (p.1.map kD)) = (kvs.map (·.1)).map fun k => PyData.tuple (k.map kD) := by rw [← h1, List.map_map]; rfl
      rw [e2]
      show PyData.dict ((kvs.map fun p => PyData.tuple (p.1.map kD)).zip (kvs.map (·.2))) = _
      rw [List.map_map]
      rfl
    rw [ed] at e
    cases e1 : keyD k with
    | some kk =>
      simp only [dgD, e1] at e
      split at e
      · rename_i h1
        exfalso
        cases vs with
        | nil => simp [isKey1] at h1
        | cons w ws =>
          cases kvs with
          | nil => simp [isKey1] at h1
          | cons q qs => simp [isKey1, keyD] at h1
      · cases e
    | none =>
      simp only [dgD, e1] at e
      cases e2 : keyT k with
      | none => rw [e2] at e; cases e
      | some kk =>
        rw [e2] at e
        simp only at e
        split at e
        · cases e
          obtain ⟨g1, g2⟩ := dgT_of (keyT_some e2) r
          obtain ⟨b, rfl, hb⟩ := keyT_rp ry e2
          exact ⟨_, DGet.t h (zH _ _ hb), g2, g1⟩
        · cases e
theorem dg_rb {K : PySem.W.Frag} {Z H : Hp} (zH : Same Z H) {x y : V} {d k : PyData} {o : Option PyData} (rx : Rb K Z H x d) (ry : Rb K Z H y k) (e : dgD d k = some o) :
    ∃ a w, x = .ref a ∧ DGet H a y w ∧ w.isSome = o.isSome ∧ ∀ z, o = some z → ∃ v, w = some v ∧ Rp K Z v z := by
  have ry' := rb_dict ry e
  rcases rx with rx | ⟨a, ob, rfl, hx, rfl⟩
  · exact dg_rp zH rx ry' e
  · obtain ⟨w, h⟩ := ob_dg zH hx ry' e
    exact ⟨a, w, rfl, h⟩
theorem r2_dix {K : PySem.W.Frag} : R2M K rDg dixD := by
  intro Φ Z σ H ρ x y d1 d2 z R rx ry e Q k
  unfold dixD at e
  cases e1 : dgD d1 d2 with
  | none => rw [e1] at e; cases e
  | some o =>
    rw [e1] at e
    have e : o = some z := e
    obtain ⟨a, w, rfl, g, _, h⟩ := dg_rb R.zH rx ry e1
    obtain ⟨v, rfl, rv⟩ := h z e
    exact ⟨a, v, rfl, g, k _ H Z (Same.refl Z) R rv⟩
def orD (h g : PyData → PyData → Option PyData) (x y : PyData) : Option PyData := match h x y with
  | some z => some z
  | none => g x y
abbrev idxY := orD idxD dixD
theorem R2M.both {K : PySem.W.Frag} {r r' : R2} {g g' : PyData → PyData → Option PyData} (h : R2M K r g) (h' : R2M K r' g') : R2M K (fun x y H Q => r x y H Q ∨ r' x y H Q) (orD g g') := by
  intro Φ Z σ H ρ x y d1 d2 z R rx ry e Q k
  unfold orD at e
  cases e1 : g d1 d2 with
  | some w =>
    rw [e1] at e
    cases e
    exact .inl (h Φ Z σ H ρ x y d1 d2 z R rx ry e1 Q k)
  | none =>
    rw [e1] at e
    exact .inr (h' Φ Z σ H ρ x y d1 d2 z R rx ry e Q k)
theorem ed_or2 {X : Cx} {e : Expr} {g g' : PyData → PyData → Option PyData} {a b : XE} (h : ED X e (x2 g a b)) (h' : ED X e (x2 g' a b)) : ED X e (x2 (orD g g') a b) := by
  obtain ⟨t, p, m⟩ := h
  obtain ⟨t', p', m'⟩ := h'
  refine ⟨fun σ H Q => t σ H Q ∨ t' σ H Q, ⟨fun pins s σ H Q I q => q.elim (p.run pins s σ H Q I) (p'.run pins s σ H Q I)⟩, fun Φ Z σ H ρ d ρ' R q Q k => ?_⟩
  unfold x2 at q
  cases e1 : a ρ with
  | none => rw [e1] at q; cases q
  | some u =>
    rw [e1, Option.bind_some] at q
    cases e2 : b u.2 with
    | none => rw [e2] at q; cases q
    | some w =>
      rw [e2, Option.bind_some] at q
      unfold orD at q
      cases e3 : g u.1 w.1 with
      | some z =>
        rw [e3] at q
        cases q
        exact .inl (m Φ Z σ H ρ _ _ R (by unfold x2; rw [e1, Option.bind_some, e2, Option.bind_some, e3]; rfl) Q k)
      | none =>
        rw [e3] at q
        exact .inr (m' Φ Z σ H ρ _ _ R (by unfold x2; rw [e1, Option.bind_some, e2, Option.bind_some]; exact q) Q k)
theorem ed_ixY {X : Cx} {a b : Expr} {fa fb : XE} {pos : Pos} (hu : X.A.units + 1 < cLine) (ha : ED X a fa) (hb : OD' X b fb) (hs : PlainIx b := by intro _ _; rfl) (hn : NoSl b := by intro _ _; rfl) : ED X (.Subscript a b pos) (x2 idxY fa fb) := by
  refine ed_or2 (ed_ix ha hb hs) ?_
  obtain ⟨ta, pa, ma⟩ := ha
  obtain ⟨tb, pb, mb⟩ := hb
  exact ⟨_, pe_dget hu pa pb hn, me_op (r := rDg) r2_dix ma mb⟩
def dlenD : PyData → Option PyData
  | .dict ((.none, _) :: _) => none
  | .dict ps => some (.int (ps.length : Nat))
  | _ => none
theorem dlen_not {ps : List (PyData × PyData)} {z : PyData} (e : dlenD (.dict ps) = some z) : z = .int (ps.length : Nat) := by
  unfold dlenD at e
  split at e
  · cases e
  · rename_i h1 h2
    cases h2
    exact (Option.some.inj e).symm
  · rename_i h1 h2
    exact absurd rfl (h2 _)
def lenY (d : PyData) : Option PyData := match lenD d with
  | some z => some z
  | none => dlenD d
def rLenK : List V → Hp → VK → Prop := fun xs H Q => ∃ (p : Addr) (kvs : List (Key × V)), xs = [.ref p] ∧ Rd H p (.dK kvs) ∧ Q (.int ((kvs.length : Nat) : Int)) H
theorem cr_lenK {X : Cx} : CallR X (.builtin "len") rLenK := by
  intro pins s σ H xs us Q I r h
  obtain ⟨p, kvs, rfl, hp, q⟩ := h
  obtain ⟨u, rfl, rx⟩ := r.one
  cases rx
  exact d_len I hp fun t s' I' => ⟨.int ((kvs.length : Nat) : Int), H, I', ⟨t, rfl⟩, q⟩
theorem c1_dlen {K : PySem.W.Frag} : C1M K (fun v H Q => rLenK v H Q ∨ rLenT v H Q) dlenD := by
  intro Φ Z σ H ρ x d z R rx e Q k
  cases d with
  | dict ps =>
    have e0 := e
    obtain rfl := dlen_not e
    have fin : ∀ n : Nat, n = ps.length → Q (.int ((n : Nat) : Int)) H := fun n hn => by rw [hn]; exact k _ H Z (Same.refl Z) R (.int _)
    rcases rx with rx | ⟨a, o, rfl, ob, eo⟩
    · generalize ed : PyData.dict ps = dd at rx
      cases rx with
      | dic h r =>
        cases ed
        refine .inl ⟨_, _, rfl, .inl (R.zH _ _ h), fin _ ?_⟩
        have := r.length
        simp at this ⊢
        omega
      | dit h r =>
        cases ed
        refine .inr ⟨_, _, rfl, R.zH _ _ h, fin _ ?_⟩
        have := r.length
        simp at this ⊢
        omega
      | ins c h h1 r => cases ed; cases e0
      | ptu h h1 r => cases ed; cases e0
      | _ => cases ed
    · cases o with
      | ol xs => cases eo
      | oi n fs => cases eo; cases e0
      | od ws =>
        obtain ⟨vs, h, h1, r⟩ := ob
        cases eo
        refine .inl ⟨_, vs, rfl, .inl h, fin _ ?_⟩
        have := congrArg List.length h1
        simpa using this
      | ot ws =>
        obtain ⟨vs, h, h1, r⟩ := ob
        cases eo
        refine .inr ⟨_, vs, rfl, h, fin _ ?_⟩
        have := congrArg List.length h1
        simpa using this
  | _ => cases e
theorem C1M.both {K : PySem.W.Frag} {r r' : List V → Hp → VK → Prop} {g g' : PyData → Option PyData} (h : C1M K r g) (h' : C1M K r' g') : C1M K (fun v H Q => r v H Q ∨ r' v H Q) (fun d => match g d with | some z => some z | none => g' d) := by
  intro Φ Z σ H ρ x d z R rx e Q k
  cases e1 : g d with
  | some w =>
    simp only [e1] at e
    cases e
    exact .inl (h _ _ _ _ _ _ _ _ R rx e1 _ k)
  | none =>
    simp only [e1] at e
    exact .inr (h' _ _ _ _ _ _ _ _ R rx e _ k)
section
variable {X : Cx} {e f2 : Expr} {g h : XE} {p apos cpos vpos pos : Pos}
end
end DL
set_option maxRecDepth 100000
set_option maxHeartbeats 2000000
namespace DL
open PySem PySem.Spec PyProof.Rows L2
def txt (e : Int × Value) : Str := match e.2 with
  | .str x _ => x
  | _ => Str.empty
/-- the set at a has the texts L; its table can be walked -/
def Txs (P : Program) (w : World) (h : Heap) (a : Addr) (L : List Str) : Prop :=
  ∃ o es c t, h.get? a = some o ∧ o.ExactSet ∧ o.data = .set es c t ∧ ElemsOf (PySem.strKind P w) es.toList ∧ (es.toList.map txt).Perm L ∧ L.Nodup ∧ L.length < scanBound ∧ t.fits es.size = true ∧ Ris t.place.toList ∧ (w.params.followText "set-order" = true ∨ t.led = true)
section
variable {P : Program} {w : World} {h h' : Heap} {a : Addr} {L : List Str}
theorem Txs.keep (R : Txs P w h a L) (k : ∀ o, h.get? a = some o → h'.get? a = some o) : Txs P w h' a L := by
  obtain ⟨o, es, c, t, g, r⟩ := R
  exact ⟨o, es, c, t, k o g, r⟩
end
section
variable {P : Program} {w : World} {A : Around} {E : Value → Shared → Prop} {s : Shared} {a : Addr} {L : List Str}
end
end DL
set_option maxRecDepth 100000
set_option maxHeartbeats 3200000
namespace DL
open PySem PySem.Spec PyProof.Rows L2
section
variable {P : Program} {w : World} {A : Around} {R : Result → Shared → Prop} {I : Addr} {fp wr : List Addr} {G : Array GenState → Array GenState → Prop} {n : Nat} {Pv : Nat → Value → Prop} {St : Nat → Shared → Prop}
end
section
variable {P : Program} {w : World} {A : Around} {E : Value → Shared → Prop} {s : Shared}
end
end DL
set_option maxRecDepth 100000
set_option maxHeartbeats 3200000
namespace DL
open PySem PySem.Spec PyProof.Rows L2
section
variable {X : Cx}
end
def strsD : List PyData → Option (List Str)
  | [] => some []
  | .str x :: r => (strsD r).map (x :: ·)
  | _ => none
theorem cr_lenY {X : Cx} : CallR X (.builtin "len") (fun xs H Q => (∃ x n, xs = [x] ∧ LenV X.K x H n ∧ Q (.int n) H) ∨ rLenK xs H Q ∨ rLenT xs H Q) := call_len.or (cr_lenK.or call_len_dT)
theorem c1_lenY {K : PySem.W.Frag} : C1M K (fun xs H Q => (∃ x n, xs = [x] ∧ LenV K x H n ∧ Q (.int n) H) ∨ rLenK xs H Q ∨ rLenT xs H Q) lenY := C1M.both c1_len c1_dlen
end DL
set_option maxRecDepth 100000
set_option maxHeartbeats 3200000
namespace DL
open PySem PySem.Spec PyProof.Rows L2
section
variable {X : Cx}
end
def sortTuD : PyData → Option PyData
  | .tuple ds => (strsD ds).bind fun xs => if xs.length ≤ 1000 then some (.list ((srtS xs).map PyData.str)) else none
  | _ => none
def sortedZ (d : PyData) : Option PyData := match sortTuD d with
  | some z => some z
  | none => sortedY d
@[simp] theorem sortedZ_list (l : List PyData) : sortedZ (.list l) = sortedY (.list l) := rfl
end DL
set_option maxRecDepth 100000
set_option maxHeartbeats 2000000
namespace DL
open PySem PySem.Spec PyProof.Rows L2
end DL
set_option maxRecDepth 100000
set_option maxHeartbeats 2000000
namespace DL
open PySem PySem.Spec PyProof.Rows L2
end DL
set_option maxRecDepth 100000
set_option maxHeartbeats 2000000
namespace DL
open PySem PySem.Spec PyProof.Rows L2
end DL
set_option maxRecDepth 100000
set_option maxHeartbeats 4000000
namespace DL
open PySem PySem.Spec PyProof.Rows L2 RZ
section
variable {prog : Program} {w : World} {A : Around} {z TI TO i1 i2 l1 l2 S : Addr} {xs ys : Array Value} {h0 : Heap} {res : Value} {R : Result → Shared → Prop} {s : Shared}
end
section
variable {K : PySem.W.Frag} {Φ : Fx} {σ : L2.St} {ρ : Nv}
end
end DL
set_option maxRecDepth 100000
set_option maxHeartbeats 4000000
namespace DL
open PySem PySem.Spec PyProof.Rows L2
end DL
set_option maxRecDepth 100000
set_option maxHeartbeats 4000000
namespace NK
open PySem PySem.Spec PyProof.Rows L2
mutual
def intK : NestedKey → Bool
  | .num _ => true
  | .tup ks => intKs ks
  | .none => false
  | .text _ => true
def intKs : List NestedKey → Bool
  | [] => true
  | k :: ks => intK k && intKs ks
end
section
variable {P : Program} {w : World}
/-- at x stands the tuple k -/
structure Kat (h : Heap) (k : NestedKey) (x : Addr) : Prop where
  is : NestedIs h k (.ref x)
  d : k.depth ≤ 8
  i : intK k = true
theorem Kat.nk {h : Heap} {k : NestedKey} {x : Addr} (q : Kat h k x) : (nestedKind P w).is h k x := ⟨q.is, q.d⟩
/-- tuples stay, whatever becomes of another object -/
theorem Kat.stay {h h' : Heap} {k : NestedKey} {x : Addr} (q : Kat h k x) (e : ∀ b o vs n, h.get? b = some o → o.data = .seq vs n → h'.get? b = some o) : Kat h' k x := ⟨q.is.at e, q.d, q.i⟩
theorem Kat.kept {h h' : Heap} {k : NestedKey} {x : Addr} (q : Kat h k x) (e : ∀ b o, h.get? b = some o → h'.get? b = some o) : Kat h' k x := q.stay fun b o _ _ g _ => e b o g
end
end NK
set_option maxRecDepth 100000
set_option maxHeartbeats 4000000
namespace NK
open PySem PySem.Spec PyProof.Rows L2
abbrev Row := Addr × NestedKey
def hsOf (w : World) (L : List Row) : List Int := L.map fun r => r.2.hash w
def entries (w : World) (L : List Row) : List (Int × Value) := L.map fun r => (r.2.hash w, .ref r.1)
structure Sn (w : World) (h : Heap) (a : Addr) (L : List Row) (es : Array (Int × Value)) (ep : Nat) (t : SetTable) : Prop where
  o : ∃ o, h.get? a = some o ∧ o.ExactSet ∧ o.data = .set es ep t
  e : es.toList = entries w L
  tb : TabOk t (hsOf w L)
  nd : (L.map (·.2)).Nodup
  tp : ∀ r ∈ L, Kat h r.2 r.1
  ld : w.params.followText "set-order" = true ∨ t.led = true
  rm : L.length * 5 < t.mask * 3
  fw : L.length < 64
theorem es_len {w : World} {L : List Row} {es : Array (Int × Value)} (e : es.toList = entries w L) : es.size = L.length := by
  have := congrArg List.length e
  simpa [entries] using this
section
variable {P : Program} {w : World} {A : Around} {E : Value → Shared → Prop} {s : Shared} {a : Addr} {L : List Row} {es : Array (Int × Value)} {ep : Nat} {t : SetTable}
theorem Sn.fits (R : Sn w s.heap a L es ep t) : t.fits es.size = true := by
  have h1 := R.tb.sz
  have h2 := es_len R.e
  have h3 := R.rm
  rw [hsOf, List.length_map] at h1
  unfold SetTable.fits SetTable.fill
  rw [R.tb.dm, Bool.and_eq_true, beq_iff_eq, decide_eq_true_eq]
  refine ⟨h1.trans h2.symm, ?_⟩
  show t.place.size + 0 ≤ t.mask
  omega
end
end NK
set_option maxRecDepth 100000
set_option maxHeartbeats 4000000
namespace NK
open PySem PySem.Spec PyProof.Rows L2
theorem range_get {α : Type} : ∀ l : List α, (List.range l.length).filterMap (fun i => l[i]?) = l
  | [] => rfl
  | x :: l => by
    rw [List.length_cons, List.range_succ_eq_map, List.filterMap_cons_some (b := x) (by simp), List.filterMap_map]
    congr 1
    exact range_get l
section
variable {P : Program} {w : World} {A : Around} {E : Value → Shared → Prop} {s : Shared} {a : Addr} {L : List Row} {es : Array (Int × Value)} {ep : Nat} {t : SetTable}
end
end NK
set_option maxRecDepth 100000
set_option maxHeartbeats 4000000
namespace NK
open PySem PySem.Spec PyProof.Rows L2 DL
/-- what the set has of the first items -/
structure Had (ks : List Row) (i : Nat) (L : List Row) : Prop where
  s : ∀ r ∈ L, r ∈ ks.take i
  a : ∀ r ∈ ks.take i, r.2 ∈ L.map (·.2)
  l : L.length ≤ i
theorem Had.next {ks L L' : List Row} {i : Nat} {r : Row} (h : Had ks i L) (e : ks[i]? = some r) (c1 : r.2 ∈ L.map (·.2) → L' = L) (c2 : r.2 ∉ L.map (·.2) → L'.Perm (r :: L)) : Had ks (i + 1) L' := by
  have et : ks.take (i + 1) = ks.take i ++ [r] := by rw [List.take_add_one, e]; rfl
  by_cases m : r.2 ∈ L.map (·.2)
  · rw [c1 m]
    refine ⟨fun q hq => by rw [et]; exact List.mem_append_left _ (h.s q hq), fun q hq => ?_, Nat.le_succ_of_le h.l⟩
    rw [et] at hq
    rcases List.mem_append.mp hq with hq | hq
    · exact h.a q hq
    · rw [List.mem_singleton.mp hq]; exact m
  · have p := c2 m
    refine ⟨fun q hq => ?_, fun q hq => ?_, by rw [p.length_eq]; exact Nat.succ_le_succ h.l⟩
    · rw [et]
      rcases List.mem_cons.mp (p.mem_iff.mp hq) with rfl | hq
      · simp
      · exact List.mem_append_left _ (h.s q hq)
    · rw [et] at hq
      refine (p.map _).mem_iff.mpr ?_
      rcases List.mem_append.mp hq with hq | hq
      · exact List.mem_cons_of_mem _ (h.a q hq)
      · rw [List.mem_singleton.mp hq]; exact List.mem_cons_self
section
variable {P : Program} {w : World} {A : Around} {R : Result → Shared → Prop} {I : Addr} {fp wr : List Addr} {G : Array GenState → Array GenState → Prop} {n : Nat} {Pv : Nat → Value → Prop} {St : Nat → Shared → Prop}
theorem Sn.move {h h' : Heap} {a : Addr} {L : List Row} {es : Array (Int × Value)} {ep : Nat} {t : SetTable} (x : Sn w h a L es ep t) (e : ∀ o, h.get? a = some o → h'.get? a = some o) (k : ∀ r ∈ L, Kat h' r.2 r.1) : Sn w h' a L es ep t :=
  let ⟨o, ho, z⟩ := x.o
  ⟨⟨o, e o ho, z⟩, x.e, x.tb, x.nd, k, x.ld, x.rm, x.fw⟩
end
section
variable {P : Program} {w : World} {A : Around} {E : Value → Shared → Prop} {s : Shared}
end
end NK
set_option maxRecDepth 100000
set_option maxHeartbeats 4000000
namespace NK
open PySem PySem.Spec PyProof.Rows L2 DL
mutual
def toK : PyData → NestedKey
  | .int i => .num i
  | .str x => .text x
  | .tuple ds => .tup (toKs ds)
  | _ => .none
def toKs : List PyData → List NestedKey
  | [] => []
  | d :: ds => toK d :: toKs ds
end
mutual
def intD : PyData → Bool
  | .int _ => true
  | .str _ => true
  | .tuple ds => intDs ds
  | _ => false
def intDs : List PyData → Bool
  | [] => true
  | d :: ds => intD d && intDs ds
end
section
variable {X : Cx} {pins : List (Addr × Obj)} {σ : L2.St} {H : Hp} {s : Shared}
end
end NK
set_option maxRecDepth 100000
set_option maxHeartbeats 4000000
namespace NK
open PySem PySem.Spec PyProof.Rows L2 DL
section
variable {X : Cx} {pins : List (Addr × Obj)} {σ : L2.St} {H : Hp} {s : Shared}
end
/-- a tuple of ints and such tuples, not empty -/
def tupI : PyData → Bool
  | .tuple (d :: ds) => intDs (d :: ds)
  | _ => false
/-- alike, so that they can be sorted -/
def okS (ds : List PyData) : Bool := ds.all tupI && alikesB ds && allAlikeB ds
end NK
set_option maxRecDepth 100000
set_option maxHeartbeats 4000000
namespace NK
open PySem PySem.Spec PyProof.Rows L2 DL
/-- the set as an object: its members in the order of their places -/
def Nkx (w : World) (h : Heap) (a : Addr) (L : List Row) : Prop :=
  ∃ o es ep t, h.get? a = some o ∧ o.ExactSet ∧ o.data = .set es ep t ∧ es.toList.map (·.2) = L.map (fun r => Value.ref r.1) ∧ t.fits es.size = true ∧ es.size < 64 ∧ Ris t.place.toList ∧ (w.params.followText "set-order" = true ∨ t.led = true)
theorem Sn.x {w : World} {h : Heap} {a : Addr} {L : List Row} {es : Array (Int × Value)} {ep : Nat} {t : SetTable} (R : Sn w h a L es ep t) : Nkx w h a L := by
  obtain ⟨o, ho, hex, hd⟩ := R.o
  have hf := R.fw
  have hl := es_len R.e
  refine ⟨o, es, ep, t, ho, hex, hd, ?_, Sn.fits (s := { heap := h }) R, by omega, R.tb.ris, R.ld⟩
  rw [R.e, entries, List.map_map]
  rfl
section
variable {X : Cx}
end
end NK
set_option maxRecDepth 100000
set_option maxHeartbeats 4000000
namespace NK
open PySem PySem.Spec PyProof.Rows L2 DL
end NK
namespace DL
open PySem PySem.Spec PyProof.Rows L2
end DL
set_option maxRecDepth 100000
set_option maxHeartbeats 2000000
namespace DL
open PySem PySem.Spec PySem.W PySem.Calls PyProof.Rows L2
section
variable {P : Program} {w : World} {A : Around} {E : Value → Shared → Prop} {s : Shared}
end
section
variable {X : Cx} {e : Expr} {f : XE} {pos : Pos}
end
end DL
set_option maxRecDepth 100000
set_option maxHeartbeats 2000000
namespace DL
open PySem PySem.Spec PySem.W PySem.Calls PyProof.Rows L2
def gTpL (n : Nat) (f : XGs) : XG := fun d ρ => match d with
  | .list ds => if ds.length = n then f ds ρ else none
  | _ => none
section
variable {X : Cx} {es : List Expr} {r : XGs} {vs : List Nat} {pos : Pos}
end
@[simp] theorem e_gTpL (n : Nat) (f : XGs) (ds : List PyData) (ρ : Nv) : gTpL n f (.list ds) ρ = if ds.length = n then f ds ρ else none := rfl
end DL
set_option maxRecDepth 100000
set_option maxHeartbeats 4000000
namespace KN
open PySem PySem.Spec PyProof.Rows L2 DL NK

mutual
/-- whole numbers, None, tuples of such -/
def inN : PyData → Bool
  | .int _ => true
  | .none => true
  | .tuple ds => inNs ds
  | _ => false
def inNs : List PyData → Bool
  | [] => true
  | d :: ds => inN d && inNs ds
end
def okK : PyData → Bool
  | .tuple ds => inNs ds && decide ((toK (.tuple ds)).depth ≤ 8)
  | _ => false
section
variable {X : Cx} {pins : List (Addr × Obj)} {σ : L2.St} {H : Hp} {s : Shared}
mutual
theorem is_N (I : L2.Inv X pins σ H s) : ∀ (d : PyData) (v : V) (u : Value), inN d = true → Rp X.K H v d → L2.RelV v u → NestedIs s.heap (toK d) u
  | .int i, _, u, _, h, r => by
    cases h
    obtain ⟨t, e⟩ : ∃ t, u = Value.int i t := r
    rw [e]
    exact .int i t
  | .none, _, u, _, h, r => by
    cases h
    have e : u = Value.none := r
    rw [e]
    exact .none
  | .tuple ds, _, u, hi, h, r => by
    have hi : inNs ds = true := by simpa [inN] using hi
    cases h with
    | tup hs hd =>
      obtain ⟨its, rv, ⟨o, ho, hc, n, hdt⟩, _⟩ := I.tuple (SqT.of hs)
      have e : u = Value.ref _ := r
      rw [e]
      exact .tup ho hc hdt (by simpa using all_N I ds _ its hi hd rv)
    | tuk hs _ hd =>
      obtain ⟨its, rv, ⟨o, ho, hc, n, hdt⟩, _⟩ := I.tuple hs
      have e : u = Value.ref _ := r
      rw [e]
      exact .tup ho hc hdt (by simpa using all_N I ds _ its hi hd rv)
  | .str _, _, _, h, _, _ => by simp [inN] at h
  | .bool _, _, _, h, _, _ => by simp [inN] at h
  | .list _, _, _, h, _, _ => by simp [inN] at h
  | .dict _, _, _, h, _, _ => by simp [inN] at h
theorem all_N (I : L2.Inv X pins σ H s) : ∀ (ds : List PyData) (vs : List V) (us : List Value), inNs ds = true → RpA X.K H vs ds → L2.Vals vs us → NestedAll s.heap (toKs ds) us
  | [], _, _, _, h, r => by
    cases h
    cases r
    exact .nil
  | d :: ds, _, _, hi, h, r => by
    simp only [inNs, Bool.and_eq_true] at hi
    cases h with
    | cons h1 h2 =>
      cases r with
      | cons r1 r2 => exact .cons (is_N I d _ _ hi.1 h1 r1) (all_N I ds _ _ hi.2 h2 r2)
end
theorem is_K (I : L2.Inv X pins σ H s) {d : PyData} {a : Addr} (h : okK d = true) (r : Rp X.K H (.ref a) d) : (nestedKind X.prog X.w).is s.heap (toK d) a := by
  unfold okK at h
  split at h
  · simp only [Bool.and_eq_true, decide_eq_true_eq] at h
    exact ⟨is_N I _ _ _ (by simpa [inN] using h.1) r rfl, h.2⟩
  · cases h
end

/-- an entry: its key, the key's tuple -/
abbrev Rw := NestedKey × Addr
def tr (r : Rw) : NestedKey × Addr × Value := (r.1, r.2, .bool true)
/-- the dict at d -/
def KnO (P : Program) (w : World) (d : Addr) (L : List Rw) : HO := .ext fun h => (d == sysModules) = false ∧ ∃ o es ep, h.get? d = some o ∧ o.ExactDict ∧ o.data = .dict es ep ∧ es.toList = (L.map tr).map (entryOfKey (nestedKind P w)) ∧ ((L.map tr).map (·.1)).Nodup
def RwOk (K : PySem.W.Frag) (H : Hp) : List Rw → List PyData → Prop := Paired fun r d => Rp K H (.ref r.2) d ∧ r.1 = toK d ∧ okK d = true
theorem RwOk.mono {K : PySem.W.Frag} {H H' : Hp} (z : Same H H') {L : List Rw} {cs : List PyData} (h : RwOk K H L cs) : RwOk K H' L cs := Paired.mapP h fun _ _ q => ⟨q.1.mono z, q.2⟩
theorem knO_ok {P : Program} {w : World} {H : Hp} {h : Heap} {d : Addr} {L : List Rw} (hd : (d == sysModules) = false) (x : h.DictOfH (nestedKind P w) d (L.map tr)) : ObjOk P w H h d (KnO P w d L) := by
  obtain ⟨o, es, ep, h1, h2, h3, h4, _, h5⟩ := x
  refine ⟨⟨hd, o, es, ep, h1, h2, h3, h4, h5⟩, ⟨o, h1⟩, fun g1 g2 ⟨_, o', es', ep', q1, q⟩ hk => ⟨hd, o', es', ep', hk _ q1, q⟩⟩
section
variable {X : Cx} {pins : List (Addr × Obj)} {σ : L2.St} {H : Hp} {s : Shared} {d : Addr} {L : List Rw} {cs : List PyData}
theorem dict_of (hr : RwOk X.K H L cs) (I : L2.Inv X pins σ H s) (x : ObjOk X.prog X.w H s.heap d (KnO X.prog X.w d L)) : (d == sysModules) = false ∧ s.heap.DictOfH (nestedKind X.prog X.w) d (L.map tr) := by
  obtain ⟨⟨hd, o, es, ep, h1, h2, h3, h4, h5⟩, _⟩ := x
  refine ⟨hd, o, es, ep, h1, h2, h3, h4, fun y hy => ?_, h5⟩
  obtain ⟨r, hr', rfl⟩ := List.mem_map.mp hy
  obtain ⟨i, hi⟩ := List.getElem?_of_mem hr'
  obtain ⟨c, _, q1, q2, q3⟩ := paired_get hr hi
  show (nestedKind X.prog X.w).is s.heap r.1 r.2
  rw [q2]
  exact is_K I q3 q1
theorem dict_e {P : Program} {w : World} {K1 : Type} [DecidableEq K1] {k1 : HeapKind P w K1} {h : Heap} {p : Addr} (x : h.DictOfH k1 p []) : h.DictOfH (nestedKind P w) p [] := by
  obtain ⟨o, es, ep, h1, h2, h3, h4, _, _⟩ := x
  exact ⟨o, es, ep, h1, h2, h3, by simpa using h4, (fun y hy => by cases hy), List.nodup_nil⟩
end

def tDisN (P : Program) (w : World) (K : PySem.W.Frag) (tk tv : TE) : TE := fun σ H Q => ∀ p, H p = none → tk σ (upd H p (.dT [])) fun x H1 => tv σ H1 fun y H2 => H2 p = some (.dT []) ∧ y = .bl true ∧ ∃ (b : Addr) (d : PyData), x = .ref b ∧ Rp K H2 (.ref b) d ∧ okK d = true ∧ Q (.ref p) (upd H2 p (KnO P w p [(toK d, b)]))
theorem pe_disN {X : Cx} {pos : Pos} {k v : Expr} {tk tv : TE} (hk : PE X k tk) (hv : PE X v tv) (hu : X.A.units + 16 < cLine) : PE X (.Dict [some k] [v] pos) (tDisN X.prog X.w X.K tk tv) := by
  refine ⟨fun pins s σ H Q I q => ?_⟩
  have hn := I.hok.fresh (Nat.le_refl s.heap.objs.size)
  have I1 := I.laid (a := s.heap.objs.size) (o := .dT []) (h' := s.heap.push { cls := .type "dict", data := .dict #[] }) (t' := s.toks) (fun _ _ q => Heap.get?_push_of_some _ q) (Nat.le_refl _) (dt_empty s.heap I.big)
  have pp : PPs X pos [some k] [v] [(tk, tv)] := pps_cons hk hv pps_nil
  have q1 : tPairs [(tk, tv)] σ (upd H s.heap.objs.size (.dT [])) fun ps H2 => match ps with
      | [(x, y)] => H2 s.heap.objs.size = some (.dT []) ∧ y = .bl true ∧ ∃ (b : Addr) (d : PyData), x = .ref b ∧ Rp X.K H2 (.ref b) d ∧ okK d = true ∧ Q (.ref s.heap.objs.size) (upd H2 s.heap.objs.size (KnO X.prog X.w s.heap.objs.size [(toK d, b)]))
      | _ => False := q _ hn
  rw [show eval (.Dict [some k] [v] pos) X.env = _ from by rw [arm_eval_Dict, zip_pairTrees _ _ X.env pos rfl rfl, dictDisplay_pairs (pairTrees [some k] [v] X.env pos) (fun e => by cases e) (by show 1 < 17; decide)]]
  refine wpAny_bind (wpAny_standAt (wpAny_bind (wpAny_subDictH (knd := nestedKind X.prog X.w) (Q := fun d s' => wpAny (model X.prog X.w) X.A (pure (Value.ref d)) _ X.xe s') (by show X.A.units + 8 < cLine; omega) (by show 1 ≤ 15; decide) ?_)))
  refine wpAny_mono (pp.run pins _ σ _ _ I1 q1) (fun ws s2 h => ?_) fun _ _ e => e
  obtain ⟨ps, H2, I2, rel, hq⟩ := h
  cases rel with
  | nil => exact hq.elim
  | @cons p w _ ws h t =>
    cases t with
    | cons _ _ => exact hq.elim
    | nil =>
    obtain ⟨x, y⟩ := p
    obtain ⟨e, ey, b, dd0, hx, rb, ok, q2⟩ := hq
    subst hx ey
    obtain ⟨w1, w2⟩ := w
    obtain ⟨h1, h2⟩ := h
    cases (show w1 = Value.ref b from h1)
    cases (show w2 = Value.bool true from h2)
    obtain ⟨z, hd, xs, rx, dd⟩ := dt_of I2.hok e
    cases rx
    refine ⟨[(toK dd0, b, .bool true)], ⟨rfl, rfl, is_K I2 ok rb, trivial⟩, dict_e dd, fun h' tk dd' hs => wpAny_pure ⟨.ref s.heap.objs.size, _, ?_, rfl, q2⟩⟩
    obtain ⟨o, es, ep, hq, _⟩ := id dd'
    exact d_write I2 (by rw [e]; exact True.intro) hs ⟨o, hq⟩ (knO_ok hd dd')

def Itn (P : Program) (w : World) (d : Addr) (o : Obj) (L : List Rw) : It :=
  ⟨fun i H => H d = some (.frz o (KnO P w d L)) ∧ i < L.length, fun i H x H' => H' = H ∧ ∃ r : Rw, L[i]? = some r ∧ x = .ref r.2, fun i H => H d = some (.frz o (KnO P w d L)) ∧ L.length ≤ i⟩
theorem frzN {X : Cx} {pins : List (Addr × Obj)} {σ : L2.St} {H : Hp} {s : Shared} {d : Addr} {o : Obj} {L : List Rw} (I : Inv X pins σ H s) (h : H d = some (.frz o (KnO X.prog X.w d L))) :
    (d == sysModules) = false ∧ s.heap.get? d = some o ∧ o.ExactDict ∧ ∃ (es : Array DictEntry) (ep : Nat), o.data = .dict es ep ∧ es.size = L.length ∧
      ∀ (i : Nat) (r : Rw), L[i]? = some r → ∃ en : DictEntry, es[i]? = some en ∧ en.key = .ref r.2 := by
  obtain ⟨hd, ⟨hs, o', es, ep, ho, hx, hdt, he, _⟩, _⟩ := I.hok d _ h
  rw [hd] at ho
  cases ho
  have l1 : es.size = L.length := by
    have := size_of_entries he
    simpa using this
  refine ⟨hs, hd, hx, es, ep, hdt, l1, fun i r e => ?_⟩
  have q := entry_at he i
  rw [List.getElem?_map, e] at q
  exact ⟨_, q, rfl⟩
theorem turn_kn {P : Program} {w : World} {K : PySem.W.Frag} {tg : Expr} {d : Addr} {o : Obj} {es : Array DictEntry} {ep : Nat} {L : List Rw} (it : Addr) (hod : o.data = .dict es ep) : Turn P w K tg (Itn P w d o L) [it] it (fun i h => h.IsKeyIter it d i L.length ep) where
  mem := by simp
  obj := fun i h st b hb => by
    have e : b = it := by simpa using hb
    subst e
    obtain ⟨oi, e, c, dd⟩ := st
    exact ⟨oi, e, fun v z => by rw [dd] at z; cases z⟩
  keep := fun i h h' st k => st.at fun oi e => k it (by simp) oi e
  item := by
    intro X hP hw hK hc i pins s σ H E I hf st hg
    subst hP hw hK
    obtain ⟨hd, hi⟩ := hg
    obtain ⟨f0, f1, f2, f3, f4, f5⟩ := hf it (by simp)
    obtain ⟨hs, hgd, hx, es', ep', hdt, hsz, ent⟩ := frzN I hd
    obtain ⟨rfl, rfl⟩ := dict_ep hod hdt
    obtain ⟨r, hr⟩ : ∃ p, L[i]? = some p := ⟨L[i], List.getElem?_eq_getElem hi⟩
    obtain ⟨en, hen, hkey⟩ := ent i r hr
    refine next_key_item st hgd hdt hsz hen fun h' st' sb => ?_
    have I1 : Inv X pins σ H { s with heap := h' } := I.turned (t' := s.toks) (fun b ob hb e => (sb.2 b hb).trans e) f0 f1 f3 f4 f5
    obtain ⟨oi, e, c, dd⟩ := id st'
    exact ⟨en.key, rfl, go_of (s := { s with heap := h' }) e c dd (by decide) ⟨.ref r.2, H, I1, hkey, ⟨rfl, r, hr, rfl⟩, st', fun b hb => (hf b hb).1⟩⟩
  done := by
    intro X hP hw hK hc i pins s σ H E I hf st hg
    subst hP hw hK
    obtain ⟨hd, hi⟩ := hg
    obtain ⟨f0, f1, f2, f3, f4, f5⟩ := hf it (by simp)
    obtain ⟨hs, hgd, hx, es', ep', hdt, hsz, ent⟩ := frzN I hd
    obtain ⟨rfl, rfl⟩ := dict_ep hod hdt
    exact next_key_end (I.ok.hd hc) st hgd hdt hsz hi fun h' eb => ⟨rfl, I.turned (t' := s.toks) (fun b ob hb e => eb b ob hb e) f0 f1 f3 f4 f5⟩
  self := fun A i s Q E st h => by
    refine wpAny_pyIter_slot st.typeIs F.slot_dict_keyiterator_iter (wpAny_call_entry F.slot_dict_keyiterator_iter st.typeIs F.entry_dict_keyiterator_iter ?_ (F.args_dict_keyiterator_iter_1 _))
    show wpAny _ _ (ret (.ref it)) _ _ s
    exact wpAny_pure ⟨_, rfl, "dict_keyiterator", _, st.typeIs, F.slot_dict_keyiterator_next.lookup, h⟩
def iKn (P : Program) (w : World) (td : TE) : TI := fun σ H R => td σ H fun x H1 => ∃ d o L, x = .ref d ∧ H1 d = some (.frz o (KnO P w d L)) ∧ R (Itn P w d o L) H1
theorem pi_kn {X : Cx} {tg e : Expr} {td : TE} (he : PE X e td) : PI X tg e (iKn X.prog X.w td) := by
  refine ⟨fun pins s σ H R I h => ?_⟩
  refine thn (he.run pins s σ H _ I h) fun u s1 ⟨x, H1, I1, rx, d, o, L, ex, hd, q⟩ => ?_
  subst ex
  obtain rfl : u = Value.ref d := rx
  obtain ⟨hs, hgd, hx, es, ep, hdt, hsz, ent⟩ := frzN I1 hd
  refine iter_keys hs hgd hx hdt (pi_one (tk := s1.toks) I1 _ (turn_kn _ hdt) ⟨_, Heap.get?_push_size _ rfl, rfl, ?_⟩ q)
  rw [hsz] <;> rfl

def rLenN (P : Program) (w : World) : List V → Hp → VK → Prop := fun xs H Q => ∃ d o L, xs = [V.ref d] ∧ H d = some (.frz o (KnO P w d L)) ∧ L.length ≤ sizeLine ∧ Q (.int L.length) H
theorem cr_lenN {X : Cx} : CallR X (.builtin "len") (rLenN X.prog X.w) := by
  intro pins s σ H xs us Q I r h
  obtain ⟨d, o, L, rfl, hd, hz, q⟩ := h
  rw [Vals.ref1 r]
  obtain ⟨hs, hgd, hx, es, ep, hdt, hsz, ent⟩ := frzN I hd
  have raw : s.heap.DictRaw d es ep := ⟨o, hgd, hx, hdt⟩
  refine PyProof.Rows.call_len_slot (n := L.length) (s := s) ⟨o, hgd, hx.1⟩ F.slot_dict_len (fun Q' hq => call_len_raw hs raw (by rw [hsz]; exact hq)) (by omega) (by rw [sizeLine_eq] at hz; omega) ?_
  exact ⟨.int L.length, H, I.tok _, ⟨_, rfl⟩, q⟩
end KN
set_option maxRecDepth 100000
set_option maxHeartbeats 4000000
namespace KN
open PySem PySem.Spec PyProof.Rows L2 DL NK

/-- rows are added; a key that stands stays -/
def addR (L N : List Rw) : List Rw := N.foldl (fun acc r => if (acc.any fun x => decide (x.1 = r.1)) = true then acc else acc ++ [r]) L
def insK (cs : List PyData) (d : PyData) : List PyData := if (cs.any fun x => decide (toK x = toK d)) = true then cs else cs ++ [d]
theorem atKey_tr (L : List Rw) (k : NestedKey) : (atKey (L.map tr) k).isSome = L.any fun x => decide (x.1 = k) := by
  induction L with
  | nil => rfl
  | cons x xs ih =>
    by_cases h : x.1 = k
    · simp [atKey, tr, h]
    · have : (atKey ((x :: xs).map tr) k) = atKey (xs.map tr) k := by simp [atKey, tr, h]
      rw [this, ih]
      simp [h]
theorem stored_tr (L : List Rw) (r : Rw) : storedH (L.map tr) r.1 r.2 (.bool true) = (if (L.any fun x => decide (x.1 = r.1)) = true then L else L ++ [r]).map tr := by
  unfold storedH
  rw [atKey_tr]
  split
  · rename_i h
    rw [List.map_map]
    refine List.map_congr_left fun x _ => ?_
    show putAt r.1 (Value.bool true) (tr x) = tr x
    unfold putAt tr
    by_cases h2 : x.1 = r.1
    · exact if_pos h2
    · exact if_neg h2
  · rename_i h
    simp [tr]
theorem storedAll_tr (N : List Rw) : ∀ L : List Rw, storedAllH (L.map tr) (N.map tr) = (addR L N).map tr := by
  induction N with
  | nil => intro L; rfl
  | cons r N ih =>
    intro L
    show storedAllH (storedH (L.map tr) r.1 r.2 (.bool true)) (N.map tr) = _
    rw [stored_tr, ih]
    rfl
theorem any_rw {K : PySem.W.Frag} {H : Hp} (k : NestedKey) : ∀ {L : List Rw} {cs : List PyData}, RwOk K H L cs → (L.any fun x => decide (x.1 = k)) = cs.any fun x => decide (toK x = k)
  | _, _, .nil => rfl
  | _, _, .cons h t => by
    rw [List.any_cons, List.any_cons, any_rw k t, h.2.1]
theorem rw_app {K : PySem.W.Frag} {H : Hp} {r : Rw} {d : PyData} (h : Rp K H (.ref r.2) d ∧ r.1 = toK d ∧ okK d = true) : ∀ {L : List Rw} {cs : List PyData}, RwOk K H L cs → RwOk K H (L ++ [r]) (cs ++ [d])
  | _, _, .nil => .cons h .nil
  | _, _, .cons h' t => .cons h' (rw_app h t)
theorem addR_ok {K : PySem.W.Frag} {H : Hp} : ∀ {N : List Rw} {ns : List PyData} {L : List Rw} {cs : List PyData}, RwOk K H L cs → RwOk K H N ns → RwOk K H (addR L N) (ns.foldl insK cs)
  | _, _, _, _, h, .nil => h
  | _, _, L, cs, h, .cons (a := r) (b := d) h1 t => by
    refine addR_ok (L := if (L.any fun x => decide (x.1 = r.1)) = true then L else L ++ [r]) (cs := insK cs d) ?_ t
    unfold insK
    rw [any_rw r.1 h, h1.2.1]
    split
    · exact h
    · exact rw_app h1 h
def pairD (c : PyData) : PyData := .tuple [c, .bool true]
/-- the list's pairs -/
theorem pairs_at {K : PySem.W.Frag} {Z : Hp} : ∀ {ns : List PyData} {vs : List V}, RpA K Z vs (ns.map pairD) → (∀ c ∈ ns, okK c = true) → ∃ (ts : List Addr) (N : List Rw), vs = ts.map V.ref ∧ RwOk K Z N ns ∧ Paired (fun t (r : Rw) => SqT K Z t [.ref r.2, .bl true]) ts N
  | [], _, r, _ => by cases r; exact ⟨[], [], rfl, .nil, .nil⟩
  | c :: ns, _, r, h => by
    have two : ∀ {xs : List V}, RpA K Z xs [c, .bool true] → ∃ a : Addr, xs = [.ref a, .bl true] ∧ Rp K Z (.ref a) c := fun {xs} r => by
      cases r with
      | cons r1 r2 =>
        cases r2 with
        | cons r2 r3 =>
          cases r3
          cases r2
          have hc := h c List.mem_cons_self
          unfold okK at hc
          split at hc
          · cases r1 with
            | tup q1 q2 => exact ⟨_, rfl, .tup q1 q2⟩
            | tuk q1 q2 q3 => exact ⟨_, rfl, .tuk q1 q2 q3⟩
          · cases hc
    cases r with
    | cons r1 r2 =>
      obtain ⟨ts, N, e, h1, h2⟩ := pairs_at (ns := ns) r2 fun c' hc' => h c' (List.mem_cons_of_mem _ hc')
      subst e
      cases r1 with
      | @tup t xs _ q1 q2 =>
        obtain ⟨a, rfl, ra⟩ := two q2
        exact ⟨t :: ts, (toK c, a) :: N, rfl, .cons ⟨ra, rfl, h c List.mem_cons_self⟩ h1, .cons (SqT.of q1) h2⟩
      | @tuk t xs _ q1 q2 q3 =>
        obtain ⟨a, rfl, ra⟩ := two q3
        exact ⟨t :: ts, (toK c, a) :: N, rfl, .cons ⟨ra, rfl, h c List.mem_cons_self⟩ h1, .cons q1 h2⟩

def rUpdN (P : Program) (w : World) (K : PySem.W.Frag) : V → List V → Hp → VK → Prop := fun x xs H Q => ∃ (c l : Addr) (L : List Rw) (cs : List PyData) (ts : List Addr) (ns : List PyData) (N : List Rw), x = .ref c ∧ xs = [.ref l] ∧
  (H c = some (KnO P w c L) ∨ (L = [] ∧ H c = some (.dT []))) ∧ RwOk K H L cs ∧ H l = some (.lst (ts.map V.ref)) ∧ RwOk K H N ns ∧ Paired (fun t (r : Rw) => SqT K H t [.ref r.2, .bl true]) ts N ∧ L.length + N.length ≤ sizeLine ∧ Q .non (upd H c (KnO P w c (addR L N)))
theorem mt_updN {X : Cx} (hc : X.calm = true) (hu : X.A.units + 16 < cLine) : MtR X "dict.update" (rUpdN X.prog X.w X.K) := by
  intro pins s σ H x xs v us Q I rx rs h
  obtain ⟨c, l, L, cs, ts, ns, N, rfl, rfl, hH, hL, hl, hN, hp, hz, q⟩ := h
  cases rx
  rw [Vals.ref1 rs]
  have st : (c == sysModules) = false ∧ s.heap.DictOfH (nestedKind X.prog X.w) c (L.map tr) ∧ Mut (H c) ∧ H c ≠ H l := by
    rcases hH with e | ⟨rfl, e⟩
    · obtain ⟨h1, h2⟩ := dict_of hL I (I.hok c _ e)
      exact ⟨h1, h2, by rw [e]; exact True.intro, by rw [e, hl]; intro z; cases z⟩
    · obtain ⟨z, hd, xs, rx, dd⟩ := dt_of I.hok e
      cases rx
      exact ⟨hd, dict_e dd, by rw [e]; exact True.intro, by rw [e, hl]; intro z; cases z⟩
  obtain ⟨sysn, hm, mu, cl⟩ := st
  have cl : c ≠ l := fun e => cl (by rw [e])
  obtain ⟨oc, esc, epc, c1, c2, c3, c4, c5, c6⟩ := id hm
  obtain ⟨its, rv, pl, hzl⟩ := I.list (SqL.of hl)
  have ei := refs_at rv
  subst ei
  obtain ⟨ol, n, ho, hcl, hdn, hdat⟩ := pl
  have pairAt : ∀ (j : Nat) (r : Rw), N[j]? = some r → ∃ t, ts[j]? = some t ∧ s.heap.IsTuple t #[.ref r.2, .bool true] := fun j r e => by
    have lt : j < N.length := (List.getElem?_eq_some_iff.mp e).1
    obtain ⟨t, ht⟩ : ∃ t, ts[j]? = some t := ⟨ts[j]'(by rw [Paired.length hp]; exact lt), List.getElem?_eq_getElem _⟩
    obtain ⟨r', e', sq⟩ := paired_get hp ht
    rw [e] at e'
    cases e'
    obtain ⟨it, rv', ⟨o, h1, h2, k, h3⟩, _⟩ := I.tuple sq
    cases rv' with
    | cons a1 a2 =>
      cases a2 with
      | cons a2 a3 =>
        cases a3
        cases (show _ = Value.ref r.2 from a1)
        cases (show _ = Value.bool true from a2)
        exact ⟨t, ht, o, h1, h2, k, h3⟩
  have hlen : ts.length = N.length := Paired.length hp
  let ps : List (Value × Value) := N.map fun r => (.ref r.2, .bool true)
  let Ts : Nat → Addr := fun j => ts.getD j 0
  have tsat : ∀ {j t}, ts[j]? = some t → Ts j = t := fun {j t} e => by show ts.getD j 0 = t; rw [List.getD_eq_getElem?_getD, e]; rfl
  have okP : PlainSeq "list" s.heap l (ts.map Value.ref).toArray ∧ PairItems s.heap (ts.map Value.ref).toArray Ts ps := by
    refine ⟨⟨ol, n, ho, hcl, hdn, hdat⟩, by simp [ps, hlen], fun j k v e => ?_⟩
    rw [List.getElem?_map] at e
    cases e2 : N[j]? with
    | none => rw [e2] at e; cases e
    | some r =>
      rw [e2] at e
      cases e
      obtain ⟨t, ht, it⟩ := pairAt j r e2
      rw [tsat ht]
      exact ⟨by simp [ht], .inl it⟩
  have hdf : c ∉ l :: (List.range ps.length).map Ts := by
    intro hmem
    rcases List.mem_cons.mp hmem with z | z
    · exact cl z
    · obtain ⟨j, hj, e⟩ := List.mem_map.mp z
      have hj : j < N.length := by simpa [ps] using List.mem_range.mp hj
      obtain ⟨t, ht, o, h1, h2, _⟩ := pairAt j N[j] (List.getElem?_eq_getElem hj)
      rw [tsat ht] at e
      subst e
      rw [c1] at h1
      cases h1
      rw [c2.1] at h2
      exact absurd h2 (by decide)
  have hNall : ∀ y ∈ N.map tr, (nestedKind X.prog X.w).is s.heap y.1 y.2.1 := fun y hy => by
    obtain ⟨r, hr', rfl⟩ := List.mem_map.mp hy
    obtain ⟨i, hi⟩ := List.getElem?_of_mem hr'
    obtain ⟨d, _, q1, q2, q3⟩ := paired_get hN hi
    show (nestedKind X.prog X.w).is s.heap r.1 r.2
    rw [q2]
    exact is_K I q3 q1
  refine call_update_pairsH (knd := nestedKind X.prog X.w) (acc := L.map tr) (ps := N.map tr) (PairArg.list l (ts.map Value.ref).toArray Ts ps) (I.ok.hd hc) (by show X.A.units + 1 + 8 < cLine; omega) okP hdf ?_ (fun h' hk y hy => ?_) hm (by simpa [ps] using hz) fun h' tk hd' hk => ?_
  · refine ⟨by simp [ps], fun i key v e => ?_⟩
    have e : ps[i]? = some (key, v) := e
    rw [List.getElem?_map] at e
    cases e2 : N[i]? with
    | none => rw [e2] at e; cases e
    | some r =>
      rw [e2] at e
      cases e
      exact ⟨r.1, r.2, by rw [List.getElem?_map, e2]; rfl, rfl⟩
  · refine HeapKind.Stays.but nestedKind_stays (d := c) ⟨oc, esc, epc, c1, c3⟩ h' hk _ _ ?_
    rcases List.mem_append.mp hy with z | z
    · exact c5 y z
    · exact hNall y z
  · rw [storedAll_tr] at hd'
    obtain ⟨o', es', ep', g1, _⟩ := id hd'
    refine ⟨.non, _, I.write (x := c) (e := c) (t' := tk) (h' := h') mu (.inl rfl) (fun b u hb e => hk b u hb (by simp) e) ⟨o', g1⟩ (knO_ok sysn hd'), rfl, q⟩
end KN
set_option maxRecDepth 100000
set_option maxHeartbeats 2000000
namespace DL
open PySem PySem.Spec PyProof.Rows L2
section
variable {ρ : Nv} {f g a b c : XE} {r : XA} {t u : XT}
@[simp] theorem e_c (d : PyData) : xC d ρ = some (d, ρ) := rfl
@[simp] theorem e_var (i : Nat) : xVar i ρ = (match ρ[i]? with | some (.d x) => some (x, ρ) | some (.own o false) => some (odD o, ρ.set i (.d (odD o))) | _ => none) := rfl
@[simp] theorem e_bvar (i : Nat) : bVar i ρ = (match ρ[i]? with | some (.d x) => some x | some (.own o _) => some (odD o) | _ => none) := rfl
@[simp] theorem e_bc (d : PyData) : bC d ρ = some d := rfl
@[simp] theorem e_b (h : XB) : xB h ρ = (h ρ).map fun d => (d, ρ) := rfl
@[simp] theorem e_1 (h : PyData → Option PyData) : x1 h a ρ = (a ρ).bind fun p => (h p.1).map fun z => (z, p.2) := rfl
@[simp] theorem e_2 (h : PyData → PyData → Option PyData) : x2 h a b ρ = (a ρ).bind fun p => (b p.2).bind fun q => (h p.1 q.1).map fun z => (z, q.2) := rfl
@[simp] theorem e_tst : tst a ρ = (a ρ).bind fun p => match p.1 with | .bool b => some (b, p.2) | _ => none := rfl
@[simp] theorem e_tru : xTru a ρ = (a ρ).bind fun p => (truD p.1).map fun b => (b, p.2) := rfl
@[simp] theorem e_andT : xAndT t u ρ = (t ρ).bind fun p => if p.1 = true then u p.2 else some (false, p.2) := rfl
@[simp] theorem e_orT : xOrT t u ρ = (t ρ).bind fun p => if p.1 = true then some (true, p.2) else u p.2 := rfl
@[simp] theorem e_notT : xNotT t ρ = (t ρ).map fun p => (!p.1, p.2) := rfl
@[simp] theorem e_and : xAnd a b ρ = (a ρ).bind fun p => match p.1 with | .bool true => b p.2 | .bool false => some (.bool false, p.2) | _ => none := rfl
@[simp] theorem e_or : xOr a b ρ = (a ρ).bind fun p => match p.1 with | .bool true => some (.bool true, p.2) | .bool false => b p.2 | _ => none := rfl
@[simp] theorem e_not : xNot a ρ = (a ρ).bind fun p => match p.1 with | .bool b => some (.bool (!b), p.2) | _ => none := rfl
@[simp] theorem e_if : xIf t a b ρ = (t ρ).bind fun p => if p.1 = true then a p.2 else b p.2 := rfl
@[simp] theorem e_chain (h h' : PyData → PyData → Option PyData) : xChain h h' a b c ρ = (a ρ).bind fun p => (b p.2).bind fun q => (h p.1 q.1).bind fun z => match z with
  | .bool true => (c q.2).bind fun r => (h' q.1 r.1).map fun z => (z, r.2)
  | .bool false => some (.bool false, q.2)
  | _ => none := rfl
@[simp] theorem e_aNil : aNil ρ = some ([], ρ) := rfl
@[simp] theorem e_aCons : aCons f r ρ = (f ρ).bind fun p => (r p.2).map fun q => (.v p.1 :: q.1, q.2) := rfl
@[simp] theorem e_aSlot (i : Nat) : aSlot i r ρ = (match ρ[i]? with | some (.own _ _) => (r ρ).map fun q => (.s i :: q.1, q.2) | some (.scr _) => (r ρ).map fun q => (.s i :: q.1, q.2) | _ => none) := rfl
@[simp] theorem e_allV0 : allV [] = some [] := rfl
@[simp] theorem e_allV1 (d : PyData) (as : List AV) : allV (.v d :: as) = (allV as).map (d :: ·) := rfl
@[simp] theorem e_tup : xTup r ρ = (r ρ).bind fun p => (allV p.1).bind fun ds => if ds.length ≤ sizeLine then some (.tuple ds, p.2) else none := rfl
@[simp] theorem e_lst : xLst r ρ = (r ρ).bind fun p => (allV p.1).bind fun ds => if ds.length ≤ sizeLine then some (.list ds, p.2) else none := rfl
@[simp] theorem e_nlst : nLst r ρ = (r ρ).bind fun p => (allV p.1).bind fun ds => if ds.length ≤ sizeLine then some (.ol ds, p.2) else none := rfl
@[simp] theorem e_isi (h : PyData → Bool) : xIsi h f ρ = (f ρ).map fun p => (.bool (h p.1), p.2) := rfl
@[simp] theorem e_oNone : oNone ρ = some (none, ρ) := rfl
@[simp] theorem e_oSome : oSome f ρ = (f ρ).bind fun p => match p.1 with | .int i => some (some i, p.2) | _ => none := rfl
@[simp] theorem e_sl (lo hi : XO) : xSl f lo hi ρ = (f ρ).bind fun p => (lo p.2).bind fun l => (hi l.2).bind fun h => (slD p.1 l.1 h.1).map fun z => (z, h.2) := rfl
@[simp] theorem e_scr (i : Nat) (lo hi : Option Int) : xScr i lo hi ρ = (match ρ[i]? with | some (.scr (.ints ns)) => some (.list (cutD (ns.map PyData.int) lo hi), ρ) | _ => none) := rfl
@[simp] theorem e_get (i : Nat) : xGet i f ρ = if ownQ ρ i = true then (f ρ).bind fun p => match p.2[i]? with
    | some (.own (.od kvs) _) => (keyD p.1).bind fun k => (getD' kvs k).map fun z => (z, p.2)
    | some (.own (.ot kvs) _) => (keyT p.1).bind fun k => (getD' kvs k).map fun z => (z, p.2)
    | _ => none
  else none := rfl
@[simp] theorem e_put (i : Nat) (fk fv : XE) : sPut i fk fv ρ = (fv ρ).bind fun p => if ownQ p.2 i = true then (fk p.2).bind fun q => match q.2[i]? with
    | some (.own (.od kvs) io) => (keyD q.1).bind fun k => if kvs.length < sizeLine then some (.nx (q.2.set i (.own (.od (putD kvs k p.1)) io))) else none
    | some (.own (.ot kvs) io) => (keyT q.1).bind fun k => if kvs.length < sizeLine then some (.nx (q.2.set i (.own (.ot (putD kvs k p.1)) io))) else none
    | _ => none
  else none := rfl
@[simp] theorem e_put' (i : Nat) (d : PyData) : put ρ i d = if free ρ i = true then some (ρ.set i (.d d)) else none := rfl
/-- the slot may be stored -/
def Fs (e : EV) : Prop := e = .un ∨ (∃ d, e = .d d) ∨ ∃ o, e = .own o false
@[simp] theorem fs_un : Fs .un := .inl rfl
@[simp] theorem fs_d (d : PyData) : Fs (.d d) := .inr (.inl ⟨d, rfl⟩)
@[simp] theorem fs_own (o : OD) : Fs (.own o false) := .inr (.inr ⟨o, rfl⟩)
@[simp] theorem free_s (e : EV) (r : Nv) (i : Nat) : free (e :: r) (i + 1) = free r i := by simp [free]
@[simp] theorem free_un (r : Nv) : free (.un :: r) 0 = true := rfl
@[simp] theorem free_d (d : PyData) (r : Nv) : free (.d d :: r) 0 = true := rfl
@[simp] theorem free_own (o : OD) (r : Nv) : free (.own o false :: r) 0 = true := rfl
@[simp] theorem free_io (o : OD) (r : Nv) : free (.own o true :: r) 0 = false := rfl
@[simp] theorem free_scr (ns : SlP) (r : Nv) : free (.scr ns :: r) 0 = true := rfl
theorem free_fs {e : EV} (h : Fs e) (r : Nv) : free (e :: r) 0 = true := by
  rcases h with rfl | ⟨d, rfl⟩ | ⟨o, rfl⟩ <;> rfl
@[simp] theorem e_ownQ (i : Nat) : ownQ ρ i = (match ρ[i]? with | some (.own _ _) => true | _ => false) := rfl
@[simp] theorem e_sNil : sNil ρ = some (.nx ρ) := rfl
@[simp] theorem e_seq (p q : XS) : sSeq p q ρ = (p ρ).bind fun r => match r with | .nx ρ' => q ρ' | r => some r := rfl
@[simp] theorem e_ret : sRet f ρ = (f ρ).map fun p => .rt p.1 p.2 := rfl
@[simp] theorem e_retN : sRetN ρ = some (.rt .none ρ) := rfl
@[simp] theorem e_retO (n : XN) : sRetO n ρ = (n ρ).map fun p => .rn p.1 p.2 := rfl
@[simp] theorem e_sif (p q : XS) : sIf t p q ρ = (t ρ).bind fun w => if w.1 = true then p w.2 else q w.2 := rfl
@[simp] theorem e_drop : sDrop f ρ = (f ρ).map fun p => .nx p.2 := rfl
@[simp] theorem e_brk : sBrk ρ = some (.bk ρ) := rfl
@[simp] theorem e_cnt : sCnt ρ = some (.ct ρ) := rfl
@[simp] theorem e_set (i : Nat) : sSet i f ρ = (f ρ).bind fun p => (put p.2 i p.1).map .nx := rfl
@[simp] theorem e_new (i : Nat) (n : XN) : sNew i n ρ = (n ρ).bind fun p => if free p.2 i = true then some (.nx (p.2.set i (.own p.1 false))) else none := rfl
@[simp] theorem e_par (i j : Nat) : sPar i j f g ρ = (f ρ).bind fun p => (g p.2).bind fun q => (put q.2 i p.1).bind fun ρ1 => (put ρ1 j q.1).map .nx := rfl
@[simp] theorem e_asg (h : XG) : sAsg f h ρ = (f ρ).bind fun p => (h p.1 p.2).map .nx := rfl
@[simp] theorem e_gNm (i : Nat) (d : PyData) : gNm i d ρ = put ρ i d := rfl
@[simp] theorem e_gTp (n : Nat) (h : XGs) (ds : List PyData) : gTp n h (.tuple ds) ρ = if ds.length = n then h ds ρ else none := rfl
@[simp] theorem e_gsN : gsNil [] ρ = some ρ := rfl
@[simp] theorem e_gsC (h : XG) (k : XGs) (d : PyData) (ds : List PyData) : gsCons h k (d :: ds) ρ = (h d ρ).bind fun ρ' => k ds ρ' := rfl
@[simp] theorem e_for (it : XI) (h : XG) (p : XS) : sFor it h p ρ = (it ρ).bind fun w => forL h p w.1 w.2 := rfl
@[simp] theorem e_iOf : iOf f ρ = (f ρ).bind fun p => (itD p.1).map fun ds => (ds, p.2) := rfl
@[simp] theorem e_call (m : XF) : xCall m r ρ = (gCall m r ρ).bind fun p => match p.1 with | .d x => some (x, p.2) | .n _ => none := rfl
@[simp] theorem e_ncall (m : XF) : nCall m r ρ = (gCall m r ρ).bind fun p => match p.1 with | .n o => some (o, p.2) | .d _ => none := rfl
@[simp] theorem e_gcall (m : XF) : gCall m r ρ = (r ρ).bind fun p => if (slotsOf p.1).Nodup then (entN p.1 p.2).bind fun es => (m es).bind fun q => (back p.1 q.2 p.2).map fun ρ' => (q.1, ρ') else none := rfl
@[simp] theorem e_arity (n : Nat) (m : XF) (es : List EV) : arity n m es = if es.length = n then m es else none := rfl
@[simp] theorem e_slots0 : slotsOf [] = [] := rfl
@[simp] theorem e_slots1 (d : PyData) (as : List AV) : slotsOf (.v d :: as) = slotsOf as := rfl
@[simp] theorem e_slots2 (i : Nat) (as : List AV) : slotsOf (.s i :: as) = i :: slotsOf as := rfl
@[simp] theorem e_ent0 : entN [] ρ = some [] := rfl
@[simp] theorem e_ent1 (d : PyData) (as : List AV) : entN (.v d :: as) ρ = (entN as ρ).map (.d d :: ·) := rfl
@[simp] theorem e_ent2 (i : Nat) (as : List AV) : entN (.s i :: as) ρ = (match ρ[i]? with | some (.own o _) => (entN as ρ).map (.own o true :: ·) | some (.scr ns) => (entN as ρ).map (.scr ns :: ·) | _ => none) := rfl
@[simp] theorem e_back0 (es : List EV) : back [] es ρ = some ρ := by cases es <;> rfl
@[simp] theorem e_back1 (d : PyData) (as : List AV) (e : EV) (es : List EV) : back (.v d :: as) (e :: es) ρ = back as es ρ := rfl
@[simp] theorem e_back2 (i : Nat) (as : List AV) (e : EV) (es : List EV) : back (.s i :: as) (e :: es) ρ = (match ρ[i]?, e with | some (.own _ io), .own o _ => back as es (ρ.set i (.own o io)) | some (.scr _), .scr _ => back as es ρ | _, _ => none) := rfl
theorem e_run (n : Nat) (body : XS) (es : List EV) : runF n body es = (match body (es ++ List.replicate (n - es.length) .un) with
  | some (.rt d ρ) => some (.d d, finA es ρ)
  | some (.rn o ρ) => some (.n o, finA es ρ)
  | some (.nx ρ) => some (.d .none, finA es ρ)
  | _ => none) := rfl
@[simp] theorem e_fin0 : finA [] ρ = [] := rfl
@[simp] theorem e_fin1 (o : OD) (b : Bool) (es : List EV) (o' : OD) (b' : Bool) : finA (.own o b :: es) (.own o' b' :: ρ) = .own o' b' :: finA es ρ := rfl
@[simp] theorem e_fin2 (d : PyData) (es : List EV) (e : EV) : finA (.d d :: es) (e :: ρ) = .d d :: finA es ρ := rfl
@[simp] theorem e_fin3 (ns : SlP) (es : List EV) (e : EV) : finA (.scr ns :: es) (e :: ρ) = .scr ns :: finA es ρ := rfl
end

@[simp] theorem o_add (i j : Int) : addD (.int i) (.int j) = some (.int (i + j)) := rfl
@[simp] theorem o_addS (i j : Str) : addD (.str i) (.str j) = if i.length + j.length ≤ sizeLine then some (.str (i ++ j)) else none := rfl
@[simp] theorem o_addL (i j : List PyData) : addD (.list i) (.list j) = if i.length + j.length ≤ sizeLine then some (.list (i ++ j)) else none := rfl
@[simp] theorem o_addT (i j : List PyData) : addD (.tuple i) (.tuple j) = if i.length + j.length ≤ sizeLine then some (.tuple (i ++ j)) else none := rfl
@[simp] theorem o_sub (i j : Int) : subD (.int i) (.int j) = some (.int (i - j)) := rfl
theorem o_mul {i j : Int} (h : i.natAbs.log2 + j.natAbs.log2 < 1000000) : mulD (.int i) (.int j) = some (.int (i * j)) := if_pos h
theorem o_fdiv {i j : Int} (h : 0 < j) (h2 : j.natAbs.log2 < 9000) : fdivD (.int i) (.int j) = some (.int (i / j)) := if_pos ⟨h, h2⟩
theorem o_mod {i j : Int} (h : 0 < j) : modD (.int i) (.int j) = some (.int (i % j)) := if_pos h
theorem o_pow {i j : Int} (h : 0 ≤ j ∧ j ≤ 1000000 ∧ i.natAbs < 2 ^ 64) : powD (.int i) (.int j) = some (.int (i ^ j.toNat)) := if_pos h
@[simp] theorem o_lt (i j : Int) : ltD (.int i) (.int j) = some (.bool (decide (i < j))) := rfl
@[simp] theorem o_le (i j : Int) : leD (.int i) (.int j) = some (.bool (decide (i ≤ j))) := rfl
@[simp] theorem o_gt (i j : Int) : gtD (.int i) (.int j) = some (.bool (decide (j < i))) := rfl
@[simp] theorem o_ge (i j : Int) : geD (.int i) (.int j) = some (.bool (decide (j ≤ i))) := rfl
@[simp] theorem o_neg (i : Int) : negD (.int i) = some (.int (-i)) := rfl
@[simp] theorem o_isNon (x : PyData) : isNonD x .none = some (.bool (noneD x)) := rfl
@[simp] theorem o_notNon (x : PyData) : notNonD x .none = some (.bool (!noneD x)) := rfl
@[simp] theorem o_keyS (s : Str) : keyD (.str s) = some (.inr s) := rfl
@[simp] theorem o_keyI (i : Int) : keyD (.int i) = some (.inl i) := rfl
@[simp] theorem o_truB (b : Bool) : truD (.bool b) = some b := rfl
@[simp] theorem o_lenL (xs : List PyData) : lenD (.list xs) = some (.int xs.length) := rfl
@[simp] theorem o_lenT (xs : List PyData) : lenD (.tuple xs) = some (.int xs.length) := rfl
@[simp] theorem o_listT (xs : List PyData) : listD (.tuple xs) = some (.list xs) := rfl
@[simp] theorem o_listL (xs : List PyData) : listD (.list xs) = some (.list xs) := rfl
@[simp] theorem o_idxL (xs : List PyData) (i : Int) : idxD (.list xs) (.int i) = atI xs i := rfl
@[simp] theorem o_idxT (xs : List PyData) (i : Int) : idxD (.tuple xs) (.int i) = atI xs i := rfl
theorem sizeL : sizeLine = 16777216 := rfl
theorem at_nn {α : Type} {xs : List α} {i : Int} (h0 : 0 ≤ i) (h1 : i < xs.length) : atI xs i = xs[i.toNat]? := by
  unfold atI ixN
  rw [if_pos h0, if_pos h1]
  rfl
@[simp] theorem e_forN (g : XG) (b : XS) (ρ : Nv) : forL g b [] ρ = some (.nx ρ) := rfl
theorem e_forC (g : XG) (b : XS) (d : PyData) (ds : List PyData) (ρ : Nv) : forL g b (d :: ds) ρ = (g d ρ).bind fun ρ1 => (b ρ1).bind fun r => match r with
    | .nx ρ2 => forL g b ds ρ2
    | .ct ρ2 => forL g b ds ρ2
    | .bk ρ2 => some (.nx ρ2)
    | .rt x ρ2 => some (.rt x ρ2)
    | .rn x ρ2 => some (.rn x ρ2) := rfl
theorem forC_nx {g : XG} {b : XS} {d : PyData} {ds : List PyData} {ρ ρ1 ρ2 : Nv} {r : Option Fl} (h1 : g d ρ = some ρ1) (h2 : b ρ1 = some (.nx ρ2)) (h3 : forL g b ds ρ2 = r) : forL g b (d :: ds) ρ = r := by
  rw [e_forC, h1, Option.bind_some, h2, Option.bind_some]
  exact h3
theorem forC_rt {g : XG} {b : XS} {d x : PyData} {ds : List PyData} {ρ ρ1 ρ2 : Nv} (h1 : g d ρ = some ρ1) (h2 : b ρ1 = some (.rt x ρ2)) : forL g b (d :: ds) ρ = some (.rt x ρ2) := by
  rw [e_forC, h1, Option.bind_some, h2, Option.bind_some]
theorem seq_nx {p q : XS} {ρ ρ1 : Nv} {r : Option Fl} (h : p ρ = some (.nx ρ1)) (h2 : q ρ1 = r) : sSeq p q ρ = r := by
  rw [e_seq, h, Option.bind_some]
  exact h2
theorem seq_rt {p q : XS} {ρ ρ1 : Nv} {d : PyData} (h : p ρ = some (.rt d ρ1)) : sSeq p q ρ = some (.rt d ρ1) := by
  rw [e_seq, h, Option.bind_some]
theorem for_of {it : XI} {g : XG} {b : XS} {ρ ρ1 : Nv} {ds : List PyData} {r : Option Fl} (h : it ρ = some (ds, ρ1)) (h2 : forL g b ds ρ1 = r) : sFor it g b ρ = r := by
  rw [e_for, h, Option.bind_some]
  exact h2
theorem run_rt {n : Nat} {body : XS} {es ρ : List EV} {d : PyData} (h : body (es ++ List.replicate (n - es.length) .un) = some (.rt d ρ)) : runF n body es = some (.d d, finA es ρ) := by
  rw [e_run, h]
/-- ranges (not by simp: the kernel is slow at the bounds) -/
theorem e_rngN {f : XE} {ρ ρ1 : Nv} {n : Nat} (hf : f ρ = some (.int n, ρ1)) (h : n < 1000000) : iRng f ρ = some ((List.range n).map fun (j : Nat) => PyData.int j, ρ1) := by
  have e : rngD 0 n = (List.range n).map fun (j : Nat) => PyData.int j := by unfold rngD; simp
  unfold iRng
  rw [hf, Option.bind_some]
  refine (if_pos ⟨by omega, by omega⟩).trans ?_
  rw [Int.toNat_natCast, e]
end DL
set_option maxRecDepth 100000
set_option maxHeartbeats 4000000
namespace KN
open PySem PySem.Spec PyProof.Rows L2 DL NK

def tUpdN (P : Program) (w : World) (K : PySem.W.Frag) (to : TE) (t : TA) : TE := fun σ H Q => to σ H fun x H1 => (∃ c L, x = .ref c ∧ (H1 c = some (KnO P w c L) ∨ H1 c = some (.dT []))) ∧ t σ H1 fun xs H2 => rUpdN P w K x xs H2 Q
theorem pe_updN {X : Cx} {o e : Expr} {es : List Expr} {to : TE} {t : TA} {apos cpos : Pos} (hc : X.calm = true) (hu : X.A.units + 16 < cLine) (ho : PE X o to) (ha : PA X (e :: es) t)
    (hbase : attributeBase o "update" X.env (eval o X.env) = eval o X.env := by rfl)
    (hfew : ((backTo cpos (starEach (e :: es) X.env)).all (fun x => !x.1) && (backToKw cpos (keywordEach [] X.env)).all (fun x => x.1.isSome)
      && decide ((e :: es).length + ([] : List Keyword).length + (if ([] : List Keyword).isEmpty then 0 else 1) < 30)) = true := by rfl)
    (hline : (apos.endLine == cpos.line) = true := by rfl) (hs : starEach (e :: es) X.env = (false, eval e X.env) :: starEach es X.env := by rfl) (hplain : (backTo cpos (starEach es X.env)).any (·.1) = false := by rfl) :
    PE X (.Call (.Attribute o "update" apos) (e :: es) [] cpos) (tUpdN X.prog X.w X.K to t) := by
  refine ⟨fun pins s σ H Q I h => ?_⟩
  refine wpAny_Call_method_late hbase hfew hline rfl (thn (ho.run pins s σ H _ I h) fun v s1 ⟨x, H1, I1, r1, ⟨c, L, ex, hH⟩, q1⟩ => ?_)
  subst ex
  cases r1
  have ex : ∃ ob, s1.heap.get? c = some ob ∧ ob.ExactDict := by
    rcases hH with e | e
    · obtain ⟨⟨_, ob, _, _, e1, e2, _⟩, _⟩ := I1.hok c _ e
      exact ⟨ob, e1, e2⟩
    · obtain ⟨_, _, _, _, ob, _, _, e1, e2, _⟩ := I1.hok c _ e
      exact ⟨ob, e1, e2⟩
  obtain ⟨ob, e1, e2⟩ := ex
  refine ⟨"dict", "dict.update", F.plainAttrs_dict, F.slot_dict_update, F.type_dict_update, ⟨ob, e1, e2.1⟩, fun a ea => ?_, ?_⟩
  · cases ea
    exact ⟨ob, e1, e2.2.1⟩
  have hA := ha.run cpos pins s1 σ H1 _ I1 q1
  rw [hs] at hA ⊢
  refine Calls.callWith_builtin (by show (false || (backTo cpos (starEach es X.env)).any (·.1)) = false; rw [hplain] <;> rfl) (Calls.evalArgs_plain ?_)
  exact thn hA fun us s2 ⟨vs, H2, I2, r2, q2⟩ => mt_updN hc hu pins s2 σ H2 (.ref c) vs (.ref c) us Q I2 rfl r2 q2

structure FnT (P : Program) (w : World) (K : PySem.W.Frag) (mg : Str → Option Value) (base : Heap) (k : Nat) (f : Addr) (fd : FuncData) (ps : List Str) (sp : List V → Hp → VK → Prop) : Prop where
  run : ∀ (A : Around) (outer : List Env) (s : Shared) (H : Hp) (args : Args) (us : List Value) (vs : List V) (Q : VK), Room k A → A.guards = some [] → Env0 P w K mg base A outer s H → BindsTo s fd args (ps.zip us) → Vals vs us →
    vs.length = ps.length → sp vs H Q → codeAny (model P w) A (.call (.ref f) args) (CR CX0 outer P w H s Q E0) s
section
variable {P : Program} {w : World} {K : PySem.W.Frag} {mg : Str → Option Value} {base : Heap}
theorem fn_bodyT {x qual : Str} {st : Stmt} {f : Addr} {fd : FuncData} {N ps : List Str} {k : Nat} {sp : List V → Hp → VK → Prop} (F : Fun K x qual st f fd) (S : FnScope N ps (defScope st))
    (hb : ∀ (cdv : Value) (A : Around) (outer : List Env) (s : Shared) (H : Hp), Room k (A.deeper (envOfC qual (defScope st) s.heap.objs.size f cdv)) → A.guards = some [] →
      ∃ t, PSs (cxOf CX0 P w K mg base N qual (defScope st) f cdv A outer s H E0).nox (defBody st) t ∧ ∀ (vs : List V) (Q : VK), vs.length = ps.length → sp vs H Q → t { nx := fun _ H' => Q .non H', rt := Q } (L2.start N vs) H) : FnT P w K mg base (k + 1) f fd ps sp := by
  obtain ⟨oc, od, kV, doc, pm, an, cdv, ct, osl, rfl, lk, hcd⟩ := F.ex
  refine ⟨fun A outer s H args us vs Q room hG e0 bnd rv hl hsp => ?_⟩
  have kin : K.In s.heap := e0.mod.kin.keeps fun b o q => (e0.bs b o q).1
  have nolim : s.heap.NoLimit := e0.mod.nolimit.keeps fun b o q => (e0.bs b o q).1
  have kinds : ∀ y ∈ ps.zip us, (defScope st).names.lookup y.1 = some .local ∨ ((defScope st).names.lookup y.1 = some .cell ∧ ((cellsFrom (s.heap.objs.size + 1) (defScope st).names []).lookup y.1).isSome = true) := by
    rintro ⟨n, v⟩ hy
    cases S.par n (List.of_mem_zip hy).1 with
    | inl q => exact .inl q
    | inr q => exact .inr ⟨q, PySem.W.cellsFrom_some _ _ _ (.inl q)⟩
  obtain ⟨t, pt, mt⟩ := hb cdv A outer s H (room.deeper _) hG
  have fin : ∀ {σ' : L2.St} {H' : Hp} {v : V} {u : Value} {s' : Shared}, L2.Inv (cxOf CX0 P w K mg base N qual (defScope st) f cdv A outer s H E0) [] σ' H' s' → RelV v u → Q v H' → CE outer P w H s Q u s' :=
    fun {σ' H' v u s'} J ru q => ⟨v, H', J.os, J.bare, J.base, J.hok, ru, q⟩
  have want : t { nx := fun _ H' => Q .non H', rt := Q } (L2.start N vs) H := mt vs Q hl hsp
  refine codeAny_call_function room.depth (kin _ _ lk) rfl S.co S.gen rfl (PySem.W.codeRec_of kin hcd) (bnd _ _ _ _ ?_)
  refine wpAny_newFunctionEnv_cells S.kind kinds fun env he s1 xin => ?_
  subst he
  refine ⟨nolim.keeps xin.toInCall.keep, codeAny_func ?_⟩
  have I : L2.Inv (cxOf CX0 P w K mg base N qual (defScope st) f cdv A outer s H E0) [] (L2.start N vs) H s1 := inv_start S room.hd e0 hl rv xin
  refine wpAny_mono (pt.nox.run [] s1 (L2.start N vs) H _ I want) (fun fl s' hs => ?_) fun _ _ q => q
  match fl, hs with
  | .ret u, ⟨v, σ', H', J, ru, q⟩ => exact fin J ru q
  | .next, ⟨σ', H', J, q⟩ => exact fin (v := V.non) (u := Value.none) J rfl q
  | .brk, ⟨_, _, _, q⟩ => exact q.elim
  | .cont, ⟨_, _, _, q⟩ => exact q.elim
end
section
variable {X : Cx} {k : Nat} {f : Addr} {fd : FuncData} {ps : List Str} {x y : Str} {p pos pos2 : Pos} {e : Expr}
theorem run_t {sp : List V → Hp → VK → Prop} {pins : List (Addr × Obj)} {σ : L2.St} {H : Hp} {s : Shared} {Q : VK} {us : List Value} {vs : List V} (F : FnT X.prog X.w X.K X.mg X.base k f fd ps sp) (hr : Room k X.A) (hG : X.A.guards = some []) (hb : Binds X.K fd ps [])
    (I : L2.Inv X pins σ H s) (rv : Vals vs us) (hl : vs.length = ps.length) (h : sp vs H Q) : wpAny (model X.prog X.w) X.A (call (.ref f) us) (EP X pins σ Q) X.xe s := by
  have hb' := hb s us I.kIn (by rw [List.append_nil, ← rv.length]; exact hl)
  rw [List.append_nil] at hb'
  refine wpAny_call (codeAny_mono (F.run X.A X.stack s H ⟨us, []⟩ us vs Q hr hG I.env0 hb' rv hl h) fun out s' hq => ?_)
  match out, hq with
  | .ok (.ret u), hq => exact I.after hq
  | .error e, hq => exact hq.elim
  | .ok .next, hq => exact hq.elim
  | .ok .brk, hq => exact hq.elim
  | .ok .cont, hq => exact hq.elim
/-- the promise: from a list as a datum to a dict with as many keys as m tells -/
def spL (P : Program) (w : World) (K : PySem.W.Frag) (m : List PyData → Option (List PyData)) (vs : List V) (H : Hp) (Q : VK) : Prop := ∃ (Z Fr : Hp) (ino : Nat → Option Addr) (xs cs : List PyData), m xs = some cs ∧ Rl K ⟨Z, H, Fr, ino⟩ Z (vs.map some) H [.d (.list xs)] ∧
  ∀ b o L H' Z', Same Z Z' → Rl K ⟨Z, H, Fr, ino⟩ Z' (vs.map some) H' [.d (.list xs)] → H' b = some (.frz o (KnO P w b L)) → L.length = cs.length → Q (.ref b) H'
def xLenT (m : List PyData → Option (List PyData)) (f : XE) : XE := fun ρ => (f ρ).bind fun p => match p.1 with
  | .list xs => (m xs).bind fun cs => if cs.length ≤ 100000 then some (.int cs.length, p.2) else none
  | _ => none
theorem ed_lenT {m : List PyData → Option (List PyData)} {g : XE} (F : FnT X.prog X.w X.K X.mg X.base k f fd ps (spL X.prog X.w X.K m)) (hr : Room k X.A) (hG : X.A.guards = some []) (hm : X.mg x = some (.ref f)) (hk : PySem.W.keepIn X.K (.ref f) = true) (hb : Binds X.K fd ps []) (hps : ps.length = 1) (ha : ED X e g) (hl : X.mg "len" = none)
    (hg : Gl X x := by rfl) (hdb : (x == ("__debug__" : Str)) = false := by decide) (hs : starEach [e] X.env = (false, eval e X.env) :: starEach [] X.env := by rfl) (hpl : (backTo pos (starEach [] X.env)).any (·.1) = false := by rfl)
    (hg2 : Gl X "len" := by rfl) (hs2 : starEach [(.Call (.Name x p) [e] [] pos : Expr)] X.env = (false, eval (.Call (.Name x p) [e] [] pos) X.env) :: starEach [] X.env := by rfl) (hpl2 : (backTo pos2 (starEach [] X.env)).any (·.1) = false := by rfl) {p2 : Pos} :
    ED X (.Call (.Name "len" p2) [.Call (.Name x p) [e] [] pos] [] pos2) (xLenT m g) := by
  obtain ⟨t, pt, mt⟩ := ha
  have pcall : PE X (.Call (.Name x p) [e] [] pos) (fun σ H Q => tCons t tNil σ H fun vs H1 => vs.length = ps.length ∧ spL X.prog X.w X.K m vs H1 Q) := ⟨fun pins s σ H Q I h => by
    refine wpAny_Call_Name_kw (ld_glob I hg hm ?_ hdb)
    refine PySem.W.callWith_K (h₀ := X.base) I.ok.mod.kin hk (thn ((pa_cons pt pa_nil hs).run pos pins s σ H _ I h) fun us s1 ⟨vs, H1, I1, rv, hl, q⟩ => ⟨I1.kIn, ?_⟩) hs hpl
    exact run_t F hr hG hb I1 rv hl q⟩
  refine ⟨_, pe_callB (p := p2) (pos := pos2) cr_lenN hg2 hl (show bootBuiltins "len" = some (.builtin "len") by decide +kernel) (pa_cons pcall pa_nil hs2) (by decide) (by decide) hs2 hpl2, fun Φ Z σ H ρ d ρ' R q Q k => ?_⟩
  unfold xLenT at q
  cases e1 : g ρ with
  | none => rw [e1] at q; cases q
  | some a =>
    rw [e1, Option.bind_some] at q
    split at q
    · rename_i xs ea
      cases e2 : m xs with
      | none => rw [e2] at q; cases q
      | some cs =>
        rw [e2, Option.bind_some] at q
        split at q
        · rename_i hz
          cases q
          refine mt Φ Z σ H ρ a.1 a.2 R e1 _ fun v H1 Z1 z1 R1 r1 => ?_
          rw [ea] at r1
          refine ⟨by rw [hps]; rfl, ?_⟩
          have ra : AvA X.K Z1 σ [v] [.v (.list xs)] := .v r1 .nil
          have en : entN [.v (.list xs)] a.2 = some [.d (.list xs)] := rfl
          have nd : (slotsOf [AV.v (.list xs)]).Nodup := List.nodup_nil
          exact ⟨Z1, _, _, xs, cs, e2, call_in R1 ra en nd, fun b o L H2 Z2 z2 Rc hb2 hL =>
            ⟨b, o, L, rfl, hb2, by rw [hL, sizeLine_eq]; omega, by rw [hL]; exact k _ H2 Z2 (z1.trans z2) (call_out R1 en nd z2 Rc rfl).1 (.int _)⟩⟩
        · cases q
    · cases q
end
end KN
set_option maxRecDepth 100000
set_option maxHeartbeats 4000000
namespace KN
open PySem PySem.Spec PyProof.Rows L2 DL NK

theorem lc_at {K : PySem.W.Frag} {Φ : Fx} {Z1 : Hp} {σ : L2.St} {H1 : Hp} {ρ1 : Nv} {ds : List PyData} {J : It} {g : TG} {tt : TT} {te : TE} {gf : XG} {c : XT} {e : XE} {vs : List Nat} {s : List PyData × Nv} {Q : VK} (mg : MG K g gf vs) (mc : MT K tt c) (me : ME K te e)
    (R1 : Rl K Φ Z1 σ H1 ρ1) (y : Yld K Z1 J ds) (hu : unAt ρ1 vs = true) (e2 : lcL gf c e vs ds ρ1 [] = some s) (k : ∀ a H' Z', Same Z1 Z' → Rl K Φ Z' σ H' s.2 → New K Φ Z' σ H' s.2 a (.ol s.1) → Q (.ref a) H') :
    tLc (fun _ H' R => R J H') g tt te vs σ H1 Q := by
  intro D hD
  have frD : Φ.Fr D = none := R1.fr.free hD
  have f0D : Φ.F0 D = none := R1.f0 D (R1.dom D hD)
  have zD : ∀ {o Z' σ' H' ρ'}, (∀ xs, o ≠ .tup xs) → Rl K (Φ.keep D o) Z' σ' H' ρ' → Z' D = none := fun {o Z' σ' H' ρ'} no R' => by
    cases hz : Z' D with
    | none => rfl
    | some u =>
      rcases R'.zN D u hz (fun xs e => by have h1 := R'.zH D u hz; have h2 := R'.fr D o upd_same; rw [h1] at h2; cases h2; exact no xs e) with h | ⟨_, h⟩
      · rw [show (Φ.keep D o).F0 D = Φ.F0 D from rfl, f0D] at h
        cases h
      · have h : upd Φ.Fr D o D = none := h
        rw [upd_same] at h
        cases h
  have start : Rl K (Φ.keep D (.lst [])) Z1 σ (upd H1 D (.lst [])) ρ1 := by
    have R2 := R1.laid (o := .lst []) hD
    refine R2.keep upd_same (R1.zH.free hD) (fun i hi => ?_) fun a u e => ne_of_none (R1.zH a u e) hD
    obtain ⟨u, hu, _⟩ := R1.at_some hi
    rw [hD] at hu
    cases hu
  refine ⟨fun i m H' => m = ds.length - i ∧ i ≤ ds.length ∧ ∃ Z' ρ' acc us, Same Z1 Z' ∧ Rl K (Φ.keep D (.lst us)) Z' σ H' ρ' ∧ unAt ρ' vs = true ∧ RpA K Z' us acc ∧ lcL gf c e vs (ds.drop i) ρ' acc = some s,
    ⟨ds.length, by simp, Nat.zero_le _, Z1, ρ1, [], [], Same.refl Z1, start, hu, .nil, by simpa using e2⟩, ?_⟩
  rintro i m H' ⟨rfl, hi, Z', ρ', acc, us, z', R', hu', ra, q'⟩
  by_cases hlt : i < ds.length
  · refine .inr ⟨y.go i H' (z'.trans R'.zH) hlt, fun H2 => i + 1 ≤ ds.length ∧ ∃ Z' ρ' acc us, Same Z1 Z' ∧ Rl K (Φ.keep D (.lst us)) Z' σ H2 ρ' ∧ unAt ρ' vs = true ∧ RpA K Z' us acc ∧ lcL gf c e vs (ds.drop (i + 1)) ρ' acc = some s,
      fun H2 ⟨h1, h2⟩ => ⟨ds.length - (i + 1), by omega, rfl, h1, h2⟩, fun x H2 yl => ?_⟩
    obtain ⟨Z3, d, z3, R3, hd, rd⟩ := y.item i H' x H2 _ σ ρ' Z' hlt z' R' yl
    have ed : ds.drop i = d :: ds.drop (i + 1) := by
      rw [List.drop_eq_getElem_cons hlt]
      congr 1
      rw [List.getElem?_eq_getElem hlt] at hd
      exact Option.some.inj hd
    rw [ed] at q'
    unfold lcL at q'
    cases e3 : gf d ρ' with
    | none => rw [e3] at q'; cases q'
    | some ρ2 =>
      rw [e3, Option.bind_some] at q'
      have R3w : Rl K (Φ.keep D (.lst us)) Z3 (wipe σ vs) H2 ρ' := reslot_un R3 hu' (wipe_length σ vs) fun j hj => wipe_ne hj
      refine mg _ Z3 (wipe σ vs) H2 ρ' x d ρ2 R3w rd e3 _ fun σ3 R4 l3 s3 => ⟨?_, ?_⟩
      · exact wipe_eq (l3.trans (wipe_length σ vs)) fun j hj => (s3 j hj).trans (wipe_ne hj)
      have l3' : σ3.length = σ.length := l3.trans (wipe_length σ vs)
      have s3' : ∀ j, j ∉ vs → σ[j]? = σ3[j]? := fun j hj => ((s3 j hj).trans (wipe_ne hj)).symm
      cases e4 : c ρ2 with
      | none => rw [e4] at q'; cases q'
      | some p =>
        rw [e4, Option.bind_some] at q'
        refine mc _ Z3 σ3 H2 ρ2 p.1 p.2 R4 e4 _ fun H5 Z5 z5 R5 => ?_
        by_cases hp : p.1 = true
        · rw [if_pos hp] at q' ⊢
          cases e5 : e p.2 with
          | none => rw [e5] at q'; cases q'
          | some w =>
            rw [e5, Option.bind_some] at q'
            split at q'
            · rename_i hal
              cases e6 : wipeN w.2 vs with
              | none => rw [e6] at q'; cases q'
              | some ρ4 =>
                rw [e6, Option.bind_some] at q'
                refine me _ Z5 σ3 H5 p.2 w.1 w.2 R5 e5 _ fun v H6 Z6 z6 R6 r6 => ?_
                obtain ⟨_, hDl, _⟩ := R6.unkeep frD
                have ra6 : RpA K Z6 us acc := ((ra.mono z3).mono z5).mono z6
                refine ⟨us, hDl, by rw [ra.length]; exact hal, hlt, Z6, ρ4, acc ++ [w.1], us ++ [v], ((z'.trans z3).trans z5).trans z6, ?_, wipeN_unAt e6, ra6.append (.cons r6 .nil), q'⟩
                exact reslot_un (wipeN_rl (R6.rekeep frD (zD (fun _ e => by cases e) R6)) e6) (wipeN_unAt e6) l3'.symm s3'
            · cases q'
        · rw [if_neg hp] at q' ⊢
          cases e6 : wipeN p.2 vs with
          | none => rw [e6] at q'; cases q'
          | some ρ4 =>
            rw [e6, Option.bind_some] at q'
            refine ⟨hlt, Z5, ρ4, acc, us, (z'.trans z3).trans z5, ?_, wipeN_unAt e6, (ra.mono z3).mono z5, q'⟩
            exact reslot_un (wipeN_rl R5 e6) (wipeN_unAt e6) l3'.symm s3'
  · have ei : i = ds.length := by omega
    subst ei
    rw [List.drop_length] at q'
    cases q'
    obtain ⟨R7, hDl, hn⟩ := R'.unkeep frD
    exact .inl ⟨y.stop _ H' (z'.trans R'.zH) rfl, k D H' Z' z' R7 ⟨⟨us, hDl, ra⟩, zD (fun _ e => by cases e) R', frD, R1.dom D hD, hn⟩⟩

theorem keep_z {K : PySem.W.Frag} {Φ : Fx} {D : Addr} {o : HO} {Z : Hp} {σ : L2.St} {H : Hp} {ρ : Nv} (R : Rl K (Φ.keep D o) Z σ H ρ) (no : ∀ xs, o ≠ .tup xs) (h0 : Φ.H0 D = none) : Z D = none := by
  cases hz : Z D with
  | none => rfl
  | some u =>
    rcases R.zN D u hz (fun xs e => by have h1 := R.zH D u hz; have h2 := R.fr D o upd_same; rw [h1] at h2; cases h2; exact no xs e) with h | ⟨_, h⟩
    · rw [R.f0 D h0] at h
      cases h
    · have h : upd Φ.Fr D o D = none := h
      rw [upd_same] at h
      cases h
theorem keep_new {K : PySem.W.Frag} {Φ : Fx} {D : Addr} {o : HO} {Z : Hp} {σ : L2.St} {H : Hp} {ρ : Nv} (R : Rl K Φ Z σ H ρ) (hD : H D = none) : Rl K (Φ.keep D o) Z σ (upd H D o) ρ := by
  have R2 := R.laid (o := o) hD
  refine R2.keep upd_same (R.zH.free hD) (fun i hi => ?_) fun a u e => ne_of_none (R.zH a u e) hD
  obtain ⟨u, hu, _⟩ := R.at_some hi
  rw [hD] at hu
  cases hu
/-- a kept object is locked and frozen -/
theorem keep_frz {K : PySem.W.Frag} {Φ : Fx} {D : Addr} {o u : HO} {Z : Hp} {σ : L2.St} {H : Hp} {ρ : Nv} (R : Rl K (Φ.keep D o) Z σ H ρ) (no : ∀ xs, o ≠ .tup xs) (h0 : Φ.H0 D = none) (hf : Φ.Fr D = none) : Same Z (upd Z D u) ∧ Rl K Φ (upd Z D u) σ (upd H D u) ρ := by
  have hz := keep_z R no h0
  obtain ⟨R2, hD, hn⟩ := (R.rekeep (u := u) hf hz).unkeep hf
  exact R2.freeze hD hz h0 hf hn

def lookF (fnd : List (Int × List PyData)) (i : Int) : Option (List PyData) := (fnd.find? fun p => decide (p.1 = i)).map (·.2)
def FnOk (P : Program) (w : World) (K : PySem.W.Frag) (Z : Hp) : List (Key × V) → List (Int × List PyData) → Prop := Paired fun p q => p.1 = Sum.inl q.1 ∧ ∃ b o L, p.2 = .ref b ∧ Z b = some (.frz o (KnO P w b L)) ∧ RwOk K Z L q.2
section
variable {P : Program} {w : World} {K : PySem.W.Frag}
theorem FnOk.mono {Z Z' : Hp} (z : Same Z Z') {vs : List (Key × V)} {fnd : List (Int × List PyData)} (h : FnOk P w K Z vs fnd) : FnOk P w K Z' vs fnd := Paired.mapP h fun _ _ ⟨q1, b, o, L, q2, q3, q4⟩ => ⟨q1, b, o, L, q2, z _ _ q3, q4.mono z⟩
theorem FnOk.get {Z : Hp} {i : Int} {cs : List PyData} : ∀ {vs : List (Key × V)} {fnd : List (Int × List PyData)}, FnOk P w K Z vs fnd → lookF fnd i = some cs → ∃ b o L, valV vs (Sum.inl i) = some (.ref b) ∧ Z b = some (.frz o (KnO P w b L)) ∧ RwOk K Z L cs
  | _, _, .nil, e => by simp [lookF] at e
  | _, _, .cons (a := p) (b := q) (l₁ := vs) (l₂ := fnd) h t, e => by
    obtain ⟨h1, b, o, L, h2, h3, h4⟩ := h
    by_cases hq : q.1 = i
    · have : lookF (q :: fnd) i = some q.2 := by simp [lookF, hq]
      rw [this] at e
      cases e
      exact ⟨b, o, L, by rw [valV_pos (by rw [h1, hq]), h2], h3, h4⟩
    · have : lookF (q :: fnd) i = lookF fnd i := by simp [lookF, hq]
      rw [this] at e
      rw [valV_neg (by rw [h1]; intro z; exact hq (Sum.inl.inj z))]
      exact FnOk.get t e
theorem FnOk.new {Z : Hp} {i : Int} : ∀ {vs : List (Key × V)} {fnd : List (Int × List PyData)}, FnOk P w K Z vs fnd → lookF fnd i = none → (Sum.inl i : Key) ∉ vs.map (·.1)
  | _, _, .nil, e => by simp
  | _, _, .cons (a := p) (b := q) (l₁ := vs) (l₂ := fnd) h t, e => by
    obtain ⟨h1, _⟩ := h
    by_cases hq : q.1 = i
    · have : lookF (q :: fnd) i = some q.2 := by simp [lookF, hq]
      rw [this] at e
      cases e
    · have : lookF (q :: fnd) i = lookF fnd i := by simp [lookF, hq]
      rw [this] at e
      rw [List.map_cons, List.mem_cons, not_or]
      refine ⟨fun z => ?_, FnOk.new t e⟩
      rw [h1] at z
      exact hq (Sum.inl.inj z).symm
theorem FnOk.app {Z : Hp} {p : Key × V} {q : Int × List PyData} (h : p.1 = Sum.inl q.1 ∧ ∃ b o L, p.2 = .ref b ∧ Z b = some (.frz o (KnO P w b L)) ∧ RwOk K Z L q.2) : ∀ {vs : List (Key × V)} {fnd : List (Int × List PyData)}, FnOk P w K Z vs fnd → FnOk P w K Z (vs ++ [p]) (fnd ++ [q])
  | _, _, .nil => .cons h .nil
  | _, _, .cons h' t => .cons h' (FnOk.app h t)
end

def thenL (fm : XF) (it : PyData) : List PyData → Option (List PyData)
  | [] => some []
  | o :: os => match fm [.d o, .d it] with
    | some (.d c, [_, _]) => (thenL fm it os).map (c :: ·)
    | _ => none
def acK (fm : XF) (xs : List PyData) (fnd : List (Int × List PyData)) (mask : Nat) : List Nat → List PyData → Option (List PyData)
  | [], cs => some cs
  | k :: ks, cs => if mask / 2 ^ k % 2 = 1 then (lookF fnd ((mask : Int) - 2 ^ k)).bind fun own => (xs[k]?).bind fun it => (thenL fm it own).bind fun ns =>
      if ns.all okK = true ∧ cs.length ≤ 100000 ∧ ns.length ≤ 100000 then acK fm xs fnd mask ks (ns.foldl insK cs) else none
    else acK fm xs fnd mask ks cs
def acM (fm : XF) (xs : List PyData) : List Nat → List (Int × List PyData) → Option (List (Int × List PyData))
  | [], fnd => some fnd
  | m :: ms, fnd => (acK fm xs fnd m (List.range xs.length) []).bind fun cs => if cs.isEmpty = false ∧ lookF fnd m = none ∧ fnd.length ≤ 100000 then acM fm xs ms (fnd ++ [((m : Int), cs)]) else none
def idC : PyData := .tuple [.tuple [.int 1, .int 1], .tuple [.int 0, .int 1], .none, .none]
def allCh (fm : XF) (xs : List PyData) : Option (List PyData) := if xs.length ≤ 5 then (acM fm xs ((List.range (2 ^ xs.length - 1)).map (· + 1)) [(0, [idC])]).bind fun fnd => lookF fnd (2 ^ xs.length - 1) else none
end KN
set_option maxRecDepth 100000
set_option maxHeartbeats 4000000
namespace KN
open PySem PySem.Spec PyProof.Rows L2 DL NK

def bitsV : List PyData := [.int 1, .int 2, .int 4, .int 8, .int 16, .int 32]
def bitsE : XE := xLst (aCons (xC (.int 1)) (aCons (xC (.int 2)) (aCons (xC (.int 4)) (aCons (xC (.int 8)) (aCons (xC (.int 16)) (aCons (xC (.int 32)) (aNil)))))))
def idE : XE := xTup (aCons (xTup (aCons (xC (.int 1)) (aCons (xC (.int 1)) (aNil)))) (aCons (xTup (aCons (xC (.int 0)) (aCons (xC (.int 1)) (aNil)))) (aCons (xC .none) (aCons (xC .none) (aNil)))))
def lenE : XE := x1 lenY (xVar 0)
def boundE : XE := x2 idxD (xVar 2) lenE
def testE : XT := tst (x2 eqD (x2 modD (x2 fdivD (xVar 3) (x2 idxD (xVar 2) (xVar 5))) (xC (.int 2))) (xC (.int 1)))
def ixE : XE := x2 subD (xVar 3) (x2 idxD (xVar 2) (xVar 5))
def lastE : XE := x2 subD boundE (xC (.int 1))
def pairE (fm : XF) : XE := xTup (aCons (xCall (arity 2 fm) (aCons (xVar 6) (aCons (x2 idxD (xVar 0) (xVar 5)) (aNil)))) (aCons (xC (.bool true)) (aNil)))
/-- the slots: _law_items, _law_found, _law_bits, _law_mask, _law_chains, _law_k, _law_own -/
abbrev rh (xs : List PyData) (m k : EV) : Nv := [.d (.list xs), .un, .d (.list bitsV), m, .un, k, .un]
theorem at_bits {k : Nat} (h : k ≤ 5) : atI bitsV (k : Int) = some (.int (2 ^ k)) := by
  have : k = 0 ∨ k = 1 ∨ k = 2 ∨ k = 3 ∨ k = 4 ∨ k = 5 := by omega
  rcases this with rfl | rfl | rfl | rfl | rfl | rfl <;> rfl
theorem le5 {k : Nat} (h : k ≤ 5) : k = 0 ∨ k = 1 ∨ k = 2 ∨ k = 3 ∨ k = 4 ∨ k = 5 := by omega
theorem e_len (xs : List PyData) (m k : EV) : lenE (rh xs m k) = some (.int xs.length, rh xs m k) := by simp [lenE, lenY]
theorem e_bound {xs : List PyData} (h : xs.length ≤ 5) (m k : EV) : boundE (rh xs m k) = some (.int (2 ^ xs.length), rh xs m k) := by
  simp [boundE, lenE, lenY, at_bits h]
theorem e_ix {xs : List PyData} {k : Nat} (h : k ≤ 5) (m : Int) : ixE (rh xs (.d (.int m)) (.d (.int k))) = some (.int (m - 2 ^ k), rh xs (.d (.int m)) (.d (.int k))) := by
  simp [ixE, at_bits h]
theorem e_last {xs : List PyData} (h : xs.length ≤ 5) (m k : EV) : lastE (rh xs m k) = some (.int (2 ^ xs.length - 1), rh xs m k) := by
  simp [lastE, e_bound h]
theorem e_test {xs : List PyData} {k : Nat} (h : k ≤ 5) (m : Nat) : testE (rh xs (.d (.int m)) (.d (.int k))) = some (decide (m / 2 ^ k % 2 = 1), rh xs (.d (.int m)) (.d (.int k))) := by
  rcases le5 h with rfl | rfl | rfl | rfl | rfl | rfl
  all_goals
    have q : ∀ i j : Int, eqD (.int i) (.int j) = some (.bool (i == j)) := fun _ _ => rfl
    have f1 : fdivD (.int m) (.int 1) = some (.int ((m : Int) / 1)) := o_fdiv (by decide) (by decide)
    have f2 : fdivD (.int m) (.int 2) = some (.int ((m : Int) / 2)) := o_fdiv (by decide) (by decide)
    have f3 : fdivD (.int m) (.int 4) = some (.int ((m : Int) / 4)) := o_fdiv (by decide) (by decide)
    have f4 : fdivD (.int m) (.int 8) = some (.int ((m : Int) / 8)) := o_fdiv (by decide) (by decide)
    have f5 : fdivD (.int m) (.int 16) = some (.int ((m : Int) / 16)) := o_fdiv (by decide) (by decide)
    have f6 : fdivD (.int m) (.int 32) = some (.int ((m : Int) / 32)) := o_fdiv (by decide) (by decide)
    have g : ∀ i : Int, modD (.int i) (.int 2) = some (.int (i % 2)) := fun i => o_mod (by decide)
    simp [testE, bitsV, atI, ixN, f1, f2, f3, f4, f5, f6, g, q]
    apply decide_eq_decide.mpr
    omega
theorem e_bits (ρ : Nv) : bitsE ρ = some (.list bitsV, ρ) := by simp [bitsE, bitsV, sizeL]
theorem e_id (ρ : Nv) : idE ρ = some (idC, ρ) := by simp [idE, idC, sizeL]
theorem e_pair {fm : XF} {xs : List PyData} {k : Nat} {it o c : PyData} {e1 e2 : EV} (m : EV) (hk : xs[k]? = some it) (h : fm [.d o, .d it] = some (.d c, [e1, e2])) : pairE fm [.d (.list xs), .un, .d (.list bitsV), m, .un, .d (.int k), .d o] = some (pairD c, [.d (.list xs), .un, .d (.list bitsV), m, .un, .d (.int k), .d o]) := by
  have hl : k < xs.length := (List.getElem?_eq_some_iff.mp hk).1
  have e : atI xs (k : Int) = some it := by rw [at_nn (by omega) (by omega)]; simpa using hk
  simp [pairE, e, h, pairD, sizeL]
theorem lc_then {fm : XF} {xs : List PyData} {k : Nat} {it : PyData} (m : EV) (hk : xs[k]? = some it) : ∀ {own ns acc : List PyData}, thenL fm it own = some ns → acc.length + ns.length ≤ 100000 →
    lcL (gNm 6) cYes (pairE fm) [6] own (rh xs m (.d (.int k))) acc = some (acc ++ ns.map pairD, rh xs m (.d (.int k)))
  | [], _, acc, h, _ => by cases h; simp [lcL]
  | o :: os, ns, acc, h, hl => by
    unfold thenL at h
    split at h
    · rename_i c e1 e2 h1
      cases h2 : thenL fm it os with
      | none => rw [h2] at h; cases h
      | some ns' =>
        rw [h2] at h
        cases h
        have hl' : acc.length + (ns'.length + 1) ≤ 100000 := by simpa using hl
        unfold lcL
        have hg : gNm 6 o (rh xs m (.d (.int k))) = some [.d (.list xs), .un, .d (.list bitsV), m, .un, .d (.int k), .d o] := by simp
        rw [hg, Option.bind_some]
        simp only [cYes, Option.bind_some, if_true]
        rw [e_pair m hk h1, Option.bind_some]
        rw [if_pos (by rw [sizeL]; omega)]
        have hw : wipeN [.d (.list xs), .un, .d (.list bitsV), m, .un, .d (.int k), .d o] [6] = some (rh xs m (.d (.int k))) := by simp [wipeN]
        rw [hw, Option.bind_some, lc_then m hk h2 (by simp; omega)]
        simp
    · cases h
end KN
set_option maxRecDepth 100000
set_option maxHeartbeats 4000000
namespace KN
open PySem PySem.Spec PyProof.Rows L2 DL NK
section
variable {P : Program} {w : World} {K : PySem.W.Frag} {fm : XF} {xs : List PyData}

def tUp (P : Program) (w : World) (K : PySem.W.Frag) (fm : XF) : TE := tUpdN P w K (tVar 4) (tCons (tLc (iKn P w (tDGet (tVar 1) (tOf K ixE))) (gOf K (gNm 6) [6]) tYes (tOf K (pairE fm)) [6]) tNil)
def tIn (P : Program) (w : World) (K : PySem.W.Frag) (fm : XF) : TS := tFor (iRng1 (tCons (tOf K lenE) tNil)) (gName 5) (tIfS (tOfT K testE) (tDrop (tUp P w K fm)) tNext)
def tRound (P : Program) (w : World) (K : PySem.W.Frag) (fm : XF) : TS := tSeq (tAsg tDNewT (gName 4)) (tSeq (tIn P w K fm) (sDPut (tVar 1) (tVar 3) (tLockF (tVar 4))))

/-- within a round: found at a, chains at c -/
structure InS (P : Program) (w : World) (K : PySem.W.Frag) (xs : List PyData) (Φ : Fx) (a c : Addr) (vs : List (Key × V)) (fnd : List (Int × List PyData)) (m : Int) (Z0 : Hp) (cs : List PyData) (σ : L2.St) (H : Hp) : Prop where
  ex : ∃ (Z : Hp) (u : HO) (L : List Rw) (k : EV), Same Z0 Z ∧ Rl K ((Φ.keep a (.dK vs)).keep c u) Z σ H (rh xs (.d (.int m)) k) ∧ Fs k ∧ (u = KnO P w c L ∨ (L = [] ∧ u = .dT [])) ∧ RwOk K Z L cs ∧ FnOk P w K Z vs fnd ∧ σ[4]? = some (some (.ref c)) ∧ σ[1]? = some (some (.ref a))

theorem yld_kn {Z : Hp} {d : Addr} {o : Obj} {L : List Rw} {cs : List PyData} (h : Z d = some (.frz o (KnO P w d L))) (r : RwOk K Z L cs) : Yld K Z (Itn P w d o L) cs := by
  have hl : L.length = cs.length := Paired.length r
  refine ⟨fun i H z hi => ⟨z _ _ h, by omega⟩, fun i H z hi => ⟨z _ _ h, by omega⟩, fun i H x H' Φ σ ρ Z2 hi z R y => ?_⟩
  obtain ⟨rfl, q, hq, rfl⟩ := y
  obtain ⟨dd, hd, rd, _, _⟩ := paired_get r hq
  exact ⟨Z2, dd, Same.refl Z2, R, hd, rd.mono z⟩

theorem upd_ok {Φ : Fx} {a c : Addr} {vs : List (Key × V)} {fnd : List (Int × List PyData)} {mask : Nat} {Z0 : Hp} {cs own ns : List PyData} {it : PyData} {k : Nat} {σ : L2.St} {H : Hp} {Z : Hp} {u : HO} {L : List Rw} {D : Ends}
    (ac : a ≠ c) (fa : Φ.Fr a = none) (fc : Φ.Fr c = none) (hc0 : Φ.H0 c = none) (z0 : Same Z0 Z) (R : Rl K ((Φ.keep a (.dK vs)).keep c u) Z σ H (rh xs (.d (.int mask)) (.d (.int k)))) (hu : u = KnO P w c L ∨ (L = [] ∧ u = .dT [])) (hL : RwOk K Z L cs) (hF : FnOk P w K Z vs fnd)
    (s4 : σ[4]? = some (some (.ref c))) (s1 : σ[1]? = some (some (.ref a))) (k5 : k ≤ 5) (hown : lookF fnd ((mask : Int) - 2 ^ k) = some own) (hit : xs[k]? = some it) (hns : thenL fm it own = some ns) (ok : ns.all okK = true) (l1 : cs.length ≤ 100000) (l2 : ns.length ≤ 100000)
    (q : ∀ H', InS P w K xs Φ a c vs fnd mask Z0 (ns.foldl insK cs) σ H' → D.nx σ H') : tDrop (tUp P w K fm) D σ H := by
  have fc2 : (Φ.keep a (.dK vs)).Fr c = none := by
    show upd Φ.Fr a _ c = none
    rw [upd_ne (Ne.symm ac)]; exact fc
  have nu : ∀ ys, u ≠ .tup ys := by rcases hu with rfl | ⟨_, rfl⟩ <;> intro ys e <;> cases e
  have atc : ∀ {Z σ H ρ}, Rl K ((Φ.keep a (.dK vs)).keep c u) Z σ H ρ → H c = some u ∧ H a = some (.dK vs) := fun {Z σ H ρ} R => by
    obtain ⟨R2, hc, _⟩ := R.unkeep fc2
    exact ⟨hc, R2.fr a _ upd_same⟩
  refine ⟨_, s4, ⟨c, L, rfl, ?_⟩, ?_⟩
  · rcases hu with rfl | ⟨_, rfl⟩
    · exact .inl (atc R).1
    · exact .inr (atc R).1
  refine ⟨_, s1, _, Z, _, _, _, R, e_ix k5 _, fun v H1 Z1 z1 R1 r1 => ?_⟩
  obtain ⟨b, o, Lb, hv, hb, hLb⟩ := hF.get hown
  cases r1
  refine ⟨a, .ref b, rfl, .inl ⟨vs, .inl ((mask : Int) - 2 ^ k), .inl (atc R1).2, rfl, hv.symm⟩, b, o, Lb, rfl, R1.zH _ _ (z1 _ _ hb), ?_⟩
  have hl := lc_then (fm := fm) (.d (.int mask)) hit (acc := []) hns (by simpa using l2)
  have my : MT K tYes cYes := fun Φ Z σ H ρ d ρ' R q Q k => by cases q; exact k H Z (Same.refl Z) R
  show tLc (fun _ H' R => R (Itn P w b o Lb) H') (gOf K (gNm 6) [6]) tYes (tOf K (pairE fm)) [6] σ H1 (fun x H1 => tNil σ H1 fun xs H2 => rUpdN P w K (V.ref c) (x :: xs) H2 fun x H1 => D.nx σ H1)
  refine lc_at (mg_of (vs := [6])) my me_of R1 (yld_kn (z1 _ _ hb) (hLb.mono z1)) rfl hl fun l H2 Z2 z2 R2 nw => ?_
  obtain ⟨vs2, hl2, rv⟩ := nw.ob
  have rv : RpA K Z2 vs2 (ns.map pairD) := by simpa using rv
  obtain ⟨ts, N, rfl, hN, hT⟩ := pairs_at rv (List.all_eq_true.mp ok)
  have hL2 : RwOk K Z2 L cs := (hL.mono z1).mono z2
  refine ⟨c, l, L, cs, ts, ns, N, rfl, rfl, ?_, hL2.mono R2.zH, hl2, hN.mono R2.zH, Paired.mapP hT fun _ _ q => sqT_mono R2.zH q, ?_, ?_⟩
  · rcases hu with rfl | ⟨e, rfl⟩
    · exact .inl (atc R2).1
    · exact .inr ⟨e, (atc R2).1⟩
  · have e1 : L.length = cs.length := Paired.length hL
    have e2 : N.length = ns.length := Paired.length hN
    rw [sizeLine_eq]; omega
  · refine q _ ⟨Z2, KnO P w c (addR L N), addR L N, .d (.int k), (z0.trans z1).trans z2, ?_, fs_d _, .inl rfl, addR_ok hL2 hN, (hF.mono z1).mono z2, s4, s1⟩
    exact R2.rekeep fc2 (keep_z R2 nu hc0)
end
end KN
set_option maxRecDepth 100000
set_option maxHeartbeats 4000000
namespace KN
open PySem PySem.Spec PyProof.Rows L2 DL NK
section
variable {P : Program} {w : World} {K : PySem.W.Frag} {fm : XF} {xs : List PyData}

theorem put5 {m k : EV} (h : Fs k) (i : Int) : put (rh xs m k) 5 (.int i) = some (rh xs m (.d (.int i))) := by
  simp [put, free_fs h]
theorem put3 {m k : EV} (h : Fs m) (i : Int) : put (rh xs m k) 3 (.int i) = some (rh xs (.d (.int i)) k) := by
  simp [put, free_fs h]
theorem in_ok {Φ : Fx} {a c : Addr} {vs : List (Key × V)} {fnd : List (Int × List PyData)} {mask : Nat} {Z0 : Hp} {fin : List PyData} {σ : L2.St} {H : Hp} {D : Ends}
    (ac : a ≠ c) (fa : Φ.Fr a = none) (fc : Φ.Fr c = none) (hc0 : Φ.H0 c = none) (n5 : xs.length ≤ 5) (S : InS P w K xs Φ a c vs fnd mask Z0 [] σ H) (e : acK fm xs fnd mask (List.range xs.length) [] = some fin)
    (q : ∀ σ' H', InS P w K xs Φ a c vs fnd mask Z0 fin σ' H' → D.nx σ' H') : tIn P w K fm D σ H := by
  obtain ⟨Z, u, L, k, z0, R, hk, hu, hL, hF, s4, s1⟩ := S.ex
  refine ⟨_, Z, _, _, _, R, e_len xs _ _, fun v H1 Z1 z1 R1 r1 => ?_⟩
  cases r1
  refine ⟨(xs.length : Int), rfl, by omega, by omega, ?_⟩
  have en : ((xs.length : Int)).toNat = xs.length := by omega
  rw [en]
  refine for_range (fun i σ H => ∃ cs, InS P w K xs Φ a c vs fnd mask Z0 cs σ H ∧ acK fm xs fnd mask ((List.range xs.length).drop i) cs = some fin) ⟨[], ⟨Z1, u, L, k, z0.trans z1, R1, hk, hu, hL.mono z1, hF.mono z1, s4, s1⟩, by simpa using e⟩ (fun i σ H hi ⟨cs, S, e⟩ => ?_) fun σ H ⟨cs, S, e⟩ => ?_
  · obtain ⟨Z, u, L, k, z0, R, hk, hu, hL, hF, s4, s1⟩ := S.ex
    have ed : (List.range xs.length).drop i = i :: (List.range xs.length).drop (i + 1) := by
      rw [List.drop_eq_getElem_cons (by simpa using hi)]
      simp
    rw [ed] at e
    unfold acK at e
    rw [Int.zero_add]
    have R2 := put_rl R (.int i) (put5 hk i)
    have t4 : (σ.set 5 (some (V.int i)))[4]? = some (some (.ref c)) := by rw [List.getElem?_set_ne (by decide)]; exact s4
    have t1 : (σ.set 5 (some (V.int i)))[1]? = some (some (.ref a)) := by rw [List.getElem?_set_ne (by decide)]; exact s1
    show tIfS (tOfT K testE) (tDrop (tUp P w K fm)) tNext _ (σ.set 5 (some (V.int i))) H
    refine ⟨_, Z, _, _, _, R2, e_test (by omega) mask, fun H1 Z1 z1 R3 => ?_⟩
    by_cases hb : mask / 2 ^ i % 2 = 1
    · rw [if_pos hb] at e
      rw [if_pos (decide_eq_true hb)]
      cases e1 : lookF fnd ((mask : Int) - 2 ^ i) with
      | none => rw [e1] at e; cases e
      | some own =>
        rw [e1, Option.bind_some] at e
        cases e2 : xs[i]? with
        | none => rw [e2] at e; cases e
        | some it =>
          rw [e2, Option.bind_some] at e
          cases e3 : thenL fm it own with
          | none => rw [e3] at e; cases e
          | some ns =>
            rw [e3, Option.bind_some] at e
            split at e
            · rename_i hc
              exact upd_ok ac fa fc hc0 (z0.trans z1) R3 hu (hL.mono z1) (hF.mono z1) t4 t1 (by omega) e1 e2 e3 hc.1 hc.2.1 hc.2.2 fun H' S' => ⟨_, S', e⟩
            · cases e
    · rw [if_neg hb] at e
      rw [if_neg (by simpa using hb)]
      exact ⟨cs, ⟨Z1, u, L, .d (.int i), z0.trans z1, R3, fs_d _, hu, hL.mono z1, hF.mono z1, t4, t1⟩, e⟩
  · rw [List.drop_of_length_le (by simp)] at e
    cases e
    exact q σ H S

theorem round_ok {Φ : Fx} {a : Addr} {vs : List (Key × V)} {fnd : List (Int × List PyData)} {mask : Nat} {Z : Hp} {cs : List PyData} {σ : L2.St} {H : Hp} {k : EV} {D : Ends}
    (fa : Φ.Fr a = none) (ha0 : Φ.H0 a = none) (n5 : xs.length ≤ 5) (R : Rl K (Φ.keep a (.dK vs)) Z σ H (rh xs (.d (.int mask)) k)) (hk : Fs k) (hF : FnOk P w K Z vs fnd) (s1 : σ[1]? = some (some (.ref a)))
    (e : acK fm xs fnd mask (List.range xs.length) [] = some cs) (hne : cs.isEmpty = false) (hn : lookF fnd mask = none) (hl : fnd.length ≤ 100000)
    (q : ∀ σ' H' Z' vs' k', Same Z Z' → Rl K (Φ.keep a (.dK vs')) Z' σ' H' (rh xs (.d (.int mask)) k') → Fs k' → FnOk P w K Z' vs' (fnd ++ [((mask : Int), cs)]) → σ'[1]? = some (some (.ref a)) → D.nx σ' H') : tRound P w K fm D σ H := by
  intro c hc
  obtain ⟨_, hHa, _⟩ := R.unkeep fa
  have ac : a ≠ c := ne_of_none hHa hc
  have fc : Φ.Fr c = none := by
    have h : upd Φ.Fr a (.dK vs) c = none := R.fr.free hc
    rw [upd_ne (Ne.symm ac)] at h
    exact h
  have hc0 : Φ.H0 c = none := R.dom c hc
  have len4 : 4 < σ.length := by have := R.len; simp at this; omega
  have R1 : Rl K (Φ.keep a (.dK vs)) Z (σ.set 4 (some (.ref c))) H (rh xs (.d (.int mask)) k) := R.reslot (by simp) fun i ⟨ev, he, hne⟩ => by
    rw [List.getElem?_set_ne]
    rintro rfl
    cases he
    exact hne rfl
  have R2 := keep_new (o := .dT []) R1 hc
  have t4 : (σ.set 4 (some (V.ref c)))[4]? = some (some (.ref c)) := List.getElem?_set_self len4
  have t1 : (σ.set 4 (some (V.ref c)))[1]? = some (some (.ref a)) := by rw [List.getElem?_set_ne (by decide)]; exact s1
  refine in_ok (Z0 := Z) ac fa fc hc0 n5 ⟨Z, .dT [], [], k, Same.refl Z, R2, hk, .inr ⟨rfl, rfl⟩, .nil, hF, t4, t1⟩ e fun σ' H' S => ?_
  obtain ⟨Z2, u, L, k2, z2, R3, hk2, hu, hL, hF2, u4, u1⟩ := S.ex
  have hu : u = KnO P w c L := by
    rcases hu with h | ⟨h, _⟩
    · exact h
    · subst h
      cases hL
      cases hne
  subst hu
  have fc2 : (Φ.keep a (.dK vs)).Fr c = none := by
    show upd Φ.Fr a _ c = none
    rw [upd_ne (Ne.symm ac)]; exact fc
  obtain ⟨_, hHc, _⟩ := R3.unkeep fc2
  obtain ⟨v3, s3, r3⟩ := R3.dat 3 (.int mask) rfl
  cases r3
  refine ⟨_, u4, c, KnO P w c L, rfl, hHc, True.intro, fun od => ?_⟩
  obtain ⟨z3, R4⟩ := keep_frz (u := .frz od (KnO P w c L)) R3 (fun _ h => by cases h) hc0 fc2
  obtain ⟨_, hHa4, _⟩ := R4.unkeep fa
  have hlv : vs.length = fnd.length := Paired.length hF2
  refine ⟨_, u1, _, s3, a, _, rfl, DPut.k (k := .inl (mask : Int)) hHa4 (by rw [hlv, sizeLine_eq]; omega), ?_⟩
  rw [putK_new (hF2.new hn)]
  refine q _ _ _ (vs ++ [(.inl (mask : Int), .ref c)]) k2 (z2.trans z3) (R4.rekeep fa (keep_z R4 (fun _ h => by cases h) ha0)) hk2 ?_ u1
  exact FnOk.app ⟨rfl, c, od, L, rfl, upd_same, hL.mono z3⟩ (hF2.mono z3)

def tOut (P : Program) (w : World) (K : PySem.W.Frag) (fm : XF) : TS := tFor (iRng2 (tCons (tC (.int 1)) (tCons (tOf K boundE) tNil))) (gName 3) (tRound P w K fm)
theorem pow_nat (n : Nat) : ((2 : Int) ^ n) = ((2 ^ n : Nat) : Int) := by push_cast; rfl
theorem pow_small {n : Nat} (h : n ≤ 5) : 1 ≤ 2 ^ n ∧ 2 ^ n ≤ 32 := by
  rcases le5 h with rfl | rfl | rfl | rfl | rfl | rfl <;> decide
theorem out_ok {Φ : Fx} {a : Addr} {vs : List (Key × V)} {fnd fin : List (Int × List PyData)} {Z : Hp} {σ : L2.St} {H : Hp} {m k : EV} {D : Ends}
    (fa : Φ.Fr a = none) (ha0 : Φ.H0 a = none) (n5 : xs.length ≤ 5) (R : Rl K (Φ.keep a (.dK vs)) Z σ H (rh xs m k)) (hm : Fs m) (hk : Fs k) (hF : FnOk P w K Z vs fnd) (s1 : σ[1]? = some (some (.ref a)))
    (e : acM fm xs ((List.range (2 ^ xs.length - 1)).map (· + 1)) fnd = some fin)
    (q : ∀ σ' H' Z' vs' m' k', Same Z Z' → Rl K (Φ.keep a (.dK vs')) Z' σ' H' (rh xs m' k') → FnOk P w K Z' vs' fin → σ'[1]? = some (some (.ref a)) → D.nx σ' H') : tOut P w K fm D σ H := by
  refine ⟨_, Z, _, _, _, R, e_bound n5 _ _, fun v H1 Z1 z1 R1 r1 => ?_⟩
  cases r1
  obtain ⟨p1, p2⟩ := pow_small n5
  refine ⟨1, (2 : Int) ^ xs.length, rfl, ?_, ?_⟩
  · have pz := pow_nat xs.length
    have q1 : (1 : Int) ≤ 2 ^ xs.length := by rw [pz]; omega
    have q2 : (2 : Int) ^ xs.length ≤ 32 := by rw [pz]; omega
    generalize (2 : Int) ^ xs.length = z at *
    omega
  have en : ((2 : Int) ^ xs.length - 1).toNat = 2 ^ xs.length - 1 := by rw [pow_nat]; omega
  rw [en]
  refine for_range (fun i σ H => ∃ Z' vs' fnd' m' k', Same Z Z' ∧ Rl K (Φ.keep a (.dK vs')) Z' σ H (rh xs m' k') ∧ Fs m' ∧ Fs k' ∧ FnOk P w K Z' vs' fnd' ∧ σ[1]? = some (some (.ref a)) ∧ acM fm xs (((List.range (2 ^ xs.length - 1)).map (· + 1)).drop i) fnd' = some fin)
    ⟨Z1, vs, fnd, m, k, z1, R1, hm, hk, hF.mono z1, s1, by simpa using e⟩ (fun i σ H hi ⟨Z', vs', fnd', m', k', z', R', hm', hk', hF', s1', e'⟩ => ?_) fun σ H ⟨Z', vs', fnd', m', k', z', R', hm', hk', hF', s1', e'⟩ => ?_
  · have ed : ((List.range (2 ^ xs.length - 1)).map (· + 1)).drop i = (i + 1) :: ((List.range (2 ^ xs.length - 1)).map (· + 1)).drop (i + 1) := by
      rw [List.drop_eq_getElem_cons (by simpa using hi)]
      simp
    rw [ed] at e'
    unfold acM at e'
    cases e1 : acK fm xs fnd' (i + 1) (List.range xs.length) [] with
    | none => rw [e1] at e'; cases e'
    | some cs =>
      rw [e1, Option.bind_some] at e'
      split at e'
      · rename_i hc
        have ei : (1 : Int) + (i : Nat) = ((i + 1 : Nat) : Int) := by omega
        rw [ei]
        have R2 := put_rl R' (.int ((i + 1 : Nat) : Int)) (put3 hm' _)
        have t1 : (σ.set 3 (some (V.int ((i + 1 : Nat) : Int))))[1]? = some (some (.ref a)) := by rw [List.getElem?_set_ne (by decide)]; exact s1'
        show tRound P w K fm _ (σ.set 3 (some (V.int ((i + 1 : Nat) : Int)))) H
        exact round_ok fa ha0 n5 R2 hk' hF' t1 e1 hc.1 hc.2.1 hc.2.2 fun σ' H' Z2 vs2 k2 z2 R3 hk2 hF2 u1 => ⟨Z2, vs2, _, _, k2, z'.trans z2, R3, fs_d _, hk2, hF2, u1, e'⟩
      · cases e'
  · rw [List.drop_of_length_le (by simp)] at e'
    cases e'
    exact q σ H Z' vs' m' k' z' R' hF' s1'
end
end KN
set_option maxRecDepth 100000
set_option maxHeartbeats 4000000
namespace KN
open PySem PySem.Spec PyProof.Rows L2 DL NK
section
variable {P : Program} {w : World} {K : PySem.W.Frag} {fm : XF} {xs : List PyData}
theorem u16 {n : Nat} (h : n + 64 < cLine) : n + 16 < cLine := by omega
def tHead (P : Program) (w : World) (K : PySem.W.Frag) : TS := tPar 1 2 (tCons (tDisp [(tC (.int 0), tLockF (tDisN P w K (tOf K idE) (tC (.bl true))))]) (tCons (tOf K bitsE) tNil))
abbrev rh0 (xs : List PyData) : Nv := [.d (.list xs), .un, .un, .un, .un, .un, .un]
theorem okId : okK idC = true := by decide
theorem head_ok {Φ : Fx} {Z : Hp} {σ : L2.St} {H : Hp} {D : Ends} (R : Rl K Φ Z σ H (rh0 xs))
    (q : ∀ σ' H' Z' vs a, Same Z Z' → Φ.Fr a = none → Φ.H0 a = none → Rl K (Φ.keep a (.dK vs)) Z' σ' H' (rh xs .un .un) → FnOk P w K Z' vs [(0, [idC])] → σ'[1]? = some (some (.ref a)) → D.nx σ' H') : tHead P w K D σ H := by
  intro a ha
  have fa : Φ.Fr a = none := R.fr.free ha
  have ha0 : Φ.H0 a = none := R.dom a ha
  have R1 := keep_new (o := .dK []) R ha
  intro b hb
  have ab : a ≠ b := ne_of_none upd_same hb
  have fb2 : (Φ.keep a (.dK [])).Fr b = none := R1.fr.free hb
  have hb0 : Φ.H0 b = none := R1.dom b hb
  have R2 := keep_new (o := .dT []) R1 hb
  refine ⟨_, Z, _, _, _, R2, e_id _, fun v H1 Z1 z1 R3 r3 => ?_⟩
  obtain ⟨_, hHb, _⟩ := R3.unkeep fb2
  obtain ⟨b1, hv, rb⟩ : ∃ b1 : Addr, v = .ref b1 ∧ Rp K Z1 (.ref b1) idC := by
    cases r3 with
    | tup h1 h2 => exact ⟨_, rfl, .tup h1 h2⟩
    | tuk h1 h2 h3 => exact ⟨_, rfl, .tuk h1 h2 h3⟩
  subst hv
  refine ⟨hHb, rfl, b1, idC, rfl, rb.mono R3.zH, okId, b, _, rfl, upd_same, True.intro, fun od => ?_⟩
  rw [upd_upd]
  obtain ⟨z2, R4⟩ := keep_frz (u := .frz od (KnO P w b [(toK idC, b1)])) R3 (fun _ h => by cases h) hb0 fb2
  obtain ⟨_, hHa4, _⟩ := R4.unkeep fa
  refine ⟨hHa4, [(.inl 0, .ref b)], rfl, by simp, ?_⟩
  have R5 := R4.rekeep (u := .dK (mergeK [] [(.inl 0, .ref b)])) fa (keep_z R4 (fun _ h => by cases h) ha0)
  refine ⟨_, _, _, _, _, R5, e_bits _, fun v2 H2 Z3 z3 R6 r6 => ?_⟩
  refine ⟨.ref a, v2, rfl, ?_⟩
  have R7 : Rl K (Φ.keep a (.dK [(.inl 0, .ref b)])) Z3 (σ.set 1 (some (.ref a))) H2 (rh0 xs) := Rl.reslot (ρ := rh0 xs) R6 (by simp) fun i ⟨ev, he, hne⟩ => by
    rw [List.getElem?_set_ne]
    rintro rfl
    cases he
    exact hne rfl
  have R8 := put_rl R7 r6 (show put (rh0 xs) 2 (.list bitsV) = some (rh xs .un .un) by simp)
  have len1 : 1 < σ.length := by have := R.len; simp at this; omega
  refine q _ _ Z3 _ a ((z1.trans z2).trans z3) fa ha0 R8 (.cons ⟨rfl, b, od, [(toK idC, b1)], rfl, z3 _ _ upd_same, .cons ⟨((rb.mono z2).mono z3), rfl, okId⟩ .nil⟩ .nil) ?_
  rw [List.getElem?_set_ne (by decide)]
  exact List.getElem?_set_self len1
def tAll (P : Program) (w : World) (K : PySem.W.Frag) (fm : XF) : TS := tSeq (tHead P w K) (tSeq (tOut P w K fm) (tRet (tDGet (tVar 1) (tOf K lastE))))
theorem all_ok {N : List Str} {vs : List V} {H : Hp} {Q : VK} (hN : N.length = 7) (h : spL P w K (allCh fm) vs H Q) : tAll P w K fm { nx := fun _ H' => Q .non H', rt := Q } (L2.start N vs) H := by
  obtain ⟨Z, Fr, ino, xs, cs, hm, R, q⟩ := h
  unfold allCh at hm
  split at hm
  · rename_i n5
    cases e : acM fm xs ((List.range (2 ^ xs.length - 1)).map (· + 1)) [(0, [idC])] with
    | none => rw [e] at hm; cases hm
    | some fin =>
      rw [e, Option.bind_some] at hm
      have lv : vs.length = 1 := by have := R.len; simpa using this.symm
      have R0 := start_rl (N := N) R (by omega)
      have er : ([EV.d (.list xs)] ++ List.replicate (N.length - [EV.d (PyData.list xs)].length) .un) = rh0 xs := by rw [hN]; rfl
      rw [er] at R0
      refine head_ok R0 fun σ1 H1 Z1 vs1 a z1 fa ha0 R1 hF1 s1 => ?_
      refine out_ok fa ha0 n5 R1 fs_un fs_un hF1 s1 e fun σ2 H2 Z2 vs2 m k z2 R2 hF2 s2 => ?_
      refine ⟨_, s2, _, Z2, _, _, _, R2, e_last n5 _ _, fun v H3 Z3 z3 R3 r3 => ?_⟩
      cases r3
      obtain ⟨b, o, L, hv, hb, hL⟩ := hF2.get hm
      obtain ⟨R4, hHa, _⟩ := R3.unkeep fa
      refine ⟨a, .ref b, rfl, .inl ⟨vs2, .inl ((2 : Int) ^ xs.length - 1), .inl hHa, rfl, hv.symm⟩, ?_⟩
      have zz := (z1.trans z2).trans z3
      have fr := fin_rl R (fun i o he => by rcases i with _ | i <;> simp at he) zz R4
      exact q b o L H3 Z3 zz fr.1 (R3.zH _ _ (z3 _ _ hb)) (Paired.length hL)
  · cases hm
end
end KN
set_option maxRecDepth 100000
set_option maxHeartbeats 4000000
namespace K04
open PySem PySem.Spec PyProof.Rows L2 DL
def topS (i : Nat) : Stmt := PySem.Challenge.pw_stackorder_k04_chains.main.body.getD i (.Pass ⟨0, 0, 0, 0⟩)
structure Txt (K : PySem.W.Frag) (mg : Str → Option Value) (A : Nat → Addr) (D : Nat → FuncData) : Prop where
  d_l_feed : DefAt K mg "_law_feed" (topS 24) ["_law_script"] (A 24) (D 24)
  d_l_constant : DefAt K mg "_law_constant" (topS 33) ["_law_size_here"] (A 33) (D 33)
  d_l_items_by_hand : DefAt K mg "_law_items_by_hand" (topS 41) [] (A 41) (D 41)
  d_common_divisor : DefAt K mg "common_divisor" (topS 1) ["one", "other"] (A 1) (D 1)
  d_fraction : DefAtD K mg "fraction" (topS 4) [.int 1] [] (A 4) (D 4)
  d_fraction_product : DefAtV K mg "fraction_product" (topS 6) "fractions" (A 6) (D 6)
  d_fraction_sum : DefAtV K mg "fraction_sum" (topS 5) "fractions" (A 5) (D 5)
  d_is_less : DefAt K mg "is_less" (topS 2) ["one", "other"] (A 2) (D 2)
  d_bounded : DefAt K mg "bounded" (topS 9) ["amount", "low", "high"] (A 9) (D 9)
  d_applied : DefAt K mg "applied" (topS 14) ["clause", "amount"] (A 14) (D 14)
  d_end_after : DefAt K mg "end_after" (topS 15) ["end", "clause", "bound"] (A 15) (D 15)
  d_constant_clause : DefAt K mg "constant_clause" (topS 12) ["amount"] (A 12) (D 12)
  d_normal_form : DefAtD K mg "normal_form" (topS 13) [] [("low", .non), ("high", .non)] (A 13) (D 13)
  d_chained_two : DefAt K mg "chained_two" (topS 16) ["one", "other"] (A 16) (D 16)
  d_chained : DefAtV K mg "chained" (topS 17) "clauses" (A 17) (D 17)
  d_l_gcd : DefAt K mg "_law_gcd" (topS 26) ["_law_one_in", "_law_other_in"] (A 26) (D 26)
  d_l_ratio : DefAt K mg "_law_ratio" (topS 27) ["_law_top", "_law_under"] (A 27) (D 27)
  d_l_add : DefAt K mg "_law_add" (topS 28) ["_law_one_in", "_law_other_in"] (A 28) (D 28)
  d_l_less : DefAt K mg "_law_less" (topS 30) ["_law_one_in", "_law_other_in"] (A 30) (D 30)
  d_l_bounded : DefAt K mg "_law_bounded" (topS 31) ["_law_size_here", "_law_low", "_law_high"] (A 31) (D 31)
  d_l_normal : DefAt K mg "_law_normal" (topS 34) ["_law_ratio_here", "_law_more", "_law_low", "_law_high"] (A 34) (D 34)
  d_l_times : DefAt K mg "_law_times" (topS 29) ["_law_one_in", "_law_other_in"] (A 29) (D 29)
  d_l_apply : DefAt K mg "_law_apply" (topS 32) ["_law_item_here", "_law_size_here"] (A 32) (D 32)
  d_l_then : DefAt K mg "_law_then" (topS 35) ["_law_one_in", "_law_other_in"] (A 35) (D 35)
  d_l_chain : DefAt K mg "_law_chain" (topS 36) ["_law_items"] (A 36) (D 36)
  d_values_of : DefAt K mg "values_of" (topS 22) ["clause"] (A 22) (D 22)
  d_l_values_right : DefAt K mg "_law_values_right" (topS 48) ["_law_item_here"] (A 48) (D 48)
  d_l_draw : DefAt K mg "_law_draw" (topS 25) ["_law_feed_here", "_law_many"] (A 25) (D 25)
  d_l_sizes : DefAt K mg "_law_sizes" (topS 37) [] (A 37) (D 37)
  d_l_size : DefAt K mg "_law_size" (topS 38) ["_law_feed_here"] (A 38) (D 38)
  d_l_raw : DefAt K mg "_law_raw" (topS 39) ["_law_feed_here"] (A 39) (D 39)
  d_l_item : DefAt K mg "_law_item" (topS 40) ["_law_feed_here"] (A 40) (D 40)
  d_l_chained : DefAt K mg "_law_chained" (topS 44) ["_law_items"] (A 44) (D 44)
  d_order_matters : DefAtV K mg "order_matters" (topS 21) "clauses" (A 21) (D 21)
  d_l_matters : DefAt K mg "_law_matters" (topS 45) ["_law_items"] (A 45) (D 45)
  d_l_all_chains : DefAt K mg "_law_all_chains" (topS 46) ["_law_items"] (A 46) (D 46)
  d_quotient : DefAt K mg "quotient" (topS 8) ["one", "other"] (A 8) (D 8)
  d_difference : DefAt K mg "difference" (topS 7) ["one", "other"] (A 7) (D 7)
  d_bends_of : DefAt K mg "bends_of" (topS 18) ["clause"] (A 18) (D 18)
  d_differs_at : DefAt K mg "differs_at" (topS 19) ["one", "other"] (A 19) (D 19)
  d_commute : DefAt K mg "commute" (topS 20) ["one", "other"] (A 20) (D 20)
  d_l_integer : DefAt K mg "_law_integer" (topS 42) ["_law_item_here"] (A 42) (D 42)
  d_l_is_ratio : DefAt K mg "_law_is_ratio" (topS 43) ["_law_item_here"] (A 43) (D 43)
  d_l_pair_right : DefAt K mg "_law_pair_right" (topS 47) ["_law_one_in", "_law_other_in"] (A 47) (D 47)
  d_l_list_right : DefAt K mg "_law_list_right" (topS 49) ["_law_items"] (A 49) (D 49)
  d_law : DefAt K mg "law" (topS 50) ["_law_script"] (A 50) (D 50)
  q_fraction_2 : PB K (D 4) ["numerator", "denominator"] 2 [] [.inl 0, .inl 1]
  q_normal_form_2_low_high : PB K (D 13) ["factor", "plus", "low", "high"] 2 ["low", "high"] [.inl 0, .inl 1, .inl 2, .inl 3]
  q_values_of_0_clause : PB K (D 22) ["clause"] 0 ["clause"] [.inl 0]
  q_commute_0_other_one : PB K (D 20) ["one", "other"] 0 ["other", "one"] [.inl 1, .inl 0]
  q_differs_at_0_other_one : PB K (D 19) ["one", "other"] 0 ["other", "one"] [.inl 1, .inl 0]
  n_abs : mg "abs" = none
  n_bool : mg "bool" = none
  n_int : mg "int" = none
  n_isinstance : mg "isinstance" = none
  n_len : mg "len" = none
  n_list : mg "list" = none
  n_range : mg "range" = none
  n_repr : mg "repr" = none
  n_tuple : mg "tuple" = none
  c_IDENTITY : ConV K mg "IDENTITY" (.tuple [.tuple [.int 1, .int 1], .tuple [.int 0, .int 1], .none, .none])
section
variable {P : Program} {w : World} {K : PySem.W.Frag} {mg : Str → Option Value} {base : Heap} {A : Nat → Addr} {D : Nat → FuncData}
abbrev s_l_feed : Stmt := topS 24
abbrev N_l_feed : List Str := ["_law_script"]
theorem sc_l_feed : FnScope N_l_feed ["_law_script"] (defScope s_l_feed) := ⟨rfl, rfl, rfl, by decide +kernel, rfl, by decide +kernel, by decide +kernel⟩
def b_l_feed : XS := sRetO (nDisp [(xC (.str "cells"), x1 listD (xScr 0 none (some 63))), (xC (.str "at"), xC (.int 0)), (xC (.str "left"), xC (.int 0)), (xC (.str "count"), xC (.int 0))])
def m_l_feed : XF := runF 1 b_l_feed
theorem ok_l_feed (T : Txt K mg A D) : FnG P w K mg base 1 (A 24) (D 24) ["_law_script"] m_l_feed :=
  fn_body T.d_l_feed.F sc_l_feed fun cdv A outer s H room hG => ssd_one (sd_retO (nd_disp (psd_cons (ed_str) (ed_t1 call_list_of c1_list T.n_list b_list (ED.od (ed_scrTo 0))) (psd_cons (ed_str) (ed_int) (psd_cons (ed_str) (ed_int) (psd_cons (ed_str) (ed_int) (psd_nil)))))))
abbrev s_l_constant : Stmt := topS 33
abbrev N_l_constant : List Str := ["_law_size_here"]
theorem sc_l_constant : FnScope N_l_constant ["_law_size_here"] (defScope s_l_constant) := ⟨rfl, rfl, rfl, by decide +kernel, rfl, by decide +kernel, by decide +kernel⟩
def b_l_constant : XS := sRet (xTup (aCons (xTup (aCons (xC (.int 0)) (aCons (xC (.int 1)) (aNil)))) (aCons (xVar 0) (aCons (xC .none) (aCons (xC .none) (aNil))))))
def m_l_constant : XF := runF 1 b_l_constant
theorem ok_l_constant (T : Txt K mg A D) : FnG P w K mg base 1 (A 33) (D 33) ["_law_size_here"] m_l_constant :=
  fn_body T.d_l_constant.F sc_l_constant fun cdv A outer s H room hG => ssd_one (sd_ret (ed_tup (ad_cons (ed_tup (ad_cons (ed_int) (ad_cons (ed_int) (ad_nil)))) (ad_cons (ed_var 0) (ad_cons (ed_non) (ad_cons (ed_non) (ad_nil)))))))
abbrev s_l_items_by_hand : Stmt := topS 41
abbrev N_l_items_by_hand : List Str := ["_law_one_in", "_law_none", "_law_found"]
theorem sc_l_items_by_hand : FnScope N_l_items_by_hand [] (defScope s_l_items_by_hand) := ⟨rfl, rfl, rfl, by decide +kernel, rfl, by decide +kernel, by decide +kernel⟩
def b_l_items_by_hand : XS := sSeq (sAsg (xTup (aCons (xTup (aCons (xC (.int 1)) (aCons (xC (.int 1)) (aNil)))) (aCons (xTup (aCons (xC (.int 0)) (aCons (xC (.int 1)) (aNil)))) (aNil)))) (gTp 2 (gsCons (gNm 0) (gsCons (gNm 1) (gsNil))))) (sSeq (sNew 2 (nLst (aCons (xTup (aCons (xVar 0) (aCons (xVar 1) (aCons (xC .none) (aCons (xC .none) (aNil)))))) (aCons (xCall (arity 1 m_l_constant) (aCons (xVar 1) (aNil))) (aCons (xCall (arity 1 m_l_constant) (aCons (xTup (aCons (x1 negD (xC (.int 7))) (aCons (xC (.int 2)) (aNil)))) (aNil))) (aCons (xTup (aCons (xVar 0) (aCons (xTup (aCons (xC (.int 5)) (aCons (xC (.int 1)) (aNil)))) (aCons (xC .none) (aCons (xC .none) (aNil)))))) (aNil))))))) (sSeq (sDrop (xExt 2 (xLst (aCons (xTup (aCons (xTup (aCons (xC (.int 2)) (aCons (xC (.int 1)) (aNil)))) (aCons (xVar 1) (aCons (xC .none) (aCons (xC .none) (aNil)))))) (aCons (xTup (aCons (xTup (aCons (xC (.int 1)) (aCons (xC (.int 2)) (aNil)))) (aCons (xTup (aCons (x1 negD (xC (.int 3))) (aCons (xC (.int 1)) (aNil)))) (aCons (xC .none) (aCons (xC .none) (aNil)))))) (aCons (xTup (aCons (xVar 0) (aCons (xVar 1) (aCons (xTup (aCons (xC (.int 0)) (aCons (xC (.int 1)) (aNil)))) (aCons (xC .none) (aNil)))))) (aNil))))))) (sRet (x2 addD (xVar 2) (xLst (aCons (xTup (aCons (xVar 0) (aCons (xVar 1) (aCons (xC .none) (aCons (xTup (aCons (xC (.int 10)) (aCons (xC (.int 1)) (aNil)))) (aNil)))))) (aCons (xTup (aCons (xVar 0) (aCons (xVar 1) (aCons (xTup (aCons (x1 negD (xC (.int 5))) (aCons (xC (.int 1)) (aNil)))) (aCons (xTup (aCons (xC (.int 5)) (aCons (xC (.int 1)) (aNil)))) (aNil)))))) (aCons (xTup (aCons (xTup (aCons (xC (.int 3)) (aCons (xC (.int 1)) (aNil)))) (aCons (xTup (aCons (xC (.int 1)) (aCons (xC (.int 1)) (aNil)))) (aCons (xTup (aCons (xC (.int 2)) (aCons (xC (.int 1)) (aNil)))) (aCons (xTup (aCons (xC (.int 20)) (aCons (xC (.int 1)) (aNil)))) (aNil)))))) (aNil)))))))))
def m_l_items_by_hand : XF := runF 3 b_l_items_by_hand
theorem ok_l_items_by_hand (T : Txt K mg A D) : FnG P w K mg base 2 (A 41) (D 41) [] m_l_items_by_hand :=
  fn_body T.d_l_items_by_hand.F sc_l_items_by_hand fun cdv A outer s H room hG => ssd_cons (sd_asg (ed_tup (ad_cons (ed_tup (ad_cons (ed_int) (ad_cons (ed_int) (ad_nil)))) (ad_cons (ed_tup (ad_cons (ed_int) (ad_cons (ed_int) (ad_nil)))) (ad_nil)))) (gd_tup rfl (gsd_cons (gd_name 0 sc_l_items_by_hand.nd) (gsd_cons (gd_name 1 sc_l_items_by_hand.nd) (gsd_nil))))) (ssd_cons (sd_new 2 sc_l_items_by_hand.nd (nd_lst (ad_cons (ed_tup (ad_cons (ed_var 0) (ad_cons (ed_var 1) (ad_cons (ed_non) (ad_cons (ed_non) (ad_nil)))))) (ad_cons (CD.ed (cd_call (ok_l_constant T) (room.mono (by decide)) hG T.d_l_constant.g T.d_l_constant.F.kp T.d_l_constant.b (ad_cons (ed_var 1) (ad_nil)))) (ad_cons (CD.ed (cd_call (ok_l_constant T) (room.mono (by decide)) hG T.d_l_constant.g T.d_l_constant.F.kp T.d_l_constant.b (ad_cons (ed_tup (ad_cons (ed_neg (ED.od (ed_int))) (ad_cons (ed_int) (ad_nil)))) (ad_nil)))) (ad_cons (ed_tup (ad_cons (ed_var 0) (ad_cons (ed_tup (ad_cons (ed_int) (ad_cons (ed_int) (ad_nil)))) (ad_cons (ed_non) (ad_cons (ed_non) (ad_nil)))))) (ad_nil))))))) (ssd_cons (sd_drop (ed_ext 2 (ed_lst (ad_cons (ed_tup (ad_cons (ed_tup (ad_cons (ed_int) (ad_cons (ed_int) (ad_nil)))) (ad_cons (ed_var 1) (ad_cons (ed_non) (ad_cons (ed_non) (ad_nil)))))) (ad_cons (ed_tup (ad_cons (ed_tup (ad_cons (ed_int) (ad_cons (ed_int) (ad_nil)))) (ad_cons (ed_tup (ad_cons (ed_neg (ED.od (ed_int))) (ad_cons (ed_int) (ad_nil)))) (ad_cons (ed_non) (ad_cons (ed_non) (ad_nil)))))) (ad_cons (ed_tup (ad_cons (ed_var 0) (ad_cons (ed_var 1) (ad_cons (ed_tup (ad_cons (ed_int) (ad_cons (ed_int) (ad_nil)))) (ad_cons (ed_non) (ad_nil)))))) (ad_nil))))))) (ssd_one (sd_ret (ed_bin op_addD r2_add (ed_var 2) (ED.od (ed_lst (ad_cons (ed_tup (ad_cons (ed_var 0) (ad_cons (ed_var 1) (ad_cons (ed_non) (ad_cons (ed_tup (ad_cons (ed_int) (ad_cons (ed_int) (ad_nil)))) (ad_nil)))))) (ad_cons (ed_tup (ad_cons (ed_var 0) (ad_cons (ed_var 1) (ad_cons (ed_tup (ad_cons (ed_neg (ED.od (ed_int))) (ad_cons (ed_int) (ad_nil)))) (ad_cons (ed_tup (ad_cons (ed_int) (ad_cons (ed_int) (ad_nil)))) (ad_nil)))))) (ad_cons (ed_tup (ad_cons (ed_tup (ad_cons (ed_int) (ad_cons (ed_int) (ad_nil)))) (ad_cons (ed_tup (ad_cons (ed_int) (ad_cons (ed_int) (ad_nil)))) (ad_cons (ed_tup (ad_cons (ed_int) (ad_cons (ed_int) (ad_nil)))) (ad_cons (ed_tup (ad_cons (ed_int) (ad_cons (ed_int) (ad_nil)))) (ad_nil)))))) (ad_nil)))))))))))
abbrev s_common_divisor : Stmt := topS 1
abbrev N_common_divisor : List Str := ["one", "other"]
theorem sc_common_divisor : FnScope N_common_divisor ["one", "other"] (defScope s_common_divisor) := ⟨rfl, rfl, rfl, by decide +kernel, rfl, by decide +kernel, by decide +kernel⟩
def b_common_divisor : XS := sSeq (sWh (gcdFuel) (tst (x2 neD (xVar 1) (xC (.int 0)))) (sPar 0 1 (xVar 1) (x2 modD (xVar 0) (xVar 1)))) (sRet (x1 absD (xVar 0)))
def m_common_divisor : XF := runF 2 b_common_divisor
theorem ok_common_divisor (T : Txt K mg A D) : FnG P w K mg base 1 (A 1) (D 1) ["one", "other"] m_common_divisor :=
  fn_body T.d_common_divisor.F sc_common_divisor fun cdv A outer s H room hG => ssd_cons (sd_wh (gcdFuel) PassesOwn.never (td_cmp (op_neX room.u64) r2_ne (ed_var 1) (ED.od (ed_int))) (ssd_one (sd_par rfl sc_common_divisor.nd (ed_var 1) (ed_bin op_modD r2_mod (ed_var 0) (ED.od (ed_var 1)))))) (ssd_one (sd_ret (ed_c1 call_abs c1_abs T.n_abs b_abs (ED.od (ed_var 0)))))
abbrev s_fraction : Stmt := topS 4
abbrev N_fraction : List Str := ["numerator", "denominator", "divisor", "sign"]
theorem sc_fraction : FnScope N_fraction ["numerator", "denominator"] (defScope s_fraction) := ⟨rfl, rfl, rfl, by decide +kernel, rfl, by decide +kernel, by decide +kernel⟩
def b_fraction : XS := sSeq (sSet 2 (xCall (arity 2 m_common_divisor) (aCons (xVar 0) (aCons (xVar 1) (aNil))))) (sSeq (sSet 3 (xIf (tst (x2 gtD (xVar 1) (xC (.int 0)))) (xC (.int 1)) (x1 negD (xC (.int 1))))) (sRet (xTup (aCons (x2 fdivD (x2 mulD (xVar 3) (xVar 0)) (xVar 2)) (aCons (x2 fdivD (x2 mulD (xVar 3) (xVar 1)) (xVar 2)) (aNil))))))
def m_fraction : XF := runF 4 b_fraction
theorem ok_fraction (T : Txt K mg A D) : FnG P w K mg base 2 (A 4) (D 4) ["numerator", "denominator"] m_fraction :=
  fn_bodyD T.d_fraction.F sc_fraction fun cdv A outer s H room hG => ssd_cons (sd_set 2 sc_fraction.nd (CD.ed (cd_call (ok_common_divisor T) (room.mono (by decide)) hG T.d_common_divisor.g T.d_common_divisor.F.kp T.d_common_divisor.b (ad_cons (ed_var 0) (ad_cons (ed_var 1) (ad_nil)))))) (ssd_cons (sd_set 3 sc_fraction.nd (ed_if (td_cmp op_gt r2_gt (ed_var 1) (ED.od (ed_int))) (ed_int) (ed_neg (ED.od (ed_int))))) (ssd_one (sd_ret (ed_tup (ad_cons (ed_bin op_fdivD r2_fdiv (ed_bin op_mulD r2_mul (ed_var 3) (ED.od (ed_var 0))) (ED.od (ed_var 2))) (ad_cons (ed_bin op_fdivD r2_fdiv (ed_bin op_mulD r2_mul (ed_var 3) (ED.od (ed_var 1))) (ED.od (ed_var 2))) (ad_nil)))))))
abbrev s_fraction_product : Stmt := topS 6
abbrev N_fraction_product : List Str := ["fractions", "found", "numerator", "denominator"]
theorem sc_fraction_product : FnScope N_fraction_product ["fractions"] (defScope s_fraction_product) := ⟨rfl, rfl, rfl, by decide +kernel, rfl, by decide +kernel, by decide +kernel⟩
def b_fraction_product : XS := sSeq (sSet 1 (xTup (aCons (xC (.int 1)) (aCons (xC (.int 1)) (aNil))))) (sSeq (sFor (iOf (xVar 0)) (gTp 2 (gsCons (gNm 2) (gsCons (gNm 3) (gsNil)))) (sSet 1 (xCall m_fraction (aPick [.inl 0, .inl 1] (aCons (x2 mulD (x2 idxD (xVar 1) (xC (.int 0))) (xVar 2)) (aCons (x2 mulD (x2 idxD (xVar 1) (xC (.int 1))) (xVar 3)) (aNil))) (aNil))))) (sRet (xVar 1)))
def m_fraction_product : XF := starF (runF 4 b_fraction_product)
theorem ok_fraction_product (T : Txt K mg A D) : FnV P w K mg base 3 (A 6) m_fraction_product :=
  fn_bodyV T.d_fraction_product.F sc_fraction_product T.d_fraction_product.bv fun cdv A outer s H room hG => ssd_cons (sd_set 1 sc_fraction_product.nd (ed_tup (ad_cons (ed_int) (ad_cons (ed_int) (ad_nil))))) (ssd_cons (sd_for PassesOwn.never rfl (id_seq (ed_var 0)) (gd_tup rfl (gsd_cons (gd_name 2 sc_fraction_product.nd) (gsd_cons (gd_name 3 sc_fraction_product.nd) (gsd_nil)))) (ssd_one (sd_set 1 sc_fraction_product.nd (CD.ed (cd_callP (ok_fraction T) (room.mono (by decide)) hG T.d_fraction.g T.d_fraction.F.kp T.q_fraction_2 (ad_cons (ed_bin op_mulD r2_mul (ed_ix (ed_var 1) (ED.od (ed_int))) (ED.od (ed_var 2))) (ad_cons (ed_bin op_mulD r2_mul (ed_ix (ed_var 1) (ED.od (ed_int))) (ED.od (ed_var 3))) (ad_nil))) (ln_cons (ln_cons (ln_nil)))))))) (ssd_one (sd_ret (ed_var 1))))
abbrev s_fraction_sum : Stmt := topS 5
abbrev N_fraction_sum : List Str := ["fractions", "found", "numerator", "denominator"]
theorem sc_fraction_sum : FnScope N_fraction_sum ["fractions"] (defScope s_fraction_sum) := ⟨rfl, rfl, rfl, by decide +kernel, rfl, by decide +kernel, by decide +kernel⟩
def b_fraction_sum : XS := sSeq (sSet 1 (xTup (aCons (xC (.int 0)) (aCons (xC (.int 1)) (aNil))))) (sSeq (sFor (iOf (xVar 0)) (gTp 2 (gsCons (gNm 2) (gsCons (gNm 3) (gsNil)))) (sSet 1 (xCall m_fraction (aPick [.inl 0, .inl 1] (aCons (x2 addD (x2 mulD (x2 idxD (xVar 1) (xC (.int 0))) (xVar 3)) (x2 mulD (xVar 2) (x2 idxD (xVar 1) (xC (.int 1))))) (aCons (x2 mulD (x2 idxD (xVar 1) (xC (.int 1))) (xVar 3)) (aNil))) (aNil))))) (sRet (xVar 1)))
def m_fraction_sum : XF := starF (runF 4 b_fraction_sum)
theorem ok_fraction_sum (T : Txt K mg A D) : FnV P w K mg base 3 (A 5) m_fraction_sum :=
  fn_bodyV T.d_fraction_sum.F sc_fraction_sum T.d_fraction_sum.bv fun cdv A outer s H room hG => ssd_cons (sd_set 1 sc_fraction_sum.nd (ed_tup (ad_cons (ed_int) (ad_cons (ed_int) (ad_nil))))) (ssd_cons (sd_for PassesOwn.never rfl (id_seq (ed_var 0)) (gd_tup rfl (gsd_cons (gd_name 2 sc_fraction_sum.nd) (gsd_cons (gd_name 3 sc_fraction_sum.nd) (gsd_nil)))) (ssd_one (sd_set 1 sc_fraction_sum.nd (CD.ed (cd_callP (ok_fraction T) (room.mono (by decide)) hG T.d_fraction.g T.d_fraction.F.kp T.q_fraction_2 (ad_cons (ed_bin op_addD r2_add (ed_bin op_mulD r2_mul (ed_ix (ed_var 1) (ED.od (ed_int))) (ED.od (ed_var 3))) (ED.od (ed_bin op_mulD r2_mul (ed_var 2) (ED.od (ed_ix (ed_var 1) (ED.od (ed_int))))))) (ad_cons (ed_bin op_mulD r2_mul (ed_ix (ed_var 1) (ED.od (ed_int))) (ED.od (ed_var 3))) (ad_nil))) (ln_cons (ln_cons (ln_nil)))))))) (ssd_one (sd_ret (ed_var 1))))
abbrev s_is_less : Stmt := topS 2
abbrev N_is_less : List Str := ["one", "other"]
theorem sc_is_less : FnScope N_is_less ["one", "other"] (defScope s_is_less) := ⟨rfl, rfl, rfl, by decide +kernel, rfl, by decide +kernel, by decide +kernel⟩
def b_is_less : XS := sRet (x2 ltD (x2 mulD (x2 idxD (xVar 0) (xC (.int 0))) (x2 idxD (xVar 1) (xC (.int 1)))) (x2 mulD (x2 idxD (xVar 1) (xC (.int 0))) (x2 idxD (xVar 0) (xC (.int 1)))))
def m_is_less : XF := runF 2 b_is_less
theorem ok_is_less (T : Txt K mg A D) : FnG P w K mg base 1 (A 2) (D 2) ["one", "other"] m_is_less :=
  fn_body T.d_is_less.F sc_is_less fun cdv A outer s H room hG => ssd_one (sd_ret (ed_cmp op_ltD r2_lt (ed_bin op_mulD r2_mul (ed_ix (ed_var 0) (ED.od (ed_int))) (ED.od (ed_ix (ed_var 1) (ED.od (ed_int))))) (ED.od (ed_bin op_mulD r2_mul (ed_ix (ed_var 1) (ED.od (ed_int))) (ED.od (ed_ix (ed_var 0) (ED.od (ed_int))))))))
abbrev s_bounded : Stmt := topS 9
abbrev N_bounded : List Str := ["amount", "low", "high"]
theorem sc_bounded : FnScope N_bounded ["amount", "low", "high"] (defScope s_bounded) := ⟨rfl, rfl, rfl, by decide +kernel, rfl, by decide +kernel, by decide +kernel⟩
def b_bounded : XS := sSeq (sIf (xAndT (tst (x2 notNonD (xVar 1) (xC .none))) (xTru (xCall (arity 2 m_is_less) (aCons (xVar 0) (aCons (xVar 1) (aNil)))))) (sSet 0 (xVar 1)) (sNil)) (sSeq (sIf (xAndT (tst (x2 notNonD (xVar 2) (xC .none))) (xTru (xCall (arity 2 m_is_less) (aCons (xVar 2) (aCons (xVar 0) (aNil)))))) (sRet (xVar 2)) (sNil)) (sRet (xVar 0)))
def m_bounded : XF := runF 3 b_bounded
theorem ok_bounded (T : Txt K mg A D) : FnG P w K mg base 2 (A 9) (D 9) ["amount", "low", "high"] m_bounded :=
  fn_body T.d_bounded.F sc_bounded fun cdv A outer s H room hG => ssd_cons (sd_if (WD.td (wd_and (td_cmp op_notN r2_notN (ed_var 1) (ED.od (ed_non))) (wd_and1 (td_tru (ED.od (CD.ed (cd_call (ok_is_less T) (room.mono (by decide)) hG T.d_is_less.g T.d_is_less.F.kp T.d_is_less.b (ad_cons (ed_var 0) (ad_cons (ed_var 1) (ad_nil)))))))))) (ssd_one (sd_set 0 sc_bounded.nd (ed_var 1))) (ssd_nil)) (ssd_cons (sd_if (WD.td (wd_and (td_cmp op_notN r2_notN (ed_var 2) (ED.od (ed_non))) (wd_and1 (td_tru (ED.od (CD.ed (cd_call (ok_is_less T) (room.mono (by decide)) hG T.d_is_less.g T.d_is_less.F.kp T.d_is_less.b (ad_cons (ed_var 2) (ad_cons (ed_var 0) (ad_nil)))))))))) (ssd_one (sd_ret (ed_var 2))) (ssd_nil)) (ssd_one (sd_ret (ed_var 0))))
abbrev s_applied : Stmt := topS 14
abbrev N_applied : List Str := ["clause", "amount", "factor", "plus", "low", "high"]
theorem sc_applied : FnScope N_applied ["clause", "amount"] (defScope s_applied) := ⟨rfl, rfl, rfl, by decide +kernel, rfl, by decide +kernel, by decide +kernel⟩
def b_applied : XS := sSeq (sAsg (xVar 0) (gTp 4 (gsCons (gNm 2) (gsCons (gNm 3) (gsCons (gNm 4) (gsCons (gNm 5) (gsNil))))))) (sRet (xCall (arity 3 m_bounded) (aCons (xCall m_fraction_sum (aCons (xCall m_fraction_product (aCons (xVar 2) (aCons (xVar 1) (aNil)))) (aCons (xVar 3) (aNil)))) (aCons (xVar 4) (aCons (xVar 5) (aNil))))))
def m_applied : XF := runF 6 b_applied
theorem ok_applied (T : Txt K mg A D) : FnG P w K mg base 4 (A 14) (D 14) ["clause", "amount"] m_applied :=
  fn_body T.d_applied.F sc_applied fun cdv A outer s H room hG => ssd_cons (sd_asg (ed_var 0) (gd_tup rfl (gsd_cons (gd_name 2 sc_applied.nd) (gsd_cons (gd_name 3 sc_applied.nd) (gsd_cons (gd_name 4 sc_applied.nd) (gsd_cons (gd_name 5 sc_applied.nd) (gsd_nil))))))) (ssd_one (sd_ret (CD.ed (cd_call (ok_bounded T) (room.mono (by decide)) hG T.d_bounded.g T.d_bounded.F.kp T.d_bounded.b (ad_cons (CD.ed (cd_callV (ok_fraction_sum T) (room.mono (by decide)) hG T.d_fraction_sum.g T.d_fraction_sum.F.kp (ad_cons (CD.ed (cd_callV (ok_fraction_product T) (room.mono (by decide)) hG T.d_fraction_product.g T.d_fraction_product.F.kp (ad_cons (ed_var 2) (ad_cons (ed_var 1) (ad_nil))))) (ad_cons (ed_var 3) (ad_nil))))) (ad_cons (ed_var 4) (ad_cons (ed_var 5) (ad_nil))))))))
abbrev s_end_after : Stmt := topS 15
abbrev N_end_after : List Str := ["end", "clause", "bound"]
theorem sc_end_after : FnScope N_end_after ["end", "clause", "bound"] (defScope s_end_after) := ⟨rfl, rfl, rfl, by decide +kernel, rfl, by decide +kernel, by decide +kernel⟩
def b_end_after : XS := sRet (xIf (tst (x2 isNonD (xVar 0) (xC .none))) (xVar 2) (xCall (arity 2 m_applied) (aCons (xVar 1) (aCons (xVar 0) (aNil)))))
def m_end_after : XF := runF 3 b_end_after
theorem ok_end_after (T : Txt K mg A D) : FnG P w K mg base 5 (A 15) (D 15) ["end", "clause", "bound"] m_end_after :=
  fn_body T.d_end_after.F sc_end_after fun cdv A outer s H room hG => ssd_one (sd_ret (ed_if (td_cmp op_isN r2_isN (ed_var 0) (ED.od (ed_non))) (ed_var 2) (CD.ed (cd_call (ok_applied T) (room.mono (by decide)) hG T.d_applied.g T.d_applied.F.kp T.d_applied.b (ad_cons (ed_var 1) (ad_cons (ed_var 0) (ad_nil)))))))
abbrev s_constant_clause : Stmt := topS 12
abbrev N_constant_clause : List Str := ["amount"]
theorem sc_constant_clause : FnScope N_constant_clause ["amount"] (defScope s_constant_clause) := ⟨rfl, rfl, rfl, by decide +kernel, rfl, by decide +kernel, by decide +kernel⟩
def b_constant_clause : XS := sRet (xTup (aCons (xTup (aCons (xC (.int 0)) (aCons (xC (.int 1)) (aNil)))) (aCons (xVar 0) (aCons (xC .none) (aCons (xC .none) (aNil))))))
def m_constant_clause : XF := runF 1 b_constant_clause
theorem ok_constant_clause (T : Txt K mg A D) : FnG P w K mg base 1 (A 12) (D 12) ["amount"] m_constant_clause :=
  fn_body T.d_constant_clause.F sc_constant_clause fun cdv A outer s H room hG => ssd_one (sd_ret (ed_tup (ad_cons (ed_tup (ad_cons (ed_int) (ad_cons (ed_int) (ad_nil)))) (ad_cons (ed_var 0) (ad_cons (ed_non) (ad_cons (ed_non) (ad_nil)))))))
abbrev s_normal_form : Stmt := topS 13
abbrev N_normal_form : List Str := ["factor", "plus", "low", "high"]
theorem sc_normal_form : FnScope N_normal_form ["factor", "plus", "low", "high"] (defScope s_normal_form) := ⟨rfl, rfl, rfl, by decide +kernel, rfl, by decide +kernel, by decide +kernel⟩
def b_normal_form : XS := sSeq (sIf (tst (x2 eqD (xVar 0) (xTup (aCons (xC (.int 0)) (aCons (xC (.int 1)) (aNil)))))) (sRet (xCall (arity 1 m_constant_clause) (aCons (xCall (arity 3 m_bounded) (aCons (xVar 1) (aCons (xVar 2) (aCons (xVar 3) (aNil))))) (aNil)))) (sNil)) (sSeq (sIf (xAndT (tst (x2 notNonD (xVar 2) (xC .none))) (tst (x2 eqD (xVar 2) (xVar 3)))) (sRet (xCall (arity 1 m_constant_clause) (aCons (xVar 2) (aNil)))) (sNil)) (sRet (xTup (aCons (xVar 0) (aCons (xVar 1) (aCons (xVar 2) (aCons (xVar 3) (aNil))))))))
def m_normal_form : XF := runF 4 b_normal_form
theorem ok_normal_form (T : Txt K mg A D) : FnG P w K mg base 3 (A 13) (D 13) ["factor", "plus", "low", "high"] m_normal_form :=
  fn_bodyD T.d_normal_form.F sc_normal_form fun cdv A outer s H room hG => ssd_cons (sd_if (td_cmp (op_eqX room.u64) r2_eq (ed_var 0) (ED.od (ed_tup (ad_cons (ed_int) (ad_cons (ed_int) (ad_nil)))))) (ssd_one (sd_ret (CD.ed (cd_call (ok_constant_clause T) (room.mono (by decide)) hG T.d_constant_clause.g T.d_constant_clause.F.kp T.d_constant_clause.b (ad_cons (CD.ed (cd_call (ok_bounded T) (room.mono (by decide)) hG T.d_bounded.g T.d_bounded.F.kp T.d_bounded.b (ad_cons (ed_var 1) (ad_cons (ed_var 2) (ad_cons (ed_var 3) (ad_nil)))))) (ad_nil)))))) (ssd_nil)) (ssd_cons (sd_if (WD.td (wd_and (td_cmp op_notN r2_notN (ed_var 2) (ED.od (ed_non))) (wd_and1 (td_cmp (op_eqX room.u64) r2_eq (ed_var 2) (ED.od (ed_var 3)))))) (ssd_one (sd_ret (CD.ed (cd_call (ok_constant_clause T) (room.mono (by decide)) hG T.d_constant_clause.g T.d_constant_clause.F.kp T.d_constant_clause.b (ad_cons (ed_var 2) (ad_nil)))))) (ssd_nil)) (ssd_one (sd_ret (ed_tup (ad_cons (ed_var 0) (ad_cons (ed_var 1) (ad_cons (ed_var 2) (ad_cons (ed_var 3) (ad_nil)))))))))
abbrev s_chained_two : Stmt := topS 16
abbrev N_chained_two : List Str := ["one", "other", "factor", "plus", "low"]
theorem sc_chained_two : FnScope N_chained_two ["one", "other"] (defScope s_chained_two) := ⟨rfl, rfl, rfl, by decide +kernel, rfl, by decide +kernel, by decide +kernel⟩
def b_chained_two : XS := sSeq (sIf (xOrT (tst (x2 eqD (x2 idxD (xVar 0) (xC (.int 0))) (xTup (aCons (xC (.int 0)) (aCons (xC (.int 1)) (aNil)))))) (tst (x2 eqD (x2 idxD (xVar 1) (xC (.int 0))) (xTup (aCons (xC (.int 0)) (aCons (xC (.int 1)) (aNil))))))) (sRet (xCall (arity 1 m_constant_clause) (aCons (xCall (arity 2 m_applied) (aCons (xVar 1) (aCons (x2 idxD (xVar 0) (xC (.int 1))) (aNil)))) (aNil)))) (sNil)) (sSeq (sSet 2 (xCall m_fraction_product (aCons (x2 idxD (xVar 0) (xC (.int 0))) (aCons (x2 idxD (xVar 1) (xC (.int 0))) (aNil))))) (sSeq (sSet 3 (xCall m_fraction_sum (aCons (xCall m_fraction_product (aCons (x2 idxD (xVar 1) (xC (.int 0))) (aCons (x2 idxD (xVar 0) (xC (.int 1))) (aNil)))) (aCons (x2 idxD (xVar 1) (xC (.int 1))) (aNil))))) (sSeq (sSet 4 (xCall (arity 3 m_end_after) (aCons (x2 idxD (xVar 0) (xC (.int 2))) (aCons (xVar 1) (aCons (x2 idxD (xVar 1) (xC (.int 2))) (aNil)))))) (sRet (xCall m_normal_form (aPick [.inl 0, .inl 1, .inl 2, .inl 3] (aCons (xVar 2) (aCons (xVar 3) (aNil))) (aCons (xVar 4) (aCons (xCall (arity 3 m_end_after) (aCons (x2 idxD (xVar 0) (xC (.int 3))) (aCons (xVar 1) (aCons (x2 idxD (xVar 1) (xC (.int 3))) (aNil))))) (aNil)))))))))
def m_chained_two : XF := runF 5 b_chained_two
theorem ok_chained_two (T : Txt K mg A D) : FnG P w K mg base 6 (A 16) (D 16) ["one", "other"] m_chained_two :=
  fn_body T.d_chained_two.F sc_chained_two fun cdv A outer s H room hG => ssd_cons (sd_if (WD.td (wd_or (td_cmp (op_eqX room.u64) r2_eq (ed_ix (ed_var 0) (ED.od (ed_int))) (ED.od (ed_tup (ad_cons (ed_int) (ad_cons (ed_int) (ad_nil)))))) (wd_or1 (td_cmp (op_eqX room.u64) r2_eq (ed_ix (ed_var 1) (ED.od (ed_int))) (ED.od (ed_tup (ad_cons (ed_int) (ad_cons (ed_int) (ad_nil))))))))) (ssd_one (sd_ret (CD.ed (cd_call (ok_constant_clause T) (room.mono (by decide)) hG T.d_constant_clause.g T.d_constant_clause.F.kp T.d_constant_clause.b (ad_cons (CD.ed (cd_call (ok_applied T) (room.mono (by decide)) hG T.d_applied.g T.d_applied.F.kp T.d_applied.b (ad_cons (ed_var 1) (ad_cons (ed_ix (ed_var 0) (ED.od (ed_int))) (ad_nil))))) (ad_nil)))))) (ssd_nil)) (ssd_cons (sd_set 2 sc_chained_two.nd (CD.ed (cd_callV (ok_fraction_product T) (room.mono (by decide)) hG T.d_fraction_product.g T.d_fraction_product.F.kp (ad_cons (ed_ix (ed_var 0) (ED.od (ed_int))) (ad_cons (ed_ix (ed_var 1) (ED.od (ed_int))) (ad_nil)))))) (ssd_cons (sd_set 3 sc_chained_two.nd (CD.ed (cd_callV (ok_fraction_sum T) (room.mono (by decide)) hG T.d_fraction_sum.g T.d_fraction_sum.F.kp (ad_cons (CD.ed (cd_callV (ok_fraction_product T) (room.mono (by decide)) hG T.d_fraction_product.g T.d_fraction_product.F.kp (ad_cons (ed_ix (ed_var 1) (ED.od (ed_int))) (ad_cons (ed_ix (ed_var 0) (ED.od (ed_int))) (ad_nil))))) (ad_cons (ed_ix (ed_var 1) (ED.od (ed_int))) (ad_nil)))))) (ssd_cons (sd_set 4 sc_chained_two.nd (CD.ed (cd_call (ok_end_after T) (room.mono (by decide)) hG T.d_end_after.g T.d_end_after.F.kp T.d_end_after.b (ad_cons (ed_ix (ed_var 0) (ED.od (ed_int))) (ad_cons (ed_var 1) (ad_cons (ed_ix (ed_var 1) (ED.od (ed_int))) (ad_nil))))))) (ssd_one (sd_ret (CD.ed (cd_callPQ (ok_normal_form T) (room.mono (by decide)) hG T.d_normal_form.g T.d_normal_form.F.kp T.q_normal_form_2_low_high (ad_cons (ed_var 2) (ad_cons (ed_var 3) (ad_nil))) (kd_cons (ed_var 4) (kd_cons (CD.ed (cd_call (ok_end_after T) (room.mono (by decide)) hG T.d_end_after.g T.d_end_after.F.kp T.d_end_after.b (ad_cons (ed_ix (ed_var 0) (ED.od (ed_int))) (ad_cons (ed_var 1) (ad_cons (ed_ix (ed_var 1) (ED.od (ed_int))) (ad_nil)))))) (kd_nil))) (ln_cons (ln_cons (ln_nil))) (ln_cons (ln_cons (ln_nil))))))))))
abbrev s_chained : Stmt := topS 17
abbrev N_chained : List Str := ["clauses", "found", "clause"]
theorem sc_chained : FnScope N_chained ["clauses"] (defScope s_chained) := ⟨rfl, rfl, rfl, by decide +kernel, rfl, by decide +kernel, by decide +kernel⟩
def b_chained : XS := sSeq (sSet 1 (xC (.tuple [.tuple [.int 1, .int 1], .tuple [.int 0, .int 1], .none, .none]))) (sSeq (sFor (iOf (xVar 0)) (gNm 2) (sSet 1 (xCall (arity 2 m_chained_two) (aCons (xVar 1) (aCons (xVar 2) (aNil)))))) (sRet (xVar 1)))
def m_chained : XF := starF (runF 3 b_chained)
theorem ok_chained (T : Txt K mg A D) : FnV P w K mg base 7 (A 17) m_chained :=
  fn_bodyV T.d_chained.F sc_chained T.d_chained.bv fun cdv A outer s H room hG => ssd_cons (sd_set 1 sc_chained.nd (ed_globT T.c_IDENTITY)) (ssd_cons (sd_for PassesOwn.never rfl (id_seq (ed_var 0)) (gd_name 2 sc_chained.nd) (ssd_one (sd_set 1 sc_chained.nd (CD.ed (cd_call (ok_chained_two T) (room.mono (by decide)) hG T.d_chained_two.g T.d_chained_two.F.kp T.d_chained_two.b (ad_cons (ed_var 1) (ad_cons (ed_var 2) (ad_nil)))))))) (ssd_one (sd_ret (ed_var 1))))
abbrev s_l_gcd : Stmt := topS 26
abbrev N_l_gcd : List Str := ["_law_one_in", "_law_other_in"]
theorem sc_l_gcd : FnScope N_l_gcd ["_law_one_in", "_law_other_in"] (defScope s_l_gcd) := ⟨rfl, rfl, rfl, by decide +kernel, rfl, by decide +kernel, by decide +kernel⟩
def b_l_gcd : XS := sSeq (sPar 0 1 (x1 absD (xVar 0)) (x1 absD (xVar 1))) (sSeq (sWh (gcdFuel) (tst (x2 neD (xVar 1) (xC (.int 0)))) (sPar 0 1 (xVar 1) (x2 modD (xVar 0) (xVar 1)))) (sRet (xVar 0)))
def m_l_gcd : XF := runF 2 b_l_gcd
theorem ok_l_gcd (T : Txt K mg A D) : FnG P w K mg base 1 (A 26) (D 26) ["_law_one_in", "_law_other_in"] m_l_gcd :=
  fn_body T.d_l_gcd.F sc_l_gcd fun cdv A outer s H room hG => ssd_cons (sd_par rfl sc_l_gcd.nd (ed_c1 call_abs c1_abs T.n_abs b_abs (ED.od (ed_var 0))) (ed_c1 call_abs c1_abs T.n_abs b_abs (ED.od (ed_var 1)))) (ssd_cons (sd_wh (gcdFuel) PassesOwn.never (td_cmp (op_neX room.u64) r2_ne (ed_var 1) (ED.od (ed_int))) (ssd_one (sd_par rfl sc_l_gcd.nd (ed_var 1) (ed_bin op_modD r2_mod (ed_var 0) (ED.od (ed_var 1)))))) (ssd_one (sd_ret (ed_var 0))))
abbrev s_l_ratio : Stmt := topS 27
abbrev N_l_ratio : List Str := ["_law_top", "_law_under", "_law_part"]
theorem sc_l_ratio : FnScope N_l_ratio ["_law_top", "_law_under"] (defScope s_l_ratio) := ⟨rfl, rfl, rfl, by decide +kernel, rfl, by decide +kernel, by decide +kernel⟩
def b_l_ratio : XS := sSeq (sSet 2 (xIf (tst (x2 gtD (xVar 1) (xC (.int 0)))) (xCall (arity 2 m_l_gcd) (aCons (xVar 0) (aCons (xVar 1) (aNil)))) (x2 subD (xC (.int 0)) (xCall (arity 2 m_l_gcd) (aCons (xVar 0) (aCons (xVar 1) (aNil))))))) (sRet (xTup (aCons (x2 fdivD (xVar 0) (xVar 2)) (aCons (x2 fdivD (xVar 1) (xVar 2)) (aNil)))))
def m_l_ratio : XF := runF 3 b_l_ratio
theorem ok_l_ratio (T : Txt K mg A D) : FnG P w K mg base 2 (A 27) (D 27) ["_law_top", "_law_under"] m_l_ratio :=
  fn_body T.d_l_ratio.F sc_l_ratio fun cdv A outer s H room hG => ssd_cons (sd_set 2 sc_l_ratio.nd (ed_if (td_cmp op_gt r2_gt (ed_var 1) (ED.od (ed_int))) (CD.ed (cd_call (ok_l_gcd T) (room.mono (by decide)) hG T.d_l_gcd.g T.d_l_gcd.F.kp T.d_l_gcd.b (ad_cons (ed_var 0) (ad_cons (ed_var 1) (ad_nil))))) (ed_bin op_subD r2_sub (ed_int) (ED.od (CD.ed (cd_call (ok_l_gcd T) (room.mono (by decide)) hG T.d_l_gcd.g T.d_l_gcd.F.kp T.d_l_gcd.b (ad_cons (ed_var 0) (ad_cons (ed_var 1) (ad_nil))))))))) (ssd_one (sd_ret (ed_tup (ad_cons (ed_bin op_fdivD r2_fdiv (ed_var 0) (ED.od (ed_var 2))) (ad_cons (ed_bin op_fdivD r2_fdiv (ed_var 1) (ED.od (ed_var 2))) (ad_nil))))))
abbrev s_l_add : Stmt := topS 28
abbrev N_l_add : List Str := ["_law_one_in", "_law_other_in"]
theorem sc_l_add : FnScope N_l_add ["_law_one_in", "_law_other_in"] (defScope s_l_add) := ⟨rfl, rfl, rfl, by decide +kernel, rfl, by decide +kernel, by decide +kernel⟩
def b_l_add : XS := sRet (xCall (arity 2 m_l_ratio) (aCons (x2 addD (x2 mulD (x2 idxD (xVar 0) (xC (.int 0))) (x2 idxD (xVar 1) (xC (.int 1)))) (x2 mulD (x2 idxD (xVar 1) (xC (.int 0))) (x2 idxD (xVar 0) (xC (.int 1))))) (aCons (x2 mulD (x2 idxD (xVar 0) (xC (.int 1))) (x2 idxD (xVar 1) (xC (.int 1)))) (aNil))))
def m_l_add : XF := runF 2 b_l_add
theorem ok_l_add (T : Txt K mg A D) : FnG P w K mg base 3 (A 28) (D 28) ["_law_one_in", "_law_other_in"] m_l_add :=
  fn_body T.d_l_add.F sc_l_add fun cdv A outer s H room hG => ssd_one (sd_ret (CD.ed (cd_call (ok_l_ratio T) (room.mono (by decide)) hG T.d_l_ratio.g T.d_l_ratio.F.kp T.d_l_ratio.b (ad_cons (ed_bin op_addD r2_add (ed_bin op_mulD r2_mul (ed_ix (ed_var 0) (ED.od (ed_int))) (ED.od (ed_ix (ed_var 1) (ED.od (ed_int))))) (ED.od (ed_bin op_mulD r2_mul (ed_ix (ed_var 1) (ED.od (ed_int))) (ED.od (ed_ix (ed_var 0) (ED.od (ed_int))))))) (ad_cons (ed_bin op_mulD r2_mul (ed_ix (ed_var 0) (ED.od (ed_int))) (ED.od (ed_ix (ed_var 1) (ED.od (ed_int))))) (ad_nil))))))
abbrev s_l_less : Stmt := topS 30
abbrev N_l_less : List Str := ["_law_one_in", "_law_other_in"]
theorem sc_l_less : FnScope N_l_less ["_law_one_in", "_law_other_in"] (defScope s_l_less) := ⟨rfl, rfl, rfl, by decide +kernel, rfl, by decide +kernel, by decide +kernel⟩
def b_l_less : XS := sRet (x2 ltD (x2 mulD (x2 idxD (xVar 0) (xC (.int 0))) (x2 idxD (xVar 1) (xC (.int 1)))) (x2 mulD (x2 idxD (xVar 1) (xC (.int 0))) (x2 idxD (xVar 0) (xC (.int 1)))))
def m_l_less : XF := runF 2 b_l_less
theorem ok_l_less (T : Txt K mg A D) : FnG P w K mg base 1 (A 30) (D 30) ["_law_one_in", "_law_other_in"] m_l_less :=
  fn_body T.d_l_less.F sc_l_less fun cdv A outer s H room hG => ssd_one (sd_ret (ed_cmp op_ltD r2_lt (ed_bin op_mulD r2_mul (ed_ix (ed_var 0) (ED.od (ed_int))) (ED.od (ed_ix (ed_var 1) (ED.od (ed_int))))) (ED.od (ed_bin op_mulD r2_mul (ed_ix (ed_var 1) (ED.od (ed_int))) (ED.od (ed_ix (ed_var 0) (ED.od (ed_int))))))))
abbrev s_l_bounded : Stmt := topS 31
abbrev N_l_bounded : List Str := ["_law_size_here", "_law_low", "_law_high"]
theorem sc_l_bounded : FnScope N_l_bounded ["_law_size_here", "_law_low", "_law_high"] (defScope s_l_bounded) := ⟨rfl, rfl, rfl, by decide +kernel, rfl, by decide +kernel, by decide +kernel⟩
def b_l_bounded : XS := sSeq (sIf (xAndT (tst (x2 notNonD (xVar 1) (xC .none))) (xTru (xCall (arity 2 m_l_less) (aCons (xVar 0) (aCons (xVar 1) (aNil)))))) (sRet (xVar 1)) (sNil)) (sRet (xIf (xAndT (tst (x2 notNonD (xVar 2) (xC .none))) (xTru (xCall (arity 2 m_l_less) (aCons (xVar 2) (aCons (xVar 0) (aNil)))))) (xVar 2) (xVar 0)))
def m_l_bounded : XF := runF 3 b_l_bounded
theorem ok_l_bounded (T : Txt K mg A D) : FnG P w K mg base 2 (A 31) (D 31) ["_law_size_here", "_law_low", "_law_high"] m_l_bounded :=
  fn_body T.d_l_bounded.F sc_l_bounded fun cdv A outer s H room hG => ssd_cons (sd_if (WD.td (wd_and (td_cmp op_notN r2_notN (ed_var 1) (ED.od (ed_non))) (wd_and1 (td_tru (ED.od (CD.ed (cd_call (ok_l_less T) (room.mono (by decide)) hG T.d_l_less.g T.d_l_less.F.kp T.d_l_less.b (ad_cons (ed_var 0) (ad_cons (ed_var 1) (ad_nil)))))))))) (ssd_one (sd_ret (ed_var 1))) (ssd_nil)) (ssd_one (sd_ret (ed_if (WD.td (wd_and (td_cmp op_notN r2_notN (ed_var 2) (ED.od (ed_non))) (wd_and1 (td_tru (ED.od (CD.ed (cd_call (ok_l_less T) (room.mono (by decide)) hG T.d_l_less.g T.d_l_less.F.kp T.d_l_less.b (ad_cons (ed_var 2) (ad_cons (ed_var 0) (ad_nil)))))))))) (ed_var 2) (ed_var 0))))
abbrev s_l_normal : Stmt := topS 34
abbrev N_l_normal : List Str := ["_law_ratio_here", "_law_more", "_law_low", "_law_high"]
theorem sc_l_normal : FnScope N_l_normal ["_law_ratio_here", "_law_more", "_law_low", "_law_high"] (defScope s_l_normal) := ⟨rfl, rfl, rfl, by decide +kernel, rfl, by decide +kernel, by decide +kernel⟩
def b_l_normal : XS := sSeq (sIf (tst (x2 eqD (xVar 0) (xTup (aCons (xC (.int 0)) (aCons (xC (.int 1)) (aNil)))))) (sRet (xCall (arity 1 m_l_constant) (aCons (xCall (arity 3 m_l_bounded) (aCons (xVar 1) (aCons (xVar 2) (aCons (xVar 3) (aNil))))) (aNil)))) (sNil)) (sRet (xIf (xAndT (tst (x2 notNonD (xVar 2) (xC .none))) (tst (x2 eqD (xVar 2) (xVar 3)))) (xCall (arity 1 m_l_constant) (aCons (xVar 2) (aNil))) (xTup (aCons (xVar 0) (aCons (xVar 1) (aCons (xVar 2) (aCons (xVar 3) (aNil))))))))
def m_l_normal : XF := runF 4 b_l_normal
theorem ok_l_normal (T : Txt K mg A D) : FnG P w K mg base 3 (A 34) (D 34) ["_law_ratio_here", "_law_more", "_law_low", "_law_high"] m_l_normal :=
  fn_body T.d_l_normal.F sc_l_normal fun cdv A outer s H room hG => ssd_cons (sd_if (td_cmp (op_eqX room.u64) r2_eq (ed_var 0) (ED.od (ed_tup (ad_cons (ed_int) (ad_cons (ed_int) (ad_nil)))))) (ssd_one (sd_ret (CD.ed (cd_call (ok_l_constant T) (room.mono (by decide)) hG T.d_l_constant.g T.d_l_constant.F.kp T.d_l_constant.b (ad_cons (CD.ed (cd_call (ok_l_bounded T) (room.mono (by decide)) hG T.d_l_bounded.g T.d_l_bounded.F.kp T.d_l_bounded.b (ad_cons (ed_var 1) (ad_cons (ed_var 2) (ad_cons (ed_var 3) (ad_nil)))))) (ad_nil)))))) (ssd_nil)) (ssd_one (sd_ret (ed_if (WD.td (wd_and (td_cmp op_notN r2_notN (ed_var 2) (ED.od (ed_non))) (wd_and1 (td_cmp (op_eqX room.u64) r2_eq (ed_var 2) (ED.od (ed_var 3)))))) (CD.ed (cd_call (ok_l_constant T) (room.mono (by decide)) hG T.d_l_constant.g T.d_l_constant.F.kp T.d_l_constant.b (ad_cons (ed_var 2) (ad_nil)))) (ed_tup (ad_cons (ed_var 0) (ad_cons (ed_var 1) (ad_cons (ed_var 2) (ad_cons (ed_var 3) (ad_nil)))))))))
abbrev s_l_times : Stmt := topS 29
abbrev N_l_times : List Str := ["_law_one_in", "_law_other_in"]
theorem sc_l_times : FnScope N_l_times ["_law_one_in", "_law_other_in"] (defScope s_l_times) := ⟨rfl, rfl, rfl, by decide +kernel, rfl, by decide +kernel, by decide +kernel⟩
def b_l_times : XS := sRet (xCall (arity 2 m_l_ratio) (aCons (x2 mulD (x2 idxD (xVar 0) (xC (.int 0))) (x2 idxD (xVar 1) (xC (.int 0)))) (aCons (x2 mulD (x2 idxD (xVar 0) (xC (.int 1))) (x2 idxD (xVar 1) (xC (.int 1)))) (aNil))))
def m_l_times : XF := runF 2 b_l_times
theorem ok_l_times (T : Txt K mg A D) : FnG P w K mg base 3 (A 29) (D 29) ["_law_one_in", "_law_other_in"] m_l_times :=
  fn_body T.d_l_times.F sc_l_times fun cdv A outer s H room hG => ssd_one (sd_ret (CD.ed (cd_call (ok_l_ratio T) (room.mono (by decide)) hG T.d_l_ratio.g T.d_l_ratio.F.kp T.d_l_ratio.b (ad_cons (ed_bin op_mulD r2_mul (ed_ix (ed_var 0) (ED.od (ed_int))) (ED.od (ed_ix (ed_var 1) (ED.od (ed_int))))) (ad_cons (ed_bin op_mulD r2_mul (ed_ix (ed_var 0) (ED.od (ed_int))) (ED.od (ed_ix (ed_var 1) (ED.od (ed_int))))) (ad_nil))))))
abbrev s_l_apply : Stmt := topS 32
abbrev N_l_apply : List Str := ["_law_item_here", "_law_size_here"]
theorem sc_l_apply : FnScope N_l_apply ["_law_item_here", "_law_size_here"] (defScope s_l_apply) := ⟨rfl, rfl, rfl, by decide +kernel, rfl, by decide +kernel, by decide +kernel⟩
def b_l_apply : XS := sRet (xCall (arity 3 m_l_bounded) (aCons (xCall (arity 2 m_l_add) (aCons (xCall (arity 2 m_l_times) (aCons (x2 idxD (xVar 0) (xC (.int 0))) (aCons (xVar 1) (aNil)))) (aCons (x2 idxD (xVar 0) (xC (.int 1))) (aNil)))) (aCons (x2 idxD (xVar 0) (xC (.int 2))) (aCons (x2 idxD (xVar 0) (xC (.int 3))) (aNil)))))
def m_l_apply : XF := runF 2 b_l_apply
theorem ok_l_apply (T : Txt K mg A D) : FnG P w K mg base 4 (A 32) (D 32) ["_law_item_here", "_law_size_here"] m_l_apply :=
  fn_body T.d_l_apply.F sc_l_apply fun cdv A outer s H room hG => ssd_one (sd_ret (CD.ed (cd_call (ok_l_bounded T) (room.mono (by decide)) hG T.d_l_bounded.g T.d_l_bounded.F.kp T.d_l_bounded.b (ad_cons (CD.ed (cd_call (ok_l_add T) (room.mono (by decide)) hG T.d_l_add.g T.d_l_add.F.kp T.d_l_add.b (ad_cons (CD.ed (cd_call (ok_l_times T) (room.mono (by decide)) hG T.d_l_times.g T.d_l_times.F.kp T.d_l_times.b (ad_cons (ed_ix (ed_var 0) (ED.od (ed_int))) (ad_cons (ed_var 1) (ad_nil))))) (ad_cons (ed_ix (ed_var 0) (ED.od (ed_int))) (ad_nil))))) (ad_cons (ed_ix (ed_var 0) (ED.od (ed_int))) (ad_cons (ed_ix (ed_var 0) (ED.od (ed_int))) (ad_nil)))))))
abbrev s_l_then : Stmt := topS 35
abbrev N_l_then : List Str := ["_law_one_in", "_law_other_in", "_law_low", "_law_high", "_law_more"]
theorem sc_l_then : FnScope N_l_then ["_law_one_in", "_law_other_in"] (defScope s_l_then) := ⟨rfl, rfl, rfl, by decide +kernel, rfl, by decide +kernel, by decide +kernel⟩
def b_l_then : XS := sSeq (sIf (xOrT (tst (x2 eqD (x2 idxD (xVar 0) (xC (.int 0))) (xTup (aCons (xC (.int 0)) (aCons (xC (.int 1)) (aNil)))))) (tst (x2 eqD (x2 idxD (xVar 1) (xC (.int 0))) (xTup (aCons (xC (.int 0)) (aCons (xC (.int 1)) (aNil))))))) (sRet (xCall (arity 1 m_l_constant) (aCons (xCall (arity 2 m_l_apply) (aCons (xVar 1) (aCons (x2 idxD (xVar 0) (xC (.int 1))) (aNil)))) (aNil)))) (sNil)) (sSeq (sSet 2 (xIf (tst (x2 isNonD (x2 idxD (xVar 0) (xC (.int 2))) (xC .none))) (x2 idxD (xVar 1) (xC (.int 2))) (xCall (arity 2 m_l_apply) (aCons (xVar 1) (aCons (x2 idxD (xVar 0) (xC (.int 2))) (aNil)))))) (sSeq (sSet 3 (xIf (tst (x2 isNonD (x2 idxD (xVar 0) (xC (.int 3))) (xC .none))) (x2 idxD (xVar 1) (xC (.int 3))) (xCall (arity 2 m_l_apply) (aCons (xVar 1) (aCons (x2 idxD (xVar 0) (xC (.int 3))) (aNil)))))) (sSeq (sSet 4 (xCall (arity 2 m_l_add) (aCons (xCall (arity 2 m_l_times) (aCons (x2 idxD (xVar 1) (xC (.int 0))) (aCons (x2 idxD (xVar 0) (xC (.int 1))) (aNil)))) (aCons (x2 idxD (xVar 1) (xC (.int 1))) (aNil))))) (sRet (xCall (arity 4 m_l_normal) (aCons (xCall (arity 2 m_l_times) (aCons (x2 idxD (xVar 0) (xC (.int 0))) (aCons (x2 idxD (xVar 1) (xC (.int 0))) (aNil)))) (aCons (xVar 4) (aCons (xVar 2) (aCons (xVar 3) (aNil))))))))))
def m_l_then : XF := runF 5 b_l_then
theorem ok_l_then (T : Txt K mg A D) : FnG P w K mg base 5 (A 35) (D 35) ["_law_one_in", "_law_other_in"] m_l_then :=
  fn_body T.d_l_then.F sc_l_then fun cdv A outer s H room hG => ssd_cons (sd_if (WD.td (wd_or (td_cmp (op_eqX room.u64) r2_eq (ed_ix (ed_var 0) (ED.od (ed_int))) (ED.od (ed_tup (ad_cons (ed_int) (ad_cons (ed_int) (ad_nil)))))) (wd_or1 (td_cmp (op_eqX room.u64) r2_eq (ed_ix (ed_var 1) (ED.od (ed_int))) (ED.od (ed_tup (ad_cons (ed_int) (ad_cons (ed_int) (ad_nil))))))))) (ssd_one (sd_ret (CD.ed (cd_call (ok_l_constant T) (room.mono (by decide)) hG T.d_l_constant.g T.d_l_constant.F.kp T.d_l_constant.b (ad_cons (CD.ed (cd_call (ok_l_apply T) (room.mono (by decide)) hG T.d_l_apply.g T.d_l_apply.F.kp T.d_l_apply.b (ad_cons (ed_var 1) (ad_cons (ed_ix (ed_var 0) (ED.od (ed_int))) (ad_nil))))) (ad_nil)))))) (ssd_nil)) (ssd_cons (sd_set 2 sc_l_then.nd (ed_if (td_cmp op_isN r2_isN (ed_ix (ed_var 0) (ED.od (ed_int))) (ED.od (ed_non))) (ed_ix (ed_var 1) (ED.od (ed_int))) (CD.ed (cd_call (ok_l_apply T) (room.mono (by decide)) hG T.d_l_apply.g T.d_l_apply.F.kp T.d_l_apply.b (ad_cons (ed_var 1) (ad_cons (ed_ix (ed_var 0) (ED.od (ed_int))) (ad_nil))))))) (ssd_cons (sd_set 3 sc_l_then.nd (ed_if (td_cmp op_isN r2_isN (ed_ix (ed_var 0) (ED.od (ed_int))) (ED.od (ed_non))) (ed_ix (ed_var 1) (ED.od (ed_int))) (CD.ed (cd_call (ok_l_apply T) (room.mono (by decide)) hG T.d_l_apply.g T.d_l_apply.F.kp T.d_l_apply.b (ad_cons (ed_var 1) (ad_cons (ed_ix (ed_var 0) (ED.od (ed_int))) (ad_nil))))))) (ssd_cons (sd_set 4 sc_l_then.nd (CD.ed (cd_call (ok_l_add T) (room.mono (by decide)) hG T.d_l_add.g T.d_l_add.F.kp T.d_l_add.b (ad_cons (CD.ed (cd_call (ok_l_times T) (room.mono (by decide)) hG T.d_l_times.g T.d_l_times.F.kp T.d_l_times.b (ad_cons (ed_ix (ed_var 1) (ED.od (ed_int))) (ad_cons (ed_ix (ed_var 0) (ED.od (ed_int))) (ad_nil))))) (ad_cons (ed_ix (ed_var 1) (ED.od (ed_int))) (ad_nil)))))) (ssd_one (sd_ret (CD.ed (cd_call (ok_l_normal T) (room.mono (by decide)) hG T.d_l_normal.g T.d_l_normal.F.kp T.d_l_normal.b (ad_cons (CD.ed (cd_call (ok_l_times T) (room.mono (by decide)) hG T.d_l_times.g T.d_l_times.F.kp T.d_l_times.b (ad_cons (ed_ix (ed_var 0) (ED.od (ed_int))) (ad_cons (ed_ix (ed_var 1) (ED.od (ed_int))) (ad_nil))))) (ad_cons (ed_var 4) (ad_cons (ed_var 2) (ad_cons (ed_var 3) (ad_nil))))))))))))
abbrev s_l_chain : Stmt := topS 36
abbrev N_l_chain : List Str := ["_law_items", "_law_found", "_law_item_here"]
theorem sc_l_chain : FnScope N_l_chain ["_law_items"] (defScope s_l_chain) := ⟨rfl, rfl, rfl, by decide +kernel, rfl, by decide +kernel, by decide +kernel⟩
def b_l_chain : XS := sSeq (sSet 1 (xTup (aCons (xTup (aCons (xC (.int 1)) (aCons (xC (.int 1)) (aNil)))) (aCons (xTup (aCons (xC (.int 0)) (aCons (xC (.int 1)) (aNil)))) (aCons (xC .none) (aCons (xC .none) (aNil))))))) (sSeq (sFor (iOf (xVar 0)) (gNm 2) (sSet 1 (xCall (arity 2 m_l_then) (aCons (xVar 1) (aCons (xVar 2) (aNil)))))) (sRet (xVar 1)))
def m_l_chain : XF := runF 3 b_l_chain
theorem ok_l_chain (T : Txt K mg A D) : FnG P w K mg base 6 (A 36) (D 36) ["_law_items"] m_l_chain :=
  fn_body T.d_l_chain.F sc_l_chain fun cdv A outer s H room hG => ssd_cons (sd_set 1 sc_l_chain.nd (ed_tup (ad_cons (ed_tup (ad_cons (ed_int) (ad_cons (ed_int) (ad_nil)))) (ad_cons (ed_tup (ad_cons (ed_int) (ad_cons (ed_int) (ad_nil)))) (ad_cons (ed_non) (ad_cons (ed_non) (ad_nil))))))) (ssd_cons (sd_for PassesOwn.never rfl (id_seq (ed_var 0)) (gd_name 2 sc_l_chain.nd) (ssd_one (sd_set 1 sc_l_chain.nd (CD.ed (cd_call (ok_l_then T) (room.mono (by decide)) hG T.d_l_then.g T.d_l_then.F.kp T.d_l_then.b (ad_cons (ed_var 1) (ad_cons (ed_var 2) (ad_nil)))))))) (ssd_one (sd_ret (ed_var 1))))
abbrev s_values_of : Stmt := topS 22
abbrev N_values_of : List Str := ["clause", "factor", "plus", "low", "high"]
theorem sc_values_of : FnScope N_values_of ["clause"] (defScope s_values_of) := ⟨rfl, rfl, rfl, by decide +kernel, rfl, by decide +kernel, by decide +kernel⟩
def b_values_of : XS := sSeq (sAsg (xVar 0) (gTp 4 (gsCons (gNm 1) (gsCons (gNm 2) (gsCons (gNm 3) (gsCons (gNm 4) (gsNil))))))) (sRet (xIf (tst (x2 eqD (xVar 1) (xTup (aCons (xC (.int 0)) (aCons (xC (.int 1)) (aNil)))))) (xTup (aCons (xVar 2) (aCons (xVar 2) (aNil)))) (xTup (aCons (xVar 3) (aCons (xVar 4) (aNil))))))
def m_values_of : XF := runF 5 b_values_of
theorem ok_values_of (T : Txt K mg A D) : FnG P w K mg base 1 (A 22) (D 22) ["clause"] m_values_of :=
  fn_body T.d_values_of.F sc_values_of fun cdv A outer s H room hG => ssd_cons (sd_asg (ed_var 0) (gd_tup rfl (gsd_cons (gd_name 1 sc_values_of.nd) (gsd_cons (gd_name 2 sc_values_of.nd) (gsd_cons (gd_name 3 sc_values_of.nd) (gsd_cons (gd_name 4 sc_values_of.nd) (gsd_nil))))))) (ssd_one (sd_ret (ed_if (td_cmp (op_eqX room.u64) r2_eq (ed_var 1) (ED.od (ed_tup (ad_cons (ed_int) (ad_cons (ed_int) (ad_nil)))))) (ed_tup (ad_cons (ed_var 2) (ad_cons (ed_var 2) (ad_nil)))) (ed_tup (ad_cons (ed_var 3) (ad_cons (ed_var 4) (ad_nil)))))))
abbrev s_l_values_right : Stmt := topS 48
abbrev N_l_values_right : List Str := ["_law_item_here", "_law_due"]
theorem sc_l_values_right : FnScope N_l_values_right ["_law_item_here"] (defScope s_l_values_right) := ⟨rfl, rfl, rfl, by decide +kernel, rfl, by decide +kernel, by decide +kernel⟩
def b_l_values_right : XS := sSeq (sSet 1 (xIf (tst (x2 eqD (x2 idxD (xVar 0) (xC (.int 0))) (xTup (aCons (xC (.int 0)) (aCons (xC (.int 1)) (aNil)))))) (xTup (aCons (x2 idxD (xVar 0) (xC (.int 1))) (aCons (x2 idxD (xVar 0) (xC (.int 1))) (aNil)))) (xTup (aCons (x2 idxD (xVar 0) (xC (.int 2))) (aCons (x2 idxD (xVar 0) (xC (.int 3))) (aNil)))))) (sRet (x2 eqD (x1 reprD (xLst (aCons (xCall (arity 1 m_values_of) (aCons (xVar 0) (aNil))) (aCons (xCall m_values_of (aPick [.inl 0] (aNil) (aCons (xVar 0) (aNil)))) (aNil))))) (x1 reprD (xLst (aCons (xVar 1) (aCons (xVar 1) (aNil)))))))
def m_l_values_right : XF := runF 2 b_l_values_right
theorem ok_l_values_right (T : Txt K mg A D) : FnG P w K mg base 2 (A 48) (D 48) ["_law_item_here"] m_l_values_right :=
  fn_body T.d_l_values_right.F sc_l_values_right fun cdv A outer s H room hG => ssd_cons (sd_set 1 sc_l_values_right.nd (ed_if (td_cmp (op_eqX room.u64) r2_eq (ed_ix (ed_var 0) (ED.od (ed_int))) (ED.od (ed_tup (ad_cons (ed_int) (ad_cons (ed_int) (ad_nil)))))) (ed_tup (ad_cons (ed_ix (ed_var 0) (ED.od (ed_int))) (ad_cons (ed_ix (ed_var 0) (ED.od (ed_int))) (ad_nil)))) (ed_tup (ad_cons (ed_ix (ed_var 0) (ED.od (ed_int))) (ad_cons (ed_ix (ed_var 0) (ED.od (ed_int))) (ad_nil)))))) (ssd_one (sd_ret (ed_cmp (op_eqX room.u64) r2_eq (ed_c1 (call_reprD hG room.u64) c1_repr T.n_repr b_repr (ED.od (ed_lst (ad_cons (CD.ed (cd_call (ok_values_of T) (room.mono (by decide)) hG T.d_values_of.g T.d_values_of.F.kp T.d_values_of.b (ad_cons (ed_var 0) (ad_nil)))) (ad_cons (CD.ed (cd_callQ (ok_values_of T) (room.mono (by decide)) hG T.d_values_of.g T.d_values_of.F.kp T.q_values_of_0_clause (kd_cons (ed_var 0) (kd_nil)) (ln_cons (ln_nil)))) (ad_nil)))))) (ED.od (ed_c1 (call_reprD hG room.u64) c1_repr T.n_repr b_repr (ED.od (ed_lst (ad_cons (ed_var 1) (ad_cons (ed_var 1) (ad_nil))))))))))
abbrev s_l_draw : Stmt := topS 25
abbrev N_l_draw : List Str := ["_law_feed_here", "_law_many", "_law_digit", "_law_at", "_law_cell", "_law_mixed"]
theorem sc_l_draw : FnScope N_l_draw ["_law_feed_here", "_law_many"] (defScope s_l_draw) := ⟨rfl, rfl, rfl, by decide +kernel, rfl, by decide +kernel, by decide +kernel⟩
def b_l_draw : XS := sSeq (sPut 0 (xC (.str "count")) (x2 addD (xGet 0 (xC (.str "count"))) (xC (.int 1)))) (sSeq (sIf (tst (x2 gtD (xGet 0 (xC (.str "left"))) (xC (.int 0)))) (sSeq (sSet 2 (x2 modD (xGet 0 (xC (.str "left"))) (xVar 1))) (sSeq (sPut 0 (xC (.str "left")) (x2 fdivD (xGet 0 (xC (.str "left"))) (xVar 1))) (sRet (xVar 2)))) (sNil)) (sSeq (sSet 3 (xGet 0 (xC (.str "at")))) (sSeq (sPut 0 (xC (.str "at")) (x2 addD (xVar 3) (xC (.int 1)))) (sSeq (sSet 4 (xIf (tst (x2 neD (xGet 0 (xC (.str "cells"))) (xLst (aNil)))) (x2 idxD (xGet 0 (xC (.str "cells"))) (x2 modD (xVar 3) (x1 lenD (xGet 0 (xC (.str "cells")))))) (xC (.int 53)))) (sSeq (sIf (xAndT (tst (x2 geD (xVar 4) (x2 powD (xC (.int 10)) (xC (.int 18))))) (tst (x2 ltD (xVar 3) (x1 lenD (xGet 0 (xC (.str "cells"))))))) (sSeq (sPut 0 (xC (.str "left")) (x2 fdivD (xVar 4) (xVar 1))) (sRet (x2 modD (xVar 4) (xVar 1)))) (sNil)) (sSeq (sSet 5 (x2 modD (x2 addD (x2 addD (x2 modD (xVar 4) (xC (.int 1000000453))) (x2 mulD (xC (.int 150011)) (xGet 0 (xC (.str "count"))))) (xC (.int 97))) (xC (.int 2147483423)))) (sSeq (sSet 5 (x2 modD (x2 addD (x2 addD (x2 mulD (xVar 5) (xVar 5)) (x2 mulD (xC (.int 3700129)) (xGet 0 (xC (.str "count"))))) (xC (.int 67))) (xC (.int 2147483399)))) (sRet (x2 modD (x2 fdivD (x2 modD (x2 addD (x2 mulD (xVar 5) (xVar 5)) (x2 mulD (xC (.int 79)) (xVar 5))) (xC (.int 2147483353))) (xC (.int 16))) (xVar 1))))))))))
def m_l_draw : XF := runF 6 b_l_draw
theorem ok_l_draw (T : Txt K mg A D) : FnG P w K mg base 1 (A 25) (D 25) ["_law_feed_here", "_law_many"] m_l_draw :=
  fn_body T.d_l_draw.F sc_l_draw fun cdv A outer s H room hG => ssd_cons (sd_put 0 room.u1 (ed_str) (ed_bin op_addD r2_add (ed_get 0 room.u1 (ed_str)) (ED.od (ed_int)))) (ssd_cons (sd_if (td_cmp op_gt r2_gt (ed_get 0 room.u1 (ed_str)) (ED.od (ed_int))) (ssd_cons (sd_set 2 sc_l_draw.nd (ed_bin op_modD r2_mod (ed_get 0 room.u1 (ed_str)) (ED.od (ed_var 1)))) (ssd_cons (sd_put 0 room.u1 (ed_str) (ed_bin op_fdivD r2_fdiv (ed_get 0 room.u1 (ed_str)) (ED.od (ed_var 1)))) (ssd_one (sd_ret (ed_var 2))))) (ssd_nil)) (ssd_cons (sd_set 3 sc_l_draw.nd (ed_get 0 room.u1 (ed_str))) (ssd_cons (sd_put 0 room.u1 (ed_str) (ed_bin op_addD r2_add (ed_var 3) (ED.od (ed_int)))) (ssd_cons (sd_set 4 sc_l_draw.nd (ed_if (td_cmp (op_neX room.u64) r2_ne (ed_get 0 room.u1 (ed_str)) (ED.od (ed_lst (ad_nil)))) (ed_ix (ed_get 0 room.u1 (ed_str)) (ED.od (ed_bin op_modD r2_mod (ed_var 3) (ED.od (ed_c1 call_len c1_len T.n_len b_len (ED.od (ed_get 0 room.u1 (ed_str)))))))) (ed_int))) (ssd_cons (sd_if (WD.td (wd_and (td_cmp op_ge r2_ge (ed_var 4) (ED.od (ed_bin op_pow r2_pow (ed_int) (ED.od (ed_int))))) (wd_and1 (td_cmp op_ltD r2_lt (ed_var 3) (ED.od (ed_c1 call_len c1_len T.n_len b_len (ED.od (ed_get 0 room.u1 (ed_str))))))))) (ssd_cons (sd_put 0 room.u1 (ed_str) (ed_bin op_fdivD r2_fdiv (ed_var 4) (ED.od (ed_var 1)))) (ssd_one (sd_ret (ed_bin op_modD r2_mod (ed_var 4) (ED.od (ed_var 1)))))) (ssd_nil)) (ssd_cons (sd_set 5 sc_l_draw.nd (ed_bin op_modD r2_mod (ed_bin op_addD r2_add (ed_bin op_addD r2_add (ed_bin op_modD r2_mod (ed_var 4) (ED.od (ed_int))) (ED.od (ed_bin op_mulD r2_mul (ed_int) (ED.od (ed_get 0 room.u1 (ed_str)))))) (ED.od (ed_int))) (ED.od (ed_int)))) (ssd_cons (sd_set 5 sc_l_draw.nd (ed_bin op_modD r2_mod (ed_bin op_addD r2_add (ed_bin op_addD r2_add (ed_bin op_mulD r2_mul (ed_var 5) (ED.od (ed_var 5))) (ED.od (ed_bin op_mulD r2_mul (ed_int) (ED.od (ed_get 0 room.u1 (ed_str)))))) (ED.od (ed_int))) (ED.od (ed_int)))) (ssd_one (sd_ret (ed_bin op_modD r2_mod (ed_bin op_fdivD r2_fdiv (ed_bin op_modD r2_mod (ed_bin op_addD r2_add (ed_bin op_mulD r2_mul (ed_var 5) (ED.od (ed_var 5))) (ED.od (ed_bin op_mulD r2_mul (ed_int) (ED.od (ed_var 5))))) (ED.od (ed_int))) (ED.od (ed_int))) (ED.od (ed_var 1))))))))))))
abbrev s_l_sizes : Stmt := topS 37
abbrev N_l_sizes : List Str := ["_law_some"]
theorem sc_l_sizes : FnScope N_l_sizes [] (defScope s_l_sizes) := ⟨rfl, rfl, rfl, by decide +kernel, rfl, by decide +kernel, by decide +kernel⟩
def b_l_sizes : XS := sSeq (sSet 0 (xLst (aCons (xTup (aCons (xC (.int 0)) (aCons (xC (.int 1)) (aNil)))) (aCons (xTup (aCons (xC (.int 1)) (aCons (xC (.int 1)) (aNil)))) (aCons (xTup (aCons (x1 negD (xC (.int 1))) (aCons (xC (.int 1)) (aNil)))) (aCons (xTup (aCons (xC (.int 2)) (aCons (xC (.int 1)) (aNil)))) (aCons (xTup (aCons (x1 negD (xC (.int 2))) (aCons (xC (.int 1)) (aNil)))) (aCons (xTup (aCons (xC (.int 5)) (aCons (xC (.int 1)) (aNil)))) (aCons (xTup (aCons (x1 negD (xC (.int 5))) (aCons (xC (.int 1)) (aNil)))) (aCons (xTup (aCons (xC (.int 10)) (aCons (xC (.int 1)) (aNil)))) (aCons (xTup (aCons (x1 negD (xC (.int 10))) (aCons (xC (.int 1)) (aNil)))) (aCons (xTup (aCons (xC (.int 20)) (aCons (xC (.int 1)) (aNil)))) (aCons (xTup (aCons (xC (.int 50)) (aCons (xC (.int 1)) (aNil)))) (aCons (xTup (aCons (xC (.int 100)) (aCons (xC (.int 1)) (aNil)))) (aNil))))))))))))))) (sRet (x2 addD (xVar 0) (xLst (aCons (xTup (aCons (x1 negD (xC (.int 100))) (aCons (xC (.int 1)) (aNil)))) (aCons (xTup (aCons (xC (.int 1)) (aCons (xC (.int 2)) (aNil)))) (aCons (xTup (aCons (x1 negD (xC (.int 1))) (aCons (xC (.int 2)) (aNil)))) (aCons (xTup (aCons (xC (.int 3)) (aCons (xC (.int 2)) (aNil)))) (aCons (xTup (aCons (x1 negD (xC (.int 7))) (aCons (xC (.int 2)) (aNil)))) (aCons (xTup (aCons (xC (.int 2)) (aCons (xC (.int 3)) (aNil)))) (aCons (xTup (aCons (xC (.int 11)) (aCons (xC (.int 10)) (aNil)))) (aCons (xTup (aCons (xC (.int 9)) (aCons (xC (.int 10)) (aNil)))) (aCons (xTup (aCons (xC (.int 9999)) (aCons (xC (.int 1)) (aNil)))) (aCons (xTup (aCons (x1 negD (xC (.int 9999))) (aCons (xC (.int 1)) (aNil)))) (aNil))))))))))))))
def m_l_sizes : XF := runF 1 b_l_sizes
theorem ok_l_sizes (T : Txt K mg A D) : FnG P w K mg base 1 (A 37) (D 37) [] m_l_sizes :=
  fn_body T.d_l_sizes.F sc_l_sizes fun cdv A outer s H room hG => ssd_cons (sd_set 0 sc_l_sizes.nd (ed_lst (ad_cons (ed_tup (ad_cons (ed_int) (ad_cons (ed_int) (ad_nil)))) (ad_cons (ed_tup (ad_cons (ed_int) (ad_cons (ed_int) (ad_nil)))) (ad_cons (ed_tup (ad_cons (ed_neg (ED.od (ed_int))) (ad_cons (ed_int) (ad_nil)))) (ad_cons (ed_tup (ad_cons (ed_int) (ad_cons (ed_int) (ad_nil)))) (ad_cons (ed_tup (ad_cons (ed_neg (ED.od (ed_int))) (ad_cons (ed_int) (ad_nil)))) (ad_cons (ed_tup (ad_cons (ed_int) (ad_cons (ed_int) (ad_nil)))) (ad_cons (ed_tup (ad_cons (ed_neg (ED.od (ed_int))) (ad_cons (ed_int) (ad_nil)))) (ad_cons (ed_tup (ad_cons (ed_int) (ad_cons (ed_int) (ad_nil)))) (ad_cons (ed_tup (ad_cons (ed_neg (ED.od (ed_int))) (ad_cons (ed_int) (ad_nil)))) (ad_cons (ed_tup (ad_cons (ed_int) (ad_cons (ed_int) (ad_nil)))) (ad_cons (ed_tup (ad_cons (ed_int) (ad_cons (ed_int) (ad_nil)))) (ad_cons (ed_tup (ad_cons (ed_int) (ad_cons (ed_int) (ad_nil)))) (ad_nil))))))))))))))) (ssd_one (sd_ret (ed_bin op_addD r2_add (ed_var 0) (ED.od (ed_lst (ad_cons (ed_tup (ad_cons (ed_neg (ED.od (ed_int))) (ad_cons (ed_int) (ad_nil)))) (ad_cons (ed_tup (ad_cons (ed_int) (ad_cons (ed_int) (ad_nil)))) (ad_cons (ed_tup (ad_cons (ed_neg (ED.od (ed_int))) (ad_cons (ed_int) (ad_nil)))) (ad_cons (ed_tup (ad_cons (ed_int) (ad_cons (ed_int) (ad_nil)))) (ad_cons (ed_tup (ad_cons (ed_neg (ED.od (ed_int))) (ad_cons (ed_int) (ad_nil)))) (ad_cons (ed_tup (ad_cons (ed_int) (ad_cons (ed_int) (ad_nil)))) (ad_cons (ed_tup (ad_cons (ed_int) (ad_cons (ed_int) (ad_nil)))) (ad_cons (ed_tup (ad_cons (ed_int) (ad_cons (ed_int) (ad_nil)))) (ad_cons (ed_tup (ad_cons (ed_int) (ad_cons (ed_int) (ad_nil)))) (ad_cons (ed_tup (ad_cons (ed_neg (ED.od (ed_int))) (ad_cons (ed_int) (ad_nil)))) (ad_nil))))))))))))))))
abbrev s_l_size : Stmt := topS 38
abbrev N_l_size : List Str := ["_law_feed_here"]
theorem sc_l_size : FnScope N_l_size ["_law_feed_here"] (defScope s_l_size) := ⟨rfl, rfl, rfl, by decide +kernel, rfl, by decide +kernel, by decide +kernel⟩
def b_l_size : XS := sRet (x2 idxD (xCall m_l_sizes aNil) (xCall (arity 2 m_l_draw) (aSlot 0 (aCons (xC (.int 22)) (aNil)))))
def m_l_size : XF := runF 1 b_l_size
theorem ok_l_size (T : Txt K mg A D) : FnG P w K mg base 2 (A 38) (D 38) ["_law_feed_here"] m_l_size :=
  fn_body T.d_l_size.F sc_l_size fun cdv A outer s H room hG => ssd_one (sd_ret (ed_ix (CD.ed (cd_call0 (ok_l_sizes T) (room.mono (by decide)) hG T.d_l_sizes.g T.d_l_sizes.F.kp T.d_l_sizes.b)) (ED.od (CD.ed (cd_call (ok_l_draw T) (room.mono (by decide)) hG T.d_l_draw.g T.d_l_draw.F.kp T.d_l_draw.b (ad_slot 0 (ad_cons (ed_int) (ad_nil))))))))
abbrev s_l_raw : Stmt := topS 39
abbrev N_l_raw : List Str := ["_law_feed_here", "_law_ratio_here", "_law_more", "_law_ends", "_law_k"]
theorem sc_l_raw : FnScope N_l_raw ["_law_feed_here"] (defScope s_l_raw) := ⟨rfl, rfl, rfl, by decide +kernel, rfl, by decide +kernel, by decide +kernel⟩
def b_l_raw : XS := sSeq (sSet 1 (x2 idxD (xLst (aCons (xTup (aCons (xC (.int 1)) (aCons (xC (.int 1)) (aNil)))) (aCons (xTup (aCons (xC (.int 1)) (aCons (xC (.int 1)) (aNil)))) (aCons (xTup (aCons (xC (.int 2)) (aCons (xC (.int 1)) (aNil)))) (aCons (xTup (aCons (xC (.int 1)) (aCons (xC (.int 2)) (aNil)))) (aCons (xTup (aCons (xC (.int 0)) (aCons (xC (.int 1)) (aNil)))) (aCons (xTup (aCons (xC (.int 3)) (aCons (xC (.int 1)) (aNil)))) (aCons (xTup (aCons (xC (.int 11)) (aCons (xC (.int 10)) (aNil)))) (aCons (xTup (aCons (xC (.int 2)) (aCons (xC (.int 3)) (aNil)))) (aCons (xTup (aCons (xC (.int 9)) (aCons (xC (.int 10)) (aNil)))) (aCons (xTup (aCons (xC (.int 10)) (aCons (xC (.int 1)) (aNil)))) (aNil)))))))))))) (xCall (arity 2 m_l_draw) (aSlot 0 (aCons (xC (.int 10)) (aNil)))))) (sSeq (sSet 2 (xIf (tst (x2 eqD (xCall (arity 2 m_l_draw) (aSlot 0 (aCons (xC (.int 2)) (aNil)))) (xC (.int 0)))) (xTup (aCons (xC (.int 0)) (aCons (xC (.int 1)) (aNil)))) (xCall (arity 1 m_l_size) (aSlot 0 (aNil))))) (sSeq (sSet 3 (xFz (nLc (iRng (xC (.int 2))) (gNm 4) (cYes) (xIf (tst (x2 eqD (xCall (arity 2 m_l_draw) (aSlot 0 (aCons (xC (.int 2)) (aNil)))) (xC (.int 0)))) (xCall (arity 1 m_l_size) (aSlot 0 (aNil))) (xC .none)) [4]))) (sSeq (sIf (xAndT (tst (x2 notNonD (x2 idxD (xVar 3) (xC (.int 0))) (xC .none))) (xAndT (tst (x2 notNonD (x2 idxD (xVar 3) (xC (.int 1))) (xC .none))) (xTru (xCall (arity 2 m_l_less) (aCons (x2 idxD (xVar 3) (xC (.int 1))) (aCons (x2 idxD (xVar 3) (xC (.int 0))) (aNil))))))) (sSet 3 (x1 revD (xVar 3))) (sNil)) (sRet (xTup (aCons (xVar 1) (aCons (xVar 2) (aCons (x2 idxD (xVar 3) (xC (.int 0))) (aCons (x2 idxD (xVar 3) (xC (.int 1))) (aNil))))))))))
def m_l_raw : XF := runF 5 b_l_raw
theorem ok_l_raw (T : Txt K mg A D) : FnG P w K mg base 3 (A 39) (D 39) ["_law_feed_here"] m_l_raw :=
  fn_body T.d_l_raw.F sc_l_raw fun cdv A outer s H room hG => ssd_cons (sd_set 1 sc_l_raw.nd (ed_ix (ed_lst (ad_cons (ed_tup (ad_cons (ed_int) (ad_cons (ed_int) (ad_nil)))) (ad_cons (ed_tup (ad_cons (ed_int) (ad_cons (ed_int) (ad_nil)))) (ad_cons (ed_tup (ad_cons (ed_int) (ad_cons (ed_int) (ad_nil)))) (ad_cons (ed_tup (ad_cons (ed_int) (ad_cons (ed_int) (ad_nil)))) (ad_cons (ed_tup (ad_cons (ed_int) (ad_cons (ed_int) (ad_nil)))) (ad_cons (ed_tup (ad_cons (ed_int) (ad_cons (ed_int) (ad_nil)))) (ad_cons (ed_tup (ad_cons (ed_int) (ad_cons (ed_int) (ad_nil)))) (ad_cons (ed_tup (ad_cons (ed_int) (ad_cons (ed_int) (ad_nil)))) (ad_cons (ed_tup (ad_cons (ed_int) (ad_cons (ed_int) (ad_nil)))) (ad_cons (ed_tup (ad_cons (ed_int) (ad_cons (ed_int) (ad_nil)))) (ad_nil)))))))))))) (ED.od (CD.ed (cd_call (ok_l_draw T) (room.mono (by decide)) hG T.d_l_draw.g T.d_l_draw.F.kp T.d_l_draw.b (ad_slot 0 (ad_cons (ed_int) (ad_nil)))))))) (ssd_cons (sd_set 2 sc_l_raw.nd (ed_if (td_cmp (op_eqX room.u64) r2_eq (CD.ed (cd_call (ok_l_draw T) (room.mono (by decide)) hG T.d_l_draw.g T.d_l_draw.F.kp T.d_l_draw.b (ad_slot 0 (ad_cons (ed_int) (ad_nil))))) (ED.od (ed_int))) (ed_tup (ad_cons (ed_int) (ad_cons (ed_int) (ad_nil)))) (CD.ed (cd_call (ok_l_size T) (room.mono (by decide)) hG T.d_l_size.g T.d_l_size.F.kp T.d_l_size.b (ad_slot 0 (ad_nil)))))) (ssd_cons (And.left (sd_setLc (vs := [4]) 3 [("_law_k", 4)] (blkOk_by (own := [("_law_k", 4)]) (N := N_l_raw) (sc := defScope s_l_raw) (by decide +kernel)) rfl rfl sc_l_raw.nd (id_rng T.n_range (ed_int)) (fun _ _ _ _ _ => gd_name 4 sc_l_raw.nd) (fun _ _ _ _ _ => tsd_nil) (fun _ _ _ _ _ => ed_if (td_cmp (op_eqX room.u64) r2_eq (CD.ed (cd_call (ok_l_draw T) (room.mono (by decide)) hG T.d_l_draw.g T.d_l_draw.F.kp T.d_l_draw.b (ad_slot 0 (ad_cons (ed_int) (ad_nil))))) (ED.od (ed_int))) (CD.ed (cd_call (ok_l_size T) (room.mono (by decide)) hG T.d_l_size.g T.d_l_size.F.kp T.d_l_size.b (ad_slot 0 (ad_nil)))) (ed_non)) (sw_true rfl rfl rfl (by decide +kernel)))) (ssd_cons (sd_if (WD.td (wd_and (td_cmp op_notN r2_notN (ed_ix (ed_var 3) (ED.od (ed_int))) (ED.od (ed_non))) (wd_and (td_cmp op_notN r2_notN (ed_ix (ed_var 3) (ED.od (ed_int))) (ED.od (ed_non))) (wd_and1 (td_tru (ED.od (CD.ed (cd_call (ok_l_less T) (room.mono (by decide)) hG T.d_l_less.g T.d_l_less.F.kp T.d_l_less.b (ad_cons (ed_ix (ed_var 3) (ED.od (ed_int))) (ad_cons (ed_ix (ed_var 3) (ED.od (ed_int))) (ad_nil))))))))))) (ssd_one (sd_set 3 sc_l_raw.nd (ed_rev (ed_var 3)))) (ssd_nil)) (ssd_one (sd_ret (ed_tup (ad_cons (ed_var 1) (ad_cons (ed_var 2) (ad_cons (ed_ix (ed_var 3) (ED.od (ed_int))) (ad_cons (ed_ix (ed_var 3) (ED.od (ed_int))) (ad_nil)))))))))))
abbrev s_l_item : Stmt := topS 40
abbrev N_l_item : List Str := ["_law_feed_here", "_law_raw_here"]
theorem sc_l_item : FnScope N_l_item ["_law_feed_here"] (defScope s_l_item) := ⟨rfl, rfl, rfl, by decide +kernel, rfl, by decide +kernel, by decide +kernel⟩
def b_l_item : XS := sSeq (sSet 1 (xCall (arity 1 m_l_raw) (aSlot 0 (aNil)))) (sRet (xCall (arity 4 m_l_normal) (aCons (x2 idxD (xVar 1) (xC (.int 0))) (aCons (x2 idxD (xVar 1) (xC (.int 1))) (aCons (x2 idxD (xVar 1) (xC (.int 2))) (aCons (x2 idxD (xVar 1) (xC (.int 3))) (aNil)))))))
def m_l_item : XF := runF 2 b_l_item
theorem ok_l_item (T : Txt K mg A D) : FnG P w K mg base 4 (A 40) (D 40) ["_law_feed_here"] m_l_item :=
  fn_body T.d_l_item.F sc_l_item fun cdv A outer s H room hG => ssd_cons (sd_set 1 sc_l_item.nd (CD.ed (cd_call (ok_l_raw T) (room.mono (by decide)) hG T.d_l_raw.g T.d_l_raw.F.kp T.d_l_raw.b (ad_slot 0 (ad_nil))))) (ssd_one (sd_ret (CD.ed (cd_call (ok_l_normal T) (room.mono (by decide)) hG T.d_l_normal.g T.d_l_normal.F.kp T.d_l_normal.b (ad_cons (ed_ix (ed_var 1) (ED.od (ed_int))) (ad_cons (ed_ix (ed_var 1) (ED.od (ed_int))) (ad_cons (ed_ix (ed_var 1) (ED.od (ed_int))) (ad_cons (ed_ix (ed_var 1) (ED.od (ed_int))) (ad_nil)))))))))
abbrev s_l_chained : Stmt := topS 44
abbrev N_l_chained : List Str := ["_law_items"]
theorem sc_l_chained : FnScope N_l_chained ["_law_items"] (defScope s_l_chained) := ⟨rfl, rfl, rfl, by decide +kernel, rfl, by decide +kernel, by decide +kernel⟩
def b_l_chained : XS := sSeq (sIf (tst (x2 ltD (x1 lenD (xVar 0)) (xC (.int 3)))) (sSeq (sIf (tst (x2 eqD (x1 lenD (xVar 0)) (xC (.int 0)))) (sRet (xCall m_chained aNil)) (sNil)) (sRet (xIf (tst (x2 eqD (x1 lenD (xVar 0)) (xC (.int 1)))) (xCall m_chained (aCons (x2 idxD (xVar 0) (xC (.int 0))) (aNil))) (xCall m_chained (aCons (x2 idxD (xVar 0) (xC (.int 0))) (aCons (x2 idxD (xVar 0) (xC (.int 1))) (aNil))))))) (sNil)) (sSeq (sIf (tst (x2 eqD (x1 lenD (xVar 0)) (xC (.int 3)))) (sRet (xCall m_chained (aCons (x2 idxD (xVar 0) (xC (.int 0))) (aCons (x2 idxD (xVar 0) (xC (.int 1))) (aCons (x2 idxD (xVar 0) (xC (.int 2))) (aNil)))))) (sNil)) (sSeq (sIf (tst (x2 eqD (x1 lenD (xVar 0)) (xC (.int 4)))) (sRet (xCall m_chained (aCons (x2 idxD (xVar 0) (xC (.int 0))) (aCons (x2 idxD (xVar 0) (xC (.int 1))) (aCons (x2 idxD (xVar 0) (xC (.int 2))) (aCons (x2 idxD (xVar 0) (xC (.int 3))) (aNil))))))) (sNil)) (sRet (xCall m_chained (aCons (x2 idxD (xVar 0) (xC (.int 0))) (aCons (x2 idxD (xVar 0) (xC (.int 1))) (aCons (x2 idxD (xVar 0) (xC (.int 2))) (aCons (x2 idxD (xVar 0) (xC (.int 3))) (aCons (x2 idxD (xVar 0) (xC (.int 4))) (aNil))))))))))
def m_l_chained : XF := runF 1 b_l_chained
theorem ok_l_chained (T : Txt K mg A D) : FnG P w K mg base 8 (A 44) (D 44) ["_law_items"] m_l_chained :=
  fn_body T.d_l_chained.F sc_l_chained fun cdv A outer s H room hG => ssd_cons (sd_if (td_cmp op_ltD r2_lt (ed_c1 call_len c1_len T.n_len b_len (ED.od (ed_var 0))) (ED.od (ed_int))) (ssd_cons (sd_if (td_cmp (op_eqX room.u64) r2_eq (ed_c1 call_len c1_len T.n_len b_len (ED.od (ed_var 0))) (ED.od (ed_int))) (ssd_one (sd_ret (CD.ed (cd_callV0 (ok_chained T) (room.mono (by decide)) hG T.d_chained.g T.d_chained.F.kp)))) (ssd_nil)) (ssd_one (sd_ret (ed_if (td_cmp (op_eqX room.u64) r2_eq (ed_c1 call_len c1_len T.n_len b_len (ED.od (ed_var 0))) (ED.od (ed_int))) (CD.ed (cd_callV (ok_chained T) (room.mono (by decide)) hG T.d_chained.g T.d_chained.F.kp (ad_cons (ed_ix (ed_var 0) (ED.od (ed_int))) (ad_nil)))) (CD.ed (cd_callV (ok_chained T) (room.mono (by decide)) hG T.d_chained.g T.d_chained.F.kp (ad_cons (ed_ix (ed_var 0) (ED.od (ed_int))) (ad_cons (ed_ix (ed_var 0) (ED.od (ed_int))) (ad_nil))))))))) (ssd_nil)) (ssd_cons (sd_if (td_cmp (op_eqX room.u64) r2_eq (ed_c1 call_len c1_len T.n_len b_len (ED.od (ed_var 0))) (ED.od (ed_int))) (ssd_one (sd_ret (CD.ed (cd_callV (ok_chained T) (room.mono (by decide)) hG T.d_chained.g T.d_chained.F.kp (ad_cons (ed_ix (ed_var 0) (ED.od (ed_int))) (ad_cons (ed_ix (ed_var 0) (ED.od (ed_int))) (ad_cons (ed_ix (ed_var 0) (ED.od (ed_int))) (ad_nil)))))))) (ssd_nil)) (ssd_cons (sd_if (td_cmp (op_eqX room.u64) r2_eq (ed_c1 call_len c1_len T.n_len b_len (ED.od (ed_var 0))) (ED.od (ed_int))) (ssd_one (sd_ret (CD.ed (cd_callV (ok_chained T) (room.mono (by decide)) hG T.d_chained.g T.d_chained.F.kp (ad_cons (ed_ix (ed_var 0) (ED.od (ed_int))) (ad_cons (ed_ix (ed_var 0) (ED.od (ed_int))) (ad_cons (ed_ix (ed_var 0) (ED.od (ed_int))) (ad_cons (ed_ix (ed_var 0) (ED.od (ed_int))) (ad_nil))))))))) (ssd_nil)) (ssd_one (sd_ret (CD.ed (cd_callV (ok_chained T) (room.mono (by decide)) hG T.d_chained.g T.d_chained.F.kp (ad_cons (ed_ix (ed_var 0) (ED.od (ed_int))) (ad_cons (ed_ix (ed_var 0) (ED.od (ed_int))) (ad_cons (ed_ix (ed_var 0) (ED.od (ed_int))) (ad_cons (ed_ix (ed_var 0) (ED.od (ed_int))) (ad_cons (ed_ix (ed_var 0) (ED.od (ed_int))) (ad_nil))))))))))))
abbrev s_order_matters : Stmt := topS 21
abbrev N_order_matters : List Str := ["clauses", "whole", "orders", "turn", "order", "turned", "k"]
theorem sc_order_matters : FnScope N_order_matters ["clauses"] (defScope s_order_matters) := ⟨rfl, rfl, rfl, by decide +kernel, rfl, by decide +kernel, by decide +kernel⟩
def b_order_matters : XS := sSeq (sSet 1 (xCall m_chained (aStar (xVar 0)))) (sSeq (sSet 2 (xLst (aCons (xTup (aNil)) (aNil)))) (sSeq (sFor (iRng (x1 lenD (xVar 0))) (gNm 3) (sSet 2 (xFz (nLc2S (iOf (xVar 2)) (gNm 4) (cYes) (iRng (x1 lenD (xVar 0))) (gNm 6) (tst (x2 notInD (xVar 6) (xVar 4))) (x2 addD (xVar 4) (xTup (aCons (xVar 6) (aNil)))) [4, 6] [6])))) (sSeq (sFor (iOf (xVar 2)) (gNm 4) (sSeq (sSet 5 (xFz (nLc (iOf (xVar 4)) (gNm 6) (cYes) (x2 idxD (xVar 0) (xVar 6)) [6]))) (sIf (tst (x2 neD (xCall m_chained (aStar (xVar 5))) (xVar 1))) (sRet (xC (.bool true))) (sNil)))) (sRet (xC (.bool false))))))
def m_order_matters : XF := starF (runF 7 b_order_matters)
theorem ok_order_matters (T : Txt K mg A D) : FnV P w K mg base 8 (A 21) m_order_matters :=
  fn_bodyV T.d_order_matters.F sc_order_matters T.d_order_matters.bv fun cdv A outer s H room hG => ssd_cons (sd_set 1 sc_order_matters.nd (CD.ed (cd_callVs (ok_chained T) (room.mono (by decide)) hG T.d_chained.g T.d_chained.F.kp (ed_var 0)))) (ssd_cons (sd_set 2 sc_order_matters.nd (ed_lst (ad_cons (ed_tup (ad_nil)) (ad_nil)))) (ssd_cons (sd_for PassesOwn.never rfl (id_rng T.n_range (ed_c1 call_len c1_len T.n_len b_len (ED.od (ed_var 0)))) (gd_name 3 sc_order_matters.nd) (ssd_one (And.left (sd_setLc2S (vs := [4, 6]) 2 [("order", 4), ("k", 6)] (blkOk_by (own := [("order", 4), ("k", 6)]) (N := N_order_matters) (sc := defScope s_order_matters) (by decide +kernel)) rfl (by decide) rfl sc_order_matters.nd (id_seq (ed_var 2)) (fun _ _ _ _ _ => GD.mono (gd_name 4 sc_order_matters.nd) (by decide)) (fun _ _ _ _ _ => tsd_nil) (fun _ _ _ _ _ => id_rng T.n_range (ed_c1 call_len c1_len T.n_len b_len (ED.od (ed_var 0)))) (fun _ _ _ _ _ => gd_name 6 sc_order_matters.nd) (fun _ _ _ _ _ => tsd_one (td_cmp (op_notInA room.u65) r2_notIn (ed_var 6) (ED.od (ed_var 4)))) (fun _ _ _ _ _ => ed_bin op_addD r2_add (ed_var 4) (ED.od (ed_tup (ad_cons (ed_var 6) (ad_nil))))) (sw_true rfl rfl rfl (by decide +kernel)))))) (ssd_cons (sd_for PassesOwn.never rfl (id_seq (ed_var 2)) (gd_name 4 sc_order_matters.nd) (ssd_cons (And.left (sd_setLc (vs := [6]) 5 [("k", 6)] (blkOk_by (own := [("k", 6)]) (N := N_order_matters) (sc := defScope s_order_matters) (by decide +kernel)) rfl rfl sc_order_matters.nd (id_seq (ed_var 4)) (fun _ _ _ _ _ => gd_name 6 sc_order_matters.nd) (fun _ _ _ _ _ => tsd_nil) (fun _ _ _ _ _ => ed_ix (ed_var 0) (ED.od (ed_var 6))) (sw_true rfl rfl rfl (by decide +kernel)))) (ssd_one (sd_if (td_cmp (op_neX room.u64) r2_ne (CD.ed (cd_callVs (ok_chained T) (room.mono (by decide)) hG T.d_chained.g T.d_chained.F.kp (ed_var 5))) (ED.od (ed_var 1))) (ssd_one (sd_ret (ed_bl))) (ssd_nil))))) (ssd_one (sd_ret (ed_bl))))))
abbrev s_l_matters : Stmt := topS 45
abbrev N_l_matters : List Str := ["_law_items"]
theorem sc_l_matters : FnScope N_l_matters ["_law_items"] (defScope s_l_matters) := ⟨rfl, rfl, rfl, by decide +kernel, rfl, by decide +kernel, by decide +kernel⟩
def b_l_matters : XS := sSeq (sIf (tst (x2 ltD (x1 lenD (xVar 0)) (xC (.int 3)))) (sSeq (sIf (tst (x2 eqD (x1 lenD (xVar 0)) (xC (.int 0)))) (sRet (xCall m_order_matters aNil)) (sNil)) (sRet (xIf (tst (x2 eqD (x1 lenD (xVar 0)) (xC (.int 1)))) (xCall m_order_matters (aCons (x2 idxD (xVar 0) (xC (.int 0))) (aNil))) (xCall m_order_matters (aCons (x2 idxD (xVar 0) (xC (.int 0))) (aCons (x2 idxD (xVar 0) (xC (.int 1))) (aNil))))))) (sNil)) (sSeq (sIf (tst (x2 eqD (x1 lenD (xVar 0)) (xC (.int 3)))) (sRet (xCall m_order_matters (aCons (x2 idxD (xVar 0) (xC (.int 0))) (aCons (x2 idxD (xVar 0) (xC (.int 1))) (aCons (x2 idxD (xVar 0) (xC (.int 2))) (aNil)))))) (sNil)) (sSeq (sIf (tst (x2 eqD (x1 lenD (xVar 0)) (xC (.int 4)))) (sRet (xCall m_order_matters (aCons (x2 idxD (xVar 0) (xC (.int 0))) (aCons (x2 idxD (xVar 0) (xC (.int 1))) (aCons (x2 idxD (xVar 0) (xC (.int 2))) (aCons (x2 idxD (xVar 0) (xC (.int 3))) (aNil))))))) (sNil)) (sRet (xCall m_order_matters (aCons (x2 idxD (xVar 0) (xC (.int 0))) (aCons (x2 idxD (xVar 0) (xC (.int 1))) (aCons (x2 idxD (xVar 0) (xC (.int 2))) (aCons (x2 idxD (xVar 0) (xC (.int 3))) (aCons (x2 idxD (xVar 0) (xC (.int 4))) (aNil))))))))))
def m_l_matters : XF := runF 1 b_l_matters
theorem ok_l_matters (T : Txt K mg A D) : FnG P w K mg base 9 (A 45) (D 45) ["_law_items"] m_l_matters :=
  fn_body T.d_l_matters.F sc_l_matters fun cdv A outer s H room hG => ssd_cons (sd_if (td_cmp op_ltD r2_lt (ed_c1 call_len c1_len T.n_len b_len (ED.od (ed_var 0))) (ED.od (ed_int))) (ssd_cons (sd_if (td_cmp (op_eqX room.u64) r2_eq (ed_c1 call_len c1_len T.n_len b_len (ED.od (ed_var 0))) (ED.od (ed_int))) (ssd_one (sd_ret (CD.ed (cd_callV0 (ok_order_matters T) (room.mono (by decide)) hG T.d_order_matters.g T.d_order_matters.F.kp)))) (ssd_nil)) (ssd_one (sd_ret (ed_if (td_cmp (op_eqX room.u64) r2_eq (ed_c1 call_len c1_len T.n_len b_len (ED.od (ed_var 0))) (ED.od (ed_int))) (CD.ed (cd_callV (ok_order_matters T) (room.mono (by decide)) hG T.d_order_matters.g T.d_order_matters.F.kp (ad_cons (ed_ix (ed_var 0) (ED.od (ed_int))) (ad_nil)))) (CD.ed (cd_callV (ok_order_matters T) (room.mono (by decide)) hG T.d_order_matters.g T.d_order_matters.F.kp (ad_cons (ed_ix (ed_var 0) (ED.od (ed_int))) (ad_cons (ed_ix (ed_var 0) (ED.od (ed_int))) (ad_nil))))))))) (ssd_nil)) (ssd_cons (sd_if (td_cmp (op_eqX room.u64) r2_eq (ed_c1 call_len c1_len T.n_len b_len (ED.od (ed_var 0))) (ED.od (ed_int))) (ssd_one (sd_ret (CD.ed (cd_callV (ok_order_matters T) (room.mono (by decide)) hG T.d_order_matters.g T.d_order_matters.F.kp (ad_cons (ed_ix (ed_var 0) (ED.od (ed_int))) (ad_cons (ed_ix (ed_var 0) (ED.od (ed_int))) (ad_cons (ed_ix (ed_var 0) (ED.od (ed_int))) (ad_nil)))))))) (ssd_nil)) (ssd_cons (sd_if (td_cmp (op_eqX room.u64) r2_eq (ed_c1 call_len c1_len T.n_len b_len (ED.od (ed_var 0))) (ED.od (ed_int))) (ssd_one (sd_ret (CD.ed (cd_callV (ok_order_matters T) (room.mono (by decide)) hG T.d_order_matters.g T.d_order_matters.F.kp (ad_cons (ed_ix (ed_var 0) (ED.od (ed_int))) (ad_cons (ed_ix (ed_var 0) (ED.od (ed_int))) (ad_cons (ed_ix (ed_var 0) (ED.od (ed_int))) (ad_cons (ed_ix (ed_var 0) (ED.od (ed_int))) (ad_nil))))))))) (ssd_nil)) (ssd_one (sd_ret (CD.ed (cd_callV (ok_order_matters T) (room.mono (by decide)) hG T.d_order_matters.g T.d_order_matters.F.kp (ad_cons (ed_ix (ed_var 0) (ED.od (ed_int))) (ad_cons (ed_ix (ed_var 0) (ED.od (ed_int))) (ad_cons (ed_ix (ed_var 0) (ED.od (ed_int))) (ad_cons (ed_ix (ed_var 0) (ED.od (ed_int))) (ad_cons (ed_ix (ed_var 0) (ED.od (ed_int))) (ad_nil))))))))))))
abbrev s_l_all_chains : Stmt := topS 46
abbrev N_l_all_chains : List Str := ["_law_items", "_law_found", "_law_bits", "_law_mask", "_law_chains", "_law_k", "_law_own"]
theorem sc_l_all_chains : FnScope N_l_all_chains ["_law_items"] (defScope s_l_all_chains) := ⟨rfl, rfl, rfl, by decide +kernel, rfl, by decide +kernel, by decide +kernel⟩
def m_l_all_chains : List PyData → Option (List PyData) := KN.allCh m_l_then
theorem ok_l_all_chains (T : Txt K mg A D) : KN.FnT P w K mg base 6 (A 46) (D 46) ["_law_items"] (KN.spL P w K m_l_all_chains) :=
  KN.fn_bodyT T.d_l_all_chains.F sc_l_all_chains fun cdv A outer s H room hG => ⟨KN.tAll P w K m_l_then,
    pss_cons (ps_par (i := 1) (j := 2) rfl sc_l_all_chains.nd rfl rfl (by decide) rfl rfl
      (pa_cons (pe_disp (pps_cons pe_int (pe_lockF (KN.pe_disN (ED.pe (ed_tup (ad_cons (ed_tup (ad_cons (ed_int) (ad_cons (ed_int) (ad_nil)))) (ad_cons (ed_tup (ad_cons (ed_int) (ad_cons (ed_int) (ad_nil)))) (ad_cons (ed_non) (ad_cons (ed_non) (ad_nil))))))) pe_bl (KN.u16 room.u64))) pps_nil) rfl rfl (fun h => nomatch h) (by decide))
        (pa_cons (ED.pe (ed_lst (ad_cons (ed_int) (ad_cons (ed_int) (ad_cons (ed_int) (ad_cons (ed_int) (ad_cons (ed_int) (ad_cons (ed_int) (ad_nil))))))))) pa_nil rfl) rfl) rfl rfl)
    (pss_cons (ps_for PassesOwn.never rfl
      (pi_range2 rfl T.n_range (pa_cons pe_int (pa_cons (ED.pe (ed_ix (ed_var 2) (ED.od (ed_c1 cr_lenY c1_lenY T.n_len b_len (ED.od (ed_var 0)))))) pa_nil rfl) rfl))
      (pg_name sc_l_all_chains.nd rfl (Or.inl rfl))
      (pss_cons (ps_set sc_l_all_chains.nd rfl (Or.inl rfl) pe_dnewT)
        (pss_cons (ps_for PassesOwn.never rfl
          (pi_range1 rfl T.n_range (pa_cons (ED.pe (ed_c1 cr_lenY c1_lenY T.n_len b_len (ED.od (ed_var 0)))) pa_nil rfl))
          (pg_name sc_l_all_chains.nd rfl (Or.inr rfl))
          (pss_one (ps_if (TD.pt (td_cmp (op_eqX room.u64) r2_eq (ed_bin op_modD r2_mod (ed_bin op_fdivD r2_fdiv (ed_var 3) (ED.od (ed_ix (ed_var 2) (ED.od (ed_var 5))))) (ED.od (ed_int))) (ED.od (ed_int))))
            (pss_one (ps_expr (KN.pe_updN rfl (KN.u16 room.u64) (pe_var rfl (Or.inl rfl))
              (pa_cons (pe_lc (own := [("_law_own", 6)]) rfl sc_l_all_chains.nd
                (KN.pi_kn (pe_dget room.u1 (pe_var rfl (Or.inl rfl)) (ED.pe (ed_bin op_subD r2_sub (ed_var 3) (ED.od (ed_ix (ed_var 2) (ED.od (ed_var 5)))))) (by intro _ _; rfl)))
                (blkOk_by (own := [("_law_own", 6)]) (N := N_l_all_chains) (sc := defScope s_l_all_chains) (by decide +kernel))
                (fun _ _ _ _ _ => GD.pg (gd_name 6 sc_l_all_chains.nd)) (fun _ _ _ _ _ => pts_nil)
                (fun _ _ _ _ _ => ED.pe (ed_tup (ad_cons (CD.ed (cd_call (ok_l_then T) (room.mono (by decide)) hG T.d_l_then.g T.d_l_then.F.kp T.d_l_then.b (ad_cons (ed_var 6) (ad_cons (ed_ix (ed_var 0) (ED.od (ed_var 5))) (ad_nil))))) (ad_cons (ed_bl) (ad_nil)))))
                (by intro _; rfl)) pa_nil rfl))))
            pss_nil)) (by intro _; rfl))
        (pss_one (ps_dput room.u1 (pe_var rfl (Or.inl rfl)) (pe_var rfl (Or.inl rfl)) (pe_lockF (pe_var rfl (Or.inl rfl))) rfl))))
      (by intro _; rfl))
    (pss_one (ps_ret (pe_dget room.u1 (pe_var rfl (Or.inl rfl)) (ED.pe (ed_bin op_subD r2_sub (ed_ix (ed_var 2) (ED.od (ed_c1 cr_lenY c1_lenY T.n_len b_len (ED.od (ed_var 0))))) (ED.od (ed_int)))) (by intro _ _; rfl))))),
    fun vs Q _ h => KN.all_ok rfl h⟩

abbrev s_quotient : Stmt := topS 8
abbrev N_quotient : List Str := ["one", "other"]
theorem sc_quotient : FnScope N_quotient ["one", "other"] (defScope s_quotient) := ⟨rfl, rfl, rfl, by decide +kernel, rfl, by decide +kernel, by decide +kernel⟩
def b_quotient : XS := sRet (xCall m_fraction (aPick [.inl 0, .inl 1] (aCons (x2 mulD (x2 idxD (xVar 0) (xC (.int 0))) (x2 idxD (xVar 1) (xC (.int 1)))) (aCons (x2 mulD (x2 idxD (xVar 0) (xC (.int 1))) (x2 idxD (xVar 1) (xC (.int 0)))) (aNil))) (aNil)))
def m_quotient : XF := runF 2 b_quotient
theorem ok_quotient (T : Txt K mg A D) : FnG P w K mg base 3 (A 8) (D 8) ["one", "other"] m_quotient :=
  fn_body T.d_quotient.F sc_quotient fun cdv A outer s H room hG => ssd_one (sd_ret (CD.ed (cd_callP (ok_fraction T) (room.mono (by decide)) hG T.d_fraction.g T.d_fraction.F.kp T.q_fraction_2 (ad_cons (ed_bin op_mulD r2_mul (ed_ix (ed_var 0) (ED.od (ed_int))) (ED.od (ed_ix (ed_var 1) (ED.od (ed_int))))) (ad_cons (ed_bin op_mulD r2_mul (ed_ix (ed_var 0) (ED.od (ed_int))) (ED.od (ed_ix (ed_var 1) (ED.od (ed_int))))) (ad_nil))) (ln_cons (ln_cons (ln_nil))))))
abbrev s_difference : Stmt := topS 7
abbrev N_difference : List Str := ["one", "other"]
theorem sc_difference : FnScope N_difference ["one", "other"] (defScope s_difference) := ⟨rfl, rfl, rfl, by decide +kernel, rfl, by decide +kernel, by decide +kernel⟩
def b_difference : XS := sRet (xCall m_fraction_sum (aCons (xVar 0) (aCons (xTup (aCons (x1 negD (x2 idxD (xVar 1) (xC (.int 0)))) (aCons (x2 idxD (xVar 1) (xC (.int 1))) (aNil)))) (aNil))))
def m_difference : XF := runF 2 b_difference
theorem ok_difference (T : Txt K mg A D) : FnG P w K mg base 4 (A 7) (D 7) ["one", "other"] m_difference :=
  fn_body T.d_difference.F sc_difference fun cdv A outer s H room hG => ssd_one (sd_ret (CD.ed (cd_callV (ok_fraction_sum T) (room.mono (by decide)) hG T.d_fraction_sum.g T.d_fraction_sum.F.kp (ad_cons (ed_var 0) (ad_cons (ed_tup (ad_cons (ed_neg (ED.od (ed_ix (ed_var 1) (ED.od (ed_int))))) (ad_cons (ed_ix (ed_var 1) (ED.od (ed_int))) (ad_nil)))) (ad_nil))))))
abbrev s_bends_of : Stmt := topS 18
abbrev N_bends_of : List Str := ["clause", "factor", "plus", "low", "high", "bound"]
theorem sc_bends_of : FnScope N_bends_of ["clause"] (defScope s_bends_of) := ⟨rfl, rfl, rfl, by decide +kernel, rfl, by decide +kernel, by decide +kernel⟩
def b_bends_of : XS := sSeq (sAsg (xVar 0) (gTp 4 (gsCons (gNm 1) (gsCons (gNm 2) (gsCons (gNm 3) (gsCons (gNm 4) (gsNil))))))) (sRet (xFz (nLc (iOf (xTup (aCons (xVar 3) (aCons (xVar 4) (aNil))))) (gNm 5) (tst (x2 notNonD (xVar 5) (xC .none))) (xCall (arity 2 m_quotient) (aCons (xCall (arity 2 m_difference) (aCons (xVar 5) (aCons (xVar 2) (aNil)))) (aCons (xVar 1) (aNil)))) [5])))
def m_bends_of : XF := runF 6 b_bends_of
theorem ok_bends_of (T : Txt K mg A D) : FnG P w K mg base 5 (A 18) (D 18) ["clause"] m_bends_of :=
  fn_body T.d_bends_of.F sc_bends_of fun cdv A outer s H room hG => ssd_cons (sd_asg (ed_var 0) (gd_tup rfl (gsd_cons (gd_name 1 sc_bends_of.nd) (gsd_cons (gd_name 2 sc_bends_of.nd) (gsd_cons (gd_name 3 sc_bends_of.nd) (gsd_cons (gd_name 4 sc_bends_of.nd) (gsd_nil))))))) (ssd_one (sd_ret (ND.ed (nd_lc (vs := [5]) [("bound", 5)] (blkOk_by (own := [("bound", 5)]) (N := N_bends_of) (sc := defScope s_bends_of) (by decide +kernel)) rfl rfl sc_bends_of.nd (id_seq (ed_tup (ad_cons (ed_var 3) (ad_cons (ed_var 4) (ad_nil))))) (fun _ _ _ _ _ => gd_name 5 sc_bends_of.nd) (fun _ _ _ _ _ => tsd_one (td_cmp op_notN r2_notN (ed_var 5) (ED.od (ed_non)))) (fun _ _ _ _ _ => CD.ed (cd_call (ok_quotient T) (room.mono (by decide)) hG T.d_quotient.g T.d_quotient.F.kp T.d_quotient.b (ad_cons (CD.ed (cd_call (ok_difference T) (room.mono (by decide)) hG T.d_difference.g T.d_difference.F.kp T.d_difference.b (ad_cons (ed_var 5) (ad_cons (ed_var 2) (ad_nil))))) (ad_cons (ed_var 1) (ad_nil)))))))))
abbrev s_differs_at : Stmt := topS 19
abbrev N_differs_at : List Str := ["one", "other", "amounts", "bend", "amount"]
theorem sc_differs_at : FnScope N_differs_at ["one", "other"] (defScope s_differs_at) := ⟨rfl, rfl, rfl, by decide +kernel, rfl, by decide +kernel, by decide +kernel⟩
def b_differs_at : XS := sSeq (sNew 2 (nLst (aCons (xTup (aCons (xC (.int 0)) (aCons (xC (.int 1)) (aNil)))) (aCons (xTup (aCons (xC (.int 1)) (aCons (xC (.int 1)) (aNil)))) (aNil))))) (sSeq (sFor (iOf (x2 addD (xCall (arity 1 m_bends_of) (aCons (xVar 0) (aNil))) (xCall (arity 1 m_bends_of) (aCons (xVar 1) (aNil))))) (gNm 3) (sDrop (xExt 2 (xLst (aCons (xVar 3) (aCons (xCall m_fraction_sum (aCons (xVar 3) (aCons (xTup (aCons (xC (.int 1)) (aCons (xC (.int 1)) (aNil)))) (aNil)))) (aCons (xCall m_fraction_sum (aCons (xVar 3) (aCons (xTup (aCons (x1 negD (xC (.int 1))) (aCons (xC (.int 1)) (aNil)))) (aNil)))) (aNil)))))))) (sSeq (sFor (iOf (xVar 2)) (gNm 4) (sIf (tst (x2 neD (xCall (arity 2 m_applied) (aCons (xVar 0) (aCons (xVar 4) (aNil)))) (xCall (arity 2 m_applied) (aCons (xVar 1) (aCons (xVar 4) (aNil)))))) (sRet (xVar 4)) (sNil))) (sRet (xC .none))))
def m_differs_at : XF := runF 5 b_differs_at
theorem ok_differs_at (T : Txt K mg A D) : FnG P w K mg base 6 (A 19) (D 19) ["one", "other"] m_differs_at :=
  fn_body T.d_differs_at.F sc_differs_at fun cdv A outer s H room hG => ssd_cons (sd_new 2 sc_differs_at.nd (nd_lst (ad_cons (ed_tup (ad_cons (ed_int) (ad_cons (ed_int) (ad_nil)))) (ad_cons (ed_tup (ad_cons (ed_int) (ad_cons (ed_int) (ad_nil)))) (ad_nil))))) (ssd_cons (sd_for PassesOwn.never rfl (id_seq (ed_bin op_addD r2_add (CD.ed (cd_call (ok_bends_of T) (room.mono (by decide)) hG T.d_bends_of.g T.d_bends_of.F.kp T.d_bends_of.b (ad_cons (ed_var 0) (ad_nil)))) (ED.od (CD.ed (cd_call (ok_bends_of T) (room.mono (by decide)) hG T.d_bends_of.g T.d_bends_of.F.kp T.d_bends_of.b (ad_cons (ed_var 1) (ad_nil))))))) (gd_name 3 sc_differs_at.nd) (ssd_one (sd_drop (ed_ext 2 (ed_lst (ad_cons (ed_var 3) (ad_cons (CD.ed (cd_callV (ok_fraction_sum T) (room.mono (by decide)) hG T.d_fraction_sum.g T.d_fraction_sum.F.kp (ad_cons (ed_var 3) (ad_cons (ed_tup (ad_cons (ed_int) (ad_cons (ed_int) (ad_nil)))) (ad_nil))))) (ad_cons (CD.ed (cd_callV (ok_fraction_sum T) (room.mono (by decide)) hG T.d_fraction_sum.g T.d_fraction_sum.F.kp (ad_cons (ed_var 3) (ad_cons (ed_tup (ad_cons (ed_neg (ED.od (ed_int))) (ad_cons (ed_int) (ad_nil)))) (ad_nil))))) (ad_nil))))))))) (ssd_cons (sd_for PassesOwn.never rfl (id_seq (ed_var 2)) (gd_name 4 sc_differs_at.nd) (ssd_one (sd_if (td_cmp (op_neX room.u64) r2_ne (CD.ed (cd_call (ok_applied T) (room.mono (by decide)) hG T.d_applied.g T.d_applied.F.kp T.d_applied.b (ad_cons (ed_var 0) (ad_cons (ed_var 4) (ad_nil))))) (ED.od (CD.ed (cd_call (ok_applied T) (room.mono (by decide)) hG T.d_applied.g T.d_applied.F.kp T.d_applied.b (ad_cons (ed_var 1) (ad_cons (ed_var 4) (ad_nil))))))) (ssd_one (sd_ret (ed_var 4))) (ssd_nil)))) (ssd_one (sd_ret (ed_non)))))
abbrev s_commute : Stmt := topS 20
abbrev N_commute : List Str := ["one", "other"]
theorem sc_commute : FnScope N_commute ["one", "other"] (defScope s_commute) := ⟨rfl, rfl, rfl, by decide +kernel, rfl, by decide +kernel, by decide +kernel⟩
def b_commute : XS := sRet (x2 eqD (xCall (arity 2 m_chained_two) (aCons (xVar 0) (aCons (xVar 1) (aNil)))) (xCall (arity 2 m_chained_two) (aCons (xVar 1) (aCons (xVar 0) (aNil)))))
def m_commute : XF := runF 2 b_commute
theorem ok_commute (T : Txt K mg A D) : FnG P w K mg base 7 (A 20) (D 20) ["one", "other"] m_commute :=
  fn_body T.d_commute.F sc_commute fun cdv A outer s H room hG => ssd_one (sd_ret (ed_cmp (op_eqX room.u64) r2_eq (CD.ed (cd_call (ok_chained_two T) (room.mono (by decide)) hG T.d_chained_two.g T.d_chained_two.F.kp T.d_chained_two.b (ad_cons (ed_var 0) (ad_cons (ed_var 1) (ad_nil))))) (ED.od (CD.ed (cd_call (ok_chained_two T) (room.mono (by decide)) hG T.d_chained_two.g T.d_chained_two.F.kp T.d_chained_two.b (ad_cons (ed_var 1) (ad_cons (ed_var 0) (ad_nil))))))))
abbrev s_l_integer : Stmt := topS 42
abbrev N_l_integer : List Str := ["_law_item_here"]
theorem sc_l_integer : FnScope N_l_integer ["_law_item_here"] (defScope s_l_integer) := ⟨rfl, rfl, rfl, by decide +kernel, rfl, by decide +kernel, by decide +kernel⟩
def b_l_integer : XS := sRet (xAnd (xIsi isIntD (xVar 0)) (xNot (xIsi isBlD (xVar 0))))
def m_l_integer : XF := runF 1 b_l_integer
theorem ok_l_integer (T : Txt K mg A D) : FnG P w K mg base 1 (A 42) (D 42) ["_law_item_here"] m_l_integer :=
  fn_body T.d_l_integer.F sc_l_integer fun cdv A outer s H room hG => ssd_one (sd_ret (ed_and (ed_isi kit_int T.n_isinstance b_isinstance T.n_int b_int (ED.od (ed_var 0))) (ed_one (ed_not (ed_isi kit_bool T.n_isinstance b_isinstance T.n_bool b_bool (ED.od (ed_var 0)))))))
abbrev s_l_is_ratio : Stmt := topS 43
abbrev N_l_is_ratio : List Str := ["_law_item_here"]
theorem sc_l_is_ratio : FnScope N_l_is_ratio ["_law_item_here"] (defScope s_l_is_ratio) := ⟨rfl, rfl, rfl, by decide +kernel, rfl, by decide +kernel, by decide +kernel⟩
def b_l_is_ratio : XS := sSeq (sIf (xOrT (xNotT (xTru (xIsi isTupD (xVar 0)))) (xOrT (tst (x2 neD (x1 lenY (xVar 0)) (xC (.int 2)))) (xOrT (xNotT (xTru (xCall (arity 1 m_l_integer) (aCons (x2 idxD (xVar 0) (xC (.int 0))) (aNil))))) (xNotT (xTru (xCall (arity 1 m_l_integer) (aCons (x2 idxD (xVar 0) (xC (.int 1))) (aNil)))))))) (sRet (xC (.bool false))) (sNil)) (sRet (xAnd (x2 gtD (x2 idxD (xVar 0) (xC (.int 1))) (xC (.int 0))) (x2 eqD (xCall (arity 2 m_l_gcd) (aCons (x2 idxD (xVar 0) (xC (.int 0))) (aCons (x2 idxD (xVar 0) (xC (.int 1))) (aNil)))) (xC (.int 1)))))
def m_l_is_ratio : XF := runF 1 b_l_is_ratio
theorem ok_l_is_ratio (T : Txt K mg A D) : FnG P w K mg base 2 (A 43) (D 43) ["_law_item_here"] m_l_is_ratio :=
  fn_body T.d_l_is_ratio.F sc_l_is_ratio fun cdv A outer s H room hG => ssd_cons (sd_if (WD.td (wd_or (td_not (td_tru (ED.od (ed_isi kit_tuple T.n_isinstance b_isinstance T.n_tuple b_tuple (ED.od (ed_var 0)))))) (wd_or (td_cmp (op_neX room.u64) r2_ne (ed_c1 cr_lenY c1_lenY T.n_len b_len (ED.od (ed_var 0))) (ED.od (ed_int))) (wd_or (td_not (td_tru (ED.od (CD.ed (cd_call (ok_l_integer T) (room.mono (by decide)) hG T.d_l_integer.g T.d_l_integer.F.kp T.d_l_integer.b (ad_cons (ed_ix (ed_var 0) (ED.od (ed_int))) (ad_nil))))))) (wd_or1 (td_not (td_tru (ED.od (CD.ed (cd_call (ok_l_integer T) (room.mono (by decide)) hG T.d_l_integer.g T.d_l_integer.F.kp T.d_l_integer.b (ad_cons (ed_ix (ed_var 0) (ED.od (ed_int))) (ad_nil)))))))))))) (ssd_one (sd_ret (ed_bl))) (ssd_nil)) (ssd_one (sd_ret (ed_and (ed_cmp op_gt r2_gt (ed_ix (ed_var 0) (ED.od (ed_int))) (ED.od (ed_int))) (ed_one (ed_cmp (op_eqX room.u64) r2_eq (CD.ed (cd_call (ok_l_gcd T) (room.mono (by decide)) hG T.d_l_gcd.g T.d_l_gcd.F.kp T.d_l_gcd.b (ad_cons (ed_ix (ed_var 0) (ED.od (ed_int))) (ad_cons (ed_ix (ed_var 0) (ED.od (ed_int))) (ad_nil))))) (ED.od (ed_int)))))))
abbrev s_l_pair_right : Stmt := topS 47
abbrev N_l_pair_right : List Str := ["_law_one_in", "_law_other_in", "_law_told", "_law_due", "_law_amount_now"]
theorem sc_l_pair_right : FnScope N_l_pair_right ["_law_one_in", "_law_other_in"] (defScope s_l_pair_right) := ⟨rfl, rfl, rfl, by decide +kernel, rfl, by decide +kernel, by decide +kernel⟩
def b_l_pair_right : XS := sSeq (sPar 2 3 (xCall (arity 2 m_differs_at) (aCons (xVar 0) (aCons (xVar 1) (aNil)))) (x2 eqD (xCall (arity 2 m_l_then) (aCons (xVar 0) (aCons (xVar 1) (aNil)))) (xCall (arity 2 m_l_then) (aCons (xVar 1) (aCons (xVar 0) (aNil)))))) (sSeq (sIf (tst (x2 neD (x1 reprD (xLst (aCons (xCall (arity 2 m_commute) (aCons (xVar 0) (aCons (xVar 1) (aNil)))) (aCons (xCall m_commute (aPick [.inl 1, .inl 0] (aNil) (aCons (xVar 1) (aCons (xVar 0) (aNil))))) (aNil))))) (x1 reprD (xLst (aCons (xVar 3) (aCons (xVar 3) (aNil))))))) (sRet (xC (.bool false))) (sNil)) (sSeq (sFor (iOf (xTup (aCons (xVar 2) (aCons (xCall m_differs_at (aPick [.inl 1, .inl 0] (aNil) (aCons (xVar 1) (aCons (xVar 0) (aNil))))) (aNil))))) (gNm 4) (sSeq (sIf (tst (x2 neD (x2 isNonD (xVar 4) (xC .none)) (x2 eqD (xVar 0) (xVar 1)))) (sRet (xC (.bool false))) (sNil)) (sSeq (sIf (xAndT (tst (x2 notNonD (xVar 4) (xC .none))) (xNotT (xTru (xCall (arity 1 m_l_is_ratio) (aCons (xVar 4) (aNil)))))) (sRet (xC (.bool false))) (sNil)) (sIf (xAndT (tst (x2 notNonD (xVar 4) (xC .none))) (tst (x2 eqD (xCall (arity 2 m_l_apply) (aCons (xVar 0) (aCons (xVar 4) (aNil)))) (xCall (arity 2 m_l_apply) (aCons (xVar 1) (aCons (xVar 4) (aNil))))))) (sRet (xC (.bool false))) (sNil))))) (sRet (xC (.bool true)))))
def m_l_pair_right : XF := runF 5 b_l_pair_right
theorem ok_l_pair_right (T : Txt K mg A D) : FnG P w K mg base 8 (A 47) (D 47) ["_law_one_in", "_law_other_in"] m_l_pair_right :=
  fn_body T.d_l_pair_right.F sc_l_pair_right fun cdv A outer s H room hG => ssd_cons (sd_par rfl sc_l_pair_right.nd (CD.ed (cd_call (ok_differs_at T) (room.mono (by decide)) hG T.d_differs_at.g T.d_differs_at.F.kp T.d_differs_at.b (ad_cons (ed_var 0) (ad_cons (ed_var 1) (ad_nil))))) (ed_cmp (op_eqX room.u64) r2_eq (CD.ed (cd_call (ok_l_then T) (room.mono (by decide)) hG T.d_l_then.g T.d_l_then.F.kp T.d_l_then.b (ad_cons (ed_var 0) (ad_cons (ed_var 1) (ad_nil))))) (ED.od (CD.ed (cd_call (ok_l_then T) (room.mono (by decide)) hG T.d_l_then.g T.d_l_then.F.kp T.d_l_then.b (ad_cons (ed_var 1) (ad_cons (ed_var 0) (ad_nil)))))))) (ssd_cons (sd_if (td_cmp (op_neX room.u64) r2_ne (ed_c1 (call_reprD hG room.u64) c1_repr T.n_repr b_repr (ED.od (ed_lst (ad_cons (CD.ed (cd_call (ok_commute T) (room.mono (by decide)) hG T.d_commute.g T.d_commute.F.kp T.d_commute.b (ad_cons (ed_var 0) (ad_cons (ed_var 1) (ad_nil))))) (ad_cons (CD.ed (cd_callQ (ok_commute T) (room.mono (by decide)) hG T.d_commute.g T.d_commute.F.kp T.q_commute_0_other_one (kd_cons (ed_var 1) (kd_cons (ed_var 0) (kd_nil))) (ln_cons (ln_cons (ln_nil))))) (ad_nil)))))) (ED.od (ed_c1 (call_reprD hG room.u64) c1_repr T.n_repr b_repr (ED.od (ed_lst (ad_cons (ed_var 3) (ad_cons (ed_var 3) (ad_nil)))))))) (ssd_one (sd_ret (ed_bl))) (ssd_nil)) (ssd_cons (sd_for PassesOwn.never rfl (id_seq (ed_tup (ad_cons (ed_var 2) (ad_cons (CD.ed (cd_callQ (ok_differs_at T) (room.mono (by decide)) hG T.d_differs_at.g T.d_differs_at.F.kp T.q_differs_at_0_other_one (kd_cons (ed_var 1) (kd_cons (ed_var 0) (kd_nil))) (ln_cons (ln_cons (ln_nil))))) (ad_nil))))) (gd_name 4 sc_l_pair_right.nd) (ssd_cons (sd_if (td_cmp (op_neX room.u64) r2_ne (ed_cmp op_isN r2_isN (ed_var 4) (ED.od (ed_non))) (ED.od (ed_cmp (op_eqX room.u64) r2_eq (ed_var 0) (ED.od (ed_var 1))))) (ssd_one (sd_ret (ed_bl))) (ssd_nil)) (ssd_cons (sd_if (WD.td (wd_and (td_cmp op_notN r2_notN (ed_var 4) (ED.od (ed_non))) (wd_and1 (td_not (td_tru (ED.od (CD.ed (cd_call (ok_l_is_ratio T) (room.mono (by decide)) hG T.d_l_is_ratio.g T.d_l_is_ratio.F.kp T.d_l_is_ratio.b (ad_cons (ed_var 4) (ad_nil)))))))))) (ssd_one (sd_ret (ed_bl))) (ssd_nil)) (ssd_one (sd_if (WD.td (wd_and (td_cmp op_notN r2_notN (ed_var 4) (ED.od (ed_non))) (wd_and1 (td_cmp (op_eqX room.u64) r2_eq (CD.ed (cd_call (ok_l_apply T) (room.mono (by decide)) hG T.d_l_apply.g T.d_l_apply.F.kp T.d_l_apply.b (ad_cons (ed_var 0) (ad_cons (ed_var 4) (ad_nil))))) (ED.od (CD.ed (cd_call (ok_l_apply T) (room.mono (by decide)) hG T.d_l_apply.g T.d_l_apply.F.kp T.d_l_apply.b (ad_cons (ed_var 1) (ad_cons (ed_var 4) (ad_nil)))))))))) (ssd_one (sd_ret (ed_bl))) (ssd_nil)))))) (ssd_one (sd_ret (ed_bl)))))
abbrev s_l_list_right : Stmt := topS 49
abbrev N_l_list_right : List Str := ["_law_items", "_law_kept", "_law_due", "_law_one_in", "_law_item_here", "_law_other_in"]
theorem sc_l_list_right : FnScope N_l_list_right ["_law_items"] (defScope s_l_list_right) := ⟨rfl, rfl, rfl, by decide +kernel, rfl, by decide +kernel, by decide +kernel⟩
def b_l_list_right : XS := sSeq (sPar 1 2 (x1 reprD (xVar 0)) (xCall (arity 1 m_l_chain) (aCons (xVar 0) (aNil)))) (sSeq (sIf (tst (x2 neD (x1 reprD (xCall (arity 1 m_l_chained) (aCons (xVar 0) (aNil)))) (x1 reprD (xVar 2)))) (sRet (xC (.bool false))) (sNil)) (sSeq (sIf (tst (x2 neD (xFz (nLc (iOf (xVar 0)) (gNm 4) (xNotT (xTru (xCall (arity 1 m_l_values_right) (aCons (xVar 4) (aNil))))) (xVar 4) [4])) (xLst (aNil)))) (sRet (xC (.bool false))) (sNil)) (sSeq (sIf (tst (x2 neD (x1 reprD (xCall (arity 1 m_l_matters) (aCons (xVar 0) (aNil)))) (x1 reprD (x2 gtD (KN.xLenT m_l_all_chains (xVar 0)) (xC (.int 1)))))) (sRet (xC (.bool false))) (sNil)) (sSeq (sFor (iOf (xVar 0)) (gNm 3) (sIf (tst (x2 neD (xFz (nLc (iOf (xVar 0)) (gNm 5) (xNotT (xTru (xCall (arity 2 m_l_pair_right) (aCons (xVar 3) (aCons (xVar 5) (aNil)))))) (xVar 5) [5])) (xLst (aNil)))) (sRet (xC (.bool false))) (sNil))) (sRet (x2 eqD (x1 reprD (xVar 0)) (xVar 1)))))))
def m_l_list_right : XF := runF 6 b_l_list_right
theorem ok_l_list_right (T : Txt K mg A D) : FnG P w K mg base 10 (A 49) (D 49) ["_law_items"] m_l_list_right :=
  fn_body T.d_l_list_right.F sc_l_list_right fun cdv A outer s H room hG => ssd_cons (sd_par rfl sc_l_list_right.nd (ed_c1 (call_reprD hG room.u64) c1_repr T.n_repr b_repr (ED.od (ed_var 0))) (CD.ed (cd_call (ok_l_chain T) (room.mono (by decide)) hG T.d_l_chain.g T.d_l_chain.F.kp T.d_l_chain.b (ad_cons (ed_var 0) (ad_nil))))) (ssd_cons (sd_if (td_cmp (op_neX room.u64) r2_ne (ed_c1 (call_reprD hG room.u64) c1_repr T.n_repr b_repr (ED.od (CD.ed (cd_call (ok_l_chained T) (room.mono (by decide)) hG T.d_l_chained.g T.d_l_chained.F.kp T.d_l_chained.b (ad_cons (ed_var 0) (ad_nil)))))) (ED.od (ed_c1 (call_reprD hG room.u64) c1_repr T.n_repr b_repr (ED.od (ed_var 2))))) (ssd_one (sd_ret (ed_bl))) (ssd_nil)) (ssd_cons (sd_if (td_cmp (op_neX room.u64) r2_ne (ND.ed (nd_lc (vs := [4]) [("_law_item_here", 4)] (blkOk_by (own := [("_law_item_here", 4)]) (N := N_l_list_right) (sc := defScope s_l_list_right) (by decide +kernel)) rfl rfl sc_l_list_right.nd (id_seq (ed_var 0)) (fun _ _ _ _ _ => gd_name 4 sc_l_list_right.nd) (fun _ _ _ _ _ => tsd_one (td_not (td_tru (ED.od (CD.ed (cd_call (ok_l_values_right T) (room.mono (by decide)) hG T.d_l_values_right.g T.d_l_values_right.F.kp T.d_l_values_right.b (ad_cons (ed_var 4) (ad_nil)))))))) (fun _ _ _ _ _ => ed_var 4))) (ED.od (ed_lst (ad_nil)))) (ssd_one (sd_ret (ed_bl))) (ssd_nil)) (ssd_cons (sd_if (td_cmp (op_neX room.u64) r2_ne (ed_c1 (call_reprD hG room.u64) c1_repr T.n_repr b_repr (ED.od (CD.ed (cd_call (ok_l_matters T) (room.mono (by decide)) hG T.d_l_matters.g T.d_l_matters.F.kp T.d_l_matters.b (ad_cons (ed_var 0) (ad_nil)))))) (ED.od (ed_c1 (call_reprD hG room.u64) c1_repr T.n_repr b_repr (ED.od (ed_cmp op_gt r2_gt (KN.ed_lenT (ok_l_all_chains T) (room.mono (by decide)) hG T.d_l_all_chains.g T.d_l_all_chains.F.kp T.d_l_all_chains.b rfl (ed_var 0) T.n_len) (ED.od (ed_int))))))) (ssd_one (sd_ret (ed_bl))) (ssd_nil)) (ssd_cons (sd_for PassesOwn.never rfl (id_seq (ed_var 0)) (gd_name 3 sc_l_list_right.nd) (ssd_one (sd_if (td_cmp (op_neX room.u64) r2_ne (ND.ed (nd_lc (vs := [5]) [("_law_other_in", 5)] (blkOk_by (own := [("_law_other_in", 5)]) (N := N_l_list_right) (sc := defScope s_l_list_right) (by decide +kernel)) rfl rfl sc_l_list_right.nd (id_seq (ed_var 0)) (fun _ _ _ _ _ => gd_name 5 sc_l_list_right.nd) (fun _ _ _ _ _ => tsd_one (td_not (td_tru (ED.od (CD.ed (cd_call (ok_l_pair_right T) (room.mono (by decide)) hG T.d_l_pair_right.g T.d_l_pair_right.F.kp T.d_l_pair_right.b (ad_cons (ed_var 3) (ad_cons (ed_var 5) (ad_nil))))))))) (fun _ _ _ _ _ => ed_var 5))) (ED.od (ed_lst (ad_nil)))) (ssd_one (sd_ret (ed_bl))) (ssd_nil)))) (ssd_one (sd_ret (ed_cmp (op_eqX room.u64) r2_eq (ed_c1 (call_reprD hG room.u64) c1_repr T.n_repr b_repr (ED.od (ed_var 0))) (ED.od (ed_var 1)))))))))
abbrev s_law : Stmt := topS 50
abbrev N_law : List Str := ["_law_script", "_law_feed_here", "_law_hand", "_law_one_in", "_law_lots", "_law_k", "_law_p", "_law_t", "_law_h", "_law_cap", "_law_other_in", "_law_j", "_law_items"]
theorem sc_law : FnScope N_law ["_law_script"] (defScope s_law) := ⟨rfl, rfl, rfl, by decide +kernel, rfl, by decide +kernel, by decide +kernel⟩
def b_law : XS := sSeq (sNew 1 (nCall (arity 1 m_l_feed) (aSlot 0 (aNil)))) (sSeq (sSet 2 (xCall m_l_items_by_hand aNil)) (sSeq (sFor (iOf (xVar 2)) (gNm 3) (sSeq (sIf (xNotT (xTru (xCall (arity 1 m_l_values_right) (aCons (xVar 3) (aNil))))) (sRet (xC (.bool false))) (sNil)) (sIf (tst (x2 neD (xFz (nLc (iOf (xVar 2)) (gNm 10) (xNotT (xTru (xCall (arity 2 m_l_pair_right) (aCons (xVar 3) (aCons (xVar 10) (aNil)))))) (xVar 10) [10])) (xLst (aNil)))) (sRet (xC (.bool false))) (sNil)))) (sSeq (sNew 4 (nLst (aCons (x2 mulD (xSl (xVar 2) (oSome (xC (.int 3))) (oSome (xC (.int 4)))) (xC (.int 5))) (aCons (xLst (aCons (x2 idxD (xVar 2) (xC (.int 3))) (aCons (x2 idxD (xVar 2) (xC (.int 4))) (aCons (x2 idxD (xVar 2) (xC (.int 1))) (aNil))))) (aCons (xLst (aCons (x2 idxD (xVar 2) (xC (.int 3))) (aCons (x2 idxD (xVar 2) (xC (.int 4))) (aCons (x2 idxD (xVar 2) (xC (.int 7))) (aNil))))) (aCons (xLst (aCons (x2 idxD (xVar 2) (xC (.int 6))) (aCons (x2 idxD (xVar 2) (xC (.int 7))) (aCons (x2 idxD (xVar 2) (xC (.int 8))) (aNil))))) (aCons (xLst (aNil)) (aNil)))))))) (sSeq (sFor (iRng (xC (.int 12))) (gNm 5) (sDrop (xApp 4 (xFz (nLc (iRng (xCall (arity 2 m_l_draw) (aSlot 1 (aCons (x2 idxY (xLst (aCons (xC (.int 6)) (aCons (xC (.int 4)) (aCons (xC (.int 4)) (aCons (xC (.int 4)) (aNil)))))) (x2 modD (xVar 5) (xC (.int 4)))) (aNil))))) (gNm 11) (cYes) (xCall (arity 1 m_l_item) (aSlot 1 (aNil))) [11]))))) (sSeq (sAsg (xTup (aCons (x2 idxD (xVar 2) (xC (.int 3))) (aCons (x2 idxD (xVar 2) (xC (.int 4))) (aCons (x2 idxD (xVar 2) (xC (.int 5))) (aCons (x2 idxD (xVar 2) (xC (.int 7))) (aNil)))))) (gTp 4 (gsCons (gNm 6) (gsCons (gNm 7) (gsCons (gNm 8) (gsCons (gNm 9) (gsNil))))))) (sSeq (sIf (tst (x2 neD (xCall m_chained (aCons (xVar 6) (aCons (xVar 7) (aCons (xVar 8) (aCons (xVar 6) (aCons (xVar 7) (aCons (xVar 8) (aCons (xVar 6) (aCons (xVar 7) (aCons (xVar 8) (aCons (xVar 6) (aCons (xVar 7) (aCons (xVar 9) (aNil)))))))))))))) (xCall (arity 1 m_l_chain) (aCons (x2 addD (x2 mulD (xLst (aCons (xVar 6) (aCons (xVar 7) (aCons (xVar 8) (aNil))))) (xC (.int 3))) (xLst (aCons (xVar 6) (aCons (xVar 7) (aCons (xVar 9) (aNil)))))) (aNil))))) (sRet (xC (.bool false))) (sNil)) (sRet (x2 eqD (xFz (nLc (iOf (xVar 4)) (gNm 12) (xNotT (xTru (xCall (arity 1 m_l_list_right) (aCons (xVar 12) (aNil))))) (xVar 12) [12])) (xLst (aNil))))))))))
def m_law : XF := runF 13 b_law
theorem ok_law (T : Txt K mg A D) : FnG P w K mg base 11 (A 50) (D 50) ["_law_script"] m_law :=
  fn_body T.d_law.F sc_law fun cdv A outer s H room hG => ssd_cons (sd_new 1 sc_law.nd (CD.nd (cd_call (ok_l_feed T) (room.mono (by decide)) hG T.d_l_feed.g T.d_l_feed.F.kp T.d_l_feed.b (ad_slot 0 (ad_nil))))) (ssd_cons (sd_set 2 sc_law.nd (CD.ed (cd_call0 (ok_l_items_by_hand T) (room.mono (by decide)) hG T.d_l_items_by_hand.g T.d_l_items_by_hand.F.kp T.d_l_items_by_hand.b))) (ssd_cons (sd_for PassesOwn.never rfl (id_seq (ed_var 2)) (gd_name 3 sc_law.nd) (ssd_cons (sd_if (td_not (td_tru (ED.od (CD.ed (cd_call (ok_l_values_right T) (room.mono (by decide)) hG T.d_l_values_right.g T.d_l_values_right.F.kp T.d_l_values_right.b (ad_cons (ed_var 3) (ad_nil))))))) (ssd_one (sd_ret (ed_bl))) (ssd_nil)) (ssd_one (sd_if (td_cmp (op_neX room.u64) r2_ne (ND.ed (nd_lc (vs := [10]) [("_law_other_in", 10)] (blkOk_by (own := [("_law_other_in", 10)]) (N := N_law) (sc := defScope s_law) (by decide +kernel)) rfl rfl sc_law.nd (id_seq (ed_var 2)) (fun _ _ _ _ _ => gd_name 10 sc_law.nd) (fun _ _ _ _ _ => tsd_one (td_not (td_tru (ED.od (CD.ed (cd_call (ok_l_pair_right T) (room.mono (by decide)) hG T.d_l_pair_right.g T.d_l_pair_right.F.kp T.d_l_pair_right.b (ad_cons (ed_var 3) (ad_cons (ed_var 10) (ad_nil))))))))) (fun _ _ _ _ _ => ed_var 10))) (ED.od (ed_lst (ad_nil)))) (ssd_one (sd_ret (ed_bl))) (ssd_nil))))) (ssd_cons (sd_new 4 sc_law.nd (nd_lst (ad_cons (ed_bin op_mulD r2_mul (ed_sl (ed_var 2) (pd_some (ed_int)) (pd_some (ed_int))) (ED.od (ed_int))) (ad_cons (ed_lst (ad_cons (ed_ix (ed_var 2) (ED.od (ed_int))) (ad_cons (ed_ix (ed_var 2) (ED.od (ed_int))) (ad_cons (ed_ix (ed_var 2) (ED.od (ed_int))) (ad_nil))))) (ad_cons (ed_lst (ad_cons (ed_ix (ed_var 2) (ED.od (ed_int))) (ad_cons (ed_ix (ed_var 2) (ED.od (ed_int))) (ad_cons (ed_ix (ed_var 2) (ED.od (ed_int))) (ad_nil))))) (ad_cons (ed_lst (ad_cons (ed_ix (ed_var 2) (ED.od (ed_int))) (ad_cons (ed_ix (ed_var 2) (ED.od (ed_int))) (ad_cons (ed_ix (ed_var 2) (ED.od (ed_int))) (ad_nil))))) (ad_cons (ed_lst (ad_nil)) (ad_nil)))))))) (ssd_cons (sd_for PassesOwn.never rfl (id_rng T.n_range (ed_int)) (gd_name 5 sc_law.nd) (ssd_one (sd_drop (ed_app 4 (ND.ed (nd_lc (vs := [11]) [("_law_j", 11)] (blkOk_by (own := [("_law_j", 11)]) (N := N_law) (sc := defScope s_law) (by decide +kernel)) rfl rfl sc_law.nd (id_rng T.n_range (CD.ed (cd_call (ok_l_draw T) (room.mono (by decide)) hG T.d_l_draw.g T.d_l_draw.F.kp T.d_l_draw.b (ad_slot 1 (ad_cons (ed_ixY room.u1 (ed_lst (ad_cons (ed_int) (ad_cons (ed_int) (ad_cons (ed_int) (ad_cons (ed_int) (ad_nil)))))) (ED.od (ed_bin op_modD r2_mod (ed_var 5) (ED.od (ed_int))))) (ad_nil)))))) (fun _ _ _ _ _ => gd_name 11 sc_law.nd) (fun _ _ _ _ _ => tsd_nil) (fun _ _ _ _ _ => CD.ed (cd_call (ok_l_item T) (room.mono (by decide)) hG T.d_l_item.g T.d_l_item.F.kp T.d_l_item.b (ad_slot 1 (ad_nil)))))))))) (ssd_cons (sd_asg (ed_tup (ad_cons (ed_ix (ed_var 2) (ED.od (ed_int))) (ad_cons (ed_ix (ed_var 2) (ED.od (ed_int))) (ad_cons (ed_ix (ed_var 2) (ED.od (ed_int))) (ad_cons (ed_ix (ed_var 2) (ED.od (ed_int))) (ad_nil)))))) (gd_tup rfl (gsd_cons (gd_name 6 sc_law.nd) (gsd_cons (gd_name 7 sc_law.nd) (gsd_cons (gd_name 8 sc_law.nd) (gsd_cons (gd_name 9 sc_law.nd) (gsd_nil))))))) (ssd_cons (sd_if (td_cmp (op_neX room.u64) r2_ne (CD.ed (cd_callV (ok_chained T) (room.mono (by decide)) hG T.d_chained.g T.d_chained.F.kp (ad_cons (ed_var 6) (ad_cons (ed_var 7) (ad_cons (ed_var 8) (ad_cons (ed_var 6) (ad_cons (ed_var 7) (ad_cons (ed_var 8) (ad_cons (ed_var 6) (ad_cons (ed_var 7) (ad_cons (ed_var 8) (ad_cons (ed_var 6) (ad_cons (ed_var 7) (ad_cons (ed_var 9) (ad_nil))))))))))))))) (ED.od (CD.ed (cd_call (ok_l_chain T) (room.mono (by decide)) hG T.d_l_chain.g T.d_l_chain.F.kp T.d_l_chain.b (ad_cons (ed_bin op_addD r2_add (ed_bin op_mulD r2_mul (ed_lst (ad_cons (ed_var 6) (ad_cons (ed_var 7) (ad_cons (ed_var 8) (ad_nil))))) (ED.od (ed_int))) (ED.od (ed_lst (ad_cons (ed_var 6) (ad_cons (ed_var 7) (ad_cons (ed_var 9) (ad_nil))))))) (ad_nil)))))) (ssd_one (sd_ret (ed_bl))) (ssd_nil)) (ssd_one (sd_ret (ed_cmp (op_eqX room.u64) r2_eq (ND.ed (nd_lc (vs := [12]) [("_law_items", 12)] (blkOk_by (own := [("_law_items", 12)]) (N := N_law) (sc := defScope s_law) (by decide +kernel)) rfl rfl sc_law.nd (id_seq (ed_var 4)) (fun _ _ _ _ _ => gd_name 12 sc_law.nd) (fun _ _ _ _ _ => tsd_one (td_not (td_tru (ED.od (CD.ed (cd_call (ok_l_list_right T) (room.mono (by decide)) hG T.d_l_list_right.g T.d_l_list_right.F.kp T.d_l_list_right.b (ad_cons (ed_var 12) (ad_nil)))))))) (fun _ _ _ _ _ => ed_var 12))) (ED.od (ed_lst (ad_nil))))))))))))
end
end K04
set_option maxRecDepth 100000
set_option maxHeartbeats 2000000
namespace DL
open PySem PySem.Spec PyProof.Rows L2
mutual
/-- a bound of the text of d -/
def sz : PyData → Nat
  | .none => 8
  | .bool _ => 8
  | .int _ => 800
  | .str s => 12 * s.length + 12
  | .list xs => 8 + szA xs
  | .tuple xs => 8 + szA xs
  | .dict _ => 0
def szA : List PyData → Nat
  | [] => 0
  | x :: xs => sz x + 2 + szA xs
end
mutual
/-- ints up to B, plain texts, no dict -/
def ok (B : Nat) : PyData → Bool
  | .none => true
  | .bool _ => true
  | .int i => decide (i.natAbs ≤ B)
  | .str s => s.cps.toList.all fun c => decide (c < 128)
  | .list xs => okA B xs
  | .tuple xs => okA B xs
  | .dict _ => false
def okA (B : Nat) : List PyData → Bool
  | [] => true
  | x :: xs => ok B x && okA B xs
end
theorem okS {B : Nat} {s : Str} (h : ok B (.str s) = true) : ∀ c ∈ s.cps.toList, c < 128 := by
  unfold ok at h
  intro c hc
  have := List.all_eq_true.mp h c hc
  exact of_decide_eq_true this
mutual
theorem lay_ok (B : Nat) : ∀ d : PyData, ok B d = true → d.canLay0 = true ∧ d.hasDict = false
  | .none, _ => ⟨rfl, rfl⟩
  | .bool _, _ => ⟨rfl, rfl⟩
  | .int _, _ => ⟨rfl, rfl⟩
  | .str s, h => ⟨by
    have h' := okS h
    simp only [PyData.canLay0]
    unfold PySem.PyData.strOk
    rw [← Array.all_toList]
    exact List.all_eq_true.mpr fun c hc => decide_eq_true (Nat.lt_trans (h' c hc) (by decide)), rfl⟩
  | .list xs, h => by
    have := layA_ok B xs (by simpa [ok] using h)
    exact ⟨by simpa [PyData.canLay0] using this.1, by simpa [PyData.hasDict] using this.2⟩
  | .tuple xs, h => by
    have := layA_ok B xs (by simpa [ok] using h)
    exact ⟨by simpa [PyData.canLay0] using this.1, by simpa [PyData.hasDict] using this.2⟩
  | .dict _, h => by simp [ok] at h
theorem layA_ok (B : Nat) : ∀ ds : List PyData, okA B ds = true → PyData.canLayAll0 ds = true ∧ PyData.hasDictAll ds = false
  | [], _ => ⟨rfl, rfl⟩
  | x :: xs, h => by
    have h' : ok B x = true ∧ okA B xs = true := by simpa [okA] using h
    have h1 := lay_ok B x h'.1
    have h2 := layA_ok B xs h'.2
    exact ⟨by simp [PyData.canLayAll0, h1.1, h2.1], by simp [PyData.hasDictAll, h1.2, h2.2]⟩
end
mutual
theorem shows_ok (B : Nat) (hB : B < 10 ^ 60) : ∀ d : PyData, ok B d = true → d.showable = true ∧ d.shown.length ≤ sz d
  | .none, _ => ⟨rfl, by decide⟩
  | .bool b, _ => ⟨rfl, by cases b <;> decide⟩
  | .int i, h => by
    have h' : i.natAbs ≤ B := by simpa [ok] using h
    have h2 : i.natAbs < 10 ^ 60 := Nat.lt_of_le_of_lt h' hB
    refine ⟨?_, ?_⟩
    · have : i.natAbs.log2 < 1920 := by
        by_cases h0 : i.natAbs = 0
        · rw [h0]; decide
        · exact (Nat.log2_lt h0).mpr (Nat.lt_of_lt_of_le h2 (by decide +kernel))
      simpa [PyData.showable] using this
    · have := PySem.int_text_length_le10 (a := i) (k := 60) (by decide) h2
      have e : (PyData.shown (.int i)).length = (toString i).length := by
        simp only [PyData.shown]
        exact PySem.ofString_length _
      rw [e]
      simp only [sz]
      omega
  | .str s, h => ⟨rfl, by
    have h' := okS h
    have := PySem.StrLaws.reprText_len s fun c hc => Nat.lt_of_lt_of_le (h' c hc) (by decide)
    simp only [PyData.shown, sz]
    omega⟩
  | .list xs, h => by
    have h2 := showsA_ok B hB xs (by simpa [ok] using h)
    refine ⟨by simpa [PyData.showable] using h2.1, ?_⟩
    have h3 := PySem.listText_len_le (PyData.shownAll xs)
    simp only [PyData.shown, sz]
    have := h2.2
    omega
  | .tuple xs, h => by
    have h2 := showsA_ok B hB xs (by simpa [ok] using h)
    refine ⟨by simpa [PyData.showable] using h2.1, ?_⟩
    have h3 := PySem.tupleText_len_le (PyData.shownAll xs)
    simp only [PyData.shown, sz]
    have := h2.2
    omega
  | .dict _, h => by simp [ok] at h
theorem showsA_ok (B : Nat) (hB : B < 10 ^ 60) : ∀ ds : List PyData, okA B ds = true → PyData.showableAll ds = true ∧ ((PyData.shownAll ds).map (·.length)).sum + 2 * (PyData.shownAll ds).length ≤ szA ds
  | [], _ => ⟨rfl, Nat.le_refl _⟩
  | x :: xs, h => by
    have h' : ok B x = true ∧ okA B xs = true := by simpa [okA] using h
    have h1 := shows_ok B hB x h'.1
    have h2 := showsA_ok B hB xs h'.2
    refine ⟨by simp [PyData.showableAll, h1.1, h2.1], ?_⟩
    have a := h1.2
    have b := h2.2
    simp only [PyData.shownAll, List.map_cons, List.sum_cons, List.length_cons, szA]
    omega
end
theorem repr_ok {B : Nat} (hB : B < 10 ^ 60) {d : PyData} (h : ok B d = true) (hd : d.depth ≤ 60) (hs : sz d ≤ 16777216) : reprD d = some (.str d.shown) := by
  have h1 := lay_ok B d h
  have h2 := shows_ok B hB d h
  unfold reprD
  rw [if_pos ⟨h1.2, h2.1, hd, Nat.le_trans h2.2 hs⟩]
end DL
set_option exponentiation.threshold 5000
set_option maxRecDepth 100000
set_option maxHeartbeats 4000000
namespace DL
open PySem PySem.Spec PyProof.Rows L2
end DL
namespace RQ
structure Cl where
  f : Rat
  p : Rat
  lo : Option Rat
  hi : Option Rat
deriving DecidableEq
def bd (x : Rat) (lo hi : Option Rat) : Rat :=
  match lo, hi with
  | none, none => x
  | some l, none => if x < l then l else x
  | none, some h => if h < x then h else x
  | some l, some h => if x < l then (if h < l then h else l) else if h < x then h else x
def ap (c : Cl) (x : Rat) : Rat := bd (c.f * x + c.p) c.lo c.hi
def leO (lo hi : Option Rat) : Prop := match lo, hi with | some l, some h => l ≤ h | _, _ => True
def ltO (lo hi : Option Rat) : Prop := match lo, hi with | some l, some h => l < h | _, _ => True
def WF (c : Cl) : Prop := 0 ≤ c.f ∧ (c.f = 0 → c.lo = none ∧ c.hi = none) ∧ ltO c.lo c.hi
theorem mono {c : Cl} (h : WF c) {x y : Rat} (hxy : x ≤ y) : ap c x ≤ ap c y := by
  obtain ⟨f, p, lo, hi⟩ := c
  obtain ⟨h1, h2, h3⟩ := h
  have : f * x ≤ f * y := Rat.mul_le_mul_of_nonneg_left hxy h1
  cases lo <;> cases hi <;> simp only [ap, bd, ltO] at * <;> grind
def cst (a : Rat) : Cl := ⟨0, a, none, none⟩
def nf (f p : Rat) (lo hi : Option Rat) : Cl := if f = 0 then cst (bd p lo hi) else if lo ≠ none ∧ lo = hi then cst (lo.getD 0) else ⟨f, p, lo, hi⟩
def ea (e : Option Rat) (c : Cl) (b : Option Rat) : Option Rat := match e with | none => b | some x => some (ap c x)
def ch2 (a b : Cl) : Cl := if a.f = 0 ∨ b.f = 0 then cst (ap b a.p) else nf (a.f * b.f) (b.f * a.p + b.p) (ea a.lo b b.lo) (ea a.hi b b.hi)
theorem ap_nf (f p : Rat) (lo hi : Option Rat) (h0 : 0 ≤ f) (h : leO lo hi) (x : Rat) : ap (nf f p lo hi) x = bd (f * x + p) lo hi := by
  cases lo <;> cases hi <;> simp only [ap, bd, leO, nf, cst] at * <;> grind
theorem mulm {g y l : Rat} (h : 0 ≤ g) (h0 : g ≠ 0) : (y < l → g * y < g * l) ∧ (l < y → g * l < g * y) := by
  have hg : 0 < g := by grind
  exact ⟨fun q => Rat.mul_lt_mul_of_pos_left q hg, fun q => Rat.mul_lt_mul_of_pos_left q hg⟩
theorem ea_le {lo hi : Option Rat} {b : Cl} (h : leO lo hi) (hb : WF b) : leO (ea lo b b.lo) (ea hi b b.hi) := by
  have m := fun x y (q : x ≤ y) => mono hb q
  obtain ⟨g, q, lo', hi'⟩ := b
  obtain ⟨k1, k2, k3⟩ := hb
  cases lo with
  | none => cases hi <;> cases lo' <;> cases hi' <;> simp only [ap, bd, ltO, leO, ea] at * <;> grind
  | some l => cases hi with
    | none => cases lo' <;> cases hi' <;> simp only [ap, bd, ltO, leO, ea] at * <;> grind
    | some u => exact m _ _ h
theorem lt_le {lo hi : Option Rat} (h : ltO lo hi) : leO lo hi := by
  cases lo <;> cases hi <;> simp only [ltO, leO] at * <;> grind
theorem ap_ch2 {a b : Cl} (ha : WF a) (hb : WF b) (x : Rat) : ap (ch2 a b) x = ap b (ap a x) := by
  have le := ea_le (lt_le ha.2.2) hb
  obtain ⟨f, p, lo, hi⟩ := a
  obtain ⟨g, q, lo', hi'⟩ := b
  obtain ⟨h1, h2, h3⟩ := ha
  obtain ⟨k1, k2, k3⟩ := hb
  have e : g * (f * x + p) + q = f * g * x + (g * p + q) := by grind
  by_cases f0 : f = 0
  · subst f0
    obtain ⟨rfl, rfl⟩ := h2 rfl
    simp only [ap, bd, ltO, nf, cst, ch2, ea] at *; grind
  by_cases g0 : g = 0
  · subst g0
    obtain ⟨rfl, rfl⟩ := k2 rfl
    simp only [ap, bd, ltO, nf, cst, ch2, ea] at *; grind
  have fg : f * g ≠ 0 := by intro h; rcases Rat.mul_eq_zero.mp h with h | h <;> contradiction
  have fg0 : 0 ≤ f * g := Rat.mul_nonneg h1 k1
  have c1 : ch2 ⟨f, p, lo, hi⟩ ⟨g, q, lo', hi'⟩ = nf (f * g) (g * p + q) (ea lo ⟨g, q, lo', hi'⟩ lo') (ea hi ⟨g, q, lo', hi'⟩ hi') := by simp [ch2, f0, g0]
  rw [c1, ap_nf _ _ _ _ fg0 le]
  clear c1 le
  simp only [ap]
  generalize hy : f * x + p = y at *
  rw [← e]
  clear e hy
  cases lo with
  | none => cases hi with
    | none => cases lo' <;> cases hi' <;> simp only [ap, bd, ltO, cst, ea] at * <;> grind
    | some h => have m := mulm (y := y) (l := h) k1 g0
                cases lo' <;> cases hi' <;> simp only [ap, bd, ltO, cst, ea] at * <;> grind
  | some l => 
    have n := mulm (y := y) (l := l) k1 g0
    cases hi with
    | none => cases lo' <;> cases hi' <;> simp only [ap, bd, ltO, cst, ea] at * <;> grind
    | some h => have m := mulm (y := y) (l := h) k1 g0
                have o := mulm (y := l) (l := h) k1 g0
                by_cases y1 : y < l
                · cases lo' <;> cases hi' <;> simp only [ap, bd, ltO, cst, ea, if_pos y1] at * <;> grind
                · by_cases y2 : h < y
                  · cases lo' <;> cases hi' <;> simp only [ap, bd, ltO, cst, ea, if_neg y1, if_pos y2] at * <;> grind
                  · cases lo' <;> cases hi' <;> simp only [ap, bd, ltO, cst, ea, if_neg y1, if_neg y2] at * <;> grind
theorem wf_nf {f p : Rat} {lo hi : Option Rat} (h0 : 0 ≤ f) (h : leO lo hi) : WF (nf f p lo hi) := by
  cases lo <;> cases hi <;> simp only [leO, nf, cst, WF, ltO] at * <;> grind [ltO]
theorem wf_ch2 {a b : Cl} (ha : WF a) (hb : WF b) : WF (ch2 a b) := by
  unfold ch2
  split
  · simp [cst, WF, ltO]
  · exact wf_nf (Rat.mul_nonneg ha.1 hb.1) (ea_le (lt_le ha.2.2) hb)

/-- the amount at which the linear part reaches a bound -/
def be (c : Cl) (l : Rat) : Rat := (l - c.p) / c.f
theorem be_eq {c : Cl} (h : c.f ≠ 0) (l : Rat) : c.f * be c l + c.p = l := by
  unfold be; grind
theorem at_lo {c : Cl} (h : WF c) (h0 : c.f ≠ 0) {l : Rat} (hl : c.lo = some l) : ap c (be c l) = l ∧ ap c (be c l - 1) = l ∧ l < ap c (be c l + 1) := by
  have e := be_eq h0 l
  generalize be c l = x at *
  obtain ⟨f, p, lo, hi⟩ := c
  obtain ⟨h1, h2, h3⟩ := h
  simp only at hl e h0
  subst hl
  cases hi <;> simp only [ap, bd, ltO] at * <;> grind
theorem at_hi {c : Cl} (h : WF c) (h0 : c.f ≠ 0) {l : Rat} (hl : c.hi = some l) : ap c (be c l) = l ∧ ap c (be c l + 1) = l ∧ ap c (be c l - 1) < l := by
  have e := be_eq h0 l
  generalize be c l = x at *
  obtain ⟨f, p, lo, hi⟩ := c
  obtain ⟨h1, h2, h3⟩ := h
  simp only at hl e h0
  subst hl
  cases lo <;> simp only [ap, bd, ltO] at * <;> grind
theorem flat {c : Cl} (h : WF c) (h0 : c.f ≠ 0) {x y : Rat} (hxy : x < y) (he : ap c x = ap c y) : (∃ l, c.lo = some l ∧ c.f * y + c.p ≤ l ∧ ap c y = l) ∨ (∃ l, c.hi = some l ∧ l ≤ c.f * x + c.p ∧ ap c x = l) := by
  obtain ⟨f, p, lo, hi⟩ := c
  obtain ⟨h1, h2, h3⟩ := h
  have m := (mulm (g := f) (y := x) (l := y) h1 h0).1 hxy
  cases lo <;> cases hi <;> simp only [ap, bd, ltO] at * <;> grind
theorem cmp_be {c : Cl} (h : WF c) (h0 : c.f ≠ 0) (l x : Rat) : (c.f * x + c.p ≤ l ↔ x ≤ be c l) ∧ (l ≤ c.f * x + c.p ↔ be c l ≤ x) := by
  have e := be_eq h0 l
  generalize be c l = y at *
  have m := mulm (g := c.f) (y := x) (l := y) h.1 h0
  constructor <;> constructor <;> grind
/-- they agree at the amounts that belong to a bend -/
def AgB (a b : Cl) (x : Rat) : Prop := ap a x = ap b x ∧ ap a (x + 1) = ap b (x + 1) ∧ ap a (x - 1) = ap b (x - 1)
theorem lo_of {a b : Cl} (ha : WF a) (hb : WF b) (fa : a.f ≠ 0) (fb : b.f ≠ 0) {l : Rat} (hl : a.lo = some l) (g : AgB a b (be a l)) : b.lo = some l ∧ be a l ≤ be b l := by
  obtain ⟨g1, g2, g3⟩ := g
  obtain ⟨q1, q2, q3⟩ := at_lo ha fa hl
  rcases flat hb fb (x := be a l - 1) (y := be a l) (by grind) (by grind) with ⟨l', h1, h2, h3⟩ | ⟨l', h1, h2, h3⟩
  · have : l' = l := by grind
    subst this
    exact ⟨h1, (cmp_be hb fb _ _).1.mp h2⟩
  · have h4 := (cmp_be hb fb _ _).2.mp h2
    obtain ⟨p1, p2, p3⟩ := at_hi hb fb h1
    have m1 := mono hb (show be b l' ≤ be a l by grind)
    have m2 := mono hb (show be a l ≤ be a l + 1 by grind)
    have u : ap b (be a l + 1) ≤ l' := by
      obtain ⟨f, p, lo, hi⟩ := b
      obtain ⟨h1', h2', h3'⟩ := hb
      simp only at h1
      subst h1
      cases lo <;> simp only [ap, bd, ltO] at * <;> grind
    grind
theorem hi_of {a b : Cl} (ha : WF a) (hb : WF b) (fa : a.f ≠ 0) (fb : b.f ≠ 0) {l : Rat} (hl : a.hi = some l) (g : AgB a b (be a l)) : b.hi = some l ∧ be b l ≤ be a l := by
  obtain ⟨g1, g2, g3⟩ := g
  obtain ⟨q1, q2, q3⟩ := at_hi ha fa hl
  rcases flat hb fb (x := be a l) (y := be a l + 1) (by grind) (by grind) with ⟨l', h1, h2, h3⟩ | ⟨l', h1, h2, h3⟩
  · have h4 := (cmp_be hb fb _ _).1.mp h2
    obtain ⟨p1, p2, p3⟩ := at_lo hb fb h1
    have m1 := mono hb (show be a l ≤ be b l' by grind)
    have m2 := mono hb (show be a l - 1 ≤ be a l by grind)
    have u : l' ≤ ap b (be a l - 1) := by
      obtain ⟨f, p, lo, hi⟩ := b
      obtain ⟨h1', h2', h3'⟩ := hb
      simp only at h1
      subst h1
      cases hi <;> simp only [ap, bd, ltO] at * <;> grind
    grind
  · have : l' = l := by grind
    subst this
    exact ⟨h1, (cmp_be hb fb _ _).2.mp h2⟩
def bds (c : Cl) : List Rat := (c.lo.toList ++ c.hi.toList).map (be c)
theorem const_of {a b : Cl} (ha : WF a) (hb : WF b) (fa : a.f = 0) (h0 : ap a 0 = ap b 0) (h1 : ap a 1 = ap b 1) (h : ∀ x ∈ bds b, AgB a b x) : b.f = 0 := by
  apply Classical.byContradiction
  intro fb
  have ca : ∀ x, ap a x = a.p := fun x => by
    obtain ⟨f, p, lo, hi⟩ := a
    obtain ⟨q1, q2, q3⟩ := ha
    simp only at fa
    subst fa
    obtain ⟨r1, r2⟩ := q2 rfl
    simp only at r1 r2
    subst r1 r2
    simp only [ap, bd]; grind
  cases el : b.lo with
  | some l =>
    obtain ⟨g1, g2, g3⟩ := h (be b l) (by simp [bds, el])
    obtain ⟨q1, q2, q3⟩ := at_lo hb fb el
    simp only [ca] at *
    grind
  | none =>
    cases eh : b.hi with
    | some l =>
      obtain ⟨g1, g2, g3⟩ := h (be b l) (by simp [bds, eh])
      obtain ⟨q1, q2, q3⟩ := at_hi hb fb eh
      simp only [ca] at *
      grind
    | none =>
      simp only [ca, ap, bd, el, eh] at h0 h1
      grind
theorem agree {a b : Cl} (ha : WF a) (hb : WF b) (h0 : ap a 0 = ap b 0) (h1 : ap a 1 = ap b 1) (h : ∀ x ∈ bds a ++ bds b, AgB a b x) : a = b := by
  have hA : ∀ x ∈ bds a, AgB a b x := fun x q => h x (List.mem_append_left _ q)
  have hB : ∀ x ∈ bds b, AgB a b x := fun x q => h x (List.mem_append_right _ q)
  have hB' : ∀ x ∈ bds b, AgB b a x := fun x q => by obtain ⟨q1, q2, q3⟩ := hB x q; exact ⟨q1.symm, q2.symm, q3.symm⟩
  have hA' : ∀ x ∈ bds a, AgB b a x := fun x q => by obtain ⟨q1, q2, q3⟩ := hA x q; exact ⟨q1.symm, q2.symm, q3.symm⟩
  by_cases fa : a.f = 0
  · have fb := const_of ha hb fa h0 h1 hB
    obtain ⟨f, p, lo, hi⟩ := a
    obtain ⟨g, q, lo', hi'⟩ := b
    simp only at fa fb
    subst fa fb
    obtain ⟨r1, r2⟩ := ha.2.1 rfl
    obtain ⟨r3, r4⟩ := hb.2.1 rfl
    simp only at r1 r2 r3 r4
    subst r1 r2 r3 r4
    simp only [ap, bd] at h0
    congr 1
    grind
  by_cases fb : b.f = 0
  · exact absurd (const_of hb ha fb h0.symm h1.symm hA') fa
  have elo : a.lo = b.lo ∧ ∀ l, a.lo = some l → be a l = be b l := by
    cases e1 : a.lo with
    | some l =>
      obtain ⟨q1, q2⟩ := lo_of ha hb fa fb e1 (hA _ (by simp [bds, e1]))
      obtain ⟨q3, q4⟩ := lo_of hb ha fb fa q1 (hB' _ (by simp [bds, q1]))
      exact ⟨q1.symm, fun l' hl => by cases hl; exact Rat.le_antisymm q2 q4⟩
    | none =>
      cases e2 : b.lo with
      | none => exact ⟨rfl, fun l hl => nomatch hl⟩
      | some l =>
        obtain ⟨q3, q4⟩ := lo_of hb ha fb fa e2 (hB' _ (by simp [bds, e2]))
        rw [e1] at q3; cases q3
  have ehi : a.hi = b.hi ∧ ∀ l, a.hi = some l → be a l = be b l := by
    cases e1 : a.hi with
    | some l =>
      obtain ⟨q1, q2⟩ := hi_of ha hb fa fb e1 (hA _ (by simp [bds, e1]))
      obtain ⟨q3, q4⟩ := hi_of hb ha fb fa q1 (hB' _ (by simp [bds, q1]))
      exact ⟨q1.symm, fun l' hl => by cases hl; exact Rat.le_antisymm q4 q2⟩
    | none =>
      cases e2 : b.hi with
      | none => exact ⟨rfl, fun l hl => nomatch hl⟩
      | some l =>
        obtain ⟨q3, q4⟩ := hi_of hb ha fb fa e2 (hB' _ (by simp [bds, e2]))
        rw [e1] at q3; cases q3
  obtain ⟨l1, l2⟩ := elo
  obtain ⟨k1, k2⟩ := ehi
  have bl := fun l => be_eq fa l
  have bl' := fun l => be_eq fb l
  have key : a.f = b.f ∧ a.p = b.p := by
    cases e1 : a.lo with
    | some l =>
      have x1 := bl l
      have x2 := bl' l
      rw [← l2 l e1] at x2
      cases e2 : a.hi with
      | some h =>
        have x3 := bl h
        have x4 := bl' h
        rw [← k2 h e2] at x4
        have hlt : l < h := by have := ha.2.2; rw [e1, e2] at this; exact this
        generalize be a l = u at *
        generalize be a h = v at *
        have y : (a.f - b.f) * (u - v) = 0 := by grind
        rcases Rat.mul_eq_zero.mp y with y | y
        · constructor <;> grind
        · exfalso; have : u = v := by grind
          subst this; grind
      | none =>
        obtain ⟨g1, g2, g3⟩ := hA (be a l) (by simp [bds, e1])
        have e3 : b.lo = some l := by rw [← l1, e1]
        have e4 : b.hi = none := by rw [← k1, e2]
        have fa' : 0 < a.f := by have := ha.1; grind
        have fb' : 0 < b.f := by have := hb.1; grind
        simp only [ap, bd, e1, e2, e3, e4] at g2
        constructor <;> grind
    | none =>
      cases e2 : a.hi with
      | some h =>
        have x3 := bl h
        have x4 := bl' h
        rw [← k2 h e2] at x4
        obtain ⟨g1, g2, g3⟩ := hA (be a h) (by simp [bds, e2])
        have e3 : b.lo = none := by rw [← l1, e1]
        have e4 : b.hi = some h := by rw [← k1, e2]
        have fa' : 0 < a.f := by have := ha.1; grind
        have fb' : 0 < b.f := by have := hb.1; grind
        simp only [ap, bd, e1, e2, e3, e4] at g3
        constructor <;> grind
      | none =>
        have e3 : b.lo = none := by rw [← l1, e1]
        have e4 : b.hi = none := by rw [← k1, e2]
        simp only [ap, bd, e1, e2, e3, e4] at h0 h1
        constructor <;> grind
  obtain ⟨f, p, lo, hi⟩ := a
  obtain ⟨g, q, lo', hi'⟩ := b
  simp only at l1 k1 key
  rw [l1, k1, key.1, key.2]
theorem ext {a b : Cl} (ha : WF a) (hb : WF b) (h : ∀ x, ap a x = ap b x) : a = b := agree ha hb (h _) (h _) fun x _ => ⟨h _, h _, h _⟩
end RQ
set_option maxRecDepth 100000
set_option maxHeartbeats 2000000
namespace DL
open PySem PySem.Spec PyProof.Rows L2
def qD (q : Rat) : PyData := .tuple [.int q.num, .int (q.den : Nat)]
def oD : Option Rat → PyData
  | none => .none
  | some q => qD q
def cD (c : RQ.Cl) : PyData := .tuple [qD c.f, qD c.p, oD c.lo, oD c.hi]
/-- less than b bits -/
structure Sq (b : Nat) (q : Rat) : Prop where
  n : q.num.natAbs < 2 ^ b
  d : q.den < 2 ^ b
theorem Sq.mono {b c : Nat} {q : Rat} (h : Sq b q) (hc : b ≤ c) : Sq c q :=
  ⟨Nat.lt_of_lt_of_le h.n (Nat.pow_le_pow_right (by decide) hc), Nat.lt_of_lt_of_le h.d (Nat.pow_le_pow_right (by decide) hc)⟩
theorem qden_pos (q : Rat) : (0 : Int) < (q.den : Int) := by have := q.den_pos; omega
theorem mul_lt_pow {x y : Int} {a b : Nat} (hx : x.natAbs < 2 ^ a) (hy : y.natAbs < 2 ^ b) : (x * y).natAbs < 2 ^ (a + b) := by
  rw [Int.natAbs_mul, Nat.pow_add]
  exact Nat.mul_lt_mul'' hx hy
theorem add_lt_pow {x y : Int} {a : Nat} (hx : x.natAbs < 2 ^ a) (hy : y.natAbs < 2 ^ a) : (x + y).natAbs < 2 ^ (a + 1) := by
  have := Int.natAbs_add_le x y
  rw [Nat.pow_succ]
  omega
theorem pow_le {a b : Nat} (h : a ≤ b) : (2 : Nat) ^ a ≤ 2 ^ b := Nat.pow_le_pow_right (by decide) h
theorem lgB {n k : Nat} (h : n < 2 ^ k) (hk : 0 < k) : n.log2 < k := by
  by_cases h0 : n = 0
  · subst h0; simpa using hk
  · exact (Nat.log2_lt h0).mpr h
theorem o_mulB {i j : Int} (hi : i.natAbs < 2 ^ 4000) (hj : j.natAbs < 2 ^ 4000) : mulD (.int i) (.int j) = some (.int (i * j)) := by
  refine o_mul ?_
  have h1 := lgB hi (by decide)
  have h2 := lgB hj (by decide)
  omega
theorem o_fdivB {i j : Int} (h : 0 < j) (hj : j.natAbs < 2 ^ 4000) : fdivD (.int i) (.int j) = some (.int (i / j)) := o_fdiv h (Nat.lt_of_lt_of_le (lgB hj (by decide)) (by decide))
theorem gcd_posB {n d : Int} (hd : d ≠ 0) : (0 : Int) < Int.gcd n d := by
  have := Int.gcd_pos_of_ne_zero_right n hd
  omega
theorem gcd_ltB {n d : Int} (hd : d ≠ 0) {b : Nat} (h : d.natAbs < 2 ^ b) : ((Int.gcd n d : Nat) : Int).natAbs < 2 ^ b := by
  have h2 : Int.gcd n d ≤ d.natAbs := Nat.gcd_le_right _ (by omega)
  simpa using Nat.lt_of_le_of_lt h2 h
/-- the fraction of two ints -/
theorem num_frac {n d : Int} (hd : 0 < d) : (Rat.divInt n d).num = n / (Int.gcd n d : Int) := by
  rw [Rat.num_divInt, Int.sign_eq_one_of_pos hd, Int.one_mul, Int.gcd_comm]
theorem den_frac {n d : Int} (hd : 0 < d) : ((Rat.divInt n d).den : Int) = d / (Int.gcd n d : Int) := by
  rw [Rat.den_divInt, if_neg (by omega), Int.gcd_comm]
  rw [Int.natCast_ediv]
  congr 1
  omega
theorem qD_frac {n d : Int} (hd : 0 < d) : qD (Rat.divInt n d) = .tuple [.int (n / (Int.gcd n d : Int)), .int (d / (Int.gcd n d : Int))] := by
  unfold qD; rw [num_frac hd, den_frac hd]
theorem sq_div {n d : Int} {b : Nat} (hn : n.natAbs < 2 ^ b) (hd : d.natAbs < 2 ^ b) (h0 : 0 < d) : Sq b (Rat.divInt n d) := by
  constructor
  · rw [num_frac h0]
    exact Nat.lt_of_le_of_lt (Int.natAbs_ediv_le_natAbs _ _) hn
  · have e := den_frac (n := n) h0
    have : (Rat.divInt n d).den = (d / (Int.gcd n d : Int)).natAbs := by omega
    rw [this]
    exact Nat.lt_of_le_of_lt (Int.natAbs_ediv_le_natAbs _ _) hd
theorem add_frac (x y : Rat) : Rat.divInt (x.num * (y.den : Int) + y.num * (x.den : Int)) ((x.den : Int) * (y.den : Int)) = x + y := by
  rw [Rat.add_def', ← Rat.divInt_ofNat, Int.natCast_mul]
theorem mul_frac (x y : Rat) : Rat.divInt (x.num * y.num) ((x.den : Int) * (y.den : Int)) = x * y := by
  rw [Rat.mul_def', ← Rat.divInt_ofNat, Int.natCast_mul]
theorem den_lt {q : Rat} {b : Nat} (h : Sq b q) : ((q.den : Nat) : Int).natAbs < 2 ^ b := by simpa using h.d
theorem sq_add_parts {x y : Rat} {a b : Nat} (hx : Sq a x) (hy : Sq b y) : (x.num * (y.den : Int) + y.num * (x.den : Int)).natAbs < 2 ^ (a + b + 1) ∧ ((x.den : Int) * (y.den : Int)).natAbs < 2 ^ (a + b + 1) ∧ 0 < (x.den : Int) * (y.den : Int) := by
  refine ⟨add_lt_pow (mul_lt_pow hx.n (den_lt hy)) (by rw [Nat.add_comm]; exact mul_lt_pow hy.n (den_lt hx)), Nat.lt_of_lt_of_le (mul_lt_pow (den_lt hx) (den_lt hy)) (pow_le (by omega)), Int.mul_pos (qden_pos x) (qden_pos y)⟩
theorem sq_mul_parts {x y : Rat} {a b : Nat} (hx : Sq a x) (hy : Sq b y) : (x.num * y.num).natAbs < 2 ^ (a + b) ∧ ((x.den : Int) * (y.den : Int)).natAbs < 2 ^ (a + b) ∧ 0 < (x.den : Int) * (y.den : Int) :=
  ⟨mul_lt_pow hx.n hy.n, mul_lt_pow (den_lt hx) (den_lt hy), Int.mul_pos (qden_pos x) (qden_pos y)⟩
theorem Sq.add {x y : Rat} {a b : Nat} (hx : Sq a x) (hy : Sq b y) : Sq (a + b + 1) (x + y) := by
  obtain ⟨h1, h2, h3⟩ := sq_add_parts hx hy
  rw [← add_frac]
  exact sq_div h1 h2 h3
theorem Sq.mul {x y : Rat} {a b : Nat} (hx : Sq a x) (hy : Sq b y) : Sq (a + b) (x * y) := by
  obtain ⟨h1, h2, h3⟩ := sq_mul_parts hx hy
  rw [← mul_frac]
  exact sq_div h1 h2 h3
theorem Sq.neg {x : Rat} {a : Nat} (hx : Sq a x) : Sq a (-x) := ⟨by rw [Rat.neg_num, Int.natAbs_neg]; exact hx.n, by rw [Rat.neg_den]; exact hx.d⟩
theorem qD_inj {x y : Rat} (h : qD x = qD y) : x = y := by
  unfold qD at h
  injection h with h
  injection h with h1 h2
  injection h1 with h1
  injection h2 with h2 _
  injection h2 with h2
  exact Rat.ext h1 (by omega)
theorem oD_inj {x y : Option Rat} (h : oD x = oD y) : x = y := by
  cases x <;> cases y
  · rfl
  · cases h
  · cases h
  · rw [qD_inj h]
theorem cD_inj {x y : RQ.Cl} (h : cD x = cD y) : x = y := by
  unfold cD at h
  injection h with h
  injection h with h1 h
  injection h with h2 h
  injection h with h3 h
  injection h with h4 _
  obtain ⟨f, p, l, u⟩ := x
  obtain ⟨f', p', l', u'⟩ := y
  rw [show f = f' from qD_inj h1, show p = p' from qD_inj h2, show l = l' from oD_inj h3, show u = u' from oD_inj h4]
/-- == of fractions, of bounds, of clauses -/
theorem eqv_q (x y : Rat) : PyData.eqv (qD x) (qD y) = decide (x = y) := by
  have e : PyData.eqv (qD x) (qD y) = (x.num == y.num && (((x.den : Int) == (y.den : Int)))) := by simp [qD, PyData.eqv, PyData.eqvAll]
  rw [e]
  by_cases h : x = y
  · subst h; simp
  · rw [decide_eq_false h]
    by_cases h1 : x.num = y.num
    · by_cases h2 : (x.den : Int) = y.den
      · exact absurd (Rat.ext h1 (by omega)) h
      · simp [h2]
    · simp [h1]
theorem eqv_o (x y : Option Rat) : PyData.eqv (oD x) (oD y) = decide (x = y) := by
  cases x <;> cases y
  · rfl
  · rfl
  · rfl
  · rename_i a b
    have : PyData.eqv (oD (some a)) (oD (some b)) = PyData.eqv (qD a) (qD b) := rfl
    rw [this, eqv_q]
    simp
theorem eqv_c (x y : RQ.Cl) : PyData.eqv (cD x) (cD y) = decide (x = y) := by
  have e : PyData.eqv (cD x) (cD y) = (PyData.eqv (qD x.f) (qD y.f) && (PyData.eqv (qD x.p) (qD y.p) && (PyData.eqv (oD x.lo) (oD y.lo) && (PyData.eqv (oD x.hi) (oD y.hi) && true)))) := by simp [cD, PyData.eqv, PyData.eqvAll]
  rw [e, eqv_q, eqv_q, eqv_o, eqv_o]
  obtain ⟨f, p, l, u⟩ := x
  obtain ⟨f', p', l', u'⟩ := y
  simp only [RQ.Cl.mk.injEq, Bool.and_true]
  rw [Bool.eq_iff_iff]
  simp
theorem ix0 (q : Rat) : idxD (qD q) (.int 0) = some (.int q.num) := rfl
theorem ix1 (q : Rat) : idxD (qD q) (.int 1) = some (.int (q.den : Int)) := rfl
/-- all of a clause's numbers -/
structure Sc (b : Nat) (c : RQ.Cl) : Prop where
  f : Sq b c.f
  p : Sq b c.p
  lo : ∀ q, c.lo = some q → Sq b q
  hi : ∀ q, c.hi = some q → Sq b q
@[simp] theorem none_q (q : Rat) : noneD (qD q) = false := rfl
@[simp] theorem none_o0 : noneD (oD none) = true := rfl
@[simp] theorem none_o1 (q : Rat) : noneD (oD (some q)) = false := rfl
@[simp] theorem oD_some (q : Rat) : oD (some q) = qD q := rfl
@[simp] theorem oD_none : oD none = .none := rfl
theorem sq_bd {b : Nat} {x : Rat} {lo hi : Option Rat} (hx : Sq b x) (hl : ∀ q, lo = some q → Sq b q) (hh : ∀ q, hi = some q → Sq b q) : Sq b (RQ.bd x lo hi) := by
  unfold RQ.bd
  cases lo <;> cases hi <;> simp only
  · exact hx
  · split
    · exact hh _ rfl
    · exact hx
  · split
    · exact hl _ rfl
    · exact hx
  · split
    · split
      · exact hh _ rfl
      · exact hl _ rfl
    · split
      · exact hh _ rfl
      · exact hx
theorem sc_nf {f p : Rat} {lo hi : Option Rat} {b : Nat} (h : Sc b ⟨f, p, lo, hi⟩) (h0 : 1 ≤ b) : Sc b (RQ.nf f p lo hi) := by
  unfold RQ.nf
  have z : Sq b 0 := ⟨Nat.pow_pos (by decide), Nat.lt_of_lt_of_le (show 1 < 2 ^ 1 by decide) (pow_le h0)⟩
  split
  · exact ⟨z, sq_bd h.p h.lo h.hi, (fun q e => nomatch e), (fun q e => nomatch e)⟩
  · split
    · rename_i hh
      obtain ⟨h1, h2⟩ := hh
      cases lo with
      | none => exact absurd rfl h1
      | some l => exact ⟨z, h.lo l rfl, (fun q e => nomatch e), (fun q e => nomatch e)⟩
    · exact h
theorem eq_qq (x y : Rat) : eqD (qD x) (qD y) = some (.bool (decide (x = y))) := by
  rw [← eqv_q]
  rfl
theorem eq_oo (x y : Option Rat) : eqD (oD x) (oD y) = some (.bool (decide (x = y))) := by
  rw [← eqv_o]
  cases x <;> cases y <;> rfl
theorem eq_cc (x y : RQ.Cl) : eqD (cD x) (cD y) = some (.bool (decide (x = y))) := by
  rw [← eqv_c]
  obtain ⟨f, p, l, u⟩ := x
  obtain ⟨f', p', l', u'⟩ := y
  cases l <;> cases u <;> cases l' <;> cases u' <;> rfl
theorem ne_qq (x y : Rat) : neD (qD x) (qD y) = some (.bool (!decide (x = y))) := by
  rw [← eqv_q]
  rfl
theorem ne_cc (x y : RQ.Cl) : neD (cD x) (cD y) = some (.bool (!decide (x = y))) := by
  rw [← eqv_c]
  obtain ⟨f, p, l, u⟩ := x
  obtain ⟨f', p', l', u'⟩ := y
  cases l <;> cases u <;> cases l' <;> cases u' <;> rfl
def qB (b : Nat) : PyData → Bool
  | .tuple [.int n, .int d] => decide (0 < d) && decide (Int.gcd n d = 1) && decide (n.natAbs < 2 ^ b) && decide (d.natAbs < 2 ^ b)
  | _ => false
theorem qB_ok {b : Nat} {x : PyData} (h : qB b x = true) : ∃ q, x = qD q ∧ Sq b q := by
  unfold qB at h
  split at h
  · rename_i n d
    simp only [Bool.and_eq_true, decide_eq_true_eq] at h
    obtain ⟨⟨⟨h1, h2⟩, h3⟩, h4⟩ := h
    have e : d = (d.natAbs : Nat) := by omega
    refine ⟨⟨n, d.natAbs, by omega, h2⟩, ?_, h3, h4⟩
    unfold qD
    simp only
    rw [← e]
  · cases h
def nnB : PyData → Bool
  | .tuple [.int n, _] => decide (0 ≤ n)
  | _ => false
theorem nnB_ok {q : Rat} (h : nnB (qD q) = true) : 0 ≤ q := Rat.num_nonneg.mp (by simpa [nnB, qD] using h)
theorem menu_q {b : Nat} {xs : List PyData} (h : xs.all (qB b) = true) {x : PyData} (hx : x ∈ xs) : ∃ q, x = qD q ∧ Sq b q := qB_ok (List.all_eq_true.mp h x hx)
theorem menu_n {b : Nat} {xs : List PyData} (h : xs.all (fun x => qB b x && nnB x) = true) {x : PyData} (hx : x ∈ xs) : ∃ q, x = qD q ∧ Sq b q ∧ 0 ≤ q := by
  have := List.all_eq_true.mp h x hx
  simp only [Bool.and_eq_true] at this
  obtain ⟨q, rfl, hq⟩ := qB_ok this.1
  exact ⟨q, rfl, hq, nnB_ok this.2⟩
end DL
set_option maxRecDepth 100000
set_option maxHeartbeats 2000000
namespace DL
open PySem PySem.Spec PyProof.Rows L2
@[simp] theorem at0 (x : PyData) (xs : List PyData) : atI (x :: xs) 0 = some x := by
  rw [at_nn (by decide) (by simp only [List.length_cons]; omega)]; rfl
@[simp] theorem at1 (x y : PyData) (xs : List PyData) : atI (x :: y :: xs) 1 = some y := by
  rw [at_nn (by decide) (by simp only [List.length_cons]; omega)]; rfl
@[simp] theorem at2 (x y z : PyData) (xs : List PyData) : atI (x :: y :: z :: xs) 2 = some z := by
  rw [at_nn (by decide) (by simp only [List.length_cons]; omega)]; rfl
@[simp] theorem at3 (x y z w : PyData) (xs : List PyData) : atI (x :: y :: z :: w :: xs) 3 = some w := by
  rw [at_nn (by decide) (by simp only [List.length_cons]; omega)]; rfl
theorem atI_mem {xs : List PyData} {i : Int} (h0 : 0 ≤ i) (h1 : i < xs.length) : ∃ y, atI xs i = some y ∧ y ∈ xs := by
  refine ⟨xs[i.toNat]'(by omega), ?_, List.getElem_mem _⟩
  rw [at_nn h0 h1, List.getElem?_eq_getElem]
@[simp] theorem eqD_int (i j : Int) : eqD (.int i) (.int j) = some (.bool (i == j)) := rfl
@[simp] theorem neD_int (i j : Int) : neD (.int i) (.int j) = some (.bool (!(i == j))) := rfl
@[simp] theorem n0 : noneD .none = true := rfl
@[simp] theorem o_itT (xs : List PyData) : itD (.tuple xs) = some xs := rfl
@[simp] theorem o_itL (xs : List PyData) : itD (.list xs) = some xs := rfl
@[simp] theorem o_slT (xs : List PyData) (lo hi : Option Int) : slD (.tuple xs) lo hi = some (.tuple (cutD xs lo hi)) := rfl
@[simp] theorem o_slL (xs : List PyData) (lo hi : Option Int) : slD (.list xs) lo hi = some (.list (cutD xs lo hi)) := rfl
@[simp] theorem o_revL (xs : List PyData) : revD (.list xs) = some (.list xs.reverse) := rfl
@[simp] theorem o_revT (xs : List PyData) : revD (.tuple xs) = some (.tuple xs.reverse) := rfl
@[simp] theorem e_fz (n : XN) (ρ : Nv) : xFz n ρ = (n ρ).map fun p => (odD p.1, p.2) := rfl
@[simp] theorem e_lc (it : XI) (g : XG) (c : XT) (e : XE) (vs : List Nat) (ρ : Nv) : nLc it g c e vs ρ = (it ρ).bind fun p => if unAt p.2 vs = true then (lcL g c e vs p.1 p.2 []).map fun q => (.ol q.1, q.2) else none := rfl
@[simp] theorem e_lcN (g : XG) (c : XT) (e : XE) (vs : List Nat) (ρ : Nv) (acc : List PyData) : lcL g c e vs [] ρ acc = some (acc, ρ) := rfl
@[simp] theorem e_lcC (g : XG) (c : XT) (e : XE) (vs : List Nat) (d : PyData) (ds : List PyData) (ρ : Nv) (acc : List PyData) : lcL g c e vs (d :: ds) ρ acc = ((g d ρ).bind fun ρ1 => (c ρ1).bind fun p => if p.1 = true then (e p.2).bind fun q => if acc.length < sizeLine then (wipeN q.2 vs).bind fun ρ2 => lcL g c e vs ds ρ2 (acc ++ [q.1]) else none
    else (wipeN p.2 vs).bind fun ρ2 => lcL g c e vs ds ρ2 acc) := rfl
@[simp] theorem e_wipe0 (ρ : Nv) : wipeN ρ [] = some ρ := rfl
@[simp] theorem e_wipe1 (ρ : Nv) (v : Nat) (vs : List Nat) : wipeN ρ (v :: vs) = if free ρ v = true then wipeN (ρ.set v .un) vs else none := rfl
@[simp] theorem e_yes (ρ : Nv) : cYes ρ = some (true, ρ) := rfl
@[simp] theorem odD_ol (xs : List PyData) : odD (.ol xs) = .list xs := rfl
@[simp] theorem at4 (x y z w v : PyData) (xs : List PyData) : atI (x :: y :: z :: w :: v :: xs) 4 = some v := by
  rw [at_nn (by decide) (by simp only [List.length_cons]; omega)]; rfl
@[simp] theorem e_pickN (as : List AV) : pick [] as = some [] := rfl
@[simp] theorem e_pickL (i : Nat) (s : Sel) (as : List AV) : pick (.inl i :: s) as = (as[i]?).bind fun a => (pick s as).map (a :: ·) := rfl
@[simp] theorem e_aPick (s : Sel) (r rk : XA) (ρ : Nv) : aPick s r rk ρ = (r ρ).bind fun p => (rk p.2).bind fun q => (pick s (p.1 ++ q.1)).map fun as => (as, q.2) := rfl
@[simp] theorem e_datN : datEs [] = some [] := rfl
@[simp] theorem e_datC (x : PyData) (es : List EV) : datEs (.d x :: es) = (datEs es).map (x :: ·) := rfl
theorem dat_of : ∀ ds : List PyData, datEs (ds.map EV.d) = some ds
  | [] => rfl
  | d :: ds => by simp [dat_of ds]
theorem e_star (m : XF) (es : List EV) : starF m es = (datEs es).bind fun ds => if ds.length ≤ sizeLine then (m [.d (.tuple ds)]).map fun q => (q.1, es) else none := rfl
theorem ext_of {i : Nat} {f : XE} {ρ ρ1 : Nv} {zs ws vs : List PyData} {b io : Bool} (h0 : ρ[i]? = some (.own (.ol zs) b)) (hf : f ρ = some (.list ws, ρ1)) (h1 : ρ1[i]? = some (.own (.ol vs) io)) (hl : vs.length + ws.length ≤ 16777216) : xExt i f ρ = some (.none, ρ1.set i (.own (.ol (vs ++ ws)) io)) := by
  unfold xExt
  rw [h0]
  simp only [hf, Option.bind_some, h1]
  rw [if_pos (by rw [sizeL]; exact hl)]
theorem app_of {i : Nat} {f : XE} {ρ ρ1 : Nv} {zs vs : List PyData} {w : PyData} {b io : Bool} (h0 : ρ[i]? = some (.own (.ol zs) b)) (hf : f ρ = some (w, ρ1)) (h1 : ρ1[i]? = some (.own (.ol vs) io)) (hl : vs.length < 16777216) : xApp i f ρ = some (.none, ρ1.set i (.own (.ol (vs ++ [w])) io)) := by
  unfold xApp
  rw [h0]
  simp only [hf, Option.bind_some, h1]
  rw [if_pos (by rw [sizeL]; exact hl)]
@[simp] theorem e_og1 (i : Nat) (g : XE) (ρ : Nv) : xOg1 i g ρ = match ρ[i]? with
  | some (.own (.od _) _) => (g ρ).bind fun q => match q.2[i]?, keyD q.1 with
    | some (.own (.od kvs) _), some k => some ((getD' kvs k).getD .none, q.2)
    | _, _ => none
  | _ => none := rfl
@[simp] theorem e_og2 (i : Nat) (g h : XE) (ρ : Nv) : xOg2 i g h ρ = match ρ[i]? with
  | some (.own (.od _) _) => (g ρ).bind fun q => (h q.2).bind fun r => match r.2[i]?, keyD q.1 with
    | some (.own (.od kvs) _), some k => some ((getD' kvs k).getD r.1, r.2)
    | _, _ => none
  | _ => none := rfl
@[simp] theorem e_chain3 (h h1 h2 : PyData → PyData → Option PyData) (a b c d : XE) (ρ : Nv) : xChain3 h h1 h2 a b c d ρ = (a ρ).bind fun p => (b p.2).bind fun q => (h p.1 q.1).bind fun z => match z with
  | .bool true => (c q.2).bind fun r => (h1 q.1 r.1).bind fun z => match z with
    | .bool true => (d r.2).bind fun s => (h2 r.1 s.1).map fun z => (z, s.2)
    | .bool false => some (.bool false, r.2)
    | _ => none
  | .bool false => some (.bool false, q.2)
  | _ => none := rfl
@[simp] theorem e_star1 (f : XE) (ρ : Nv) : aStar f ρ = (f ρ).bind fun p => match p.1 with
  | .list ds => some (ds.map .v, p.2)
  | .tuple ds => some (ds.map .v, p.2)
  | _ => none := rfl
@[simp] theorem e_parR3 (i j l : Nat) (f g h : XR) (ρ : Nv) : sParR3 i j l f g h ρ = (f ρ).bind fun p => (g p.2).bind fun q => (h q.2).bind fun s => (putR s.2 i p.1).bind fun ρ1 => (putR ρ1 j q.1).bind fun ρ2 => (putR ρ2 l s.1).map .nx := rfl
@[simp] theorem e_rD (f : XE) (ρ : Nv) : rD f ρ = (f ρ).map fun p => (.d p.1, p.2) := rfl
@[simp] theorem e_rN (f : XN) (ρ : Nv) : rN f ρ = (f ρ).map fun p => (.n p.1, p.2) := rfl
@[simp] theorem e_ncat (a b : XE) (ρ : Nv) : nCat a b ρ = (a ρ).bind fun p => (b p.2).bind fun q => match p.1, q.1 with
  | .list x, .list y => if x.length + y.length ≤ sizeLine then some (.ol (x ++ y), q.2) else none
  | _, _ => none := rfl
end DL
set_option maxRecDepth 100000
set_option maxHeartbeats 4000000
namespace P1
open PySem PySem.Spec PyProof.Rows L2 DL
def b_l_feed : XS := sRetO (nDisp [(xC (.str "cells"), x1 listD (xScr 0 none (some 63))), (xC (.str "at"), xC (.int 0)), (xC (.str "left"), xC (.int 0)), (xC (.str "count"), xC (.int 0))])
def m_l_feed : XF := runF 1 b_l_feed
def b_l_draw : XS := sSeq (sPut 0 (xC (.str "count")) (x2 addD (xGet 0 (xC (.str "count"))) (xC (.int 1)))) (sSeq (sIf (tst (x2 gtD (xGet 0 (xC (.str "left"))) (xC (.int 0)))) (sSeq (sSet 2 (x2 modD (xGet 0 (xC (.str "left"))) (xVar 1))) (sSeq (sPut 0 (xC (.str "left")) (x2 fdivD (xGet 0 (xC (.str "left"))) (xVar 1))) (sRet (xVar 2)))) (sNil)) (sSeq (sSet 3 (xGet 0 (xC (.str "at")))) (sSeq (sPut 0 (xC (.str "at")) (x2 addD (xVar 3) (xC (.int 1)))) (sSeq (sSet 4 (xIf (tst (x2 neD (xGet 0 (xC (.str "cells"))) (xLst (aNil)))) (x2 idxD (xGet 0 (xC (.str "cells"))) (x2 modD (xVar 3) (x1 lenD (xGet 0 (xC (.str "cells")))))) (xC (.int 53)))) (sSeq (sIf (xAndT (tst (x2 geD (xVar 4) (x2 powD (xC (.int 10)) (xC (.int 18))))) (tst (x2 ltD (xVar 3) (x1 lenD (xGet 0 (xC (.str "cells"))))))) (sSeq (sPut 0 (xC (.str "left")) (x2 fdivD (xVar 4) (xVar 1))) (sRet (x2 modD (xVar 4) (xVar 1)))) (sNil)) (sSeq (sSet 5 (x2 modD (x2 addD (x2 addD (x2 modD (xVar 4) (xC (.int 1000000453))) (x2 mulD (xC (.int 150011)) (xGet 0 (xC (.str "count"))))) (xC (.int 97))) (xC (.int 2147483423)))) (sSeq (sSet 5 (x2 modD (x2 addD (x2 addD (x2 mulD (xVar 5) (xVar 5)) (x2 mulD (xC (.int 3700129)) (xGet 0 (xC (.str "count"))))) (xC (.int 67))) (xC (.int 2147483399)))) (sRet (x2 modD (x2 fdivD (x2 modD (x2 addD (x2 mulD (xVar 5) (xVar 5)) (x2 mulD (xC (.int 79)) (xVar 5))) (xC (.int 2147483353))) (xC (.int 16))) (xVar 1))))))))))
def m_l_draw : XF := runF 6 b_l_draw
def b_l_sizes : XS := sSeq (sSet 0 (xLst (aCons (xTup (aCons (xC (.int 0)) (aCons (xC (.int 1)) (aNil)))) (aCons (xTup (aCons (xC (.int 1)) (aCons (xC (.int 1)) (aNil)))) (aCons (xTup (aCons (x1 negD (xC (.int 1))) (aCons (xC (.int 1)) (aNil)))) (aCons (xTup (aCons (xC (.int 2)) (aCons (xC (.int 1)) (aNil)))) (aCons (xTup (aCons (x1 negD (xC (.int 2))) (aCons (xC (.int 1)) (aNil)))) (aCons (xTup (aCons (xC (.int 5)) (aCons (xC (.int 1)) (aNil)))) (aCons (xTup (aCons (x1 negD (xC (.int 5))) (aCons (xC (.int 1)) (aNil)))) (aCons (xTup (aCons (xC (.int 10)) (aCons (xC (.int 1)) (aNil)))) (aCons (xTup (aCons (x1 negD (xC (.int 10))) (aCons (xC (.int 1)) (aNil)))) (aCons (xTup (aCons (xC (.int 20)) (aCons (xC (.int 1)) (aNil)))) (aCons (xTup (aCons (xC (.int 50)) (aCons (xC (.int 1)) (aNil)))) (aCons (xTup (aCons (xC (.int 100)) (aCons (xC (.int 1)) (aNil)))) (aNil))))))))))))))) (sRet (x2 addD (xVar 0) (xLst (aCons (xTup (aCons (x1 negD (xC (.int 100))) (aCons (xC (.int 1)) (aNil)))) (aCons (xTup (aCons (xC (.int 1)) (aCons (xC (.int 2)) (aNil)))) (aCons (xTup (aCons (x1 negD (xC (.int 1))) (aCons (xC (.int 2)) (aNil)))) (aCons (xTup (aCons (xC (.int 3)) (aCons (xC (.int 2)) (aNil)))) (aCons (xTup (aCons (x1 negD (xC (.int 7))) (aCons (xC (.int 2)) (aNil)))) (aCons (xTup (aCons (xC (.int 2)) (aCons (xC (.int 3)) (aNil)))) (aCons (xTup (aCons (xC (.int 11)) (aCons (xC (.int 10)) (aNil)))) (aCons (xTup (aCons (xC (.int 9)) (aCons (xC (.int 10)) (aNil)))) (aCons (xTup (aCons (xC (.int 9999)) (aCons (xC (.int 1)) (aNil)))) (aCons (xTup (aCons (x1 negD (xC (.int 9999))) (aCons (xC (.int 1)) (aNil)))) (aNil))))))))))))))
def m_l_sizes : XF := runF 1 b_l_sizes
def b_l_size : XS := sRet (x2 idxD (xCall m_l_sizes aNil) (xCall (arity 2 m_l_draw) (aSlot 0 (aCons (xC (.int 22)) (aNil)))))
def m_l_size : XF := runF 1 b_l_size
def b_l_less : XS := sRet (x2 ltD (x2 mulD (x2 idxD (xVar 0) (xC (.int 0))) (x2 idxD (xVar 1) (xC (.int 1)))) (x2 mulD (x2 idxD (xVar 1) (xC (.int 0))) (x2 idxD (xVar 0) (xC (.int 1)))))
def m_l_less : XF := runF 2 b_l_less
def b_l_raw : XS := sSeq (sSet 1 (x2 idxD (xLst (aCons (xTup (aCons (xC (.int 1)) (aCons (xC (.int 1)) (aNil)))) (aCons (xTup (aCons (xC (.int 1)) (aCons (xC (.int 1)) (aNil)))) (aCons (xTup (aCons (xC (.int 2)) (aCons (xC (.int 1)) (aNil)))) (aCons (xTup (aCons (xC (.int 1)) (aCons (xC (.int 2)) (aNil)))) (aCons (xTup (aCons (xC (.int 0)) (aCons (xC (.int 1)) (aNil)))) (aCons (xTup (aCons (xC (.int 3)) (aCons (xC (.int 1)) (aNil)))) (aCons (xTup (aCons (xC (.int 11)) (aCons (xC (.int 10)) (aNil)))) (aCons (xTup (aCons (xC (.int 2)) (aCons (xC (.int 3)) (aNil)))) (aCons (xTup (aCons (xC (.int 9)) (aCons (xC (.int 10)) (aNil)))) (aCons (xTup (aCons (xC (.int 10)) (aCons (xC (.int 1)) (aNil)))) (aNil)))))))))))) (xCall (arity 2 m_l_draw) (aSlot 0 (aCons (xC (.int 10)) (aNil)))))) (sSeq (sSet 2 (xIf (tst (x2 eqD (xCall (arity 2 m_l_draw) (aSlot 0 (aCons (xC (.int 2)) (aNil)))) (xC (.int 0)))) (xTup (aCons (xC (.int 0)) (aCons (xC (.int 1)) (aNil)))) (xCall (arity 1 m_l_size) (aSlot 0 (aNil))))) (sSeq (sSet 3 (xFz (nLc (iRng (xC (.int 2))) (gNm 4) (cYes) (xIf (tst (x2 eqD (xCall (arity 2 m_l_draw) (aSlot 0 (aCons (xC (.int 2)) (aNil)))) (xC (.int 0)))) (xCall (arity 1 m_l_size) (aSlot 0 (aNil))) (xC .none)) [4]))) (sSeq (sIf (xAndT (tst (x2 notNonD (x2 idxD (xVar 3) (xC (.int 0))) (xC .none))) (xAndT (tst (x2 notNonD (x2 idxD (xVar 3) (xC (.int 1))) (xC .none))) (xTru (xCall (arity 2 m_l_less) (aCons (x2 idxD (xVar 3) (xC (.int 1))) (aCons (x2 idxD (xVar 3) (xC (.int 0))) (aNil))))))) (sSet 3 (x1 revD (xVar 3))) (sNil)) (sRet (xTup (aCons (xVar 1) (aCons (xVar 2) (aCons (x2 idxD (xVar 3) (xC (.int 0))) (aCons (x2 idxD (xVar 3) (xC (.int 1))) (aNil))))))))))
def m_l_raw : XF := runF 5 b_l_raw
def b_constant_clause : XS := sRet (xTup (aCons (xTup (aCons (xC (.int 0)) (aCons (xC (.int 1)) (aNil)))) (aCons (xVar 0) (aCons (xC .none) (aCons (xC .none) (aNil))))))
def m_constant_clause : XF := runF 1 b_constant_clause
def b_is_less : XS := sRet (x2 ltD (x2 mulD (x2 idxD (xVar 0) (xC (.int 0))) (x2 idxD (xVar 1) (xC (.int 1)))) (x2 mulD (x2 idxD (xVar 1) (xC (.int 0))) (x2 idxD (xVar 0) (xC (.int 1)))))
def m_is_less : XF := runF 2 b_is_less
def b_bounded : XS := sSeq (sIf (xAndT (tst (x2 notNonD (xVar 1) (xC .none))) (xTru (xCall (arity 2 m_is_less) (aCons (xVar 0) (aCons (xVar 1) (aNil)))))) (sSet 0 (xVar 1)) (sNil)) (sSeq (sIf (xAndT (tst (x2 notNonD (xVar 2) (xC .none))) (xTru (xCall (arity 2 m_is_less) (aCons (xVar 2) (aCons (xVar 0) (aNil)))))) (sRet (xVar 2)) (sNil)) (sRet (xVar 0)))
def m_bounded : XF := runF 3 b_bounded
def b_normal_form : XS := sSeq (sIf (tst (x2 eqD (xVar 0) (xTup (aCons (xC (.int 0)) (aCons (xC (.int 1)) (aNil)))))) (sRet (xCall (arity 1 m_constant_clause) (aCons (xCall (arity 3 m_bounded) (aCons (xVar 1) (aCons (xVar 2) (aCons (xVar 3) (aNil))))) (aNil)))) (sNil)) (sSeq (sIf (xAndT (tst (x2 notNonD (xVar 2) (xC .none))) (tst (x2 eqD (xVar 2) (xVar 3)))) (sRet (xCall (arity 1 m_constant_clause) (aCons (xVar 2) (aNil)))) (sNil)) (sRet (xTup (aCons (xVar 0) (aCons (xVar 1) (aCons (xVar 2) (aCons (xVar 3) (aNil))))))))
def m_normal_form : XF := runF 4 b_normal_form
def b_common_divisor : XS := sSeq (sWh (gcdFuel) (tst (x2 neD (xVar 1) (xC (.int 0)))) (sPar 0 1 (xVar 1) (x2 modD (xVar 0) (xVar 1)))) (sRet (x1 absD (xVar 0)))
def m_common_divisor : XF := runF 2 b_common_divisor
def b_fraction : XS := sSeq (sSet 2 (xCall (arity 2 m_common_divisor) (aCons (xVar 0) (aCons (xVar 1) (aNil))))) (sSeq (sSet 3 (xIf (tst (x2 gtD (xVar 1) (xC (.int 0)))) (xC (.int 1)) (x1 negD (xC (.int 1))))) (sRet (xTup (aCons (x2 fdivD (x2 mulD (xVar 3) (xVar 0)) (xVar 2)) (aCons (x2 fdivD (x2 mulD (xVar 3) (xVar 1)) (xVar 2)) (aNil))))))
def m_fraction : XF := runF 4 b_fraction
def b_fraction_product : XS := sSeq (sSet 1 (xTup (aCons (xC (.int 1)) (aCons (xC (.int 1)) (aNil))))) (sSeq (sFor (iOf (xVar 0)) (gTp 2 (gsCons (gNm 2) (gsCons (gNm 3) (gsNil)))) (sSet 1 (xCall m_fraction (aPick [.inl 0, .inl 1] (aCons (x2 mulD (x2 idxD (xVar 1) (xC (.int 0))) (xVar 2)) (aCons (x2 mulD (x2 idxD (xVar 1) (xC (.int 1))) (xVar 3)) (aNil))) (aNil))))) (sRet (xVar 1)))
def m_fraction_product : XF := starF (runF 4 b_fraction_product)
def b_fraction_sum : XS := sSeq (sSet 1 (xTup (aCons (xC (.int 0)) (aCons (xC (.int 1)) (aNil))))) (sSeq (sFor (iOf (xVar 0)) (gTp 2 (gsCons (gNm 2) (gsCons (gNm 3) (gsNil)))) (sSet 1 (xCall m_fraction (aPick [.inl 0, .inl 1] (aCons (x2 addD (x2 mulD (x2 idxD (xVar 1) (xC (.int 0))) (xVar 3)) (x2 mulD (xVar 2) (x2 idxD (xVar 1) (xC (.int 1))))) (aCons (x2 mulD (x2 idxD (xVar 1) (xC (.int 1))) (xVar 3)) (aNil))) (aNil))))) (sRet (xVar 1)))
def m_fraction_sum : XF := starF (runF 4 b_fraction_sum)
def b_applied : XS := sSeq (sAsg (xVar 0) (gTp 4 (gsCons (gNm 2) (gsCons (gNm 3) (gsCons (gNm 4) (gsCons (gNm 5) (gsNil))))))) (sRet (xCall (arity 3 m_bounded) (aCons (xCall m_fraction_sum (aCons (xCall m_fraction_product (aCons (xVar 2) (aCons (xVar 1) (aNil)))) (aCons (xVar 3) (aNil)))) (aCons (xVar 4) (aCons (xVar 5) (aNil))))))
def m_applied : XF := runF 6 b_applied
def b_end_after : XS := sRet (xIf (tst (x2 isNonD (xVar 0) (xC .none))) (xVar 2) (xCall (arity 2 m_applied) (aCons (xVar 1) (aCons (xVar 0) (aNil)))))
def m_end_after : XF := runF 3 b_end_after
def b_chained_two : XS := sSeq (sIf (xOrT (tst (x2 eqD (x2 idxD (xVar 0) (xC (.int 0))) (xTup (aCons (xC (.int 0)) (aCons (xC (.int 1)) (aNil)))))) (tst (x2 eqD (x2 idxD (xVar 1) (xC (.int 0))) (xTup (aCons (xC (.int 0)) (aCons (xC (.int 1)) (aNil))))))) (sRet (xCall (arity 1 m_constant_clause) (aCons (xCall (arity 2 m_applied) (aCons (xVar 1) (aCons (x2 idxD (xVar 0) (xC (.int 1))) (aNil)))) (aNil)))) (sNil)) (sSeq (sSet 2 (xCall m_fraction_product (aCons (x2 idxD (xVar 0) (xC (.int 0))) (aCons (x2 idxD (xVar 1) (xC (.int 0))) (aNil))))) (sSeq (sSet 3 (xCall m_fraction_sum (aCons (xCall m_fraction_product (aCons (x2 idxD (xVar 1) (xC (.int 0))) (aCons (x2 idxD (xVar 0) (xC (.int 1))) (aNil)))) (aCons (x2 idxD (xVar 1) (xC (.int 1))) (aNil))))) (sSeq (sSet 4 (xCall (arity 3 m_end_after) (aCons (x2 idxD (xVar 0) (xC (.int 2))) (aCons (xVar 1) (aCons (x2 idxD (xVar 1) (xC (.int 2))) (aNil)))))) (sRet (xCall m_normal_form (aPick [.inl 0, .inl 1, .inl 2, .inl 3] (aCons (xVar 2) (aCons (xVar 3) (aNil))) (aCons (xVar 4) (aCons (xCall (arity 3 m_end_after) (aCons (x2 idxD (xVar 0) (xC (.int 3))) (aCons (xVar 1) (aCons (x2 idxD (xVar 1) (xC (.int 3))) (aNil))))) (aNil)))))))))
def m_chained_two : XF := runF 5 b_chained_two
def b_chained : XS := sSeq (sSet 1 (xC (.tuple [.tuple [.int 1, .int 1], .tuple [.int 0, .int 1], .none, .none]))) (sSeq (sFor (iOf (xVar 0)) (gNm 2) (sSet 1 (xCall (arity 2 m_chained_two) (aCons (xVar 1) (aCons (xVar 2) (aNil)))))) (sRet (xVar 1)))
def m_chained : XF := starF (runF 3 b_chained)
def b_values_of : XS := sSeq (sAsg (xVar 0) (gTp 4 (gsCons (gNm 1) (gsCons (gNm 2) (gsCons (gNm 3) (gsCons (gNm 4) (gsNil))))))) (sRet (xIf (tst (x2 eqD (xVar 1) (xTup (aCons (xC (.int 0)) (aCons (xC (.int 1)) (aNil)))))) (xTup (aCons (xVar 2) (aCons (xVar 2) (aNil)))) (xTup (aCons (xVar 3) (aCons (xVar 4) (aNil))))))
def m_values_of : XF := runF 5 b_values_of
def b_quotient : XS := sRet (xCall m_fraction (aPick [.inl 0, .inl 1] (aCons (x2 mulD (x2 idxD (xVar 0) (xC (.int 0))) (x2 idxD (xVar 1) (xC (.int 1)))) (aCons (x2 mulD (x2 idxD (xVar 0) (xC (.int 1))) (x2 idxD (xVar 1) (xC (.int 0)))) (aNil))) (aNil)))
def m_quotient : XF := runF 2 b_quotient
def b_difference : XS := sRet (xCall m_fraction_sum (aCons (xVar 0) (aCons (xTup (aCons (x1 negD (x2 idxD (xVar 1) (xC (.int 0)))) (aCons (x2 idxD (xVar 1) (xC (.int 1))) (aNil)))) (aNil))))
def m_difference : XF := runF 2 b_difference
def b_bends_of : XS := sSeq (sAsg (xVar 0) (gTp 4 (gsCons (gNm 1) (gsCons (gNm 2) (gsCons (gNm 3) (gsCons (gNm 4) (gsNil))))))) (sRet (xFz (nLc (iOf (xTup (aCons (xVar 3) (aCons (xVar 4) (aNil))))) (gNm 5) (tst (x2 notNonD (xVar 5) (xC .none))) (xCall (arity 2 m_quotient) (aCons (xCall (arity 2 m_difference) (aCons (xVar 5) (aCons (xVar 2) (aNil)))) (aCons (xVar 1) (aNil)))) [5])))
def m_bends_of : XF := runF 6 b_bends_of
def b_differs_at : XS := sSeq (sNew 2 (nLst (aCons (xTup (aCons (xC (.int 0)) (aCons (xC (.int 1)) (aNil)))) (aCons (xTup (aCons (xC (.int 1)) (aCons (xC (.int 1)) (aNil)))) (aNil))))) (sSeq (sFor (iOf (x2 addD (xCall (arity 1 m_bends_of) (aCons (xVar 0) (aNil))) (xCall (arity 1 m_bends_of) (aCons (xVar 1) (aNil))))) (gNm 3) (sDrop (xExt 2 (xLst (aCons (xVar 3) (aCons (xCall m_fraction_sum (aCons (xVar 3) (aCons (xTup (aCons (xC (.int 1)) (aCons (xC (.int 1)) (aNil)))) (aNil)))) (aCons (xCall m_fraction_sum (aCons (xVar 3) (aCons (xTup (aCons (x1 negD (xC (.int 1))) (aCons (xC (.int 1)) (aNil)))) (aNil)))) (aNil)))))))) (sSeq (sFor (iOf (xVar 2)) (gNm 4) (sIf (tst (x2 neD (xCall (arity 2 m_applied) (aCons (xVar 0) (aCons (xVar 4) (aNil)))) (xCall (arity 2 m_applied) (aCons (xVar 1) (aCons (xVar 4) (aNil)))))) (sRet (xVar 4)) (sNil))) (sRet (xC .none))))
def m_differs_at : XF := runF 5 b_differs_at
def b_l_constant : XS := sRet (xTup (aCons (xTup (aCons (xC (.int 0)) (aCons (xC (.int 1)) (aNil)))) (aCons (xVar 0) (aCons (xC .none) (aCons (xC .none) (aNil))))))
def m_l_constant : XF := runF 1 b_l_constant
def b_l_items_by_hand : XS := sSeq (sAsg (xTup (aCons (xTup (aCons (xC (.int 1)) (aCons (xC (.int 1)) (aNil)))) (aCons (xTup (aCons (xC (.int 0)) (aCons (xC (.int 1)) (aNil)))) (aNil)))) (gTp 2 (gsCons (gNm 0) (gsCons (gNm 1) (gsNil))))) (sSeq (sNew 2 (nLst (aCons (xTup (aCons (xVar 0) (aCons (xVar 1) (aCons (xC .none) (aCons (xC .none) (aNil)))))) (aCons (xCall (arity 1 m_l_constant) (aCons (xVar 1) (aNil))) (aCons (xCall (arity 1 m_l_constant) (aCons (xTup (aCons (x1 negD (xC (.int 7))) (aCons (xC (.int 2)) (aNil)))) (aNil))) (aCons (xTup (aCons (xVar 0) (aCons (xTup (aCons (xC (.int 5)) (aCons (xC (.int 1)) (aNil)))) (aCons (xC .none) (aCons (xC .none) (aNil)))))) (aNil))))))) (sSeq (sDrop (xExt 2 (xLst (aCons (xTup (aCons (xTup (aCons (xC (.int 2)) (aCons (xC (.int 1)) (aNil)))) (aCons (xVar 1) (aCons (xC .none) (aCons (xC .none) (aNil)))))) (aCons (xTup (aCons (xTup (aCons (xC (.int 1)) (aCons (xC (.int 2)) (aNil)))) (aCons (xTup (aCons (x1 negD (xC (.int 3))) (aCons (xC (.int 1)) (aNil)))) (aCons (xC .none) (aCons (xC .none) (aNil)))))) (aCons (xTup (aCons (xVar 0) (aCons (xVar 1) (aCons (xTup (aCons (xC (.int 0)) (aCons (xC (.int 1)) (aNil)))) (aCons (xC .none) (aNil)))))) (aNil))))))) (sRet (x2 addD (xVar 2) (xLst (aCons (xTup (aCons (xVar 0) (aCons (xVar 1) (aCons (xC .none) (aCons (xTup (aCons (xC (.int 10)) (aCons (xC (.int 1)) (aNil)))) (aNil)))))) (aCons (xTup (aCons (xVar 0) (aCons (xVar 1) (aCons (xTup (aCons (x1 negD (xC (.int 5))) (aCons (xC (.int 1)) (aNil)))) (aCons (xTup (aCons (xC (.int 5)) (aCons (xC (.int 1)) (aNil)))) (aNil)))))) (aCons (xTup (aCons (xTup (aCons (xC (.int 3)) (aCons (xC (.int 1)) (aNil)))) (aCons (xTup (aCons (xC (.int 1)) (aCons (xC (.int 1)) (aNil)))) (aCons (xTup (aCons (xC (.int 2)) (aCons (xC (.int 1)) (aNil)))) (aCons (xTup (aCons (xC (.int 20)) (aCons (xC (.int 1)) (aNil)))) (aNil)))))) (aNil)))))))))
def m_l_items_by_hand : XF := runF 3 b_l_items_by_hand
def b_l_bounded : XS := sSeq (sIf (xAndT (tst (x2 notNonD (xVar 1) (xC .none))) (xTru (xCall (arity 2 m_l_less) (aCons (xVar 0) (aCons (xVar 1) (aNil)))))) (sRet (xVar 1)) (sNil)) (sRet (xIf (xAndT (tst (x2 notNonD (xVar 2) (xC .none))) (xTru (xCall (arity 2 m_l_less) (aCons (xVar 2) (aCons (xVar 0) (aNil)))))) (xVar 2) (xVar 0)))
def m_l_bounded : XF := runF 3 b_l_bounded
def b_l_normal : XS := sSeq (sIf (tst (x2 eqD (xVar 0) (xTup (aCons (xC (.int 0)) (aCons (xC (.int 1)) (aNil)))))) (sRet (xCall (arity 1 m_l_constant) (aCons (xCall (arity 3 m_l_bounded) (aCons (xVar 1) (aCons (xVar 2) (aCons (xVar 3) (aNil))))) (aNil)))) (sNil)) (sRet (xIf (xAndT (tst (x2 notNonD (xVar 2) (xC .none))) (tst (x2 eqD (xVar 2) (xVar 3)))) (xCall (arity 1 m_l_constant) (aCons (xVar 2) (aNil))) (xTup (aCons (xVar 0) (aCons (xVar 1) (aCons (xVar 2) (aCons (xVar 3) (aNil))))))))
def m_l_normal : XF := runF 4 b_l_normal
def b_l_item : XS := sSeq (sSet 1 (xCall (arity 1 m_l_raw) (aSlot 0 (aNil)))) (sRet (xCall (arity 4 m_l_normal) (aCons (x2 idxD (xVar 1) (xC (.int 0))) (aCons (x2 idxD (xVar 1) (xC (.int 1))) (aCons (x2 idxD (xVar 1) (xC (.int 2))) (aCons (x2 idxD (xVar 1) (xC (.int 3))) (aNil)))))))
def m_l_item : XF := runF 2 b_l_item
def b_l_chained : XS := sSeq (sIf (tst (x2 ltD (x1 lenD (xVar 0)) (xC (.int 3)))) (sSeq (sIf (tst (x2 eqD (x1 lenD (xVar 0)) (xC (.int 0)))) (sRet (xCall m_chained aNil)) (sNil)) (sRet (xIf (tst (x2 eqD (x1 lenD (xVar 0)) (xC (.int 1)))) (xCall m_chained (aCons (x2 idxD (xVar 0) (xC (.int 0))) (aNil))) (xCall m_chained (aCons (x2 idxD (xVar 0) (xC (.int 0))) (aCons (x2 idxD (xVar 0) (xC (.int 1))) (aNil))))))) (sNil)) (sSeq (sIf (tst (x2 eqD (x1 lenD (xVar 0)) (xC (.int 3)))) (sRet (xCall m_chained (aCons (x2 idxD (xVar 0) (xC (.int 0))) (aCons (x2 idxD (xVar 0) (xC (.int 1))) (aCons (x2 idxD (xVar 0) (xC (.int 2))) (aNil)))))) (sNil)) (sSeq (sIf (tst (x2 eqD (x1 lenD (xVar 0)) (xC (.int 4)))) (sRet (xCall m_chained (aCons (x2 idxD (xVar 0) (xC (.int 0))) (aCons (x2 idxD (xVar 0) (xC (.int 1))) (aCons (x2 idxD (xVar 0) (xC (.int 2))) (aCons (x2 idxD (xVar 0) (xC (.int 3))) (aNil))))))) (sNil)) (sRet (xCall m_chained (aCons (x2 idxD (xVar 0) (xC (.int 0))) (aCons (x2 idxD (xVar 0) (xC (.int 1))) (aCons (x2 idxD (xVar 0) (xC (.int 2))) (aCons (x2 idxD (xVar 0) (xC (.int 3))) (aCons (x2 idxD (xVar 0) (xC (.int 4))) (aNil))))))))))
def m_l_chained : XF := runF 1 b_l_chained
def b_commute : XS := sRet (x2 eqD (xCall (arity 2 m_chained_two) (aCons (xVar 0) (aCons (xVar 1) (aNil)))) (xCall (arity 2 m_chained_two) (aCons (xVar 1) (aCons (xVar 0) (aNil)))))
def m_commute : XF := runF 2 b_commute
def b_order_matters : XS := sSeq (sSet 1 (xCall m_chained (aStar (xVar 0)))) (sSeq (sSet 2 (xLst (aCons (xTup (aNil)) (aNil)))) (sSeq (sFor (iRng (x1 lenD (xVar 0))) (gNm 3) (sSet 2 (xFz (nLc2S (iOf (xVar 2)) (gNm 4) (cYes) (iRng (x1 lenD (xVar 0))) (gNm 6) (tst (x2 notInD (xVar 6) (xVar 4))) (x2 addD (xVar 4) (xTup (aCons (xVar 6) (aNil)))) [4, 6] [6])))) (sSeq (sFor (iOf (xVar 2)) (gNm 4) (sSeq (sSet 5 (xFz (nLc (iOf (xVar 4)) (gNm 6) (cYes) (x2 idxD (xVar 0) (xVar 6)) [6]))) (sIf (tst (x2 neD (xCall m_chained (aStar (xVar 5))) (xVar 1))) (sRet (xC (.bool true))) (sNil)))) (sRet (xC (.bool false))))))
def m_order_matters : XF := starF (runF 7 b_order_matters)
def b_l_matters : XS := sSeq (sIf (tst (x2 ltD (x1 lenD (xVar 0)) (xC (.int 3)))) (sSeq (sIf (tst (x2 eqD (x1 lenD (xVar 0)) (xC (.int 0)))) (sRet (xCall m_order_matters aNil)) (sNil)) (sRet (xIf (tst (x2 eqD (x1 lenD (xVar 0)) (xC (.int 1)))) (xCall m_order_matters (aCons (x2 idxD (xVar 0) (xC (.int 0))) (aNil))) (xCall m_order_matters (aCons (x2 idxD (xVar 0) (xC (.int 0))) (aCons (x2 idxD (xVar 0) (xC (.int 1))) (aNil))))))) (sNil)) (sSeq (sIf (tst (x2 eqD (x1 lenD (xVar 0)) (xC (.int 3)))) (sRet (xCall m_order_matters (aCons (x2 idxD (xVar 0) (xC (.int 0))) (aCons (x2 idxD (xVar 0) (xC (.int 1))) (aCons (x2 idxD (xVar 0) (xC (.int 2))) (aNil)))))) (sNil)) (sSeq (sIf (tst (x2 eqD (x1 lenD (xVar 0)) (xC (.int 4)))) (sRet (xCall m_order_matters (aCons (x2 idxD (xVar 0) (xC (.int 0))) (aCons (x2 idxD (xVar 0) (xC (.int 1))) (aCons (x2 idxD (xVar 0) (xC (.int 2))) (aCons (x2 idxD (xVar 0) (xC (.int 3))) (aNil))))))) (sNil)) (sRet (xCall m_order_matters (aCons (x2 idxD (xVar 0) (xC (.int 0))) (aCons (x2 idxD (xVar 0) (xC (.int 1))) (aCons (x2 idxD (xVar 0) (xC (.int 2))) (aCons (x2 idxD (xVar 0) (xC (.int 3))) (aCons (x2 idxD (xVar 0) (xC (.int 4))) (aNil))))))))))
def m_l_matters : XF := runF 1 b_l_matters
end P1
set_option exponentiation.threshold 5000
set_option maxRecDepth 100000
set_option maxHeartbeats 4000000
namespace P1
open PySem PySem.Spec PyProof.Rows L2 DL
theorem gcd_step (i j : Int) : Int.gcd j (i % j) = Int.gcd i j := by
  have e : i % j = i + j * (-(i / j)) := by have := Int.emod_def i j; rw [Int.mul_neg]; omega
  rw [e, Int.gcd_add_mul_left_right, Int.gcd_comm]
abbrev gC : XT := tst (x2 neD (xVar 1) (xC (.int 0)))
abbrev gB : XS := sPar 0 1 (xVar 1) (x2 modD (xVar 0) (xVar 1))
theorem gcd_loop : ∀ (n : Nat) (i j : Int), 0 ≤ j → j.natAbs < n → ∃ g : Int, whL gC gB n [.d (.int i), .d (.int j)] = some (.nx [.d (.int g), .d (.int 0)]) ∧ g.natAbs = Int.gcd i j
  | 0, _, _, _, h => absurd h (Nat.not_lt_zero _)
  | n + 1, i, j, h0, h => by
    by_cases hj : j = 0
    · subst hj
      refine ⟨i, by simp [whL, gC], by simp⟩
    · have hp : 0 < j := by omega
      have h1 := Int.emod_nonneg i hj
      have h2 := Int.emod_lt_of_pos i hp
      obtain ⟨g, e, q1⟩ := gcd_loop n j (i % j) h1 (by omega)
      refine ⟨g, ?_, by rw [q1, gcd_step]⟩
      rw [← e]
      simp [whL, gC, gB, hj, o_mod hp]
theorem t_cd (i j : Int) (h : 0 ≤ j) : m_common_divisor [.d (.int i), .d (.int j)] = some (.d (.int (Int.gcd i j)), [.d (.int i), .d (.int j)]) := by
  obtain ⟨g, e, q1⟩ := gcd_loop (j.natAbs + 1) i j h (by omega)
  have ea : (if g < 0 then -g else g) = (Int.gcd i j : Int) := by omega
  simp [m_common_divisor, e_run, b_common_divisor, sWh, gcdFuel, e, absD, ea]
theorem o1 {n : Int} (hn : n.natAbs < 2 ^ 4000) : mulD (.int 1) (.int n) = some (.int n) := by
  have := o_mulB (i := 1) (j := n) (Nat.lt_of_lt_of_le (show 1 < 2 ^ 1 by decide) (pow_le (by decide))) hn
  rwa [Int.one_mul] at this
theorem t_fraction {n d : Int} (hd : 0 < d) (hn : n.natAbs < 2 ^ 4000) (hb : d.natAbs < 2 ^ 4000) : m_fraction [.d (.int n), .d (.int d)] = some (.d (qD (Rat.divInt n d)), [.d (.int n), .d (.int d)]) := by
  have f := fun i => o_fdivB (i := i) (gcd_posB (n := n) (d := d) (by omega)) (gcd_ltB (n := n) (by omega) hb)
  rw [qD_frac hd]
  simp [m_fraction, e_run, b_fraction, t_cd n d (by omega), hd, o1 hn, o1 hb, f, sizeL]
abbrev sumB : XS := sSet 1 (xCall m_fraction (aPick [.inl 0, .inl 1] (aCons (x2 addD (x2 mulD (x2 idxD (xVar 1) (xC (.int 0))) (xVar 3)) (x2 mulD (xVar 2) (x2 idxD (xVar 1) (xC (.int 1))))) (aCons (x2 mulD (x2 idxD (xVar 1) (xC (.int 1))) (xVar 3)) (aNil))) (aNil)))
abbrev proB : XS := sSet 1 (xCall m_fraction (aPick [.inl 0, .inl 1] (aCons (x2 mulD (x2 idxD (xVar 1) (xC (.int 0))) (xVar 2)) (aCons (x2 mulD (x2 idxD (xVar 1) (xC (.int 1))) (xVar 3)) (aNil))) (aNil)))
abbrev g23 : XG := gTp 2 (gsCons (gNm 2) (gsCons (gNm 3) (gsNil)))
theorem t_sumS {x y : Rat} {a b : Nat} (hx : Sq a x) (hy : Sq b y) (h : a + b + 1 ≤ 4000) {e0 : EV} :
    sumB [e0, .d (qD x), .d (.int y.num), .d (.int (y.den : Int))] = some (.nx [e0, .d (qD (x + y)), .d (.int y.num), .d (.int (y.den : Int))]) := by
  obtain ⟨h1, h2, h3⟩ := sq_add_parts hx hy
  have hx' := hx.mono (show a ≤ 4000 by omega)
  have hy' := hy.mono (show b ≤ 4000 by omega)
  have e := t_fraction h3 (Nat.lt_of_lt_of_le h1 (pow_le h)) (Nat.lt_of_lt_of_le h2 (pow_le h))
  rw [add_frac] at e
  simp [ix0, ix1, o_mulB hx'.n (den_lt hy'), o_mulB hy'.n (den_lt hx'), o_mulB (den_lt hx') (den_lt hy'), e]
theorem t_proS {x y : Rat} {a b : Nat} (hx : Sq a x) (hy : Sq b y) (h : a + b + 1 ≤ 4000) {e0 : EV} :
    proB [e0, .d (qD x), .d (.int y.num), .d (.int (y.den : Int))] = some (.nx [e0, .d (qD (x * y)), .d (.int y.num), .d (.int (y.den : Int))]) := by
  obtain ⟨h1, h2, h3⟩ := sq_mul_parts hx hy
  have hx' := hx.mono (show a ≤ 4000 by omega)
  have hy' := hy.mono (show b ≤ 4000 by omega)
  have e := t_fraction h3 (Nat.lt_of_lt_of_le h1 (pow_le (show a + b ≤ 4000 by omega))) (Nat.lt_of_lt_of_le h2 (pow_le (show a + b ≤ 4000 by omega)))
  rw [mul_frac] at e
  simp [ix0, ix1, o_mulB hx'.n hy'.n, o_mulB (den_lt hx') (den_lt hy'), e]
theorem g23_q {e0 e1 e2 e3 : EV} (y : Rat) (h2 : Fs e2) (h3 : Fs e3) : g23 (qD y) [e0, e1, e2, e3] = some [e0, e1, .d (.int y.num), .d (.int (y.den : Int))] := by
  simp [qD, free_fs h2, free_fs h3]
theorem t_sumL {e0 : EV} {b : Nat} : ∀ (qs : List Rat) {x : Rat} {a : Nat} {e2 e3 : EV}, Fs e2 → Fs e3 → Sq a x → (∀ q ∈ qs, Sq b q) → a + (b + 1) * qs.length ≤ 4000 →
    ∃ f2 f3, forL g23 sumB (qs.map qD) [e0, .d (qD x), e2, e3] = some (.nx [e0, .d (qD (qs.foldl (· + ·) x)), f2, f3])
  | [], x, a, e2, e3, _, _, _, _, _ => ⟨e2, e3, rfl⟩
  | q :: qs, x, a, e2, e3, h2, h3, hx, hq, hl => by
    rw [List.length_cons, Nat.mul_add] at hl
    have q0 := hq q List.mem_cons_self
    have s := hx.add q0
    obtain ⟨f2, f3, e⟩ := t_sumL qs (e2 := .d (.int q.num)) (e3 := .d (.int (q.den : Int))) (by simp) (by simp) s (fun y hy => hq y (List.mem_cons_of_mem _ hy)) (by omega)
    exact ⟨f2, f3, forC_nx (g23_q q h2 h3) (t_sumS hx q0 (by omega)) e⟩
theorem t_proL {e0 : EV} {b : Nat} : ∀ (qs : List Rat) {x : Rat} {a : Nat} {e2 e3 : EV}, Fs e2 → Fs e3 → Sq a x → (∀ q ∈ qs, Sq b q) → a + (b + 1) * qs.length ≤ 4000 →
    ∃ f2 f3, forL g23 proB (qs.map qD) [e0, .d (qD x), e2, e3] = some (.nx [e0, .d (qD (qs.foldl (· * ·) x)), f2, f3])
  | [], x, a, e2, e3, _, _, _, _, _ => ⟨e2, e3, rfl⟩
  | q :: qs, x, a, e2, e3, h2, h3, hx, hq, hl => by
    rw [List.length_cons, Nat.mul_add] at hl
    have q0 := hq q List.mem_cons_self
    have s := hx.mul q0
    obtain ⟨f2, f3, e⟩ := t_proL qs (e2 := .d (.int q.num)) (e3 := .d (.int (q.den : Int))) (by simp) (by simp) s (fun y hy => hq y (List.mem_cons_of_mem _ hy)) (by omega)
    exact ⟨f2, f3, forC_nx (g23_q q h2 h3) (t_proS hx q0 (by omega)) e⟩
theorem s0 : Sq 1 (0 : Rat) := ⟨by decide, by decide⟩
theorem s1 : Sq 1 (1 : Rat) := ⟨by decide, by decide⟩
theorem q0 : (.tuple [.int 0, .int 1] : PyData) = qD 0 := rfl
theorem q1 : (.tuple [.int 1, .int 1] : PyData) = qD 1 := rfl
theorem t_fsum {b : Nat} {qs : List Rat} (hq : ∀ q ∈ qs, Sq b q) (hl : 1 + (b + 1) * qs.length ≤ 4000) : m_fraction_sum (qs.map fun q => .d (qD q)) = some (.d (qD (qs.foldl (· + ·) 0)), qs.map fun q => .d (qD q)) := by
  obtain ⟨f2, f3, e⟩ := t_sumL (e0 := .d (.tuple (qs.map qD))) qs (e2 := .un) (e3 := .un) (by simp) (by simp) s0 hq hl
  have hd : datEs (qs.map fun q => .d (qD q)) = some (qs.map qD) := by
    have := dat_of (qs.map qD)
    rwa [List.map_map] at this
  have hlen : (qs.map qD).length ≤ sizeLine := by
    rw [List.length_map, sizeL]
    have : qs.length ≤ (b + 1) * qs.length := Nat.le_mul_of_pos_left _ (by omega)
    omega
  have main : b_fraction_sum [.d (.tuple (qs.map qD)), .un, .un, .un] = some (.rt (qD (qs.foldl (· + ·) 0)) [.d (.tuple (qs.map qD)), .d (qD (qs.foldl (· + ·) 0)), f2, f3]) := by
    unfold b_fraction_sum
    refine seq_nx (ρ1 := [.d (.tuple (qs.map qD)), .d (qD 0), .un, .un]) (by simp [q0, sizeL]) ?_
    refine seq_nx (for_of (ds := qs.map qD) (by simp) e) ?_
    simp
  rw [m_fraction_sum, e_star, hd, Option.bind_some, if_pos hlen, run_rt (n := 4) (es := [.d (.tuple (qs.map qD))]) main]
  rfl
theorem t_fpro {b : Nat} {qs : List Rat} (hq : ∀ q ∈ qs, Sq b q) (hl : 1 + (b + 1) * qs.length ≤ 4000) : m_fraction_product (qs.map fun q => .d (qD q)) = some (.d (qD (qs.foldl (· * ·) 1)), qs.map fun q => .d (qD q)) := by
  obtain ⟨f2, f3, e⟩ := t_proL (e0 := .d (.tuple (qs.map qD))) qs (e2 := .un) (e3 := .un) (by simp) (by simp) s1 hq hl
  have hd : datEs (qs.map fun q => .d (qD q)) = some (qs.map qD) := by
    have := dat_of (qs.map qD)
    rwa [List.map_map] at this
  have hlen : (qs.map qD).length ≤ sizeLine := by
    rw [List.length_map, sizeL]
    have : qs.length ≤ (b + 1) * qs.length := Nat.le_mul_of_pos_left _ (by omega)
    omega
  have main : b_fraction_product [.d (.tuple (qs.map qD)), .un, .un, .un] = some (.rt (qD (qs.foldl (· * ·) 1)) [.d (.tuple (qs.map qD)), .d (qD (qs.foldl (· * ·) 1)), f2, f3]) := by
    unfold b_fraction_product
    refine seq_nx (ρ1 := [.d (.tuple (qs.map qD)), .d (qD 1), .un, .un]) (by simp [q1, sizeL]) ?_
    refine seq_nx (for_of (ds := qs.map qD) (by simp) e) ?_
    simp
  rw [m_fraction_product, e_star, hd, Option.bind_some, if_pos hlen, run_rt (n := 4) (es := [.d (.tuple (qs.map qD))]) main]
  rfl
section
variable {x y : Rat} {b : Nat} (hx : Sq b x) (hy : Sq b y) (h : 2 * b + 3 ≤ 4000)
include hx hy h
theorem t_sum2 : m_fraction_sum [.d (qD x), .d (qD y)] = some (.d (qD (x + y)), [.d (qD x), .d (qD y)]) := by
  have := t_fsum (b := b) (qs := [x, y]) (fun q hq => by simp at hq; rcases hq with rfl | rfl <;> assumption) (by simp; omega)
  simpa [Rat.zero_add] using this
theorem t_pro2 : m_fraction_product [.d (qD x), .d (qD y)] = some (.d (qD (x * y)), [.d (qD x), .d (qD y)]) := by
  have := t_fpro (b := b) (qs := [x, y]) (fun q hq => by simp at hq; rcases hq with rfl | rfl <;> assumption) (by simp; omega)
  simpa [Rat.one_mul] using this
theorem t_less : m_is_less [.d (qD x), .d (qD y)] = some (.d (.bool (decide (x < y))), [.d (qD x), .d (qD y)]) := by
  have hx' := hx.mono (show b ≤ 4000 by omega)
  have hy' := hy.mono (show b ≤ 4000 by omega)
  have e : decide (x < y) = decide (x.num * (y.den : Int) < y.num * (x.den : Int)) := decide_eq_decide.mpr (Rat.lt_iff x y)
  simp [m_is_less, e_run, b_is_less, ix0, ix1, o_mulB hx'.n (den_lt hy'), o_mulB hy'.n (den_lt hx'), e]
theorem t_l_less : m_l_less [.d (qD x), .d (qD y)] = some (.d (.bool (decide (x < y))), [.d (qD x), .d (qD y)]) := by
  have hx' := hx.mono (show b ≤ 4000 by omega)
  have hy' := hy.mono (show b ≤ 4000 by omega)
  have e : decide (x < y) = decide (x.num * (y.den : Int) < y.num * (x.den : Int)) := decide_eq_decide.mpr (Rat.lt_iff x y)
  simp [m_l_less, e_run, b_l_less, ix0, ix1, o_mulB hx'.n (den_lt hy'), o_mulB hy'.n (den_lt hx'), e]
end
end P1
set_option exponentiation.threshold 5000
set_option maxRecDepth 100000
set_option maxHeartbeats 4000000
namespace P1
open PySem PySem.Spec PyProof.Rows L2 DL
def so (b : Nat) (o : Option Rat) : Prop := ∀ q, o = some q → Sq b q
theorem so_none (b : Nat) : so b none := fun q e => nomatch e
theorem so_some {b : Nat} {x : Rat} (h : Sq b x) : so b (some x) := fun q e => by cases e; exact h
theorem t_bounded {x : Rat} {lo hi : Option Rat} {b : Nat} (hx : Sq b x) (hl : so b lo) (hh : so b hi) (h : 2 * b + 3 ≤ 4000) :
    m_bounded [.d (qD x), .d (oD lo), .d (oD hi)] = some (.d (qD (RQ.bd x lo hi)), [.d (qD x), .d (oD lo), .d (oD hi)]) := by
  cases lo with
  | none =>
    cases hi with
    | none => simp [m_bounded, e_run, b_bounded, RQ.bd]
    | some u =>
      have e1 := t_less (hh u rfl) hx h
      by_cases c : u < x <;> simp [m_bounded, e_run, b_bounded, RQ.bd, e1, c]
  | some l =>
    have e1 := t_less hx (hl l rfl) h
    cases hi with
    | none => by_cases c : x < l <;> simp [m_bounded, e_run, b_bounded, RQ.bd, e1, c]
    | some u =>
      have e2 := t_less (hh u rfl) hx h
      have e3 := t_less (hh u rfl) (hl l rfl) h
      by_cases c : x < l
      · by_cases d : u < l <;> simp [m_bounded, e_run, b_bounded, RQ.bd, e1, e3, c, d]
      · by_cases d : u < x <;> simp [m_bounded, e_run, b_bounded, RQ.bd, e1, e2, c, d]
theorem t_const (x : PyData) : m_constant_clause [.d x] = some (.d (.tuple [qD 0, x, .none, .none]), [.d x]) := by
  simp [m_constant_clause, e_run, b_constant_clause, sizeL, q0]
theorem nn_o (z : Option Rat) : noneD (oD z) = decide (z = none) := by cases z <;> rfl
theorem t_normal {f p : Rat} {lo hi : Option Rat} {b : Nat} (hp : Sq b p) (hl : so b lo) (hh : so b hi) (h : 2 * b + 3 ≤ 4000) :
    m_normal_form [.d (qD f), .d (qD p), .d (oD lo), .d (oD hi)] = some (.d (cD (RQ.nf f p lo hi)), [.d (qD f), .d (qD p), .d (oD lo), .d (oD hi)]) := by
  have e1 := t_bounded hp hl hh h
  by_cases h1 : f = 0
  · subst h1
    simp [-oD_none, m_normal_form, e_run, b_normal_form, eq_qq, sizeL, q0, e1, t_const, RQ.nf, cD, RQ.cst]
    rfl
  · cases lo with
    | none => simp [m_normal_form, e_run, b_normal_form, eq_qq, q0, sizeL, h1, RQ.nf, cD]
    | some l =>
      have eo := eq_oo (some l) hi
      simp only [oD_some] at eo
      by_cases h3 : some l = hi
      · subst h3
        simp [m_normal_form, e_run, b_normal_form, eq_qq, sizeL, q0, t_const, h1, eo, RQ.nf, cD, RQ.cst]
      · simp [m_normal_form, e_run, b_normal_form, eq_qq, q0, sizeL, h1, h3, eo, RQ.nf, cD]
theorem ixc0 (c : RQ.Cl) : idxD (cD c) (.int 0) = some (qD c.f) := rfl
theorem ixc1 (c : RQ.Cl) : idxD (cD c) (.int 1) = some (qD c.p) := rfl
theorem ixc2 (c : RQ.Cl) : idxD (cD c) (.int 2) = some (oD c.lo) := rfl
theorem ixc3 (c : RQ.Cl) : idxD (cD c) (.int 3) = some (oD c.hi) := rfl
theorem cD_eq (c : RQ.Cl) : cD c = .tuple [qD c.f, qD c.p, oD c.lo, oD c.hi] := rfl
theorem t_applied {c : RQ.Cl} {x : Rat} {b : Nat} (hc : Sc b c) (hx : Sq b x) (h : 6 * b + 20 ≤ 4000) : m_applied [.d (cD c), .d (qD x)] = some (.d (qD (RQ.ap c x)), [.d (cD c), .d (qD x)]) := by
  obtain ⟨f, p, lo, hi⟩ := c
  have e1 := t_pro2 hc.f hx (by omega)
  have s1 := hc.f.mul hx
  have e2 := t_sum2 (s1) (hc.p.mono (show b ≤ b + b by omega)) (by omega)
  have s2 := s1.add hc.p
  have e3 := t_bounded s2 (fun q e => (hc.lo q e).mono (show b ≤ b + b + b + 1 by omega)) (fun q e => (hc.hi q e).mono (show b ≤ b + b + b + 1 by omega)) (by omega)
  simp only at e1 e2 e3
  simp [m_applied, e_run, b_applied, cD, e1, e2, e3, RQ.ap]
theorem sq_ap {c : RQ.Cl} {x : Rat} {a b : Nat} (hc : Sc b c) (hx : Sq a x) : Sq (a + 2 * b + 1) (RQ.ap c x) := by
  have s2 := (hc.f.mul hx).add hc.p
  exact sq_bd (s2.mono (by omega)) (fun q e => (hc.lo q e).mono (by omega)) (fun q e => (hc.hi q e).mono (by omega))
theorem t_end {e : Option Rat} {c : RQ.Cl} {o : Option Rat} {b : Nat} (hc : Sc b c) (he : so b e) (h : 6 * b + 20 ≤ 4000) : m_end_after [.d (oD e), .d (cD c), .d (oD o)] = some (.d (oD (RQ.ea e c o)), [.d (oD e), .d (cD c), .d (oD o)]) := by
  cases e with
  | none => simp [m_end_after, e_run, b_end_after, RQ.ea]
  | some q =>
    have e1 := t_applied hc (he q rfl) h
    simp [m_end_after, e_run, b_end_after, RQ.ea, e1]
theorem so_ea {e : Option Rat} {c : RQ.Cl} {a b : Nat} (hc : Sc b c) (he : so a e) : so (a + 2 * b + 1) (RQ.ea e c c.lo) ∧ so (a + 2 * b + 1) (RQ.ea e c c.hi) := by
  cases e with
  | none => exact ⟨fun q e => (hc.lo q e).mono (by omega), fun q e => (hc.hi q e).mono (by omega)⟩
  | some q => exact ⟨so_some (sq_ap hc (he q rfl)), so_some (sq_ap hc (he q rfl))⟩
theorem sc_ch2 {c d : RQ.Cl} {a b : Nat} (hc : Sc a c) (hd : Sc b d) : Sc (a + 2 * b + 1) (RQ.ch2 c d) := by
  have z : Sq (a + 2 * b + 1) (0 : Rat) := s0.mono (by omega)
  unfold RQ.ch2
  split
  · exact ⟨z, sq_ap hd hc.p, (fun q e => nomatch e), (fun q e => nomatch e)⟩
  · refine sc_nf ⟨(hc.f.mul hd.f).mono (by omega), ((hd.f.mul hc.p).add hd.p).mono (by omega), (so_ea hd hc.lo).1, (so_ea hd hc.hi).2⟩ (by omega)
theorem t_ch2 {c d : RQ.Cl} {b : Nat} (hc : Sc b c) (hd : Sc b d) (h : 8 * b + 20 ≤ 4000) : m_chained_two [.d (cD c), .d (cD d)] = some (.d (cD (RQ.ch2 c d)), [.d (cD c), .d (cD d)]) := by
  have e1 := t_applied hd hc.p (by omega)
  have e2 := t_pro2 hc.f hd.f (by omega)
  have e3 := t_pro2 hd.f hc.p (by omega)
  have s3 := hd.f.mul hc.p
  have e4 := t_sum2 s3 (hd.p.mono (show b ≤ b + b by omega)) (by omega)
  have s4 := s3.add hd.p
  have e5 := t_end (o := d.lo) hd hc.lo (by omega)
  have e6 := t_end (o := d.hi) hd hc.hi (by omega)
  have e7 := t_normal (f := c.f * d.f) (s4.mono (show b + b + b + 1 ≤ b + 2 * b + 1 by omega)) (so_ea hd hc.lo).1 (so_ea hd hc.hi).2 (by omega)
  by_cases h1 : c.f = 0
  · have hz : RQ.ch2 c d = RQ.cst (RQ.ap d c.p) := by simp [RQ.ch2, h1]
    rw [hz]
    simp [m_chained_two, e_run, b_chained_two, sizeL, ixc0, ixc1, eq_qq, q0, e1, t_const, h1]
    rfl
  · by_cases h2 : d.f = 0
    · have hz : RQ.ch2 c d = RQ.cst (RQ.ap d c.p) := by simp [RQ.ch2, h2]
      rw [hz]
      simp [m_chained_two, e_run, b_chained_two, sizeL, ixc0, ixc1, eq_qq, q0, e1, t_const, h1, h2]
      rfl
    · have hz : RQ.ch2 c d = RQ.nf (c.f * d.f) (d.f * c.p + d.p) (RQ.ea c.lo d d.lo) (RQ.ea c.hi d d.hi) := by simp [RQ.ch2, h1, h2]
      rw [hz]
      simp [m_chained_two, e_run, b_chained_two, sizeL, ixc0, ixc1, ixc2, ixc3, eq_qq, q0, e2, e3, e4, e5, e6, e7, h1, h2]
def idC : RQ.Cl := ⟨1, 0, none, none⟩
theorem wf_id : RQ.WF idC := ⟨by decide, fun h => absurd h (by decide), trivial⟩
theorem sc_id : Sc 1 idC := ⟨s1, s0, (fun q e => nomatch e), (fun q e => nomatch e)⟩
theorem cD_id : (.tuple [.tuple [.int 1, .int 1], .tuple [.int 0, .int 1], .none, .none] : PyData) = cD idC := rfl
def chL (cs : List RQ.Cl) : RQ.Cl := cs.foldl RQ.ch2 idC
theorem t_chL {e0 : EV} {b : Nat} : ∀ (cs : List RQ.Cl) {x : RQ.Cl} {a : Nat} {e2 : EV}, Fs e2 → Sc a x → (∀ c ∈ cs, Sc b c) → b ≤ a → 8 * (a + (2 * b + 1) * cs.length) + 20 ≤ 4000 →
    ∃ f2, forL (gNm 2) (sSet 1 (xCall (arity 2 m_chained_two) (aCons (xVar 1) (aCons (xVar 2) (aNil))))) (cs.map cD) [e0, .d (cD x), e2] = some (.nx [e0, .d (cD (cs.foldl RQ.ch2 x)), f2])
  | [], x, a, e2, _, _, _, _, _ => ⟨e2, rfl⟩
  | c :: cs, x, a, e2, h2, hx, hc, hb, hl => by
    have hm : (2 * b + 1) * (c :: cs).length = (2 * b + 1) * cs.length + (2 * b + 1) := Nat.mul_succ _ _
    have c0 := hc c List.mem_cons_self
    have e1 := t_ch2 hx (⟨c0.f.mono hb, c0.p.mono hb, fun q e => (c0.lo q e).mono hb, fun q e => (c0.hi q e).mono hb⟩) (by omega)
    obtain ⟨f2, e⟩ := t_chL (e0 := e0) cs (e2 := .d (cD c)) (by simp) (sc_ch2 hx c0) (fun y hy => hc y (List.mem_cons_of_mem _ hy)) (by omega) (by omega)
    exact ⟨f2, forC_nx (ρ1 := [e0, .d (cD x), .d (cD c)]) (by simp [free_fs h2]) (by simp [e1]) e⟩
theorem Sc.mono {a b : Nat} {c : RQ.Cl} (h : Sc a c) (hb : a ≤ b) : Sc b c := ⟨h.f.mono hb, h.p.mono hb, fun q e => (h.lo q e).mono hb, fun q e => (h.hi q e).mono hb⟩
theorem sc_chL {b : Nat} : ∀ (cs : List RQ.Cl) {x : RQ.Cl} {a : Nat}, Sc a x → (∀ c ∈ cs, Sc b c) → Sc (a + (2 * b + 1) * cs.length) (cs.foldl RQ.ch2 x)
  | [], x, a, hx, _ => Sc.mono hx (by simp)
  | c :: cs, x, a, hx, hc => by
    have h := sc_chL cs (sc_ch2 hx (hc c List.mem_cons_self)) fun y hy => hc y (List.mem_cons_of_mem _ hy)
    have hm : (2 * b + 1) * (c :: cs).length = (2 * b + 1) * cs.length + (2 * b + 1) := Nat.mul_succ _ _
    exact Sc.mono h (by omega)
theorem wf_chL : ∀ (cs : List RQ.Cl) {x : RQ.Cl}, RQ.WF x → (∀ c ∈ cs, RQ.WF c) → RQ.WF (cs.foldl RQ.ch2 x)
  | [], x, hx, _ => hx
  | c :: cs, x, hx, hc => wf_chL cs (RQ.wf_ch2 hx (hc c List.mem_cons_self)) fun y hy => hc y (List.mem_cons_of_mem _ hy)
theorem t_chained {b : Nat} {cs : List RQ.Cl} (hc : ∀ c ∈ cs, Sc b c) (hb : 1 ≤ b) (hl : 8 * (b + (2 * b + 1) * cs.length) + 20 ≤ 4000) : m_chained (cs.map fun c => .d (cD c)) = some (.d (cD (chL cs)), cs.map fun c => .d (cD c)) := by
  obtain ⟨f2, e⟩ := t_chL (e0 := .d (.tuple (cs.map cD))) cs (e2 := .un) (by simp) (Sc.mono sc_id hb) hc (Nat.le_refl _) hl
  have hd : datEs (cs.map fun c => .d (cD c)) = some (cs.map cD) := by
    have := dat_of (cs.map cD)
    rwa [List.map_map] at this
  have hlen : (cs.map cD).length ≤ sizeLine := by
    rw [List.length_map, sizeL]
    have : cs.length ≤ (2 * b + 1) * cs.length := Nat.le_mul_of_pos_left _ (by omega)
    omega
  have main : b_chained [.d (.tuple (cs.map cD)), .un, .un] = some (.rt (cD (chL cs)) [.d (.tuple (cs.map cD)), .d (cD (chL cs)), f2]) := by
    unfold b_chained
    refine seq_nx (ρ1 := [.d (.tuple (cs.map cD)), .d (cD idC), .un]) (by simp [cD_id]) ?_
    refine seq_nx (for_of (ds := cs.map cD) (by simp) e) ?_
    simp [chL]
  rw [m_chained, e_star, hd, Option.bind_some, if_pos hlen, run_rt (n := 3) (es := [.d (.tuple (cs.map cD))]) main]
  rfl
theorem t_values {c : RQ.Cl} : m_values_of [.d (cD c)] = some (.d (if c.f = 0 then .tuple [qD c.p, qD c.p] else .tuple [oD c.lo, oD c.hi]), [.d (cD c)]) := by
  by_cases h : c.f = 0 <;> simp [m_values_of, e_run, b_values_of, cD, eq_qq, q0, sizeL, h]
theorem t_commute {c d : RQ.Cl} {b : Nat} (hc : Sc b c) (hd : Sc b d) (h : 8 * b + 20 ≤ 4000) : m_commute [.d (cD c), .d (cD d)] = some (.d (.bool (decide (RQ.ch2 c d = RQ.ch2 d c))), [.d (cD c), .d (cD d)]) := by
  simp [m_commute, e_run, b_commute, t_ch2 hc hd h, t_ch2 hd hc h, eq_cc]
end P1
set_option exponentiation.threshold 5000
set_option maxRecDepth 100000
set_option maxHeartbeats 4000000
namespace P1
open PySem PySem.Spec PyProof.Rows L2 DL
def FL (c : List PyData) (a l n : Int) : List (Key × PyData) := [(.inr "cells", .list c), (.inr "at", .int a), (.inr "left", .int l), (.inr "count", .int n)]
section
variable (c : List PyData) (a l n : Int)
@[simp] theorem fg1 : getD' (FL c a l n) (.inr "cells") = some (.list c) := rfl
@[simp] theorem fg2 : getD' (FL c a l n) (.inr "at") = some (.int a) := rfl
@[simp] theorem fg3 : getD' (FL c a l n) (.inr "left") = some (.int l) := rfl
@[simp] theorem fg4 : getD' (FL c a l n) (.inr "count") = some (.int n) := rfl
@[simp] theorem fp2 (x : Int) : putD (FL c a l n) (.inr "at") (.int x) = FL c x l n := rfl
@[simp] theorem fp3 (x : Int) : putD (FL c a l n) (.inr "left") (.int x) = FL c a x n := rfl
@[simp] theorem fp4 (x : Int) : putD (FL c a l n) (.inr "count") (.int x) = FL c a l x := rfl
@[simp] theorem fl_inj (c' : List PyData) (a' l' n' : Int) : (FL c a l n = FL c' a' l' n') ↔ c = c' ∧ a = a' ∧ l = l' ∧ n = n' := by simp [FL]
@[simp] theorem fln : (FL c a l n).length = 4 := rfl
theorem t_draw1 (k : Int) (io : Bool) (hl : 0 < l) (hk : 0 < k) (hk2 : k.natAbs.log2 < 9000) : m_l_draw [.own (.od (FL c a l n)) io, .d (.int k)] = some (.d (.int (l % k)), [.own (.od (FL c a (l / k) (n + 1))) io, .d (.int k)]) := by
  simp [m_l_draw, e_run, b_l_draw, sizeL, hl, o_mod hk, o_fdiv hk hk2]

theorem lg {n k : Nat} (h : n < 2 ^ k) (hk : 0 < k) : n.log2 < k := by
  by_cases h0 : n = 0
  · subst h0; simpa using hk
  · exact (Nat.log2_lt h0).mpr h
theorem o_mulS {i j : Int} (hi : i.natAbs < 2 ^ 200) (hj : j.natAbs < 2 ^ 200) : mulD (.int i) (.int j) = some (.int (i * j)) := by
  refine o_mul ?_
  have h1 := lg hi (by decide)
  have h2 := lg hj (by decide)
  omega
theorem sm_mod {x j : Int} (h : 0 < j) (h2 : j < 2 ^ 100) : (x % j).natAbs < 2 ^ 200 := by
  have h1 := Int.emod_nonneg x (show j ≠ 0 by omega)
  have h3 := Int.emod_lt_of_pos x h
  omega
theorem ne_ints (ns : List Int) : neD (.list (ns.map .int)) (.list []) = some (.bool (!ns.isEmpty)) := by
  rw [neD_of (PySem.W.ke_shaped_ints ns) rfl]
  cases ns <;> rfl
theorem at_ints {ns : List Int} (h : ns ≠ []) {a : Int} (ha : 0 ≤ a) : ∃ q, atI (ns.map PyData.int) (a % (ns.length : Int)) = some (.int q) := by
  have hl : 0 < ns.length := List.length_pos_iff.mpr h
  have h1 := Int.emod_nonneg a (show (ns.length : Int) ≠ 0 by omega)
  have h2 := Int.emod_lt_of_pos a (show (0 : Int) < ns.length by omega)
  refine ⟨ns[(a % (ns.length : Int)).toNat]'(by omega), ?_⟩
  rw [at_nn h1 (by rw [List.length_map]; exact h2), List.getElem?_map, List.getElem?_eq_getElem (by omega)]
  rfl
theorem t_draw2 (ns : List Int) (k : Int) (io : Bool) (ha : 0 ≤ a) (hn0 : 0 ≤ n) (hn : n < 2 ^ 50) (hk : 0 < k) (hk2 : k.natAbs.log2 < 9000) (hl : ¬ 0 < l) :
    ∃ r l', m_l_draw [.own (.od (FL (ns.map .int) a l n)) io, .d (.int k)] = some (.d (.int r), [.own (.od (FL (ns.map .int) (a + 1) l' (n + 1))) io, .d (.int k)]) ∧ 0 ≤ r ∧ r < k := by
  have hc : (n + 1).natAbs < 2 ^ 200 := by omega
  have h10 : powD (.int 10) (.int 18) = some (.int (10 ^ 18)) := o_pow ⟨by decide, by decide, by decide⟩
  have m1 : ∀ x y : Int, mulD (.int (x % 2147483423)) (.int (y % 2147483423)) = some (.int (x % 2147483423 * (y % 2147483423))) := fun x y => o_mulS (sm_mod (by decide) (by decide)) (sm_mod (by decide) (by decide))
  have m2 : ∀ x y : Int, mulD (.int (x % 2147483399)) (.int (y % 2147483399)) = some (.int (x % 2147483399 * (y % 2147483399))) := fun x y => o_mulS (sm_mod (by decide) (by decide)) (sm_mod (by decide) (by decide))
  have m3 : mulD (.int 150011) (.int (n + 1)) = some (.int (150011 * (n + 1))) := o_mulS (by decide) hc
  have m4 : mulD (.int 3700129) (.int (n + 1)) = some (.int (3700129 * (n + 1))) := o_mulS (by decide) hc
  have m5 : ∀ x : Int, mulD (.int 79) (.int (x % 2147483399)) = some (.int (79 * (x % 2147483399))) := fun x => o_mulS (by decide) (sm_mod (by decide) (by decide))
  have md : ∀ x y : Int, 0 < y → modD (.int x) (.int y) = some (.int (x % y)) := fun x y h => o_mod h
  have fx : ∀ x : Int, fdivD (.int x) (.int 16) = some (.int (x / 16)) := fun x => o_fdiv (by decide) (by decide)
  by_cases h : ns = []
  · subst h
    have p1 : ¬ (10 : Int) ^ 18 ≤ 53 := by decide
    simp [m_l_draw, e_run, b_l_draw, sizeL, hl, (show neD (.list []) (.list []) = some (.bool false) from rfl), h10, md, m1, m2, m3, m4, m5, fx, hk]
    exact ⟨Int.emod_nonneg _ (Int.ne_of_gt hk), Int.emod_lt_of_pos _ hk⟩
  · obtain ⟨q, hq⟩ := at_ints h ha
    have hne := ne_ints ns
    have he : ns.isEmpty = false := by cases ns <;> simp_all
    have hlen : (0 : Int) < ns.length := by have := List.length_pos_iff.mpr h; omega
    by_cases hg : (1000000000000000000 : Int) ≤ q
    · by_cases hg2 : a < ns.length
      · simp [m_l_draw, e_run, b_l_draw, sizeL, hl, hne, he, o_mod hlen, hq, hg, hg2, h10, o_mod hk, o_fdiv hk hk2, md]
        exact ⟨Int.emod_nonneg _ (Int.ne_of_gt hk), Int.emod_lt_of_pos _ hk⟩
      · simp [m_l_draw, e_run, b_l_draw, sizeL, hl, hne, he, o_mod hlen, hq, hg, hg2, h10, md, m1, m2, m3, m4, m5, fx, hk]
        exact ⟨Int.emod_nonneg _ (Int.ne_of_gt hk), Int.emod_lt_of_pos _ hk⟩
    · simp [m_l_draw, e_run, b_l_draw, sizeL, hl, hne, he, o_mod hlen, hq, hg, h10, md, m1, m2, m3, m4, m5, fx, hk]
      exact ⟨Int.emod_nonneg _ (Int.ne_of_gt hk), Int.emod_lt_of_pos _ hk⟩
end
/-- the feed is good: k draws at most -/
def Fd (N : Nat) (o : OD) : Prop := ∃ (ns : List Int) (a l n : Int), o = .od (FL (ns.map .int) a l n) ∧ 0 ≤ a ∧ 0 ≤ n ∧ n ≤ N
theorem Fd.mono {N M : Nat} {o : OD} (h : Fd N o) (hm : N ≤ M) : Fd M o := by
  obtain ⟨ns, a, l, n, rfl, h1, h2, h3⟩ := h
  exact ⟨ns, a, l, n, rfl, h1, h2, by omega⟩
theorem t_draw {N : Nat} {o : OD} (h : Fd N o) (hN : N < 2 ^ 50) {k : Int} (hk : 0 < k) (hk2 : k < 2 ^ 50) (io : Bool) :
    ∃ r o', m_l_draw [.own o io, .d (.int k)] = some (.d (.int r), [.own o' io, .d (.int k)]) ∧ 0 ≤ r ∧ r < k ∧ Fd (N + 1) o' := by
  obtain ⟨ns, a, l, n, rfl, h1, h2, h3⟩ := h
  have hk3 : k.natAbs.log2 < 9000 := lg (Nat.lt_of_lt_of_le (show k.natAbs < 2 ^ 50 by omega) (Nat.pow_le_pow_right (by decide) (by decide))) (by decide)
  by_cases hl : 0 < l
  · exact ⟨l % k, _, t_draw1 (ns.map .int) a l n k io hl hk hk3, Int.emod_nonneg _ (Int.ne_of_gt hk), Int.emod_lt_of_pos _ hk, ns, a, l / k, n + 1, rfl, h1, by omega, by omega⟩
  · obtain ⟨r, l', e, q1, q2⟩ := t_draw2 a l n ns k io h1 h2 (by omega) hk hk3 hl
    exact ⟨r, _, e, q1, q2, ns, a + 1, l', n + 1, rfl, by omega, by omega, by omega⟩
theorem t_feed (ns : List Int) : ∃ o, m_l_feed [.scr ns] = some (.n o, [.scr ns]) ∧ Fd 0 o := by
  refine ⟨.od (FL ((ns.take 63).map .int) 0 0 0), ?_, ns.take 63, 0, 0, 0, rfl, by decide, by decide, by decide⟩
  have h : DL.cutD (ns.map PyData.int) none (some 63) = (ns.take 63).map PyData.int := by
    unfold DL.cutD HT.sIx
    have hi : ¬ (63 : Int) < 0 := by decide
    simp only [if_neg hi, List.drop_zero, Nat.sub_zero, List.length_map]
    rw [← List.map_take]
    congr 1
    have : min (63 : Int).toNat ns.length = min 63 ns.length := rfl
    rw [this, ← List.take_take, List.take_length]
  simp [m_l_feed, e_run, b_l_feed, nDisp, prX, h, mergeD]
  rfl

def sizesL : List PyData := match m_l_sizes [] with
  | some (.d (.list xs), _) => xs
  | _ => []
theorem t_l_sizes : m_l_sizes [] = some (.d (.list sizesL), []) := by kernel_rfl
theorem sizes_q : sizesL.all (qB 14) = true := by decide +kernel
theorem sizes_len : sizesL.length = 22 := by decide +kernel
theorem t_l_size {N : Nat} {o : OD} (h : Fd N o) (hN : N < 2 ^ 40) (io : Bool) : ∃ q o', m_l_size [.own o io] = some (.d (qD q), [.own o' io]) ∧ Sq 14 q ∧ Fd (N + 1) o' := by
  obtain ⟨r, o', e, h1, h2, h3⟩ := t_draw h (by omega) (k := 22) (by decide) (by decide) true
  obtain ⟨y, ey, hy⟩ := atI_mem (xs := sizesL) h1 (by rw [sizes_len]; exact h2)
  obtain ⟨q, rfl, hq⟩ := menu_q sizes_q hy
  exact ⟨q, o', by simp [m_l_size, e_run, b_l_size, e, t_l_sizes, ey], hq, h3⟩
abbrev xOpt (a b : XE) : XE := xIf (tst (x2 eqD (xCall (arity 2 m_l_draw) (aSlot 0 (aCons (xC (.int 2)) (aNil)))) (xC (.int 0)))) a b
theorem t_opt1 {N : Nat} {o : OD} (h : Fd N o) (hN : N < 2 ^ 35) (io : Bool) (ρ : Nv) : ∃ x o', xOpt (xCall (arity 1 m_l_size) (aSlot 0 (aNil))) (xC .none) (.own o io :: ρ) = some (oD x, .own o' io :: ρ) ∧ so 14 x ∧ Fd (N + 2) o' := by
  obtain ⟨r, o1, e1, h1, h2, f1⟩ := t_draw h (by omega) (k := 2) (by decide) (by decide) true
  by_cases h0 : r = 0
  · obtain ⟨x, o2, e2, hx, f2⟩ := t_l_size f1 (by omega) true
    exact ⟨some x, o2, by simp [xOpt, e1, h0, e2], so_some hx, f2⟩
  · exact ⟨none, o1, by simp [xOpt, e1, h0], so_none _, f1.mono (by omega)⟩
theorem t_opt2 {N : Nat} {o : OD} (h : Fd N o) (hN : N < 2 ^ 35) (io : Bool) (ρ : Nv) : ∃ x o', xOpt (xTup (aCons (xC (.int 0)) (aCons (xC (.int 1)) (aNil)))) (xCall (arity 1 m_l_size) (aSlot 0 (aNil))) (.own o io :: ρ) = some (qD x, .own o' io :: ρ) ∧ Sq 14 x ∧ Fd (N + 2) o' := by
  obtain ⟨r, o1, e1, h1, h2, f1⟩ := t_draw h (by omega) (k := 2) (by decide) (by decide) true
  by_cases h0 : r = 0
  · exact ⟨0, o1, by simp [xOpt, e1, h0, sizeL, q0], s0.mono (by decide), f1.mono (by omega)⟩
  · obtain ⟨x, o2, e2, hx, f2⟩ := t_l_size f1 (by omega) true
    exact ⟨x, o2, by simp [xOpt, e1, h0, e2], hx, f2⟩
def ratL : List PyData := [.tuple [.int 1, .int 1], .tuple [.int 1, .int 1], .tuple [.int 2, .int 1], .tuple [.int 1, .int 2], .tuple [.int 0, .int 1], .tuple [.int 3, .int 1], .tuple [.int 11, .int 10], .tuple [.int 2, .int 3], .tuple [.int 9, .int 10], .tuple [.int 10, .int 1]]
theorem rat_n : ratL.all (fun x => qB 14 x && nnB x) = true := by decide +kernel
theorem rng2 (ρ : Nv) : iRng (xC (.int 2)) ρ = some ([.int 0, .int 1], ρ) := e_rngN (n := 2) rfl (by decide)
/-- a raw form: factor at least 0, low at most high -/
structure Raw (f p : Rat) (lo hi : Option Rat) : Prop where
  f0 : 0 ≤ f
  le : RQ.leO lo hi
  sc : Sc 14 ⟨f, p, lo, hi⟩
theorem t_l_raw {N : Nat} {o : OD} (h : Fd N o) (hN : N < 2 ^ 30) (io : Bool) : ∃ f p lo hi o', m_l_raw [.own o io] = some (.d (.tuple [qD f, qD p, oD lo, oD hi]), [.own o' io]) ∧ Raw f p lo hi ∧ Fd (N + 10) o' := by
  obtain ⟨r, o1, e1, h1, h2, f1⟩ := t_draw h (by omega) (k := 10) (by decide) (by decide) true
  obtain ⟨y, ey, hy⟩ := atI_mem (xs := ratL) h1 h2
  obtain ⟨f, rfl, sf, f0⟩ := menu_n rat_n hy
  obtain ⟨m, o2, e2, hm, f2⟩ := t_opt2 f1 (by omega) io [.d (qD f), .un, .un, .un]
  obtain ⟨a, o3, e3, ha, f3⟩ := t_opt1 f2 (by omega) io [.d (qD f), .d (qD m), .un, .d (.int 0)]
  obtain ⟨b, o4, e4, hb, f4⟩ := t_opt1 f3 (by omega) io [.d (qD f), .d (qD m), .un, .d (.int 1)]
  simp only [ratL] at ey
  have f5 := f4.mono (show N + 1 + 2 + 2 + 2 ≤ N + 10 by omega)
  have noneb : ∀ z : Option Rat, noneD (oD z) = decide (z = none) := nn_o
  cases a with
  | none =>
    refine ⟨f, m, none, b, o4, ?_, ⟨f0, by cases b <;> trivial, ⟨sf, hm, so_none _, hb⟩⟩, f5⟩
    simp [m_l_raw, e_run, b_l_raw, -e_if, e1, ey, sizeL, e2, e3, e4, rng2, unAt]
  | some l =>
    cases b with
    | none =>
      refine ⟨f, m, some l, none, o4, ?_, ⟨f0, trivial, ⟨sf, hm, ha, so_none _⟩⟩, f5⟩
      simp [m_l_raw, e_run, b_l_raw, -e_if, e1, ey, sizeL, e2, e3, e4, rng2, unAt]
    | some u =>
      have e5 := t_l_less (hb u rfl) (ha l rfl) (by decide)
      by_cases c : u < l
      · refine ⟨f, m, some u, some l, o4, ?_, ⟨f0, by show u ≤ l; grind, ⟨sf, hm, hb, ha⟩⟩, f5⟩
        simp [m_l_raw, e_run, b_l_raw, -e_if, e1, ey, sizeL, e2, e3, e4, rng2, unAt, e5, c]
      · refine ⟨f, m, some l, some u, o4, ?_, ⟨f0, by show l ≤ u; grind, ⟨sf, hm, ha, hb⟩⟩, f5⟩
        simp [m_l_raw, e_run, b_l_raw, -e_if, e1, ey, sizeL, e2, e3, e4, rng2, unAt, e5, c]
theorem t_l_const (x : PyData) : m_l_constant [.d x] = some (.d (.tuple [qD 0, x, .none, .none]), [.d x]) := by
  simp [m_l_constant, e_run, b_l_constant, sizeL, q0]
theorem t_l_bounded {x : Rat} {lo hi : Option Rat} {b : Nat} (hx : Sq b x) (hl : so b lo) (hh : so b hi) (h : 2 * b + 3 ≤ 4000) (hle : RQ.leO lo hi) :
    m_l_bounded [.d (qD x), .d (oD lo), .d (oD hi)] = some (.d (qD (RQ.bd x lo hi)), [.d (qD x), .d (oD lo), .d (oD hi)]) := by
  cases lo with
  | none =>
    cases hi with
    | none => simp [m_l_bounded, e_run, b_l_bounded, RQ.bd]
    | some u =>
      have e1 := t_l_less (hh u rfl) hx h
      by_cases c : u < x <;> simp [m_l_bounded, e_run, b_l_bounded, RQ.bd, e1, c]
  | some l =>
    have e1 := t_l_less hx (hl l rfl) h
    cases hi with
    | none => by_cases c : x < l <;> simp [m_l_bounded, e_run, b_l_bounded, RQ.bd, e1, c]
    | some u =>
      have e2 := t_l_less (hh u rfl) hx h
      have hlu : l ≤ u := hle
      by_cases c : x < l
      · have d : ¬ u < l := by grind
        simp [m_l_bounded, e_run, b_l_bounded, RQ.bd, e1, c, d]
      · by_cases d : u < x <;> simp [m_l_bounded, e_run, b_l_bounded, RQ.bd, e1, e2, c, d]
theorem t_l_normal {f p : Rat} {lo hi : Option Rat} {b : Nat} (hp : Sq b p) (hl : so b lo) (hh : so b hi) (h : 2 * b + 3 ≤ 4000) (hle : RQ.leO lo hi) :
    m_l_normal [.d (qD f), .d (qD p), .d (oD lo), .d (oD hi)] = some (.d (cD (RQ.nf f p lo hi)), [.d (qD f), .d (qD p), .d (oD lo), .d (oD hi)]) := by
  have e1 := t_l_bounded hp hl hh h hle
  by_cases h1 : f = 0
  · subst h1
    simp [-oD_none, m_l_normal, e_run, b_l_normal, eq_qq, sizeL, q0, e1, t_l_const, RQ.nf, cD, RQ.cst]
    rfl
  · cases lo with
    | none => simp [m_l_normal, e_run, b_l_normal, eq_qq, q0, sizeL, h1, RQ.nf, cD]
    | some l =>
      have eo := eq_oo (some l) hi
      simp only [oD_some] at eo
      by_cases h3 : some l = hi
      · subst h3
        simp [m_l_normal, e_run, b_l_normal, eq_qq, sizeL, q0, t_l_const, h1, eo, RQ.nf, cD, RQ.cst]
      · simp [m_l_normal, e_run, b_l_normal, eq_qq, q0, sizeL, h1, h3, eo, RQ.nf, cD]
theorem t_l_item {N : Nat} {o : OD} (h : Fd N o) (hN : N < 2 ^ 30) (io : Bool) : ∃ c o', m_l_item [.own o io] = some (.d (cD c), [.own o' io]) ∧ RQ.WF c ∧ Sc 14 c ∧ Fd (N + 10) o' := by
  obtain ⟨f, p, lo, hi, o', e, r, f'⟩ := t_l_raw h hN true
  have e2 := t_l_normal (f := f) r.sc.p r.sc.lo r.sc.hi (by decide) r.le
  exact ⟨_, o', by simp [m_l_item, e_run, b_l_item, sizeL, e, e2], RQ.wf_nf r.f0 r.le, sc_nf r.sc (by decide), f'⟩
def handL : List PyData := match m_l_items_by_hand [] with
  | some (.d (.list xs), _) => xs
  | _ => []
theorem t_l_hand : m_l_items_by_hand [] = some (.d (.list handL), []) := by kernel_rfl
def handC : List RQ.Cl := [⟨1, 0, none, none⟩, ⟨0, 0, none, none⟩, ⟨0, -7 / 2, none, none⟩, ⟨1, 5, none, none⟩, ⟨2, 0, none, none⟩, ⟨1 / 2, -3, none, none⟩, ⟨1, 0, some 0, none⟩, ⟨1, 0, none, some 10⟩, ⟨1, 0, some (-5), some 5⟩, ⟨3, 1, some 2, some 20⟩]
theorem hand_eq : handL = handC.map cD := by kernel_rfl
theorem hand_ok : ∀ c ∈ handC, RQ.WF c ∧ Sc 14 c := by
  intro c hc
  simp only [handC, List.mem_cons, List.not_mem_nil, or_false] at hc
  rcases hc with rfl | rfl | rfl | rfl | rfl | rfl | rfl | rfl | rfl | rfl <;>
  exact ⟨⟨by decide +kernel, by decide +kernel, by first | trivial | (show (_ : Rat) < _; decide +kernel)⟩, ⟨by decide +kernel, by decide +kernel⟩, ⟨by decide +kernel, by decide +kernel⟩, fun q e => by first | (cases e; done) | (cases e; exact ⟨by decide +kernel, by decide +kernel⟩), fun q e => by first | (cases e; done) | (cases e; exact ⟨by decide +kernel, by decide +kernel⟩)⟩
end P1
set_option exponentiation.threshold 5000
set_option maxRecDepth 100000
set_option maxHeartbeats 4000000
namespace P1
open PySem PySem.Spec PyProof.Rows L2 DL
section
variable {f p : Rat} {lo hi : Option Rat} {b : Nat} (hb : 2 * b + 6 ≤ 4000)
include hb
end
end P1
set_option exponentiation.threshold 5000
set_option maxRecDepth 100000
set_option maxHeartbeats 4000000
namespace P1
open PySem PySem.Spec PyProof.Rows L2 DL
theorem ap_id (x : Rat) : RQ.ap idC x = x := by
  simp [RQ.ap, RQ.bd, idC, Rat.add_zero]
theorem id_ch {c : RQ.Cl} (h : RQ.WF c) : RQ.ch2 idC c = c := RQ.ext (RQ.wf_ch2 wf_id h) h fun x => by rw [RQ.ap_ch2 wf_id h, ap_id]
theorem chL_cons {c : RQ.Cl} (h : RQ.WF c) (cs : List RQ.Cl) : chL (c :: cs) = cs.foldl RQ.ch2 c := by
  show cs.foldl RQ.ch2 (RQ.ch2 idC c) = _
  rw [id_ch h]
theorem t_chLt {e0 : EV} {b : Nat} : ∀ (cs : List RQ.Cl) {x : RQ.Cl} {a : Nat} {e2 : EV}, Fs e2 → Sc a x → (∀ c ∈ cs, Sc b c) → b ≤ a → 8 * (a + (2 * b + 1) * cs.length) + 20 ≤ 4000 + 8 * (2 * b + 1) →
    ∃ f2, forL (gNm 2) (sSet 1 (xCall (arity 2 m_chained_two) (aCons (xVar 1) (aCons (xVar 2) (aNil))))) (cs.map cD) [e0, .d (cD x), e2] = some (.nx [e0, .d (cD (cs.foldl RQ.ch2 x)), f2])
  | [], x, a, e2, _, _, _, _, _ => ⟨e2, rfl⟩
  | c :: cs, x, a, e2, h2, hx, hc, hb, hl => by
    have hm : (2 * b + 1) * (c :: cs).length = (2 * b + 1) * cs.length + (2 * b + 1) := Nat.mul_succ _ _
    have c0 := hc c List.mem_cons_self
    have e1 := t_ch2 hx (Sc.mono c0 hb) (by omega)
    obtain ⟨f2, e⟩ := t_chLt (e0 := e0) cs (e2 := .d (cD c)) (by simp) (sc_ch2 hx c0) (fun y hy => hc y (List.mem_cons_of_mem _ hy)) (by omega) (by omega)
    exact ⟨f2, forC_nx (ρ1 := [e0, .d (cD x), .d (cD c)]) (by simp [free_fs h2]) (by simp [e1]) e⟩
theorem t_chainedT {b : Nat} {c : RQ.Cl} {cs : List RQ.Cl} (w : RQ.WF c) (c0 : Sc b c) (hc : ∀ c ∈ cs, Sc b c) (hb : 1 ≤ b) (h8 : 8 * b + 20 ≤ 4000) (hl : 8 * (b + (2 * b + 1) * cs.length) + 20 ≤ 4000 + 8 * (2 * b + 1)) :
    m_chained ((c :: cs).map fun c => .d (cD c)) = some (.d (cD (chL (c :: cs))), (c :: cs).map fun c => .d (cD c)) := by
  have e1 := t_ch2 (Sc.mono sc_id hb) c0 h8
  rw [id_ch w] at e1
  obtain ⟨f2, e⟩ := t_chLt (e0 := .d (.tuple ((c :: cs).map cD))) cs (e2 := .d (cD c)) (by simp) c0 hc (Nat.le_refl _) hl
  have e' : forL (gNm 2) (sSet 1 (xCall (arity 2 m_chained_two) (aCons (xVar 1) (aCons (xVar 2) (aNil))))) ((c :: cs).map cD) [.d (.tuple ((c :: cs).map cD)), .d (cD idC), .un] = some (.nx [.d (.tuple ((c :: cs).map cD)), .d (cD (cs.foldl RQ.ch2 c)), f2]) :=
    forC_nx (ρ1 := [.d (.tuple ((c :: cs).map cD)), .d (cD idC), .d (cD c)]) (by simp) (by simp [e1]) e
  have hd : datEs ((c :: cs).map fun c => .d (cD c)) = some ((c :: cs).map cD) := by
    have := dat_of ((c :: cs).map cD)
    rwa [List.map_map] at this
  have hlen : ((c :: cs).map cD).length ≤ sizeLine := by
    rw [List.length_map, sizeL, List.length_cons]
    have : cs.length ≤ (2 * b + 1) * cs.length := Nat.le_mul_of_pos_left _ (by omega)
    omega
  have main : b_chained [.d (.tuple ((c :: cs).map cD)), .un, .un] = some (.rt (cD (chL (c :: cs))) [.d (.tuple ((c :: cs).map cD)), .d (cD (cs.foldl RQ.ch2 c)), f2]) := by
    unfold b_chained
    refine seq_nx (ρ1 := [.d (.tuple ((c :: cs).map cD)), .d (cD idC), .un]) (by simp [cD_id]) ?_
    refine seq_nx (for_of (ds := (c :: cs).map cD) (by simp) e') ?_
    simp [chL_cons w]
  rw [m_chained, e_star, hd, Option.bind_some, if_pos hlen, run_rt (n := 3) (es := [.d (.tuple ((c :: cs).map cD))]) main]
  rfl
theorem t_chd0 : m_chained [] = some (.d (cD idC), []) := t_chained (b := 1) (cs := []) (fun c h => nomatch h) (by decide) (by decide)
theorem t_l_chained {cs : List RQ.Cl} (hc : ∀ c ∈ cs, Sc 14 c) (hn : cs.length ≤ 5) : m_l_chained [.d (.list (cs.map cD))] = some (.d (cD (chL cs)), [.d (.list (cs.map cD))]) := by
  have e := t_chained hc (by decide) (by have : 29 * cs.length ≤ 29 * 5 := Nat.mul_le_mul_left _ hn; omega)
  match cs, hn, e with
  | [], _, e => simp at e; simp [m_l_chained, e_run, b_l_chained, sizeL, e]
  | [a], _, e => simp at e; simp [m_l_chained, e_run, b_l_chained, sizeL, e]
  | [a, b], _, e => simp at e; simp [m_l_chained, e_run, b_l_chained, sizeL, e]
  | [a, b, c], _, e => simp at e; simp [m_l_chained, e_run, b_l_chained, sizeL, e]
  | [a, b, c, d], _, e => simp at e; simp [m_l_chained, e_run, b_l_chained, sizeL, e]
  | [a, b, c, d, f], _, e => simp at e; simp [m_l_chained, e_run, b_l_chained, sizeL, e]
  | _ :: _ :: _ :: _ :: _ :: _ :: _, hn, _ => simp at hn
end P1
set_option exponentiation.threshold 5000
set_option maxRecDepth 100000
set_option maxHeartbeats 4000000
namespace P1
open PySem PySem.Spec PyProof.Rows L2 DL
theorem neg_d (y : Rat) : (.tuple [.int (-y.num), .int (y.den : Int)] : PyData) = qD (-y) := by
  simp [qD, Rat.neg_num, Rat.neg_den]
theorem t_difference {x y : Rat} {b : Nat} (hx : Sq b x) (hy : Sq b y) (h : 2 * b + 3 ≤ 4000) : m_difference [.d (qD x), .d (qD y)] = some (.d (qD (x - y)), [.d (qD x), .d (qD y)]) := by
  have e := t_sum2 hx hy.neg h
  rw [← Rat.sub_eq_add_neg] at e
  simp [m_difference, e_run, b_difference, ix0, ix1, sizeL, neg_d, e]
theorem div_frac {x y : Rat} (hy : 0 < y) : Rat.divInt (x.num * (y.den : Int)) ((x.den : Int) * y.num) = x / y := by
  rw [Rat.div_def, Rat.inv_def]
  conv => rhs; rw [← Rat.num_divInt_den x]
  rw [Rat.divInt_mul_divInt]
theorem num_pos' {y : Rat} (h : 0 < y) : 0 < y.num := by
  have h1 := Rat.num_nonneg.mpr (Rat.le_of_lt h)
  have h2 : y.num ≠ 0 := fun e => by
    rw [Rat.num_eq_zero.mp e] at h
    exact absurd h (by decide)
  omega
theorem sq_div2 {x y : Rat} {a b : Nat} (hx : Sq a x) (hy : Sq b y) (h : 0 < y) : (x.num * (y.den : Int)).natAbs < 2 ^ (a + b) ∧ ((x.den : Int) * y.num).natAbs < 2 ^ (a + b) ∧ 0 < (x.den : Int) * y.num :=
  ⟨mul_lt_pow hx.n (den_lt hy), mul_lt_pow (den_lt hx) hy.n, Int.mul_pos (qden_pos x) (num_pos' h)⟩
theorem Sq.div {x y : Rat} {a b : Nat} (hx : Sq a x) (hy : Sq b y) (h : 0 < y) : Sq (a + b) (x / y) := by
  obtain ⟨h1, h2, h3⟩ := sq_div2 hx hy h
  rw [← div_frac h]
  exact sq_div h1 h2 h3
theorem t_quotient {x y : Rat} {a b : Nat} (hx : Sq a x) (hy : Sq b y) (h : 0 < y) (hb : a + b ≤ 4000) : m_quotient [.d (qD x), .d (qD y)] = some (.d (qD (x / y)), [.d (qD x), .d (qD y)]) := by
  obtain ⟨h1, h2, h3⟩ := sq_div2 hx hy h
  have p := pow_le hb
  have e := t_fraction h3 (Nat.lt_of_lt_of_le h1 p) (Nat.lt_of_lt_of_le h2 p)
  rw [div_frac h] at e
  have q : ∀ {z : Rat} {c : Nat}, Sq c z → c ≤ 4000 → Sq 4000 z := fun s hc => s.mono hc
  have sx := q hx (by omega)
  have sy := q hy (by omega)
  simp [m_quotient, e_run, b_quotient, ix0, ix1, sizeL, o_mulB sx.n (den_lt sy), o_mulB (den_lt sx) sy.n, e]
def bend (c : RQ.Cl) (l : Rat) : Rat := (l - c.p) / c.f
theorem t_bends {c : RQ.Cl} {b : Nat} (w : RQ.WF c) (hc : Sc b c) (h : 3 * b + 5 ≤ 4000) : m_bends_of [.d (cD c)] = some (.d (.list ((RQ.bds c).map qD)), [.d (cD c)]) := by
  obtain ⟨f, p, lo, hi⟩ := c
  have fp : ∀ l : Rat, (lo = some l ∨ hi = some l) → 0 < f := fun l hl => by
    have h0 : f ≠ 0 := fun hf => by
      have := w.2.1 hf
      rcases hl with hl | hl
      · have := this.1.symm.trans hl; cases this
      · have := this.2.symm.trans hl; cases this
    exact Rat.lt_of_le_of_ne w.1 (Ne.symm h0)
  have e1 : ∀ l : Rat, Sq b l → m_difference [.d (qD l), .d (qD p)] = some (.d (qD (l - p)), [.d (qD l), .d (qD p)]) := fun l hl => t_difference hl hc.p (by omega)
  have e2 : ∀ l : Rat, Sq b l → 0 < f → m_quotient [.d (qD (l - p)), .d (qD f)] = some (.d (qD ((l - p) / f)), [.d (qD (l - p)), .d (qD f)]) := fun l hl h0 => by
    have s := hl.add hc.p.neg
    rw [← Rat.sub_eq_add_neg] at s
    exact t_quotient s hc.f h0 (by omega)
  cases lo with
  | none => cases hi with
    | none => simp [m_bends_of, e_run, b_bends_of, cD, sizeL, unAt, RQ.bds]
    | some u =>
      have a1 := e1 u (hc.hi u rfl)
      have a2 := e2 u (hc.hi u rfl) (fp u (Or.inr rfl))
      simp [m_bends_of, e_run, b_bends_of, cD, sizeL, unAt, RQ.bds, RQ.be, a1, a2]
  | some l => cases hi with
    | none =>
      have a1 := e1 l (hc.lo l rfl)
      have a2 := e2 l (hc.lo l rfl) (fp l (Or.inl rfl))
      simp [m_bends_of, e_run, b_bends_of, cD, sizeL, unAt, RQ.bds, RQ.be, a1, a2]
    | some u =>
      have a1 := e1 l (hc.lo l rfl)
      have a2 := e2 l (hc.lo l rfl) (fp l (Or.inl rfl))
      have a3 := e1 u (hc.hi u rfl)
      have a4 := e2 u (hc.hi u rfl) (fp u (Or.inr rfl))
      simp [m_bends_of, e_run, b_bends_of, cD, sizeL, unAt, RQ.bds, RQ.be, a1, a2, a3, a4]
end P1
set_option exponentiation.threshold 5000
set_option maxRecDepth 100000
set_option maxHeartbeats 4000000
namespace P1
open PySem PySem.Spec PyProof.Rows L2 DL
def fl3 (bs : List Rat) : List Rat := bs.flatMap fun x => [x, x + 1, x + -1]
abbrev exB : XS := sDrop (xExt 2 (xLst (aCons (xVar 3) (aCons (xCall m_fraction_sum (aCons (xVar 3) (aCons (xTup (aCons (xC (.int 1)) (aCons (xC (.int 1)) (aNil)))) (aNil)))) (aCons (xCall m_fraction_sum (aCons (xVar 3) (aCons (xTup (aCons (x1 negD (xC (.int 1))) (aCons (xC (.int 1)) (aNil)))) (aNil)))) (aNil))))))
theorem qm1' : (.tuple [.int (-1), .int 1] : PyData) = qD (-1) := rfl
theorem sm1' : Sq 1 (-1 : Rat) := ⟨by decide, by decide⟩
theorem ex_loop {e0 e1 : EV} {B : Nat} (hB : 2 * B + 5 ≤ 4000) (h1 : 1 ≤ B) : ∀ (bs acc : List Rat) {e3 : EV}, Fs e3 → (∀ x ∈ bs, Sq B x) → acc.length + 3 * bs.length ≤ 1000 →
    ∃ f3, forL (gNm 3) exB (bs.map qD) [e0, e1, .own (.ol (acc.map qD)) false, e3, .un] = some (.nx [e0, e1, .own (.ol ((acc ++ fl3 bs).map qD)) false, f3, .un])
  | [], acc, e3, _, _, _ => ⟨e3, by simp [fl3]⟩
  | x :: bs, acc, e3, h3, hx, hl => by
    rw [List.length_cons] at hl
    have x0 := hx x List.mem_cons_self
    have a1 := t_sum2 x0 (s1.mono h1) (by omega)
    have a2 := t_sum2 x0 (sm1'.mono h1) (by omega)
    obtain ⟨f3, e⟩ := ex_loop (e0 := e0) (e1 := e1) hB h1 bs (acc ++ [x, x + 1, x + -1]) (e3 := .d (qD x)) (by simp) (fun y hy => hx y (List.mem_cons_of_mem _ hy)) (by simp; omega)
    have hf : xLst (aCons (xVar 3) (aCons (xCall m_fraction_sum (aCons (xVar 3) (aCons (xTup (aCons (xC (.int 1)) (aCons (xC (.int 1)) (aNil)))) (aNil)))) (aCons (xCall m_fraction_sum (aCons (xVar 3) (aCons (xTup (aCons (x1 negD (xC (.int 1))) (aCons (xC (.int 1)) (aNil)))) (aNil)))) (aNil)))) [e0, e1, .own (.ol (acc.map qD)) false, .d (qD x), .un] = some (.list [qD x, qD (x + 1), qD (x + -1)], [e0, e1, .own (.ol (acc.map qD)) false, .d (qD x), .un]) := by
      simp [sizeL, q1, qm1', a1, a2]
    have ee := ext_of (i := 2) (ρ := [e0, e1, .own (.ol (acc.map qD)) false, .d (qD x), .un]) rfl hf rfl (by simp; omega)
    have hacc : acc ++ fl3 (x :: bs) = acc ++ [x, x + 1, x + -1] ++ fl3 bs := by simp [fl3]
    rw [hacc]
    refine ⟨f3, forC_nx (ρ1 := [e0, e1, .own (.ol (acc.map qD)) false, .d (qD x), .un]) (by simp [free_fs h3]) (ρ2 := [e0, e1, .own (.ol ((acc ++ [x, x + 1, x + -1]).map qD)) false, .d (qD x), .un]) ?_ e⟩
    unfold exB
    simp [ee]
abbrev dfB : XS := sIf (tst (x2 neD (xCall (arity 2 m_applied) (aCons (xVar 0) (aCons (xVar 4) (aNil)))) (xCall (arity 2 m_applied) (aCons (xVar 1) (aCons (xVar 4) (aNil)))))) (sRet (xVar 4)) (sNil)
theorem df_loop {a b : RQ.Cl} {B : Nat} (ha : Sc B a) (hb : Sc B b) (hB : 6 * B + 20 ≤ 4000) {e2 e3 : EV} : ∀ (xs : List Rat) {e4 : EV}, Fs e4 → (∀ x ∈ xs, Sq B x) →
    ((∀ x ∈ xs, RQ.ap a x = RQ.ap b x) ∧ ∃ f4, forL (gNm 4) dfB (xs.map qD) [.d (cD a), .d (cD b), e2, e3, e4] = some (.nx [.d (cD a), .d (cD b), e2, e3, f4])) ∨
    (∃ x, Sq B x ∧ RQ.ap a x ≠ RQ.ap b x ∧ ∃ f4, forL (gNm 4) dfB (xs.map qD) [.d (cD a), .d (cD b), e2, e3, e4] = some (.rt (qD x) [.d (cD a), .d (cD b), e2, e3, f4]))
  | [], e4, _, _ => Or.inl ⟨(fun x hx => nomatch hx), e4, rfl⟩
  | x :: xs, e4, h4, hx => by
    have x0 := hx x List.mem_cons_self
    have a1 := t_applied ha x0 hB
    have a2 := t_applied hb x0 hB
    have hs : gNm 4 (qD x) [.d (cD a), .d (cD b), e2, e3, e4] = some [.d (cD a), .d (cD b), e2, e3, .d (qD x)] := by simp [free_fs h4]
    by_cases hq : RQ.ap a x = RQ.ap b x
    · have st : dfB [.d (cD a), .d (cD b), e2, e3, .d (qD x)] = some (.nx [.d (cD a), .d (cD b), e2, e3, .d (qD x)]) := by
        unfold dfB
        simp [a1, a2, ne_qq, hq]
      rcases df_loop ha hb hB (e2 := e2) (e3 := e3) xs (e4 := .d (qD x)) (by simp) (fun y hy => hx y (List.mem_cons_of_mem _ hy)) with ⟨h1, f4, e⟩ | ⟨y, s, hy, f4, e⟩
      · exact Or.inl ⟨fun y hy => (List.mem_cons.mp hy).elim (fun h => h ▸ hq) (h1 y), f4, forC_nx hs st e⟩
      · exact Or.inr ⟨y, s, hy, f4, forC_nx hs st e⟩
    · have st : dfB [.d (cD a), .d (cD b), e2, e3, .d (qD x)] = some (.rt (qD x) [.d (cD a), .d (cD b), e2, e3, .d (qD x)]) := by
        unfold dfB
        simp [a1, a2, ne_qq, hq]
      exact Or.inr ⟨x, x0, hq, _, forC_rt hs st⟩
theorem sq_bds {c : RQ.Cl} {b : Nat} (w : RQ.WF c) (hc : Sc b c) : ∀ x ∈ RQ.bds c, Sq (3 * b + 1) x := by
  intro x hx
  obtain ⟨l, hl, rfl⟩ := List.mem_map.mp hx
  have sl : Sq b l := by
    rcases List.mem_append.mp hl with h | h
    · exact hc.lo l (Option.mem_toList.mp h)
    · exact hc.hi l (Option.mem_toList.mp h)
  have f0 : c.f ≠ 0 := fun hf => by
    have := w.2.1 hf
    rcases List.mem_append.mp hl with h | h
    · have h' := Option.mem_toList.mp h
      rw [this.1] at h'; cases h'
    · have h' := Option.mem_toList.mp h
      rw [this.2] at h'; cases h'
  have s := sl.add hc.p.neg
  rw [← Rat.sub_eq_add_neg] at s
  exact (P1.Sq.div s hc.f (Rat.lt_of_le_of_ne w.1 (Ne.symm f0))).mono (by omega)
theorem t_differs {a b : RQ.Cl} {B : Nat} (wa : RQ.WF a) (wb : RQ.WF b) (ha : Sc B a) (hb : Sc B b) (hB : 18 * B + 44 ≤ 4000) (h0 : 1 ≤ B) :
    ∃ o, m_differs_at [.d (cD a), .d (cD b)] = some (.d (oD o), [.d (cD a), .d (cD b)]) ∧ (o = none → a = b) ∧ ∀ x, o = some x → RQ.ap a x ≠ RQ.ap b x ∧ Sq (3 * B + 3) x := by
  have t1 := t_bends wa ha (by omega)
  have t2 := t_bends wb hb (by omega)
  have lb : ∀ c : RQ.Cl, (RQ.bds c).length ≤ 2 := fun c => by
    obtain ⟨f, p, lo, hi⟩ := c
    cases lo <;> cases hi <;> simp [RQ.bds]
  have l1 := lb a
  have l2 := lb b
  have sA := sq_bds wa ha
  have sB := sq_bds wb hb
  have sbs : ∀ x ∈ RQ.bds a ++ RQ.bds b, Sq (3 * B + 1) x := fun x hx => (List.mem_append.mp hx).elim (sA x) (sB x)
  obtain ⟨f3, e3⟩ := ex_loop (e0 := .d (cD a)) (e1 := .d (cD b)) (B := 3 * B + 1) (by omega) (by omega) (RQ.bds a ++ RQ.bds b) [0, 1] (e3 := .un) (by simp) sbs (by rw [List.length_append]; simp; omega)
  have sall : ∀ x ∈ [0, 1] ++ fl3 (RQ.bds a ++ RQ.bds b), Sq (3 * B + 3) x := by
    intro x hx
    rcases List.mem_append.mp hx with h | h
    · simp only [List.mem_cons, List.not_mem_nil, or_false] at h
      rcases h with rfl | rfl
      · exact s0.mono (by omega)
      · exact s1.mono (by omega)
    · obtain ⟨y, hy, h⟩ := List.mem_flatMap.mp h
      have sy := sbs y hy
      simp only [List.mem_cons, List.not_mem_nil, or_false] at h
      rcases h with rfl | rfl | rfl
      · exact sy.mono (by omega)
      · exact (sy.add s1).mono (by omega)
      · exact (sy.add sm1').mono (by omega)
  have nodes : ∀ x ∈ RQ.bds a ++ RQ.bds b, ∀ y, (y = x ∨ y = x + 1 ∨ y = x + -1) → y ∈ [0, 1] ++ fl3 (RQ.bds a ++ RQ.bds b) := by
    intro x hx y hy
    refine List.mem_append_right _ (List.mem_flatMap.mpr ⟨x, hx, ?_⟩)
    simp only [List.mem_cons, List.not_mem_nil, or_false]
    exact hy
  have p1 : sNew 2 (nLst (aCons (xTup (aCons (xC (.int 0)) (aCons (xC (.int 1)) (aNil)))) (aCons (xTup (aCons (xC (.int 1)) (aCons (xC (.int 1)) (aNil)))) (aNil)))) [.d (cD a), .d (cD b), .un, .un, .un] = some (.nx [.d (cD a), .d (cD b), .own (.ol (([0, 1] : List Rat).map qD)) false, .un, .un]) := by
    simp [sizeL, q0, q1]
  have p2 : iOf (x2 addD (xCall (arity 1 m_bends_of) (aCons (xVar 0) (aNil))) (xCall (arity 1 m_bends_of) (aCons (xVar 1) (aNil)))) [.d (cD a), .d (cD b), .own (.ol (([0, 1] : List Rat).map qD)) false, .un, .un] = some ((RQ.bds a ++ RQ.bds b).map qD, [.d (cD a), .d (cD b), .own (.ol (([0, 1] : List Rat).map qD)) false, .un, .un]) := by
    have hl : (RQ.bds a).length + (RQ.bds b).length ≤ 16777216 := by omega
    simp [sizeL, t1, t2, hl]
  have p3 : iOf (xVar 2) [.d (cD a), .d (cD b), .own (.ol (([0, 1] ++ fl3 (RQ.bds a ++ RQ.bds b)).map qD)) false, f3, .un] = some (([0, 1] ++ fl3 (RQ.bds a ++ RQ.bds b)).map qD, [.d (cD a), .d (cD b), .d (.list (([0, 1] ++ fl3 (RQ.bds a ++ RQ.bds b)).map qD)), f3, .un]) := by
    generalize ([0, 1] ++ fl3 (RQ.bds a ++ RQ.bds b)).map qD = M
    simp
  have zero : (0 : Rat) ∈ [0, 1] ++ fl3 (RQ.bds a ++ RQ.bds b) := List.mem_append_left _ (by simp)
  have one : (1 : Rat) ∈ [0, 1] ++ fl3 (RQ.bds a ++ RQ.bds b) := List.mem_append_left _ (by simp)
  generalize [0, 1] ++ fl3 (RQ.bds a ++ RQ.bds b) = xs at *
  rcases df_loop (P1.Sc.mono ha (show B ≤ 3 * B + 3 by omega)) (P1.Sc.mono hb (show B ≤ 3 * B + 3 by omega)) (by omega) (e2 := .d (.list (xs.map qD))) (e3 := f3) xs (e4 := .un) (by simp) sall with ⟨hall, f4, e⟩ | ⟨x, sx, hx, f4, e⟩
  · refine ⟨none, ?_, fun _ => ?_, fun x h => by cases h⟩
    · have main : b_differs_at [.d (cD a), .d (cD b), .un, .un, .un] = some (.rt .none [.d (cD a), .d (cD b), .d (.list (xs.map qD)), f3, f4]) := by
        unfold b_differs_at
        refine seq_nx p1 (seq_nx (for_of p2 e3) (seq_nx (for_of p3 e) ?_))
        simp
      exact run_rt (n := 5) (es := [.d (cD a), .d (cD b)]) main
    · refine RQ.agree wa wb (hall 0 zero) (hall 1 one) fun x hx => ⟨hall x (nodes x hx x (Or.inl rfl)), hall _ (nodes x hx _ (Or.inr (Or.inl rfl))), ?_⟩
      have := hall _ (nodes x hx _ (Or.inr (Or.inr rfl)))
      rwa [← Rat.sub_eq_add_neg] at this
  · refine ⟨some x, ?_, (fun h => by cases h), fun y h => by cases h; exact ⟨hx, sx⟩⟩
    have main : b_differs_at [.d (cD a), .d (cD b), .un, .un, .un] = some (.rt (qD x) [.d (cD a), .d (cD b), .d (.list (xs.map qD)), f3, f4]) := by
      unfold b_differs_at
      exact seq_nx p1 (seq_nx (for_of p2 e3) (seq_rt (for_of p3 e)))
    exact run_rt (n := 5) (es := [.d (cD a), .d (cD b)]) main
end P1
set_option maxRecDepth 100000
set_option maxHeartbeats 2000000
namespace DL
open PySem PySem.Spec PyProof.Rows L2
/-- one round of a for -/
def stepF (g : XG) (b : XS) (d : PyData) (ρ : Nv) : Option Fl := (g d ρ).bind b
theorem e_stepF (g : XG) (b : XS) (d : PyData) (ρ : Nv) : stepF g b d ρ = (g d ρ).bind fun ρ1 => b ρ1 := rfl
/-- p ends, and Q holds of how -/
def Wp (p : XS) (ρ : Nv) (Q : Fl → Prop) : Prop := ∃ r, p ρ = some r ∧ Q r
def We (f : XE) (ρ : Nv) (Q : PyData → Nv → Prop) : Prop := ∃ d ρ', f ρ = some (d, ρ') ∧ Q d ρ'
theorem wp_seq {p q : XS} {ρ : Nv} {Q : Fl → Prop} (h : Wp p ρ fun r => match r with | .nx ρ1 => Wp q ρ1 Q | r => Q r) : Wp (sSeq p q) ρ Q := by
  obtain ⟨r, e, i⟩ := h
  rw [Wp, e_seq, e, Option.bind_some]
  cases r with
  | nx ρ1 => exact i
  | _ => exact ⟨_, rfl, i⟩
theorem wp_nx {p q : XS} {ρ ρ1 : Nv} {Q : Fl → Prop} (h : p ρ = some (.nx ρ1)) (k : Wp q ρ1 Q) : Wp (sSeq p q) ρ Q := wp_seq ⟨_, h, k⟩
theorem wp_ret {f : XE} {ρ : Nv} {Q : Fl → Prop} (h : We f ρ fun d ρ' => Q (.rt d ρ')) : Wp (sRet f) ρ Q := by
  obtain ⟨d, ρ', e, q⟩ := h
  exact ⟨_, by rw [e_ret, e]; rfl, q⟩
theorem wp_drop {f : XE} {ρ : Nv} {Q : Fl → Prop} (h : We f ρ fun _ ρ' => Q (.nx ρ')) : Wp (sDrop f) ρ Q := by
  obtain ⟨d, ρ', e, q⟩ := h
  exact ⟨_, by rw [e_drop, e]; rfl, q⟩
theorem we_of {t : XE} {b : PyData} {ρ ρ' : Nv} {Q : PyData → Nv → Prop} (h : t ρ = some (b, ρ')) (q : Q b ρ') : We t ρ Q := ⟨b, ρ', h, q⟩
/-- a for whose rounds end -/
theorem for_J {α : Type} {g : XG} {b : XS} (k : α → PyData) (J : List α → Nv → Prop) (hs : ∀ x xs ρ, J (x :: xs) ρ → ∃ ρ1, stepF g b (k x) ρ = some (.nx ρ1) ∧ J xs ρ1) :
    ∀ (xs : List α) (ρ : Nv), J xs ρ → ∃ ρ1, forL g b (xs.map k) ρ = some (.nx ρ1) ∧ J [] ρ1
  | [], ρ, h => ⟨ρ, rfl, h⟩
  | x :: xs, ρ, h => by
    obtain ⟨ρ1, e, h1⟩ := hs x xs ρ h
    obtain ⟨ρ2, e2, h2⟩ := for_J k J hs xs ρ1 h1
    refine ⟨ρ2, ?_, h2⟩
    unfold stepF at e
    rw [List.map_cons, e_forC]
    cases hg : g (k x) ρ with
    | none => rw [hg] at e; cases e
    | some ρ3 => rw [hg, Option.bind_some] at e; rw [Option.bind_some, e, Option.bind_some]; exact e2
theorem wp_for {α : Type} {it : XI} {g : XG} {b : XS} {ρ ρ0 : Nv} {Q : Fl → Prop} (k : α → PyData) (xs : List α) (J : List α → Nv → Prop) (hi : it ρ = some (xs.map k, ρ0)) (h0 : J xs ρ0)
    (hs : ∀ x xs ρ, J (x :: xs) ρ → ∃ ρ1, stepF g b (k x) ρ = some (.nx ρ1) ∧ J xs ρ1) (hk : ∀ ρ1, J [] ρ1 → Q (.nx ρ1)) : Wp (sFor it g b) ρ Q := by
  obtain ⟨ρ1, e, h⟩ := for_J k J hs xs ρ0 h0
  exact ⟨_, by rw [e_for, hi, Option.bind_some]; exact e, hk ρ1 h⟩
/-- the same, with rounds shown by Wp -/
theorem wp_forW {α : Type} {it : XI} {g : XG} {b : XS} {ρ ρ0 : Nv} {Q : Fl → Prop} (k : α → PyData) (xs : List α) (J : List α → Nv → Prop) (hi : it ρ = some (xs.map k, ρ0)) (h0 : J xs ρ0)
    (hs : ∀ x xs ρ, J (x :: xs) ρ → ∃ ρ1, g (k x) ρ = some ρ1 ∧ Wp b ρ1 fun r => ∃ ρ2, r = .nx ρ2 ∧ J xs ρ2) (hk : ∀ ρ1, J [] ρ1 → Q (.nx ρ1)) : Wp (sFor it g b) ρ Q :=
  wp_for k xs J hi h0 (fun x xs ρ h => by
    obtain ⟨ρ1, e1, r, e2, ρ2, rfl, j⟩ := hs x xs ρ h
    exact ⟨ρ2, by rw [e_stepF, e1, Option.bind_some]; exact e2, j⟩) hk
/-- a for whose rounds end or return -/
theorem wp_forR {α : Type} {it : XI} {g : XG} {b : XS} {ρ ρ0 : Nv} {Q : Fl → Prop} (k : α → PyData) (xs : List α) (J : List α → Nv → Prop) (hi : it ρ = some (xs.map k, ρ0)) (h0 : J xs ρ0)
    (hs : ∀ x xs ρ, J (x :: xs) ρ → (∃ ρ1, stepF g b (k x) ρ = some (.nx ρ1) ∧ J xs ρ1) ∨ ∃ d ρ1, stepF g b (k x) ρ = some (.rt d ρ1) ∧ Q (.rt d ρ1)) (hk : ∀ ρ1, J [] ρ1 → Q (.nx ρ1)) : Wp (sFor it g b) ρ Q := by
  have key : ∀ (xs : List α) (ρ : Nv), J xs ρ → ∃ r, forL g b (xs.map k) ρ = some r ∧ Q r := by
    intro xs
    induction xs with
    | nil => exact fun ρ h => ⟨_, rfl, hk ρ h⟩
    | cons x xs ih =>
      intro ρ h
      rcases hs x xs ρ h with ⟨ρ1, e, h1⟩ | ⟨d, ρ1, e, q⟩
      · obtain ⟨r, e2, q⟩ := ih ρ1 h1
        refine ⟨r, ?_, q⟩
        unfold stepF at e
        rw [List.map_cons, e_forC]
        cases hg : g (k x) ρ with
        | none => rw [hg] at e; cases e
        | some ρ3 => rw [hg, Option.bind_some] at e; rw [Option.bind_some, e, Option.bind_some]; exact e2
      · refine ⟨_, ?_, q⟩
        unfold stepF at e
        rw [List.map_cons, e_forC]
        cases hg : g (k x) ρ with
        | none => rw [hg] at e; cases e
        | some ρ3 => rw [hg, Option.bind_some] at e; rw [Option.bind_some, e, Option.bind_some]
  obtain ⟨r, e, q⟩ := key xs ρ0 h0
  exact ⟨r, by rw [e_for, hi, Option.bind_some]; exact e, q⟩
/-- one round of a comprehension: what it adds, and the slots behind it -/
def lcS (g : XG) (c : XT) (e : XE) (vs : List Nat) (d : PyData) (ρ : Nv) : Option (Option PyData × Nv) :=
  (g d ρ).bind fun ρ1 => (c ρ1).bind fun p => if p.1 = true then (e p.2).bind fun q => (wipeN q.2 vs).map fun ρ2 => (some q.1, ρ2) else (wipeN p.2 vs).map fun ρ2 => (none, ρ2)
theorem e_lcS (g : XG) (c : XT) (e : XE) (vs : List Nat) (d : PyData) (ρ : Nv) : lcS g c e vs d ρ =
  (g d ρ).bind fun ρ1 => (c ρ1).bind fun p => if p.1 = true then (e p.2).bind fun q => (wipeN q.2 vs).map fun ρ2 => (some q.1, ρ2) else (wipeN p.2 vs).map fun ρ2 => (none, ρ2) := rfl
theorem lc_step {g : XG} {c : XT} {e : XE} {vs : List Nat} {d : PyData} {ρ ρ1 : Nv} {o : Option PyData} (h : lcS g c e vs d ρ = some (o, ρ1)) {acc : List PyData} (hl : acc.length < 16777216) (ds : List PyData) :
    lcL g c e vs (d :: ds) ρ acc = lcL g c e vs ds ρ1 (acc ++ o.toList) := by
  unfold lcS at h
  rw [e_lcC]
  cases hg : g d ρ with
  | none => rw [hg] at h; cases h
  | some ρ2 =>
    rw [hg, Option.bind_some] at h
    rw [Option.bind_some]
    cases hc : c ρ2 with
    | none => rw [hc] at h; cases h
    | some p =>
      rw [hc, Option.bind_some] at h
      rw [Option.bind_some]
      by_cases hp : p.1 = true
      · rw [if_pos hp] at h ⊢
        cases he : e p.2 with
        | none => rw [he] at h; cases h
        | some q =>
          rw [he, Option.bind_some] at h
          rw [Option.bind_some, if_pos (by rw [sizeL]; exact hl)]
          cases hw : wipeN q.2 vs with
          | none => rw [hw] at h; cases h
          | some ρ3 =>
            rw [hw, Option.map_some] at h
            cases h
            rfl
      · rw [if_neg hp] at h ⊢
        cases hw : wipeN p.2 vs with
        | none => rw [hw] at h; cases h
        | some ρ3 =>
          rw [hw, Option.map_some] at h
          cases h
          rw [Option.bind_some, Option.toList_none, List.append_nil]
/-- a comprehension that changes nothing -/
theorem lc_pure {α : Type} {g : XG} {c : XT} {e : XE} {vs : List Nat} {ρ : Nv} {k : α → PyData} (f : α → Option PyData) :
    ∀ (xs : List α) (acc : List PyData), (∀ x ∈ xs, lcS g c e vs (k x) ρ = some (f x, ρ)) → acc.length + xs.length < 16777216 → lcL g c e vs (xs.map k) ρ acc = some (acc ++ xs.filterMap f, ρ)
  | [], acc, _, _ => by simp
  | x :: xs, acc, h, hl => by
    rw [List.length_cons] at hl
    rw [List.map_cons, lc_step (h x List.mem_cons_self) (by omega)]
    have hk : (f x).toList.length ≤ 1 := by cases f x <;> simp
    rw [lc_pure f xs _ (fun y hy => h y (List.mem_cons_of_mem _ hy)) (by rw [List.length_append]; omega)]
    cases hf : f x with
    | none => simp [List.filterMap_cons, hf]
    | some v => simp [List.filterMap_cons, hf]
theorem lc_map {α : Type} {g : XG} {c : XT} {e : XE} {vs : List Nat} {ρ : Nv} {k : α → PyData} (f : α → PyData) (xs : List α) (acc : List PyData) (h : ∀ x ∈ xs, lcS g c e vs (k x) ρ = some (some (f x), ρ)) (hl : acc.length + xs.length < 16777216) :
    lcL g c e vs (xs.map k) ρ acc = some (acc ++ xs.map f, ρ) := by
  rw [lc_pure (fun x => some (f x)) xs acc h hl]
  congr 3
  induction xs with
  | nil => rfl
  | cons x xs ih => simp [List.filterMap_cons]
/-- one that finds nothing -/
theorem lc_none {α : Type} {g : XG} {c : XT} {e : XE} {vs : List Nat} {ρ : Nv} {k : α → PyData} : ∀ (xs : List α) (acc : List PyData), (∀ x ∈ xs, lcS g c e vs (k x) ρ = some (none, ρ)) → acc.length < 16777216 → lcL g c e vs (xs.map k) ρ acc = some (acc, ρ)
  | [], acc, _, _ => rfl
  | x :: xs, acc, h, hl => by
    rw [List.map_cons, lc_step (h x List.mem_cons_self) hl, Option.toList_none, List.append_nil]
    exact lc_none xs acc (fun y hy => h y (List.mem_cons_of_mem _ hy)) hl
/-- one with a state: every round adds a good thing and keeps the invariant -/
theorem lc_J {α β : Type} {g : XG} {c : XT} {e : XE} {vs : List Nat} {k : α → PyData} (kb : β → PyData) (G : β → Prop) (J : Nat → Nv → Prop) (n : Nat)
    (hs : ∀ x ρ m, m ≤ n → J (m + 1) ρ → ∃ y ρ1, lcS g c e vs (k x) ρ = some (some (kb y), ρ1) ∧ G y ∧ J m ρ1) :
    ∀ (xs : List α) (acc : List β) (ρ : Nv), xs.length ≤ n → J xs.length ρ → acc.length + xs.length < 16777216 → ∃ ys ρ1, lcL g c e vs (xs.map k) ρ (acc.map kb) = some ((acc ++ ys).map kb, ρ1) ∧ ys.length = xs.length ∧ (∀ y ∈ ys, G y) ∧ J 0 ρ1
  | [], acc, ρ, _, h, _ => ⟨[], ρ, by simp, rfl, (fun y hy => nomatch hy), h⟩
  | x :: xs, acc, ρ, hn, h, hl => by
    rw [List.length_cons] at hl hn
    obtain ⟨y, ρ1, e1, gy, j1⟩ := hs x ρ xs.length (by omega) h
    obtain ⟨ys, ρ2, e2, h2, h3, h4⟩ := lc_J kb G J n hs xs (acc ++ [y]) ρ1 (by omega) j1 (by rw [List.length_append, List.length_singleton]; omega)
    refine ⟨y :: ys, ρ2, ?_, by rw [List.length_cons, List.length_cons, h2], ?_, h4⟩
    · rw [List.map_cons, lc_step e1 (by rw [List.length_map]; omega), Option.toList_some]
      rw [List.map_append] at e2
      simp only [List.map_cons, List.map_nil] at e2
      rw [e2, List.append_assoc]
      rfl
    · intro z hz
      rcases List.mem_cons.mp hz with rfl | hz
      · exact gy
      · exact h3 z hz
@[simp] theorem e_pickR (d : PyData) (s : Sel) (as : List AV) : pick (.inr d :: s) as = if flatD d = true then (pick s as).map (.v d :: ·) else none := rfl
@[simp] theorem fl_none : flatD .none = true := rfl
@[simp] theorem fl_bool (b : Bool) : flatD (.bool b) = true := rfl
@[simp] theorem fl_int (i : Int) : flatD (.int i) = true := rfl
@[simp] theorem fl_str (s : Str) : flatD (.str s) = true := rfl
section
variable {α : Type} {it : XI} {g : XG} {c : XT} {e : XE} {vs : List Nat} {ρ ρ1 : Nv} {k : α → PyData} {xs : List α}
theorem fz_lc {ds zs : List PyData} {ρ2 : Nv} (hi : it ρ = some (ds, ρ1)) (hu : unAt ρ1 vs = true) (h : lcL g c e vs ds ρ1 [] = some (zs, ρ2)) : xFz (nLc it g c e vs) ρ = some (.list zs, ρ2) := by
  rw [e_fz, e_lc, hi, Option.bind_some, if_pos hu, h]; rfl
theorem fz_none (hi : it ρ = some (xs.map k, ρ1)) (hu : unAt ρ1 vs = true) (h : ∀ x ∈ xs, lcS g c e vs (k x) ρ1 = some (none, ρ1)) : xFz (nLc it g c e vs) ρ = some (.list [], ρ1) :=
  fz_lc hi hu (lc_none xs [] h (by decide))
theorem fz_map (f : α → PyData) (hi : it ρ = some (xs.map k, ρ1)) (hu : unAt ρ1 vs = true) (h : ∀ x ∈ xs, lcS g c e vs (k x) ρ1 = some (some (f x), ρ1)) (hl : xs.length < 1000000) : xFz (nLc it g c e vs) ρ = some (.list (xs.map f), ρ1) :=
  fz_lc hi hu (lc_map f xs [] h (by rw [List.length_nil]; omega))
theorem we_lcJ {β : Type} {Q : PyData → Nv → Prop} (kb : β → PyData) (G : β → Prop) (J : Nat → Nv → Prop) (hi : it ρ = some (xs.map k, ρ1)) (hu : unAt ρ1 vs = true) (h0 : J xs.length ρ1)
    (hs : ∀ x ρ m, m ≤ xs.length → J (m + 1) ρ → ∃ y ρ1, lcS g c e vs (k x) ρ = some (some (kb y), ρ1) ∧ G y ∧ J m ρ1) (hl : xs.length < 1000000)
    (q : ∀ (ys : List β) ρ1, ys.length = xs.length → (∀ y ∈ ys, G y) → J 0 ρ1 → Q (.list (ys.map kb)) ρ1) : We (xFz (nLc it g c e vs)) ρ Q := by
  obtain ⟨ys, ρ2, e1, h1, h2, h3⟩ := lc_J kb G J xs.length hs xs [] ρ1 (Nat.le_refl _) h0 (by rw [List.length_nil]; omega)
  exact ⟨_, _, fz_lc hi hu e1, q ys ρ2 h1 h2 h3⟩
end
section
variable {α : Type} {it : XI} {g : XG} {c : XT} {e : XE} {vs : List Nat} {ρ ρ1 : Nv} {k : α → PyData} {xs : List α}
end
section
variable {α β : Type} {it : XI} {g : XG} {c : XT} {it1 : XI} {g1 : XG} {c1 : XT} {e : XE} {vs vs1 : List Nat} {ρ ρ1 : Nv} {k : α → PyData} {k1 : β → PyData} {xs : List α}
theorem lc2_pure (ys : α → List β) (f : α → β → Option PyData) (M : Nat) : ∀ (xs : List α) (acc : List PyData), (∀ x ∈ xs, ∃ ρx, g (k x) ρ = some ρx ∧ c ρx = some (true, ρx) ∧ it1 ρx = some ((ys x).map k1, ρx) ∧ unAt ρx vs1 = true ∧
      (∀ y ∈ ys x, lcS g1 c1 e vs1 (k1 y) ρx = some (f x y, ρx)) ∧ wipeN ρx vs = some ρ ∧ (ys x).length ≤ M) → acc.length + M * xs.length < 16777216 →
    lc2L g c it1 g1 c1 e vs vs1 (xs.map k) ρ acc = some (acc ++ xs.flatMap fun x => (ys x).filterMap (f x), ρ)
  | [], acc, _, _ => by simp [lc2L]
  | x :: xs, acc, h, hl => by
    rw [List.length_cons, Nat.mul_add] at hl
    obtain ⟨ρx, h1, h2, h3, h4, h5, h6, h7⟩ := h x List.mem_cons_self
    have hlen : ((ys x).filterMap (f x)).length ≤ (ys x).length := List.length_filterMap_le _ _
    rw [List.map_cons]
    unfold lc2L
    rw [h1, Option.bind_some, h2, Option.bind_some, if_pos rfl, h3, Option.bind_some, if_pos h4, lc_pure (f x) (ys x) acc h5 (by omega), Option.bind_some, h6, Option.bind_some,
      lc2_pure ys f M xs _ (fun z hz => h z (List.mem_cons_of_mem _ hz)) (by rw [List.length_append]; omega)]
    rw [List.flatMap_cons, List.append_assoc]
theorem fz_lc2S {ds zs : List PyData} {ρ2 ρ3 ρ4 : Nv} (hi : it ρ = some (ds, ρ1)) (hw : wipeN ρ1 vs = some ρ2) (hu : unAt ρ2 vs = true) (h : lc2L g c it1 g1 c1 e vs vs1 ds ρ2 [] = some (zs, ρ3)) (hr : restN ρ ρ3 vs = some ρ4) : xFz (nLc2S it g c it1 g1 c1 e vs vs1) ρ = some (.list zs, ρ4) := by
  unfold nLc2S nSv nLc2
  rw [e_fz]
  have hi2 : itS it vs ρ = some (ds, ρ2) := by unfold itS; rw [hi, Option.bind_some, hw]; rfl
  simp only [hi2, Option.bind_some, if_pos hu, h, Option.map_some, hr]
  rfl
end
/-- the slot holds nothing or a datum -/
def Ud (e : EV) : Prop := e = .un ∨ ∃ d, e = .d d
@[simp] theorem ud_un : Ud .un := .inl rfl
@[simp] theorem ud_d (d : PyData) : Ud (.d d) := .inr ⟨d, rfl⟩
theorem Ud.fs {e : EV} (h : Ud e) : Fs e := by rcases h with rfl | ⟨d, rfl⟩ <;> simp
section
variable {α : Type} {it : XI} {g : XG} {c : XT} {e : XE} {v : Nat} {ρ : Nv} {k : α → PyData} {xs : List α} {x0 : EV}
end
/-- if [..] != []: .. -/
theorem if_none {E : XE} {A : XS} {ρ ρ1 : Nv} (h : E ρ = some (.list [], ρ1)) : sIf (tst (x2 neD E (xLst aNil))) A sNil ρ = some (.nx ρ1) := by
  simp [h, sizeL, show neD (.list []) (.list []) = some (.bool false) from rfl]
theorem eq_none {E : XE} {ρ ρ1 : Nv} (h : E ρ = some (.list [], ρ1)) : x2 eqD E (xLst aNil) ρ = some (.bool true, ρ1) := by
  simp [h, sizeL, show eqD (.list []) (.list []) = some (.bool true) from rfl]
theorem rngN_map (n : Nat) (f : XE) (ρ : Nv) (hf : f ρ = some (.int n, ρ)) (h : n < 1000000) : iRng f ρ = some ((List.range n).map fun (j : Nat) => PyData.int j, ρ) := e_rngN hf h
theorem we_app {i : Nat} {f : XE} {ρ : Nv} {zs : List PyData} {b : Bool} {Q : PyData → Nv → Prop} (h0 : ρ[i]? = some (.own (.ol zs) b))
    (h : We f ρ fun w ρ1 => ∃ vs io, ρ1[i]? = some (.own (.ol vs) io) ∧ vs.length < 16777216 ∧ Q .none (ρ1.set i (.own (.ol (vs ++ [w])) io))) : We (xApp i f) ρ Q := by
  obtain ⟨w, ρ1, e, vs, io, h1, hl, q⟩ := h
  exact ⟨_, _, app_of h0 e h1 hl, q⟩
@[simp] theorem e_parR2 (i j : Nat) (f g : XR) (ρ : Nv) : sParR i j f g ρ = (f ρ).bind fun p => (g p.2).bind fun q => (putR q.2 i p.1).bind fun ρ1 => (putR ρ1 j q.1).map .nx := rfl
theorem slots_v : ∀ ds : List PyData, slotsOf (ds.map .v) = []
  | [] => rfl
  | d :: ds => by rw [List.map_cons, e_slots1, slots_v ds]
theorem ent_v (ρ : Nv) : ∀ ds : List PyData, entN (ds.map .v) ρ = some (ds.map .d)
  | [] => rfl
  | d :: ds => by rw [List.map_cons, e_ent1, ent_v ρ ds]; rfl
theorem back_v (ρ : Nv) : ∀ ds : List PyData, back (ds.map .v) (ds.map .d) ρ = some ρ
  | [] => rfl
  | d :: ds => by rw [List.map_cons, List.map_cons, e_back1, back_v ρ ds]
theorem call_v {m : XF} {r : XA} {ρ ρ1 : Nv} {ds : List PyData} {x : PyData} (hr : r ρ = some (ds.map .v, ρ1)) (hm : m (ds.map .d) = some (.d x, ds.map .d)) : xCall m r ρ = some (x, ρ1) := by
  rw [e_call, e_gcall, hr, Option.bind_some]
  simp only [slots_v, List.nodup_nil, if_true, ent_v, Option.bind_some, hm, back_v, Option.map_some]
theorem call_starT {m : XF} {f : XE} {ρ ρ1 : Nv} {ds : List PyData} {x : PyData} (hf : f ρ = some (.tuple ds, ρ1)) (hm : m (ds.map .d) = some (.d x, ds.map .d)) : xCall m (aStar f) ρ = some (x, ρ1) :=
  call_v (by rw [e_star1, hf]; rfl) hm
theorem call_starL {m : XF} {f : XE} {ρ ρ1 : Nv} {ds : List PyData} {x : PyData} (hf : f ρ = some (.list ds, ρ1)) (hm : m (ds.map .d) = some (.d x, ds.map .d)) : xCall m (aStar f) ρ = some (x, ρ1) :=
  call_v (by rw [e_star1, hf]; rfl) hm
theorem notIn_ints (i : Nat) (xs : List Nat) : notInD (.int i) (.tuple (xs.map fun (j : Nat) => PyData.int j)) = some (.bool (!decide (i ∈ xs))) := by
  have h : (xs.map fun (j : Nat) => PyData.int j).all flatD = true := by simp [List.all_map, flatD, Function.comp_def]
  have e : ((xs.map fun (j : Nat) => PyData.int j).any fun z => PyData.eqv z (.int i)) = decide (i ∈ xs) := by
    induction xs with
    | nil => rfl
    | cons x xs ih =>
      rw [List.map_cons, List.any_cons, ih (by simp [List.all_map, flatD, Function.comp_def])]
      have : PyData.eqv (.int x) (.int i) = decide (i = x) := by
        show ((x : Int) == (i : Int)) = _
        by_cases hx : i = x
        · simp [hx]
        · have : ¬ (x : Int) = (i : Int) := by omega
          simp [hx, this]
      rw [this]
      by_cases h1 : i = x <;> by_cases h2 : i ∈ xs <;> simp [h1, h2]
  unfold notInD inD
  simp only [h, fl_int, Bool.and_true, if_true, Option.bind_some, e]
theorem run_wp {n : Nat} {body : XS} {es es' : List EV} {d : PyData} (h : Wp body (es ++ List.replicate (n - es.length) .un) fun r => ∃ ρ, r = .rt d ρ ∧ finA es ρ = es') : runF n body es = some (.d d, es') := by
  obtain ⟨r, e, ρ, rfl, h⟩ := h
  rw [run_rt e, h]
end DL
namespace RQ
end RQ
set_option exponentiation.threshold 5000
set_option maxRecDepth 100000
set_option maxHeartbeats 4000000
namespace P1
open PySem PySem.Spec PyProof.Rows L2 DL
def nxt (n : Nat) (o : List Nat) : List (List Nat) := (List.range n).filterMap fun k => if k ∈ o then none else some (o ++ [k])
def ords (n : Nat) : Nat → List (List Nat)
  | 0 => [[]]
  | t + 1 => (ords n t).flatMap (nxt n)
theorem mem_nxt {n : Nat} {o p : List Nat} : p ∈ nxt n o ↔ ∃ k, k < n ∧ k ∉ o ∧ p = o ++ [k] := by
  unfold nxt
  rw [List.mem_filterMap]
  constructor
  · rintro ⟨k, h1, h2⟩
    split at h2
    · cases h2
    · exact ⟨k, List.mem_range.mp h1, by assumption, (Option.some.inj h2).symm⟩
  · rintro ⟨k, h1, h2, rfl⟩
    exact ⟨k, List.mem_range.mpr h1, by rw [if_neg h2]⟩
theorem mem_ords {n : Nat} : ∀ {t : Nat} {o : List Nat}, o ∈ ords n t ↔ o.length = t ∧ o.Nodup ∧ ∀ k ∈ o, k < n
  | 0, o => by
    unfold ords
    constructor
    · intro h
      rw [List.mem_singleton.mp h]
      simp
    · rintro ⟨h, -, -⟩
      rw [List.length_eq_zero_iff.mp h]
      simp
  | t + 1, o => by
    unfold ords
    rw [List.mem_flatMap]
    constructor
    · rintro ⟨p, hp, ho⟩
      obtain ⟨h1, h2, h3⟩ := mem_ords.mp hp
      obtain ⟨k, k1, k2, rfl⟩ := mem_nxt.mp ho
      refine ⟨by rw [List.length_append, h1]; rfl, List.nodup_append.mpr ⟨h2, by simp, ?_⟩, ?_⟩
      · intro a ha b hb
        rw [List.mem_singleton.mp hb]
        exact fun e => k2 (e ▸ ha)
      · intro j hj
        rcases List.mem_append.mp hj with h | h
        · exact h3 j h
        · rw [List.mem_singleton.mp h]; exact k1
    · rintro ⟨h1, h2, h3⟩
      have hne : o ≠ [] := fun e => by rw [e] at h1; cases h1
      have e := List.dropLast_concat_getLast hne
      refine ⟨o.dropLast, mem_ords.mpr ⟨by rw [List.length_dropLast, h1]; rfl, h2.sublist (List.dropLast_sublist o), fun k hk => h3 k (List.dropLast_subset o hk)⟩, mem_nxt.mpr ⟨o.getLast hne, h3 _ (List.getLast_mem hne), ?_, e.symm⟩⟩
      rw [← e] at h2
      obtain ⟨-, -, h5⟩ := List.nodup_append.mp h2
      exact fun hk => h5 _ hk _ (List.mem_singleton.mpr rfl) rfl
theorem ords_len {n : Nat} : ∀ t, (ords n t).length ≤ n ^ t
  | 0 => by simp [ords]
  | t + 1 => by
    unfold ords
    rw [List.length_flatMap, Nat.pow_succ]
    have h : ∀ o, (nxt n o).length ≤ n := fun o => Nat.le_trans (List.length_filterMap_le _ _) (by rw [List.length_range]; exact Nat.le_refl _)
    have : ∀ l : List (List Nat), (l.map fun o => (nxt n o).length).sum ≤ l.length * n := by
      intro l
      induction l with
      | nil => simp
      | cons a l ih =>
        have := h a
        rw [List.map_cons, List.sum_cons, List.length_cons, Nat.add_mul]
        omega
    exact Nat.le_trans (this _) (Nat.mul_le_mul_right _ (ords_len t))
theorem perm_map {α β : Type} {f : α → β} {l m : List β} (h : l.Perm m) : ∀ xs : List α, m = xs.map f → ∃ ys : List α, ys.Perm xs ∧ l = ys.map f := by
  induction h with
  | nil => intro xs hx; cases xs with
    | nil => exact ⟨[], List.Perm.refl _, rfl⟩
    | cons a as => cases hx
  | cons x h ih => intro xs hx; cases xs with
    | nil => cases hx
    | cons a as =>
      obtain ⟨h1, h2⟩ := List.cons.inj hx
      obtain ⟨ys, p, e⟩ := ih as h2
      exact ⟨a :: ys, p.cons a, by rw [e, h1]; rfl⟩
  | swap x y l => intro xs hx; match xs, hx with
    | a :: b :: as, hx =>
      obtain ⟨h1, h2⟩ := List.cons.inj hx
      obtain ⟨h3, h4⟩ := List.cons.inj h2
      exact ⟨b :: a :: as, List.Perm.swap a b as, by rw [h1, h3, h4]; rfl⟩
  | trans h1 h2 ih1 ih2 =>
    intro xs hx
    obtain ⟨ys, p, e⟩ := ih2 xs hx
    obtain ⟨zs, q, e2⟩ := ih1 ys e
    exact ⟨zs, q.trans p, e2⟩
theorem range_get {α : Type} (cs : List α) (d : α) : (List.range cs.length).map (fun k => cs.getD k d) = cs := by
  apply List.ext_getElem
  · simp
  · intro i h1 h2
    simp [List.getD, List.getElem?_eq_getElem h2]
/-- the orders of the places are the orders of the things -/
theorem ord_perm {α : Type} {cs : List α} (d : α) {o : List Nat} (h : o ∈ ords cs.length cs.length) : (o.map fun k => cs.getD k d).Perm cs := by
  obtain ⟨h1, h2, h3⟩ := mem_ords.mp h
  have p : o.Perm (List.range cs.length) := by
    refine (List.perm_ext_iff_of_nodup h2 List.nodup_range).mpr fun k => ⟨fun hk => List.mem_range.mpr (h3 k hk), fun hk => ?_⟩
    apply Classical.byContradiction
    intro hn
    have := List.Nodup.length_le_of_subset (l₁ := k :: o) (l₂ := List.range cs.length) (List.nodup_cons.mpr ⟨hn, h2⟩) fun j hj => by
      rcases List.mem_cons.mp hj with rfl | hj
      · exact hk
      · exact List.mem_range.mpr (h3 j hj)
    rw [List.length_cons, List.length_range, h1] at this
    omega
  have := p.map fun k => cs.getD k d
  rwa [range_get] at this
theorem perm_ord {α : Type} {cs ds : List α} (d : α) (h : ds.Perm cs) : ∃ o ∈ ords cs.length cs.length, ds = o.map fun k => cs.getD k d := by
  obtain ⟨o, p, e⟩ := perm_map h (List.range cs.length) (range_get cs d).symm
  exact ⟨o, mem_ords.mpr ⟨by rw [p.length_eq, List.length_range], p.nodup_iff.mpr List.nodup_range, fun k hk => List.mem_range.mp (p.mem_iff.mp hk)⟩, e⟩
theorem t_chd {b : Nat} {cs : List RQ.Cl} (hw : ∀ c ∈ cs, RQ.WF c) (hc : ∀ c ∈ cs, Sc b c) (hb : 1 ≤ b) (h8 : 8 * b + 20 ≤ 4000) (hl : 8 * (b + (2 * b + 1) * cs.length) + 20 ≤ 4000 + 16 * (2 * b + 1)) :
    m_chained ((cs.map cD).map .d) = some (.d (cD (chL cs)), (cs.map cD).map .d) := by
  rw [List.map_map]
  cases cs with
  | nil => exact t_chd0
  | cons c cs =>
    refine t_chainedT (hw c List.mem_cons_self) (hc c List.mem_cons_self) (fun d h => hc d (List.mem_cons_of_mem _ h)) hb h8 ?_
    rw [List.length_cons, show (2 * b + 1) * (cs.length + 1) = (2 * b + 1) * cs.length + (2 * b + 1) from Nat.mul_succ _ _] at hl
    omega
abbrev ordD (o : List Nat) : PyData := .tuple (o.map fun (j : Nat) => PyData.int j)
def omB (cs : List RQ.Cl) : Bool := (ords cs.length cs.length).any fun o => !decide (chL (o.map fun k => cs.getD k idC) = chL cs)
theorem omB_iff (cs : List RQ.Cl) : omB cs = true ↔ ∃ ds : List RQ.Cl, ds.Perm cs ∧ chL ds ≠ chL cs := by
  unfold omB
  rw [List.any_eq_true]
  constructor
  · rintro ⟨o, ho, h⟩
    exact ⟨_, ord_perm idC ho, by simpa using h⟩
  · rintro ⟨ds, p, h⟩
    obtain ⟨o, ho, rfl⟩ := perm_ord idC p
    exact ⟨o, ho, by simpa using h⟩
theorem at_cs {cs : List RQ.Cl} {k : Nat} (h : k < cs.length) : atI (cs.map cD) (k : Int) = some (cD (cs.getD k idC)) := by
  rw [at_nn (by omega) (by rw [List.length_map]; omega), List.getElem?_map, Int.toNat_natCast, List.getElem?_eq_getElem h, List.getD, List.getElem?_eq_getElem h]
  rfl
theorem t_order {b : Nat} {cs : List RQ.Cl} (hw : ∀ c ∈ cs, RQ.WF c) (hc : ∀ c ∈ cs, Sc b c) (hb : 1 ≤ b) (hn : cs.length ≤ 5) (h8 : 8 * b + 20 ≤ 4000) (hl : 8 * (b + (2 * b + 1) * cs.length) + 20 ≤ 4000 + 16 * (2 * b + 1)) :
    m_order_matters ((cs.map cD).map .d) = some (.d (.bool (omB cs)), (cs.map cD).map .d) := by
  have e1 := t_chd hw hc hb h8 hl
  have e2 : ∀ o ∈ ords cs.length cs.length, m_chained (((o.map fun k => cs.getD k idC).map cD).map .d) = some (.d (cD (chL (o.map fun k => cs.getD k idC))), ((o.map fun k => cs.getD k idC).map cD).map .d) := fun o ho => by
    have p := ord_perm idC ho
    exact t_chd (fun c h => hw c (p.mem_iff.mp h)) (fun c h => hc c (p.mem_iff.mp h)) hb h8 (by rw [p.length_eq]; exact hl)
  have ol : ∀ t, t ≤ cs.length → (ords cs.length t).length ≤ 3125 := fun t ht => by
    have h1 : cs.length ^ t ≤ 5 ^ t := Nat.pow_le_pow_left hn t
    have h2 : 5 ^ t ≤ 5 ^ 5 := Nat.pow_le_pow_right (by decide) (by omega)
    exact Nat.le_trans (ords_len t) (Nat.le_trans h1 h2)
  have hlen : (cs.map cD).length = cs.length := List.length_map _
  generalize hD : cs.map cD = ds at *
  unfold m_order_matters
  rw [e_star, dat_of, Option.bind_some, if_pos (by rw [hlen, sizeL]; omega)]
  have main : runF 7 b_order_matters [.d (.tuple ds)] = some (.d (.bool (omB cs)), [.d (.tuple ds)]) := by
    refine run_wp ?_
    unfold b_order_matters
    refine wp_nx (ρ1 := [.d (.tuple ds), .d (cD (chL cs)), .un, .un, .un, .un, .un]) ?_ ?_
    · rw [e_set, call_starT (ds := ds) (ρ1 := [.d (.tuple ds), .un, .un, .un, .un, .un, .un]) rfl e1]
      rfl
    refine wp_nx (ρ1 := [.d (.tuple ds), .d (cD (chL cs)), .d (.list [ordD []]), .un, .un, .un, .un]) (by simp [sizeL]) ?_
    refine wp_seq (wp_for (fun (j : Nat) => PyData.int j) (List.range cs.length) (fun xs ρ => ∃ t a3, t + xs.length = cs.length ∧ Fs a3 ∧ ρ = [.d (.tuple ds), .d (cD (chL cs)), .d (.list ((ords cs.length t).map ordD)), a3, .un, .un, .un])
      (rngN_map cs.length _ _ (by simp [hlen]) (by omega)) ⟨0, .un, by rw [List.length_range, Nat.zero_add], by simp, rfl⟩ ?_ ?_)
    · rintro x xs ρ ⟨t, a3, ht, f3, rfl⟩
      rw [List.length_cons] at ht
      refine ⟨[.d (.tuple ds), .d (cD (chL cs)), .d (.list ((ords cs.length (t + 1)).map ordD)), .d (.int x), .un, .un, .un], ?_, t + 1, _, by omega, by simp, rfl⟩
      rw [e_stepF, show gNm 3 (.int x) [.d (.tuple ds), .d (cD (chL cs)), .d (.list ((ords cs.length t).map ordD)), a3, .un, .un, .un] = some [.d (.tuple ds), .d (cD (chL cs)), .d (.list ((ords cs.length t).map ordD)), .d (.int x), .un, .un, .un] by simp [free_fs f3], Option.bind_some, e_set]
      rw [fz_lc2S (ds := (ords cs.length t).map ordD) (ρ1 := [.d (.tuple ds), .d (cD (chL cs)), .d (.list ((ords cs.length t).map ordD)), .d (.int x), .un, .un, .un]) (ρ2 := [.d (.tuple ds), .d (cD (chL cs)), .d (.list ((ords cs.length t).map ordD)), .d (.int x), .un, .un, .un])
        (by simp) rfl rfl (lc2_pure (k1 := fun (j : Nat) => PyData.int j) (fun _ => List.range cs.length) (fun o k => if k ∈ o then none else some (ordD (o ++ [k]))) 5 (ords cs.length t) [] ?_ ?_) rfl]
      · have : (ords cs.length t).flatMap (fun o => (List.range cs.length).filterMap fun k => if k ∈ o then none else some (ordD (o ++ [k]))) = (ords cs.length (t + 1)).map ordD := by
          show _ = ((ords cs.length t).flatMap (nxt cs.length)).map ordD
          rw [List.map_flatMap]
          congr 1
          funext o
          unfold nxt
          rw [List.map_filterMap]
          congr 1
          funext k
          split <;> rfl
        rw [List.nil_append, this]
        simp
      · intro o ho
        refine ⟨[.d (.tuple ds), .d (cD (chL cs)), .d (.list ((ords cs.length t).map ordD)), .d (.int x), .d (ordD o), .un, .un], by simp, by simp, rngN_map cs.length _ _ (by simp [hlen]) (by omega), rfl, ?_, rfl, by rw [List.length_range]; exact hn⟩
        intro k hk
        have hol : o.length ≤ 5 := by
          obtain ⟨q, -, -⟩ := mem_ords.mp ho
          omega
        have e := notIn_ints k o
        by_cases hm : k ∈ o
        · simp [e_lcS, e, hm]
        · have hs : o.length + 1 ≤ 16777216 := by omega
          simp [e_lcS, e, hm, sizeL, hs]
      · have := ol t (by omega)
        rw [List.length_nil]
        omega
    rintro ρ ⟨t, a3, ht, f3, rfl⟩
    rw [List.length_nil, Nat.add_zero] at ht
    subst ht
    have oe : omB cs = (ords cs.length cs.length).any fun o => !decide (chL (o.map fun k => cs.getD k idC) = chL cs) := rfl
    refine wp_seq (wp_forR ordD (ords cs.length cs.length) (fun xs ρ => (∀ o ∈ xs, o ∈ ords cs.length cs.length) ∧ (omB cs = xs.any fun o => !decide (chL (o.map fun k => cs.getD k idC) = chL cs)) ∧ ∃ a4 a5, Fs a4 ∧ Fs a5 ∧ ρ = [.d (.tuple ds), .d (cD (chL cs)), .d (.list ((ords cs.length cs.length).map ordD)), a3, a4, a5, .un])
      (by simp) ⟨fun o h => h, oe, .un, .un, by simp, by simp, rfl⟩ ?_ ?_)
    · rintro o xs ρ ⟨hx, hB, a4, a5, f4, f5, rfl⟩
      have ho := hx o List.mem_cons_self
      have e3 := e2 o ho
      have hstep : stepF (gNm 4) (sSeq (sSet 5 (xFz (nLc (iOf (xVar 4)) (gNm 6) (cYes) (x2 idxD (xVar 0) (xVar 6)) [6]))) (sIf (tst (x2 neD (xCall m_chained (aStar (xVar 5))) (xVar 1))) (sRet (xC (.bool true))) (sNil))) (ordD o)
          [.d (.tuple ds), .d (cD (chL cs)), .d (.list ((ords cs.length cs.length).map ordD)), a3, a4, a5, .un] =
          if chL (o.map fun k => cs.getD k idC) = chL cs then some (.nx [.d (.tuple ds), .d (cD (chL cs)), .d (.list ((ords cs.length cs.length).map ordD)), a3, .d (ordD o), .d (.list ((o.map fun k => cs.getD k idC).map cD)), .un])
          else some (.rt (.bool true) [.d (.tuple ds), .d (cD (chL cs)), .d (.list ((ords cs.length cs.length).map ordD)), a3, .d (ordD o), .d (.list ((o.map fun k => cs.getD k idC).map cD)), .un]) := by
        rw [e_stepF, show gNm 4 (ordD o) [.d (.tuple ds), .d (cD (chL cs)), .d (.list ((ords cs.length cs.length).map ordD)), a3, a4, a5, .un] = some [.d (.tuple ds), .d (cD (chL cs)), .d (.list ((ords cs.length cs.length).map ordD)), a3, .d (ordD o), a5, .un] by simp [free_fs f4], Option.bind_some]
        refine seq_nx (ρ1 := [.d (.tuple ds), .d (cD (chL cs)), .d (.list ((ords cs.length cs.length).map ordD)), a3, .d (ordD o), .d (.list ((o.map fun k => cs.getD k idC).map cD)), .un]) ?_ ?_
        · rw [e_set, fz_map (k := fun (j : Nat) => PyData.int j) (xs := o) (ρ1 := [.d (.tuple ds), .d (cD (chL cs)), .d (.list ((ords cs.length cs.length).map ordD)), a3, .d (ordD o), a5, .un]) (fun k => cD (cs.getD k idC)) (by simp) rfl ?_ ?_]
          · simp [free_fs f5, List.map_map, Function.comp_def]
          · intro k hk
            have := at_cs (cs := cs) ((mem_ords.mp ho).2.2 k hk)
            rw [hD] at this
            simp [e_lcS, this]
          · have := (mem_ords.mp ho).1
            omega
        · rw [e_sif, e_tst, e_2, call_starL (ds := (o.map fun k => cs.getD k idC).map cD) (ρ1 := [.d (.tuple ds), .d (cD (chL cs)), .d (.list ((ords cs.length cs.length).map ordD)), a3, .d (ordD o), .d (.list ((o.map fun k => cs.getD k idC).map cD)), .un]) (by simp) e3]
          generalize chL (o.map fun k => cs.getD k idC) = X
          by_cases hX : X = chL cs <;> simp [ne_cc, hX]
      by_cases hX : chL (o.map fun k => cs.getD k idC) = chL cs
      · rw [if_pos hX] at hstep
        refine .inl ⟨_, hstep, fun y hy => hx y (List.mem_cons_of_mem _ hy), ?_, _, _, by simp, by simp, rfl⟩
        rw [hB, List.any_cons, hX]
        simp
      · rw [if_neg hX] at hstep
        have hT : omB cs = true := by rw [hB, List.any_cons, decide_eq_false hX]; rfl
        refine .inr ⟨_, _, hstep, ?_⟩
        rw [hT]
        exact ⟨_, rfl, rfl⟩
    · rintro ρ ⟨-, hB, a4, a5, f4, f5, rfl⟩
      rw [List.any_nil] at hB
      rw [hB]
      exact wp_ret (we_of rfl ⟨_, rfl, rfl⟩)
  rw [main]
  rfl
end P1
set_option exponentiation.threshold 5000
set_option maxRecDepth 100000
set_option maxHeartbeats 4000000
namespace P1
open PySem PySem.Spec PyProof.Rows L2 DL
theorem t_l_matters {b : Nat} {cs : List RQ.Cl} (hw : ∀ c ∈ cs, RQ.WF c) (hc : ∀ c ∈ cs, Sc b c) (hb : 1 ≤ b) (hn : cs.length ≤ 5) (h8 : 8 * b + 20 ≤ 4000) (hl : 8 * (b + (2 * b + 1) * cs.length) + 20 ≤ 4000 + 16 * (2 * b + 1)) :
    m_l_matters [.d (.list (cs.map cD))] = some (.d (.bool (omB cs)), [.d (.list (cs.map cD))]) := by
  have e := t_order hw hc hb hn h8 hl
  generalize omB cs = B at *
  clear hw hc hl
  match cs, hn, e with
  | [], _, e => simp at e; simp [m_l_matters, e_run, b_l_matters, sizeL, e]
  | [a], _, e => simp at e; simp [m_l_matters, e_run, b_l_matters, sizeL, e]
  | [a, b], _, e => simp at e; simp [m_l_matters, e_run, b_l_matters, sizeL, e]
  | [a, b, c], _, e => simp at e; simp [m_l_matters, e_run, b_l_matters, sizeL, e]
  | [a, b, c, d], _, e => simp at e; simp [m_l_matters, e_run, b_l_matters, sizeL, e]
  | [a, b, c, d, f], _, e => simp at e; simp [m_l_matters, e_run, b_l_matters, sizeL, e]
  | _ :: _ :: _ :: _ :: _ :: _ :: _, h, _ => exact absurd h (by simp only [List.length_cons]; omega)
end P1
set_option exponentiation.threshold 5000
set_option maxRecDepth 100000
set_option maxHeartbeats 4000000
namespace K04
open PySem PySem.Spec PyProof.Rows L2 DL
open P1 (s0 s1 q0 q1 so so_none so_some idC chL sq_ap so_ea sc_ch2 sc_id nn_o Raw)
theorem p_chained : m_chained = P1.m_chained := rfl
theorem p_values_of : m_values_of = P1.m_values_of := rfl
theorem p_commute : m_commute = P1.m_commute := rfl
theorem p_differs_at : m_differs_at = P1.m_differs_at := rfl
theorem p_l_const : m_l_constant = P1.m_l_constant := rfl
theorem p_l_bounded : m_l_bounded = P1.m_l_bounded := rfl
theorem p_l_feed : m_l_feed = P1.m_l_feed := rfl
theorem p_l_draw : m_l_draw = P1.m_l_draw := rfl
theorem p_l_item : m_l_item = P1.m_l_item := rfl
theorem p_l_hand : m_l_items_by_hand = P1.m_l_items_by_hand := rfl
theorem p_l_chained : m_l_chained = P1.m_l_chained := rfl
theorem p_l_matters : m_l_matters = P1.m_l_matters := rfl
abbrev gC : XT := tst (x2 neD (xVar 1) (xC (.int 0)))
abbrev gB : XS := sPar 0 1 (xVar 1) (x2 modD (xVar 0) (xVar 1))
theorem gcd_loopS : ∀ (n : Nat) (i j : Int), 0 ≤ j → j.natAbs < n → ∃ g : Int, whL gC gB n [.d (.int i), .d (.int j)] = some (.nx [.d (.int g), .d (.int 0)]) ∧ g.natAbs = Int.gcd i j ∧ (0 ≤ i → 0 ≤ g)
  | 0, _, _, _, h => absurd h (Nat.not_lt_zero _)
  | n + 1, i, j, h0, h => by
    by_cases hj : j = 0
    · subst hj
      refine ⟨i, by simp [whL, gC], by simp, fun h => h⟩
    · have hp : 0 < j := by omega
      have h1 := Int.emod_nonneg i hj
      have h2 := Int.emod_lt_of_pos i hp
      obtain ⟨g, e, q1, q2⟩ := gcd_loopS n j (i % j) h1 (by omega)
      refine ⟨g, ?_, by rw [q1, P1.gcd_step], fun _ => q2 (by omega)⟩
      rw [← e]
      simp [whL, gC, gB, hj, o_mod hp]
theorem t_gcd (i j : Int) : m_l_gcd [.d (.int i), .d (.int j)] = some (.d (.int (Int.gcd i j)), [.d (.int i), .d (.int j)]) := by
  have a1 : 0 ≤ (if i < 0 then -i else i) := by omega
  have a2 : 0 ≤ (if j < 0 then -j else j) := by omega
  obtain ⟨g, e, q1, q2⟩ := gcd_loopS ((if j < 0 then -j else j).natAbs + 1) (if i < 0 then -i else i) (if j < 0 then -j else j) a2 (by omega)
  have eg : g = (Int.gcd i j : Int) := by
    have q3 := q2 a1
    have e1 : Int.gcd (if i < 0 then -i else i) (if j < 0 then -j else j) = Int.gcd i j := by
      have n1 : (if i < 0 then -i else i).natAbs = i.natAbs := by omega
      have n2 : (if j < 0 then -j else j).natAbs = j.natAbs := by omega
      unfold Int.gcd
      rw [n1, n2]
    rw [e1] at q1
    omega
  subst eg
  simp [m_l_gcd, e_run, b_l_gcd, sWh, gcdFuel, e, absD]
theorem t_l_ratio {n d : Int} (hd : 0 < d) (hb : d.natAbs < 2 ^ 4000) : m_l_ratio [.d (.int n), .d (.int d)] = some (.d (qD (Rat.divInt n d)), [.d (.int n), .d (.int d)]) := by
  have f := fun i => o_fdivB (i := i) (gcd_posB (n := n) (d := d) (by omega)) (gcd_ltB (n := n) (by omega) hb)
  rw [qD_frac hd]
  simp [m_l_ratio, e_run, b_l_ratio, t_gcd, hd, f, sizeL]
section
variable {x y : Rat} {a b : Nat} (hx : Sq a x) (hy : Sq b y)
include hx hy
theorem t_l_add (h : a + b + 1 ≤ 4000) : m_l_add [.d (qD x), .d (qD y)] = some (.d (qD (x + y)), [.d (qD x), .d (qD y)]) := by
  obtain ⟨h1, h2, h3⟩ := sq_add_parts hx hy
  have hx' := hx.mono (show a ≤ 4000 by omega)
  have hy' := hy.mono (show b ≤ 4000 by omega)
  have e := t_l_ratio (n := x.num * (y.den : Int) + y.num * (x.den : Int)) h3 (Nat.lt_of_lt_of_le h2 (pow_le h))
  rw [add_frac] at e
  simp [m_l_add, e_run, b_l_add, ix0, ix1, o_mulB hx'.n (den_lt hy'), o_mulB hy'.n (den_lt hx'), o_mulB (den_lt hx') (den_lt hy'), e]
theorem t_l_times (h : a + b + 1 ≤ 4000) : m_l_times [.d (qD x), .d (qD y)] = some (.d (qD (x * y)), [.d (qD x), .d (qD y)]) := by
  obtain ⟨h1, h2, h3⟩ := sq_mul_parts hx hy
  have hx' := hx.mono (show a ≤ 4000 by omega)
  have hy' := hy.mono (show b ≤ 4000 by omega)
  have e := t_l_ratio (n := x.num * y.num) h3 (Nat.lt_of_lt_of_le h2 (pow_le (show a + b ≤ 4000 by omega)))
  rw [mul_frac] at e
  simp [m_l_times, e_run, b_l_times, ix0, ix1, o_mulB hx'.n hy'.n, o_mulB (den_lt hx') (den_lt hy'), e]
end
theorem t_l_apply {c : RQ.Cl} {x : Rat} {b : Nat} (hc : Sc b c) (hx : Sq b x) (wc : RQ.WF c) (h : 6 * b + 20 ≤ 4000) : m_l_apply [.d (cD c), .d (qD x)] = some (.d (qD (RQ.ap c x)), [.d (cD c), .d (qD x)]) := by
  have e1 := t_l_times hc.f hx (by omega)
  have s1 := hc.f.mul hx
  have e2 := t_l_add s1 hc.p (by omega)
  have s2 := s1.add hc.p
  have e3 := P1.t_l_bounded (b := b + b + b + 1) (s2.mono (by omega)) (fun q e => (hc.lo q e).mono (by omega)) (fun q e => (hc.hi q e).mono (by omega)) (by omega) (RQ.lt_le wc.2.2)
  simp [m_l_apply, e_run, b_l_apply, P1.ixc0, P1.ixc1, P1.ixc2, P1.ixc3, e1, e2, p_l_bounded, e3, RQ.ap]
theorem t_l_normal {f p : Rat} {lo hi : Option Rat} {b : Nat} (hp : Sq b p) (hl : so b lo) (hh : so b hi) (h : 2 * b + 3 ≤ 4000) (hle : RQ.leO lo hi) :
    m_l_normal [.d (qD f), .d (qD p), .d (oD lo), .d (oD hi)] = some (.d (cD (RQ.nf f p lo hi)), [.d (qD f), .d (qD p), .d (oD lo), .d (oD hi)]) := P1.t_l_normal hp hl hh h hle
theorem t_l_then {a c : RQ.Cl} {b : Nat} (ha : Sc b a) (hc : Sc b c) (wa : RQ.WF a) (wc : RQ.WF c) (h : 9 * b + 30 ≤ 4000) : m_l_then [.d (cD a), .d (cD c)] = some (.d (cD (RQ.ch2 a c)), [.d (cD a), .d (cD c)]) := by
  have e1 := t_l_apply hc ha.p wc (by omega)
  have e2 := t_l_times hc.f ha.p (by omega)
  have s2 := hc.f.mul ha.p
  have e3 := t_l_add s2 hc.p (by omega)
  have s3 := s2.add hc.p
  have e4 := t_l_times ha.f hc.f (by omega)
  have e7 := t_l_normal (f := a.f * c.f) (p := c.f * a.p + c.p) (lo := RQ.ea a.lo c c.lo) (hi := RQ.ea a.hi c c.hi) (b := b + 2 * b + 1)
    (s3.mono (by omega)) (so_ea hc ha.lo).1 (so_ea hc ha.hi).2 (by omega) (RQ.ea_le (RQ.lt_le wa.2.2) wc)
  by_cases h1 : a.f = 0
  · have hz : RQ.ch2 a c = RQ.cst (RQ.ap c a.p) := by simp [RQ.ch2, h1]
    rw [hz]
    simp [m_l_then, e_run, b_l_then, P1.ixc0, P1.ixc1, eq_qq, h1, e1, sizeL, q0, p_l_const, P1.t_l_const]
    rfl
  by_cases h2 : c.f = 0
  · have hz : RQ.ch2 a c = RQ.cst (RQ.ap c a.p) := by simp [RQ.ch2, h2]
    rw [hz]
    simp [m_l_then, e_run, b_l_then, P1.ixc0, P1.ixc1, eq_qq, h1, h2, e1, sizeL, q0, p_l_const, P1.t_l_const]
    rfl
  have hz : RQ.ch2 a c = RQ.nf (a.f * c.f) (c.f * a.p + c.p) (RQ.ea a.lo c c.lo) (RQ.ea a.hi c c.hi) := by simp [RQ.ch2, h1, h2]
  rw [hz]
  have el : xIf (tst (x2 isNonD (x2 idxD (xVar 0) (xC (.int 2))) (xC .none))) (x2 idxD (xVar 1) (xC (.int 2))) (xCall (arity 2 m_l_apply) (aCons (xVar 1) (aCons (x2 idxD (xVar 0) (xC (.int 2))) (aNil)))) [.d (cD a), .d (cD c), .un, .un, .un] = some (oD (RQ.ea a.lo c c.lo), [.d (cD a), .d (cD c), .un, .un, .un]) := by
    cases e : a.lo with
    | none => simp [P1.ixc2, e, RQ.ea]
    | some l =>
      have := t_l_apply hc (ha.lo l e) wc (by omega)
      simp [P1.ixc2, e, RQ.ea, this]
  have eh : ∀ z, xIf (tst (x2 isNonD (x2 idxD (xVar 0) (xC (.int 3))) (xC .none))) (x2 idxD (xVar 1) (xC (.int 3))) (xCall (arity 2 m_l_apply) (aCons (xVar 1) (aCons (x2 idxD (xVar 0) (xC (.int 3))) (aNil)))) [.d (cD a), .d (cD c), z, .un, .un] = some (oD (RQ.ea a.hi c c.hi), [.d (cD a), .d (cD c), z, .un, .un]) := fun z => by
    cases e : a.hi with
    | none => simp [P1.ixc3, e, RQ.ea]
    | some l =>
      have := t_l_apply hc (ha.hi l e) wc (by omega)
      simp [P1.ixc3, e, RQ.ea, this]
  generalize RQ.ea a.lo c c.lo = LO at *
  generalize RQ.ea a.hi c c.hi = HI at *
  unfold m_l_then
  rw [e_run]
  unfold b_l_then
  generalize xIf (tst (x2 isNonD (x2 idxD (xVar 0) (xC (.int 2))) (xC .none))) (x2 idxD (xVar 1) (xC (.int 2))) (xCall (arity 2 m_l_apply) (aCons (xVar 1) (aCons (x2 idxD (xVar 0) (xC (.int 2))) (aNil)))) = EL at *
  generalize xIf (tst (x2 isNonD (x2 idxD (xVar 0) (xC (.int 3))) (xC .none))) (x2 idxD (xVar 1) (xC (.int 3))) (xCall (arity 2 m_l_apply) (aCons (xVar 1) (aCons (x2 idxD (xVar 0) (xC (.int 3))) (aNil)))) = EH at *
  simp [P1.ixc0, P1.ixc1, eq_qq, h1, h2, q0, sizeL, el, eh, e2, e3, e4, e7]
theorem t_lchL {e0 : EV} {b : Nat} : ∀ (cs : List RQ.Cl) {x : RQ.Cl} {a : Nat} {e2 : EV}, Fs e2 → Sc a x → RQ.WF x → (∀ c ∈ cs, Sc b c ∧ RQ.WF c) → b ≤ a → 9 * (a + (2 * b + 1) * cs.length) + 30 ≤ 4000 →
    ∃ f2, forL (gNm 2) (sSet 1 (xCall (arity 2 m_l_then) (aCons (xVar 1) (aCons (xVar 2) (aNil))))) (cs.map cD) [e0, .d (cD x), e2] = some (.nx [e0, .d (cD (cs.foldl RQ.ch2 x)), f2])
  | [], x, a, e2, _, _, _, _, _, _ => ⟨e2, rfl⟩
  | c :: cs, x, a, e2, h2, hx, wx, hc, hb, hl => by
    have hm : (2 * b + 1) * (c :: cs).length = (2 * b + 1) * cs.length + (2 * b + 1) := Nat.mul_succ _ _
    obtain ⟨c0, w0⟩ := hc c List.mem_cons_self
    have e1 := t_l_then hx (P1.Sc.mono c0 hb) wx w0 (by omega)
    obtain ⟨f2, e⟩ := t_lchL (e0 := e0) cs (e2 := .d (cD c)) (by simp) (sc_ch2 hx c0) (RQ.wf_ch2 wx w0) (fun y hy => hc y (List.mem_cons_of_mem _ hy)) (by omega) (by omega)
    exact ⟨f2, forC_nx (ρ1 := [e0, .d (cD x), .d (cD c)]) (by simp [free_fs h2]) (by simp [e1]) e⟩
/-- the law's chain of a list of clauses -/
theorem t_l_chain {b : Nat} {cs : List RQ.Cl} (hc : ∀ c ∈ cs, Sc b c ∧ RQ.WF c) (hb : 1 ≤ b) (hl : 9 * (b + (2 * b + 1) * cs.length) + 30 ≤ 4000) : m_l_chain [.d (.list (cs.map cD))] = some (.d (cD (chL cs)), [.d (.list (cs.map cD))]) := by
  obtain ⟨f2, e⟩ := t_lchL (e0 := .d (.list (cs.map cD))) cs (e2 := .un) (by simp) (P1.Sc.mono sc_id hb) P1.wf_id hc (Nat.le_refl _) hl
  refine run_rt (ρ := [.d (.list (cs.map cD)), .d (cD (chL cs)), f2]) ?_
  show b_l_chain [.d (.list (cs.map cD)), .un, .un] = _
  unfold b_l_chain
  refine seq_nx (ρ1 := [.d (.list (cs.map cD)), .d (cD idC), .un]) (by simp [sizeL]; rfl) ?_
  refine seq_nx (for_of (ds := cs.map cD) (by simp) e) ?_
  simp [chL]
/-- what may be shown -/
structure Nz (D S : Nat) (x : PyData) : Prop where
  o : ok (10 ^ 59) x = true
  d : x.depth ≤ D
  s : sz x ≤ S
structure NzA (D S : Nat) (xs : List PyData) : Prop where
  o : okA (10 ^ 59) xs = true
  d : PyData.depthAll xs ≤ D
  s : szA xs ≤ S
theorem Nz.rep {D S : Nat} {x : PyData} (h : Nz D S x) (hD : D ≤ 60) (hS : S ≤ 16777216) : reprD x = some (.str x.shown) := repr_ok (show (10 : Nat) ^ 59 < 10 ^ 60 by decide +kernel) h.o (Nat.le_trans h.d hD) (Nat.le_trans h.s hS)
theorem NzA.nil {D : Nat} : NzA D 0 [] := ⟨by simp [okA], by simp [PyData.depthAll], by simp [szA]⟩
theorem NzA.cons {D S T : Nat} {x : PyData} {xs : List PyData} (h : Nz D S x) (t : NzA D T xs) : NzA D (S + 2 + T) (x :: xs) := by
  refine ⟨by simp [okA, h.o, t.o], ?_, ?_⟩
  · have h1 := h.d
    have h2 := t.d
    simp only [PyData.depthAll]
    omega
  · have h1 := h.s
    have h2 := t.s
    simp only [szA]
    omega
theorem NzA.tup {D S : Nat} {xs : List PyData} (h : NzA D S xs) : Nz (D + 1) (S + 8) (.tuple xs) := by
  refine ⟨by simp [ok, h.o], ?_, ?_⟩
  · have h1 := h.d
    simp only [PyData.depth]
    omega
  · have h1 := h.s
    simp only [sz]
    omega
theorem NzA.lst {D S : Nat} {xs : List PyData} (h : NzA D S xs) : Nz (D + 1) (S + 8) (.list xs) := by
  refine ⟨by simp [ok, h.o], ?_, ?_⟩
  · have h1 := h.d
    simp only [PyData.depth]
    omega
  · have h1 := h.s
    simp only [sz]
    omega
theorem Nz.mono {D E S T : Nat} {x : PyData} (h : Nz D S x) (hD : D ≤ E) (hS : S ≤ T) : Nz E T x := ⟨h.o, Nat.le_trans h.d hD, Nat.le_trans h.s hS⟩
theorem nz_q {q : Rat} {b : Nat} (h : Sq b q) (hb : b ≤ 190) : Nz 2 2000 (qD q) := by
  have h1 : q.num.natAbs ≤ 10 ^ 59 := Nat.le_trans (Nat.le_of_lt (Nat.lt_of_lt_of_le h.n (pow_le hb))) (by decide +kernel)
  have h2 : q.den ≤ 10 ^ 59 := Nat.le_trans (Nat.le_of_lt (Nat.lt_of_lt_of_le h.d (pow_le hb))) (by decide +kernel)
  refine ⟨?_, ?_, ?_⟩
  · simp only [qD, ok, okA, Bool.and_true, Bool.and_eq_true, decide_eq_true_eq]
    exact ⟨h1, h2⟩
  · simp [qD, PyData.depth, PyData.depthAll]
  · simp [qD, sz, szA]
theorem nz_o {q : Option Rat} {b : Nat} (h : so b q) (hb : b ≤ 190) : Nz 2 2000 (oD q) := by
  cases q with
  | none => exact ⟨by simp [ok], by simp [PyData.depth], by simp [sz]⟩
  | some q => exact nz_q (h q rfl) hb
theorem nz_c {c : RQ.Cl} {b : Nat} (h : Sc b c) (hb : b ≤ 190) : Nz 3 9000 (cD c) :=
  (NzA.cons (nz_q h.f hb) (.cons (nz_q h.p hb) (.cons (nz_o h.lo hb) (.cons (nz_o h.hi hb) .nil)))).tup.mono (by decide) (by decide)
theorem ne_ss (s : Str) : neD (.str s) (.str s) = some (.bool false) := by simp [neD]
theorem eq_ss (s : Str) : eqD (.str s) (.str s) = some (.bool true) := by simp [eqD]
theorem nz_b (b : Bool) : Nz 0 60 (.bool b) := ⟨by cases b <;> simp [ok], by simp [PyData.depth], by cases b <;> simp [sz]⟩
theorem t_vr {c : RQ.Cl} (hc : Sc 14 c) : m_l_values_right [.d (cD c)] = some (.d (.bool true), [.d (cD c)]) := by
  have e1 := P1.t_values (c := c)
  have hq : ∃ X, (if c.f = 0 then PyData.tuple [qD c.p, qD c.p] else .tuple [oD c.lo, oD c.hi]) = X ∧ Nz 3 9000 X := by
    by_cases hf : c.f = 0
    · exact ⟨_, by rw [if_pos hf], (NzA.cons (nz_q hc.p (by decide)) (.cons (nz_q hc.p (by decide)) .nil)).tup.mono (by decide) (by decide)⟩
    · exact ⟨_, by rw [if_neg hf], (NzA.cons (nz_o hc.lo (by decide)) (.cons (nz_o hc.hi (by decide)) .nil)).tup.mono (by decide) (by decide)⟩
  obtain ⟨X, eX, nX⟩ := hq
  obtain ⟨z, rz⟩ : ∃ s, reprD (.list [X, X]) = some (.str s) := ⟨_, (NzA.cons nX (.cons nX .nil)).lst.rep (by decide) (by decide)⟩
  rw [eX] at e1
  refine run_wp ?_
  unfold b_l_values_right
  refine wp_nx (ρ1 := [.d (cD c), .d X]) ?_ ?_
  · by_cases hf : c.f = 0
    · rw [if_pos hf] at eX
      simp [P1.ixc0, P1.ixc1, sizeL, q0, eq_qq, hf, eX]
    · rw [if_neg hf] at eX
      simp [P1.ixc0, P1.ixc2, P1.ixc3, sizeL, q0, eq_qq, hf, eX]
  · refine wp_ret (we_of (b := .bool true) (ρ' := [.d (cD c), .d X]) ?_ ⟨_, rfl, rfl⟩)
    clear eX nX hc
    generalize cD c = C at *
    simp [p_values_of, e1, sizeL, rz, eq_ss]
theorem ne_bb (a b : Bool) : neD (.bool a) (.bool b) = some (.bool (!decide (a = b))) := by cases a <;> cases b <;> rfl
theorem t_int (i : Int) : m_l_integer [.d (.int i)] = some (.d (.bool true), [.d (.int i)]) := by simp [m_l_integer, e_run, b_l_integer, isIntD, isBlD]
theorem t_is_ratio (x : Rat) : m_l_is_ratio [.d (qD x)] = some (.d (.bool true), [.d (qD x)]) := by
  have hg : Int.gcd x.num (x.den : Int) = 1 := by
    have := x.reduced
    simpa [Int.gcd, Nat.Coprime] using this
  have e := t_gcd x.num (x.den : Int)
  rw [hg] at e
  have hd : (0 : Int) < x.den := by have := x.den_pos; omega
  have hd2 : 0 < x.den := x.den_pos
  have q1 : ∀ i j : Int, eqD (.int i) (.int j) = some (.bool (i == j)) := fun _ _ => rfl
  have q2 : isTupD (qD x) = true := rfl
  have q3 : lenY (qD x) = some (.int 2) := rfl
  have q4 : neD (.int 2) (.int 2) = some (.bool false) := rfl
  simp [m_l_is_ratio, e_run, b_l_is_ratio, q2, q3, q4, ix0, ix1, t_int, e, hd, hd2]
theorem t_pair {a b : RQ.Cl} (ha : Sc 14 a) (hb : Sc 14 b) (wa : RQ.WF a) (wb : RQ.WF b) : m_l_pair_right [.d (cD a), .d (cD b)] = some (.d (.bool true), [.d (cD a), .d (cD b)]) := by
  obtain ⟨o, e1, o1, o2⟩ := P1.t_differs wa wb ha hb (by decide) (by decide)
  have e2 := P1.t_commute ha hb (by decide)
  have e3 := t_l_then ha hb wa wb (by decide)
  have e4 := t_l_then hb ha wb wa (by decide)
  have eqc := eq_cc (RQ.ch2 a b) (RQ.ch2 b a)
  generalize hU : decide (RQ.ch2 a b = RQ.ch2 b a) = U at *
  obtain ⟨z, rz⟩ : ∃ s, reprD (.list [.bool U, .bool U]) = some (.str s) := ⟨_, (NzA.cons (nz_b U) (.cons (nz_b U) .nil)).lst.rep (by decide) (by decide)⟩
  have hne : (decide (o = none) = decide (a = b)) := by
    cases o with
    | none => simp [o1 rfl]
    | some x =>
      have : a ≠ b := fun e => (o2 x rfl).1 (by rw [e])
      simp [this]
  have eab := eq_cc a b
  have e5 : noneD (oD o) = decide (a = b) := by rw [nn_o, hne]
  have fin : ∀ {ev : EV}, Fs ev → stepF (gNm 4) (sSeq (sIf (tst (x2 neD (x2 isNonD (xVar 4) (xC .none)) (x2 eqD (xVar 0) (xVar 1)))) (sRet (xC (.bool false))) (sNil)) (sSeq (sIf (xAndT (tst (x2 notNonD (xVar 4) (xC .none))) (xNotT (xTru (xCall (arity 1 m_l_is_ratio) (aCons (xVar 4) (aNil)))))) (sRet (xC (.bool false))) (sNil)) (sIf (xAndT (tst (x2 notNonD (xVar 4) (xC .none))) (tst (x2 eqD (xCall (arity 2 m_l_apply) (aCons (xVar 0) (aCons (xVar 4) (aNil)))) (xCall (arity 2 m_l_apply) (aCons (xVar 1) (aCons (xVar 4) (aNil))))))) (sRet (xC (.bool false))) (sNil)))) (oD o) [.d (cD a), .d (cD b), .d (oD o), .d (.bool U), ev] = some (.nx [.d (cD a), .d (cD b), .d (oD o), .d (.bool U), .d (oD o)]) := fun {ev} f4 => by
    cases o with
    | none =>
      have q : noneD .none = true := rfl
      have hab : a = b := o1 rfl
      have d : decide (a = b) = true := by simp [hab]
      rw [d] at eab
      clear e1 e2 e3 e4 eqc rz
      generalize cD a = A at *
      generalize cD b = B at *
      simp [e_stepF, free_fs f4, eab, ne_bb, q]
    | some x =>
      obtain ⟨h1, h2⟩ := o2 x rfl
      have d : decide (a = b) = false := by rw [← hne]; rfl
      have a1 := t_l_apply (b := 45) (P1.Sc.mono ha (by decide)) (h2.mono (by decide)) wa (by decide)
      have a2 := t_l_apply (b := 45) (P1.Sc.mono hb (by decide)) (h2.mono (by decide)) wb (by decide)
      have q : noneD (qD x) = false := rfl
      rw [d] at eab
      have rr := t_is_ratio x
      have eq0 := eq_qq (RQ.ap a x) (RQ.ap b x)
      rw [decide_eq_false h1] at eq0
      show stepF _ _ (qD x) _ = _
      clear e1 e2 e3 e4 eqc rz
      simp only [oD_some] at *
      generalize cD a = A at *
      generalize cD b = B at *
      generalize qD (RQ.ap a x) = U1 at *
      generalize qD (RQ.ap b x) = U2 at *
      generalize qD x = X at *
      simp [e_stepF, free_fs f4, eab, ne_bb, q, rr, a1, a2, eq0]
  refine run_wp ?_
  unfold b_l_pair_right
  refine wp_nx (ρ1 := [.d (cD a), .d (cD b), .d (oD o), .d (.bool U), .un]) ?_ ?_
  · simp [p_differs_at, e1, e3, e4, eqc]
  refine wp_nx (ρ1 := [.d (cD a), .d (cD b), .d (oD o), .d (.bool U), .un]) ?_ ?_
  · simp [p_commute, e2, sizeL, rz, ne_ss]
  refine wp_seq (wp_for (fun (x : Unit) => oD o) [(), ()] (fun _ ρ => ∃ e4, Fs e4 ∧ ρ = [.d (cD a), .d (cD b), .d (oD o), .d (.bool U), e4]) ?_ ⟨.un, by simp, rfl⟩ ?_ ?_)
  · simp [p_differs_at, e1, sizeL, itD]
  · rintro _ xs ρ ⟨e4, f4, rfl⟩
    exact ⟨_, fin f4, _, by simp, rfl⟩
  · rintro ρ ⟨e4, f4, rfl⟩
    exact wp_ret (we_of rfl ⟨_, rfl, rfl⟩)
end K04
set_option exponentiation.threshold 5000
set_option maxRecDepth 100000
set_option maxHeartbeats 4000000
namespace K04
open PySem PySem.Spec PyProof.Rows L2 DL
open P1 (idC chL sc_ch2 sc_id)
mutual
theorem toK_data : ∀ d : PyData, KN.inN d = true → (NK.toK d).data = d
  | .int _, _ => rfl
  | .none, _ => rfl
  | .tuple ds, h => by
    have h : KN.inNs ds = true := by simpa [KN.inN] using h
    simp only [NK.toK, NestedKey.data, toKs_data ds h]
  | .str _, h => by simp [KN.inN] at h
  | .bool _, h => by simp [KN.inN] at h
  | .list _, h => by simp [KN.inN] at h
  | .dict _, h => by simp [KN.inN] at h
theorem toKs_data : ∀ ds : List PyData, KN.inNs ds = true → NestedKey.datas (NK.toKs ds) = ds
  | [], _ => rfl
  | d :: ds, h => by
    simp only [KN.inNs, Bool.and_eq_true] at h
    simp only [NK.toKs, NestedKey.datas, toK_data d h.1, toKs_data ds h.2]
end
theorem okK_c (c : RQ.Cl) : KN.okK (cD c) = true := by
  obtain ⟨f, p, lo, hi⟩ := c
  cases lo <;> cases hi <;> simp [KN.okK, cD, qD, oD, KN.inNs, KN.inN, NK.toK, NK.toKs, NestedKey.depth, NestedKey.depthAll]
theorem inN_c (c : RQ.Cl) : KN.inN (cD c) = true := by
  have := okK_c c
  unfold KN.okK at this
  rw [P1.cD_eq] at this ⊢
  simp only [Bool.and_eq_true] at this
  simpa [KN.inN] using this.1
theorem toK_c {a b : RQ.Cl} : NK.toK (cD a) = NK.toK (cD b) ↔ a = b := by
  constructor
  · intro h
    have := congrArg NestedKey.data h
    rw [toK_data _ (inN_c a), toK_data _ (inN_c b)] at this
    exact cD_inj this
  · rintro rfl; rfl
def insC (A : List RQ.Cl) (c : RQ.Cl) : List RQ.Cl := if c ∈ A then A else A ++ [c]
theorem insK_c (A : List RQ.Cl) (c : RQ.Cl) : KN.insK (A.map cD) (cD c) = (insC A c).map cD := by
  unfold KN.insK insC
  have e : ((A.map cD).any fun x => decide (NK.toK x = NK.toK (cD c))) = decide (c ∈ A) := by
    rw [Bool.eq_iff_iff, List.any_eq_true, decide_eq_true_eq]
    constructor
    · rintro ⟨x, hx, h⟩
      obtain ⟨a, ha, rfl⟩ := List.mem_map.mp hx
      have := toK_c.mp (of_decide_eq_true h)
      exact this ▸ ha
    · exact fun h => ⟨cD c, List.mem_map_of_mem h, decide_eq_true rfl⟩
  rw [e]
  by_cases h : c ∈ A <;> simp [h]
theorem foldK_c : ∀ (N A : List RQ.Cl), (N.map cD).foldl KN.insK (A.map cD) = (N.foldl insC A).map cD
  | [], _ => rfl
  | c :: N, A => by
    rw [List.map_cons, List.foldl_cons, List.foldl_cons, insK_c, foldK_c N]
theorem mem_insC {A : List RQ.Cl} {c x : RQ.Cl} : x ∈ insC A c ↔ x ∈ A ∨ x = c := by
  unfold insC
  split
  · rename_i h
    constructor
    · exact .inl
    · rintro (h' | rfl)
      · exact h'
      · exact h
  · simp
theorem nd_insC {A : List RQ.Cl} {c : RQ.Cl} (h : A.Nodup) : (insC A c).Nodup := by
  unfold insC
  split
  · exact h
  · rename_i hn
    rw [List.nodup_append]
    refine ⟨h, by simp, fun a ha b hb => ?_⟩
    rw [List.mem_singleton.mp hb]
    rintro rfl
    exact hn ha
theorem mem_fold : ∀ {N A : List RQ.Cl} {x : RQ.Cl}, x ∈ N.foldl insC A ↔ x ∈ A ∨ x ∈ N
  | [], A, x => by simp
  | c :: N, A, x => by
    rw [List.foldl_cons, mem_fold, mem_insC, List.mem_cons]
    constructor
    · rintro ((h | h) | h)
      · exact .inl h
      · exact .inr (.inl h)
      · exact .inr (.inr h)
    · rintro (h | h | h)
      · exact .inl (.inl h)
      · exact .inl (.inr h)
      · exact .inr h
theorem nd_fold : ∀ {N A : List RQ.Cl}, A.Nodup → (N.foldl insC A).Nodup
  | [], _, h => h
  | c :: N, A, h => nd_fold (N := N) (nd_insC h)
theorem nd_len {α : Type} [DecidableEq α] : ∀ {A B : List α}, A.Nodup → (∀ x ∈ A, x ∈ B) → A.length ≤ B.length
  | [], _, _, _ => Nat.zero_le _
  | a :: A, B, h, s => by
    rw [List.nodup_cons] at h
    have ha := s a List.mem_cons_self
    have := nd_len (A := A) (B := B.erase a) h.2 fun x hx => (List.mem_erase_of_ne (by rintro rfl; exact h.1 hx)).mpr (s x (List.mem_cons_of_mem _ hx))
    rw [List.length_erase_of_mem ha] at this
    have hp : 0 < B.length := List.length_pos_of_mem ha
    rw [List.length_cons]
    omega
def ix (n m : Nat) : List Nat := (List.range n).filter fun k => decide (m / 2 ^ k % 2 = 1)
theorem ix_step : ∀ n, n ≤ 5 → ∀ m, m < 2 ^ n → ∀ k, k < n → m / 2 ^ k % 2 = 1 → (2 ^ k ≤ m ∧ (ix n m).isPerm (ix n (m - 2 ^ k) ++ [k]) = true) := by decide +kernel
theorem ix_full : ∀ n, n ≤ 5 → ix n (2 ^ n - 1) = List.range n := by decide +kernel
theorem ix_zero : ∀ n, n ≤ 5 → ix n 0 = [] := by decide +kernel
theorem ix_ne : ∀ n, n ≤ 5 → ∀ m, m < 2 ^ n → 1 ≤ m → ix n m ≠ [] := by decide +kernel
/-- the chain along an order -/
def Ch (cs : List RQ.Cl) (l : List Nat) : RQ.Cl := chL (l.map fun k => cs.getD k idC)
/-- the chains of all orders of what the mask tells -/
def Sm (cs : List RQ.Cl) (m : Nat) (x : RQ.Cl) : Prop := ∃ l, l.Perm (ix cs.length m) ∧ x = Ch cs l
theorem ch_snoc (cs : List RQ.Cl) (l : List Nat) (k : Nat) : Ch cs (l ++ [k]) = RQ.ch2 (Ch cs l) (cs.getD k idC) := by simp [Ch, chL]
theorem sm_step {cs : List RQ.Cl} {m : Nat} {x : RQ.Cl} (h5 : cs.length ≤ 5) (hm : m < 2 ^ cs.length) (h1 : 1 ≤ m) : Sm cs m x ↔ ∃ k, k < cs.length ∧ m / 2 ^ k % 2 = 1 ∧ ∃ y, Sm cs (m - 2 ^ k) y ∧ x = RQ.ch2 y (cs.getD k idC) := by
  constructor
  · rintro ⟨l, hl, rfl⟩
    rcases List.eq_nil_or_concat l with rfl | ⟨l', k, rfl⟩
    · exact absurd hl.symm.eq_nil (ix_ne _ h5 m hm h1)
    · rw [List.concat_eq_append] at hl ⊢
      have hk : k ∈ ix cs.length m := hl.mem_iff.mp (by simp)
      unfold ix at hk
      rw [List.mem_filter, List.mem_range, decide_eq_true_eq] at hk
      obtain ⟨_, p⟩ := ix_step _ h5 m hm k hk.1 hk.2
      have p := List.isPerm_iff.mp p
      exact ⟨k, hk.1, hk.2, Ch cs l', ⟨l', (List.perm_append_right_iff [k]).mp (hl.trans p), rfl⟩, ch_snoc cs l' k⟩
  · rintro ⟨k, hk, hb, y, ⟨l, hl, rfl⟩, rfl⟩
    obtain ⟨_, p⟩ := ix_step _ h5 m hm k hk hb
    have p := List.isPerm_iff.mp p
    exact ⟨l ++ [k], (hl.append_right [k]).trans p.symm, (ch_snoc cs l k).symm⟩
theorem sm_zero {cs : List RQ.Cl} {x : RQ.Cl} (h5 : cs.length ≤ 5) : Sm cs 0 x ↔ x = idC := by
  unfold Sm
  rw [ix_zero _ h5]
  constructor
  · rintro ⟨l, hl, rfl⟩
    rw [hl.eq_nil]
    rfl
  · rintro rfl
    exact ⟨[], List.Perm.refl _, rfl⟩
theorem sm_full {cs : List RQ.Cl} {x : RQ.Cl} (h5 : cs.length ≤ 5) : Sm cs (2 ^ cs.length - 1) x ↔ ∃ ds : List RQ.Cl, ds.Perm cs ∧ x = chL ds := by
  unfold Sm
  rw [ix_full _ h5]
  constructor
  · rintro ⟨l, hl, rfl⟩
    refine ⟨l.map fun k => cs.getD k idC, ?_, rfl⟩
    have := hl.map fun k => cs.getD k idC
    rwa [P1.range_get] at this
  · rintro ⟨ds, hp, rfl⟩
    obtain ⟨o, ho, rfl⟩ := P1.perm_ord idC hp
    obtain ⟨h1, h2, h3⟩ := P1.mem_ords.mp ho
    refine ⟨o, ?_, rfl⟩
    exact (List.perm_ext_iff_of_nodup h2 List.nodup_range).mpr fun k => by
      rw [List.mem_range]
      refine ⟨h3 k, fun hk => ?_⟩
      by_cases hm : k ∈ o
      · exact hm
      · have := nd_len (A := k :: o) (B := List.range cs.length) (List.nodup_cons.mpr ⟨hm, h2⟩) fun y hy => by
          rcases List.mem_cons.mp hy with rfl | hy
          · exact List.mem_range.mpr hk
          · exact List.mem_range.mpr (h3 y hy)
        rw [List.length_cons, List.length_range] at this
        omega
end K04
set_option exponentiation.threshold 5000
set_option maxRecDepth 100000
set_option maxHeartbeats 4000000
namespace K04
open PySem PySem.Spec PyProof.Rows L2 DL
open P1 (idC chL sc_ch2 sc_id)
def Ok14 (cs : List RQ.Cl) : Prop := ∀ c ∈ cs, Sc 14 c ∧ RQ.WF c
theorem ok_getD {cs : List RQ.Cl} (h : Ok14 cs) (k : Nat) : Sc 14 (cs.getD k idC) ∧ RQ.WF (cs.getD k idC) := by
  by_cases hk : k < cs.length
  · have e : cs.getD k idC = cs[k] := by simp [List.getD, List.getElem?_eq_getElem hk]
    rw [e]
    exact h _ (List.getElem_mem hk)
  · have e : cs.getD k idC = idC := by simp [List.getD, List.getElem?_eq_none (Nat.le_of_not_lt hk)]
    rw [e]
    exact ⟨P1.Sc.mono sc_id (by decide), P1.wf_id⟩
theorem ix_len (n m : Nat) : (ix n m).length ≤ n := by
  have := List.length_filter_le (fun k => decide (m / 2 ^ k % 2 = 1)) (List.range n)
  simpa [ix] using this
theorem sm_ok {cs : List RQ.Cl} (h5 : cs.length ≤ 5) (hc : Ok14 cs) {m : Nat} {x : RQ.Cl} (h : Sm cs m x) : Sc 160 x ∧ RQ.WF x := by
  obtain ⟨l, hl, rfl⟩ := h
  have h1 := hl.length_eq
  have h2 := ix_len cs.length m
  have ok : ∀ c ∈ l.map (fun k => cs.getD k idC), Sc 14 c ∧ RQ.WF c := fun c h => by
    obtain ⟨k, _, rfl⟩ := List.mem_map.mp h
    exact ok_getD hc k
  refine ⟨P1.Sc.mono (P1.sc_chL _ sc_id fun c h => (ok c h).1) (by rw [List.length_map]; omega), P1.wf_chL _ P1.wf_id fun c h => (ok c h).2⟩
theorem sm_few {cs : List RQ.Cl} (h5 : cs.length ≤ 5) {m : Nat} {A : List RQ.Cl} (hn : A.Nodup) (h : ∀ x ∈ A, Sm cs m x) : A.length ≤ 3125 := by
  have h2 := ix_len cs.length m
  have s := nd_len (B := (P1.ords cs.length (ix cs.length m).length).map (Ch cs)) hn fun x hx => by
    obtain ⟨l, hl, rfl⟩ := h x hx
    refine List.mem_map_of_mem (P1.mem_ords.mpr ⟨hl.length_eq, ?_, fun k hk => ?_⟩)
    · exact hl.nodup_iff.mpr (List.nodup_range.filter _)
    · have := hl.mem_iff.mp hk
      unfold ix at this
      exact List.mem_range.mp (List.mem_filter.mp this).1
  rw [List.length_map] at s
  have h3 : cs.length ^ (ix cs.length m).length ≤ 5 ^ (ix cs.length m).length := Nat.pow_le_pow_left h5 _
  have h4 : 5 ^ (ix cs.length m).length ≤ 5 ^ 5 := Nat.pow_le_pow_right (by decide) (by omega)
  exact Nat.le_trans s (Nat.le_trans (P1.ords_len _) (Nat.le_trans h3 h4))
theorem then_c {c : RQ.Cl} (h : Sc 14 c) (w : RQ.WF c) : ∀ F : List RQ.Cl, (∀ y ∈ F, Sc 160 y ∧ RQ.WF y) → KN.thenL m_l_then (cD c) (F.map cD) = some ((F.map fun y => RQ.ch2 y c).map cD)
  | [], _ => rfl
  | y :: F, hF => by
    have e := t_l_then (b := 160) (hF y List.mem_cons_self).1 (P1.Sc.mono h (by decide)) (hF y List.mem_cons_self).2 w (by decide)
    have ih := then_c h w F fun z hz => hF z (List.mem_cons_of_mem _ hz)
    rw [List.map_cons]
    unfold KN.thenL
    rw [e]
    simp only [ih]
    rfl
/-- what is found for each mask below m -/
def FdM (cs : List RQ.Cl) (m : Nat) (fnd : List (Int × List PyData)) : Prop := (∀ j, j < m → ∃ F : List RQ.Cl, KN.lookF fnd j = some (F.map cD) ∧ F.Nodup ∧ ∀ x, x ∈ F ↔ Sm cs j x) ∧ (∀ j : Nat, m ≤ j → KN.lookF fnd j = none) ∧ fnd.length = m
theorem acK_ok {cs : List RQ.Cl} (h5 : cs.length ≤ 5) (hc : Ok14 cs) {fnd : List (Int × List PyData)} {m : Nat} (hm : m < 2 ^ cs.length) (h1 : 1 ≤ m) (hf : FdM cs m fnd) : ∀ (ks : List Nat) (A : List RQ.Cl), (∀ k ∈ ks, k < cs.length) → A.Nodup → (∀ x ∈ A, Sm cs m x) →
    ∃ B : List RQ.Cl, KN.acK m_l_then (cs.map cD) fnd m ks (A.map cD) = some (B.map cD) ∧ B.Nodup ∧ ∀ x, x ∈ B ↔ x ∈ A ∨ ∃ k ∈ ks, m / 2 ^ k % 2 = 1 ∧ ∃ y, Sm cs (m - 2 ^ k) y ∧ x = RQ.ch2 y (cs.getD k idC)
  | [], A, _, hn, _ => ⟨A, rfl, hn, fun x => by simp⟩
  | k :: ks, A, hk, hn, hA => by
    have hk0 := hk k List.mem_cons_self
    by_cases hb : m / 2 ^ k % 2 = 1
    · obtain ⟨hle, _⟩ := ix_step _ h5 m hm k hk0 hb
      have hp : 1 ≤ 2 ^ k := Nat.one_le_two_pow
      obtain ⟨F, e1, nF, hF⟩ := hf.1 (m - 2 ^ k) (by omega)
      have ei : ((m : Int) - 2 ^ k) = ((m - 2 ^ k : Nat) : Int) := by
        have : ((2 : Int) ^ k) = ((2 ^ k : Nat) : Int) := KN.pow_nat k
        rw [this]; omega
      have e2 : (cs.map cD)[k]? = some (cD (cs.getD k idC)) := by
        rw [List.getElem?_map, List.getElem?_eq_getElem hk0]
        simp [List.getD, List.getElem?_eq_getElem hk0]
      obtain ⟨g1, g2⟩ := ok_getD hc k
      have e3 := then_c g1 g2 F fun y hy => sm_ok h5 hc ((hF y).mp hy)
      have l1 := sm_few h5 hn hA
      have l2 := sm_few h5 nF fun x hx => (hF x).mp hx
      have inN : ∀ x ∈ F.map (fun y => RQ.ch2 y (cs.getD k idC)), Sm cs m x := fun x hx => by
        obtain ⟨y, hy, rfl⟩ := List.mem_map.mp hx
        exact (sm_step h5 hm h1).mpr ⟨k, hk0, hb, y, (hF y).mp hy, rfl⟩
      obtain ⟨B, e4, nB, hB⟩ := acK_ok h5 hc hm h1 hf ks ((F.map fun y => RQ.ch2 y (cs.getD k idC)).foldl insC A) (fun j hj => hk j (List.mem_cons_of_mem _ hj)) (nd_fold hn) fun x hx => by
        rcases mem_fold.mp hx with h | h
        · exact hA x h
        · exact inN x h
      refine ⟨B, ?_, nB, fun x => ?_⟩
      · unfold KN.acK
        rw [if_pos hb, ei, e1, Option.bind_some, e2, Option.bind_some, e3, Option.bind_some, if_pos, foldK_c]
        · exact e4
        · refine ⟨?_, ?_, ?_⟩
          · rw [List.all_eq_true]
            intro d hd
            obtain ⟨c, _, rfl⟩ := List.mem_map.mp hd
            exact okK_c c
          · rw [List.length_map]; omega
          · rw [List.length_map, List.length_map]; omega
      · rw [hB, mem_fold]
        constructor
        · rintro ((h | h) | ⟨j, hj, h⟩)
          · exact .inl h
          · obtain ⟨y, hy, rfl⟩ := List.mem_map.mp h
            exact .inr ⟨k, List.mem_cons_self, hb, y, (hF y).mp hy, rfl⟩
          · exact .inr ⟨j, List.mem_cons_of_mem _ hj, h⟩
        · rintro (h | ⟨j, hj, h2, y, hy, rfl⟩)
          · exact .inl (.inl h)
          · rcases List.mem_cons.mp hj with rfl | hj
            · exact .inl (.inr (List.mem_map_of_mem ((hF y).mpr hy)))
            · exact .inr ⟨j, hj, h2, y, hy, rfl⟩
    · obtain ⟨B, e4, nB, hB⟩ := acK_ok h5 hc hm h1 hf ks A (fun j hj => hk j (List.mem_cons_of_mem _ hj)) hn hA
      refine ⟨B, ?_, nB, fun x => ?_⟩
      · unfold KN.acK
        rw [if_neg hb]
        exact e4
      · rw [hB]
        constructor
        · rintro (h | ⟨j, hj, h⟩)
          · exact .inl h
          · exact .inr ⟨j, List.mem_cons_of_mem _ hj, h⟩
        · rintro (h | ⟨j, hj, h2, h⟩)
          · exact .inl h
          · rcases List.mem_cons.mp hj with rfl | hj
            · exact absurd h2 hb
            · exact .inr ⟨j, hj, h2, h⟩
theorem look_app {fnd : List (Int × List PyData)} {i j : Int} {cs : List PyData} : KN.lookF (fnd ++ [(i, cs)]) j = if (KN.lookF fnd j).isSome = true then KN.lookF fnd j else if i = j then some cs else none := by
  unfold KN.lookF
  rw [List.find?_append]
  cases h : fnd.find? fun p => decide (p.1 = j) with
  | some p => simp
  | none =>
    by_cases e : i = j <;> simp [e]
theorem acM_ok {cs : List RQ.Cl} (h5 : cs.length ≤ 5) (hc : Ok14 cs) : ∀ (r m : Nat) (fnd : List (Int × List PyData)), 1 ≤ m → m + r = 2 ^ cs.length → FdM cs m fnd → ∃ fin, KN.acM m_l_then (cs.map cD) ((List.range r).map (· + m)) fnd = some fin ∧ FdM cs (2 ^ cs.length) fin
  | 0, m, fnd, _, hm, hf => ⟨fnd, rfl, by rw [← hm]; exact hf⟩
  | r + 1, m, fnd, h1, hm, hf => by
    have hlt : m < 2 ^ cs.length := by omega
    obtain ⟨B, e1, nB, hB⟩ := acK_ok h5 hc hlt h1 hf (List.range cs.length) [] (fun k hk => List.mem_range.mp hk) List.nodup_nil fun x hx => by cases hx
    have hS : ∀ x, x ∈ B ↔ Sm cs m x := fun x => by
      rw [hB, sm_step h5 hlt h1]
      simp only [List.not_mem_nil, false_or, List.mem_range]
    obtain ⟨p1, p2⟩ := KN.pow_small h5
    have ne : (B.map cD).isEmpty = false := by
      cases hx : B with
      | cons b B => rfl
      | nil =>
        exfalso
        have h : Ch cs (ix cs.length m) ∈ B := (hS _).mpr ⟨_, List.Perm.refl _, rfl⟩
        rw [hx] at h
        cases h
    have hF2 : FdM cs (m + 1) (fnd ++ [((m : Int), B.map cD)]) := by
      refine ⟨fun j hj => ?_, fun j hj => ?_, by rw [List.length_append, hf.2.2]; rfl⟩
      · by_cases h : j = m
        · subst h
          exact ⟨B, by rw [look_app, hf.2.1 j (Nat.le_refl _)]; simp, nB, hS⟩
        · obtain ⟨F, q1, q2⟩ := hf.1 j (by omega)
          exact ⟨F, by rw [look_app, q1]; rfl, q2⟩
      · rw [look_app, hf.2.1 j (by omega)]
        simp
        omega
    obtain ⟨fin, e2, h2⟩ := acM_ok h5 hc r (m + 1) _ (by omega) (by omega) hF2
    refine ⟨fin, ?_, h2⟩
    have er : (List.range (r + 1)).map (· + m) = m :: (List.range r).map (· + (m + 1)) := by
      rw [List.range_succ_eq_map, List.map_cons, List.map_map]
      congr 1
      · simp
      · refine List.map_congr_left fun x _ => ?_
        simp only [Function.comp]
        omega
    rw [er]
    unfold KN.acM
    rw [List.length_map]
    have e1' : KN.acK m_l_then (cs.map cD) fnd m (List.range cs.length) [] = some (B.map cD) := e1
    rw [e1', Option.bind_some, if_pos ⟨ne, hf.2.1 m (Nat.le_refl _), by rw [hf.2.2]; omega⟩]
    exact e2
theorem t_all {cs : List RQ.Cl} (h5 : cs.length ≤ 5) (hc : Ok14 cs) : ∃ B : List RQ.Cl, m_l_all_chains (cs.map cD) = some (B.map cD) ∧ B.Nodup ∧ B.length ≤ 3125 ∧ ∀ x, x ∈ B ↔ ∃ ds : List RQ.Cl, ds.Perm cs ∧ x = chL ds := by
  obtain ⟨p1, p2⟩ := KN.pow_small h5
  have h0 : FdM cs 1 [(0, [KN.idC])] := by
    refine ⟨fun j hj => ?_, fun j hj => ?_, rfl⟩
    · have : j = 0 := by omega
      subst this
      refine ⟨[idC], rfl, by simp, fun x => ?_⟩
      rw [sm_zero h5]
      simp
    · have : ¬ ((0 : Int) = (j : Int)) := by omega
      simp [KN.lookF, this]
  obtain ⟨fin, e1, hF⟩ := acM_ok h5 hc (2 ^ cs.length - 1) 1 _ (Nat.le_refl _) (by omega) h0
  obtain ⟨B, e2, nB, hB⟩ := hF.1 (2 ^ cs.length - 1) (by omega)
  refine ⟨B, ?_, nB, sm_few h5 nB fun x hx => (hB x).mp hx, fun x => by rw [hB, sm_full h5]⟩
  show KN.allCh m_l_then (cs.map cD) = _
  unfold KN.allCh
  rw [List.length_map, if_pos h5, e1, Option.bind_some]
  have ei : ((2 : Int) ^ cs.length - 1) = ((2 ^ cs.length - 1 : Nat) : Int) := by
    rw [KN.pow_nat]; omega
  rw [ei]
  exact e2
/-- more than one chain exactly if some order has another one -/
theorem more_iff {cs B : List RQ.Cl} (hn : B.Nodup) (hB : ∀ x, x ∈ B ↔ ∃ ds : List RQ.Cl, ds.Perm cs ∧ x = chL ds) : decide (1 < B.length) = P1.omB cs := by
  rw [Bool.eq_iff_iff, decide_eq_true_eq, P1.omB_iff]
  have h0 : chL cs ∈ B := (hB _).mpr ⟨cs, List.Perm.refl _, rfl⟩
  constructor
  · intro h
    apply Classical.byContradiction
    intro hno
    have hall : ∀ x ∈ B, x = chL cs := fun x hx => by
      obtain ⟨ds, p, rfl⟩ := (hB x).mp hx
      apply Classical.byContradiction
      exact fun e => hno ⟨ds, p, e⟩
    have := nd_len (B := [chL cs]) hn fun x hx => by rw [hall x hx]; simp
    simp at this
    omega
  · rintro ⟨ds, p, e⟩
    have h1 : chL ds ∈ B := (hB _).mpr ⟨ds, p, rfl⟩
    match B, h0, h1 with
    | [], h, _ => cases h
    | [a], h, h' => rw [List.mem_singleton] at h h'; exact absurd (h'.trans h.symm) e
    | a :: b :: B, _, _ => simp
end K04
set_option exponentiation.threshold 5000
set_option maxRecDepth 100000
set_option maxHeartbeats 4000000
namespace K04
open PySem PySem.Spec PyProof.Rows L2 DL
open P1 (idC chL sc_ch2 sc_id)
abbrev lsD (o : List RQ.Cl) : PyData := .list (o.map cD)
theorem nza_cs : ∀ cs : List RQ.Cl, Ok14 cs → NzA 3 (9002 * cs.length) (cs.map cD)
  | [], _ => NzA.nil
  | c :: cs, h => by
    have h1 := NzA.cons (nz_c (h c List.mem_cons_self).1 (by decide)) (nza_cs cs fun d hd => h d (List.mem_cons_of_mem _ hd))
    refine ⟨h1.o, h1.d, Nat.le_trans h1.s ?_⟩
    rw [List.length_cons]
    omega
theorem rep_cs {cs : List RQ.Cl} (h : Ok14 cs) (h5 : cs.length ≤ 5) : ∃ s, reprD (lsD cs) = some (.str s) := ⟨_, (nza_cs cs h).lst.rep (by decide) (by omega)⟩
theorem e_iofL {ρ : Nv} {i : Nat} {ds : List PyData} (h : ρ[i]? = some (.d (.list ds))) : iOf (xVar i) ρ = some (ds, ρ) := by simp [h, itD]
theorem t_list {cs : List RQ.Cl} (h5 : cs.length ≤ 5) (hc : Ok14 cs) : m_l_list_right [.d (lsD cs)] = some (.d (.bool true), [.d (lsD cs)]) := by
  obtain ⟨z0, r0⟩ := rep_cs hc h5
  have e1 : m_l_chain [.d (lsD cs)] = some (.d (cD (chL cs)), [.d (lsD cs)]) := t_l_chain (b := 14) hc (by decide) (by omega)
  have e2 : P1.m_l_chained [.d (lsD cs)] = some (.d (cD (chL cs)), [.d (lsD cs)]) := P1.t_l_chained (fun c h => (hc c h).1) h5
  have s2 : Sc 146 (chL cs) := P1.Sc.mono (P1.sc_chL cs sc_id fun c h => (hc c h).1) (by omega)
  obtain ⟨z1, r1⟩ : ∃ s, reprD (cD (chL cs)) = some (.str s) := ⟨_, (nz_c s2 (by decide)).rep (by decide) (by decide)⟩
  have e3 : P1.m_l_matters [.d (lsD cs)] = some (.d (.bool (P1.omB cs)), [.d (lsD cs)]) := P1.t_l_matters (b := 14) (cs := cs) (fun c h => (hc c h).2) (fun c h => (hc c h).1) (by decide) h5 (by decide) (by omega)
  obtain ⟨B, e4, nB, lB, hB⟩ := t_all h5 hc
  have em := more_iff nB hB
  obtain ⟨z2, r2⟩ : ∃ s, reprD (.bool (P1.omB cs)) = some (.str s) := ⟨_, (nz_b _).rep (by decide) (by decide)⟩
  have e5 : ∀ ρ : Nv, ρ[0]? = some (.d (lsD cs)) → KN.xLenT m_l_all_chains (xVar 0) ρ = some (.int B.length, ρ) := fun ρ h => by
    have : (B.map cD).length ≤ 100000 := by rw [List.length_map]; omega
    unfold KN.xLenT
    rw [e_var, h]
    simp only [Option.bind_some, lsD, e4]
    rw [if_pos this, List.length_map]
  have e6 : gtD (.int (B.length : Int)) (.int 1) = some (.bool (P1.omB cs)) := by
    rw [o_gt, ← em]
    have : decide ((1 : Int) < (B.length : Int)) = decide (1 < B.length) := decide_eq_decide.mpr (by omega)
    rw [this]
  generalize chL cs = C2 at *
  generalize P1.omB cs = OB at *
  refine run_wp ?_
  unfold b_l_list_right
  refine wp_nx (ρ1 := [.d (lsD cs), .d (.str z0), .d (cD C2), .un, .un, .un]) ?_ ?_
  · clear e5 e4 hB
    generalize lsD cs = X at *
    generalize cD C2 = Y at *
    simp [r0, e1]
  refine wp_nx (ρ1 := [.d (lsD cs), .d (.str z0), .d (cD C2), .un, .un, .un]) ?_ ?_
  · clear e5 e4 hB
    generalize lsD cs = X at *
    generalize cD C2 = Y at *
    simp [p_l_chained, e2, r1, ne_ss]
  refine wp_nx (ρ1 := [.d (lsD cs), .d (.str z0), .d (cD C2), .un, .un, .un]) (if_none (fz_none (k := cD) (xs := cs) (e_iofL rfl) rfl fun x hx => ?_)) ?_
  · have e := t_vr (hc x hx).1
    generalize lsD cs = X at *
    generalize cD C2 = Y at *
    generalize cD x = Z at *
    simp [e_lcS, e]
  refine wp_nx (ρ1 := [.d (lsD cs), .d (.str z0), .d (cD C2), .un, .un, .un]) ?_ ?_
  · have e5' := e5 [.d (lsD cs), .d (.str z0), .d (cD C2), .un, .un, .un] rfl
    clear e5 e4 hB
    generalize KN.xLenT m_l_all_chains (xVar 0) = LT at *
    generalize lsD cs = X at *
    generalize cD C2 = Y at *
    simp [p_l_matters, e3, e5', e6, r2, ne_ss]
  refine wp_seq (wp_for cD cs (fun xs ρ => (∀ x ∈ xs, x ∈ cs) ∧ ∃ e, Fs e ∧ ρ = [.d (lsD cs), .d (.str z0), .d (cD C2), e, .un, .un]) (e_iofL rfl) ⟨fun x h => h, .un, by simp, rfl⟩ ?_ ?_)
  · rintro x xs ρ ⟨hx, e, fe, rfl⟩
    have hx0 := hc x (hx x List.mem_cons_self)
    refine ⟨[.d (lsD cs), .d (.str z0), .d (cD C2), .d (cD x), .un, .un], ?_, fun y hy => hx y (List.mem_cons_of_mem _ hy), _, by simp, rfl⟩
    have h := if_none (A := sRet (xC (.bool false))) (fz_none (g := gNm 5) (c := xNotT (xTru (xCall (arity 2 m_l_pair_right) (aCons (xVar 3) (aCons (xVar 5) (aNil)))))) (e := xVar 5) (vs := [5]) (k := cD) (xs := cs) (ρ := [.d (lsD cs), .d (.str z0), .d (cD C2), .d (cD x), .un, .un]) (e_iofL (i := 0) rfl) rfl fun y hy => by
      have e := t_pair hx0.1 (hc y hy).1 hx0.2 (hc y hy).2
      generalize lsD cs = X at *
      generalize cD C2 = Y at *
      generalize cD x = Z at *
      generalize cD y = W at *
      simp [e_lcS, e])
    generalize sIf (tst (x2 neD (xFz (nLc (iOf (xVar 0)) (gNm 5) (xNotT (xTru (xCall (arity 2 m_l_pair_right) (aCons (xVar 3) (aCons (xVar 5) (aNil)))))) (xVar 5) [5])) (xLst (aNil)))) (sRet (xC (.bool false))) (sNil) = S at *
    generalize lsD cs = X at *
    generalize cD C2 = Y at *
    generalize cD x = Z at *
    simp [e_stepF, free_fs fe, h]
  · rintro ρ ⟨-, e, fe, rfl⟩
    refine wp_ret (we_of (b := .bool true) (ρ' := [.d (lsD cs), .d (.str z0), .d (cD C2), e, .un, .un]) ?_ ⟨_, rfl, rfl⟩)
    clear e5 e4 hB
    generalize lsD cs = X at *
    generalize cD C2 = Y at *
    simp [r0, eq_ss]
end K04
set_option exponentiation.threshold 5000
set_option maxRecDepth 100000
set_option maxHeartbeats 4000000
namespace K04
open PySem PySem.Spec PyProof.Rows L2 DL
open P1 (chL)
abbrev hF (i : Fin 10) : RQ.Cl := P1.handC[i]'i.2
theorem ix_f (i : Fin 10) : atI (P1.handC.map cD) ((i.1 : Nat) : Int) = some (cD (hF i)) := by
  match i with
  | 0 => rfl
  | 1 => rfl
  | 2 => rfl
  | 3 => rfl
  | 4 => rfl
  | 5 => rfl
  | 6 => rfl
  | 7 => rfl
  | 8 => rfl
  | 9 => rfl
theorem cut34 : DL.cutD (P1.handC.map cD) (some 3) (some 4) = [cD (hF 3)] := by kernel_rfl
theorem mul5 (x : PyData) : mulD (.list [x]) (.int 5) = some (.list [x, x, x, x, x]) := rfl
theorem mul3 (x y z : PyData) : mulD (.list [x, y, z]) (.int 3) = some (.list [x, y, z, x, y, z, x, y, z]) := rfl
theorem hand_in (i : Fin 10) : hF i ∈ P1.handC := List.getElem_mem _
theorem ok_hand : Ok14 P1.handC := fun c h => ⟨(P1.hand_ok c h).2, (P1.hand_ok c h).1⟩
def lotsF : List (List RQ.Cl) := [[hF 3, hF 3, hF 3, hF 3, hF 3], [hF 3, hF 4, hF 1], [hF 3, hF 4, hF 7], [hF 6, hF 7, hF 8], []]
theorem ok_lots : ∀ cs ∈ lotsF, Ok14 cs ∧ cs.length ≤ 5 := by
  have key : ∀ cs ∈ lotsF, (∀ c ∈ cs, c ∈ P1.handC) ∧ cs.length ≤ 5 := by
    have h := hand_in
    intro cs hc
    simp only [lotsF, List.mem_cons, List.not_mem_nil, or_false] at hc
    rcases hc with rfl | rfl | rfl | rfl | rfl
    · exact ⟨fun c q => by simp only [List.mem_cons, List.not_mem_nil, or_false, or_self] at q; rw [q]; exact h 3, by decide⟩
    · exact ⟨fun c q => by simp only [List.mem_cons, List.not_mem_nil, or_false] at q; exact q.elim (fun e => e ▸ h 3) fun q => q.elim (fun e => e ▸ h 4) fun e => e ▸ h 1, by decide⟩
    · exact ⟨fun c q => by simp only [List.mem_cons, List.not_mem_nil, or_false] at q; exact q.elim (fun e => e ▸ h 3) fun q => q.elim (fun e => e ▸ h 4) fun e => e ▸ h 7, by decide⟩
    · exact ⟨fun c q => by simp only [List.mem_cons, List.not_mem_nil, or_false] at q; exact q.elim (fun e => e ▸ h 6) fun q => q.elim (fun e => e ▸ h 7) fun e => e ▸ h 8, by decide⟩
    · exact ⟨fun c q => by simp at q, by decide⟩
  exact fun cs hc => ⟨fun c q => ok_hand c ((key cs hc).1 c q), (key cs hc).2⟩
def twL : List RQ.Cl := [hF 3, hF 4, hF 5, hF 3, hF 4, hF 5, hF 3, hF 4, hF 5, hF 3, hF 4, hF 7]
theorem tw_eq : ∃ z, P1.m_chained (twL.map fun c => .d (cD c)) = some (.d z, twL.map fun c => .d (cD c)) ∧ m_l_chain [.d (.list (twL.map cD))] = some (.d z, [.d (.list (twL.map cD))]) ∧ eqD z z = some (.bool true) ∧ neD z z = some (.bool false) :=
  ⟨cD (chL twL), by kernel_rfl, by kernel_rfl, by kernel_rfl, by kernel_rfl⟩
end K04
set_option exponentiation.threshold 5000
set_option maxRecDepth 100000
set_option maxHeartbeats 4000000
namespace K04
open PySem PySem.Spec PyProof.Rows L2 DL
open P1 (chL)
theorem six {x : Nat} : ∃ q : Int, idxY (.list [.int 6, .int 4, .int 4, .int 4]) (.int ((x : Int) % 4)) = some (.int q) ∧ 0 < q ∧ q ≤ 6 := by
  have h : (x : Int) % 4 = 0 ∨ (x : Int) % 4 = 1 ∨ (x : Int) % 4 = 2 ∨ (x : Int) % 4 = 3 := by omega
  rcases h with h | h | h | h <;> rw [h]
  · exact ⟨6, rfl, by decide, by decide⟩
  · exact ⟨4, rfl, by decide, by decide⟩
  · exact ⟨4, rfl, by decide, by decide⟩
  · exact ⟨4, rfl, by decide, by decide⟩
theorem law_true (ns : List Int) (hl : ns.length ≤ sizeLine) : m_law [.scr ns] = some (.d (.bool true), [.scr ns]) := by
  obtain ⟨o, ef, f0⟩ := P1.t_feed ns
  have i1 := ix_f 1
  have i3 := ix_f 3
  have i4 := ix_f 4
  have i5 := ix_f 5
  have i6 := ix_f 6
  have i7 := ix_f 7
  have i8 := ix_f 8
  have c := cut34
  simp only [show (((1 : Fin 10).1 : Nat) : Int) = 1 from rfl, show (((3 : Fin 10).1 : Nat) : Int) = 3 from rfl, show (((4 : Fin 10).1 : Nat) : Int) = 4 from rfl, show (((5 : Fin 10).1 : Nat) : Int) = 5 from rfl, show (((6 : Fin 10).1 : Nat) : Int) = 6 from rfl, show (((7 : Fin 10).1 : Nat) : Int) = 7 from rfl, show (((8 : Fin 10).1 : Nat) : Int) = 8 from rfl] at i1 i3 i4 i5 i6 i7 i8
  have hh : m_l_items_by_hand [] = some (.d (.list (P1.handC.map cD)), []) := by rw [p_l_hand, P1.t_l_hand, P1.hand_eq]
  have hok := ok_hand
  obtain ⟨tz, tw1, tw2, -, tw4⟩ := tw_eq
  simp only [twL, List.map_cons, List.map_nil] at tw1 tw2
  generalize hH : P1.handC.map cD = H at *
  refine run_wp ?_
  unfold b_law
  refine wp_nx (ρ1 := [.scr ns, .own o false, .un, .un, .un, .un, .un, .un, .un, .un, .un, .un, .un]) (by simp only [p_l_feed]; simp [ef]) ?_
  refine wp_nx (ρ1 := [.scr ns, .own o false, .d (.list H), .un, .un, .un, .un, .un, .un, .un, .un, .un, .un]) (by simp [hh]) ?_
  refine wp_seq (wp_forW cD P1.handC (fun xs ρ => (∀ x ∈ xs, x ∈ P1.handC) ∧ ∃ e, Fs e ∧ ρ = [.scr ns, .own o false, .d (.list H), e, .un, .un, .un, .un, .un, .un, .un, .un, .un]) (by rw [hH]; exact e_iofL rfl) ⟨fun x h => h, .un, by simp, rfl⟩ ?_ ?_)
  · rintro x xs ρ ⟨hx, e, fe, rfl⟩
    have h0 := hok x (hx x List.mem_cons_self)
    have ev := t_vr h0.1
    refine ⟨[.scr ns, .own o false, .d (.list H), .d (cD x), .un, .un, .un, .un, .un, .un, .un, .un, .un], by simp [free_fs fe], ?_⟩
    refine wp_nx (ρ1 := [.scr ns, .own o false, .d (.list H), .d (cD x), .un, .un, .un, .un, .un, .un, .un, .un, .un]) ?_ ?_
    · generalize cD x = X at *
      simp [ev]
    refine ⟨_, if_none (fz_none (k := cD) (xs := P1.handC) (by rw [hH]; exact e_iofL rfl) rfl fun y hy => ?_), _, rfl, fun z hz => hx z (List.mem_cons_of_mem _ hz), _, by simp, rfl⟩
    have e := t_pair h0.1 (hok y hy).1 h0.2 (hok y hy).2
    generalize cD x = X at *
    generalize cD y = Y at *
    simp [e_lcS, e]
  rintro ρ ⟨-, e3, fe3, rfl⟩
  refine wp_nx (ρ1 := [.scr ns, .own o false, .d (.list H), e3, .own (.ol (lotsF.map lsD)) false, .un, .un, .un, .un, .un, .un, .un, .un]) (by simp [oSome, c, i1, i3, i4, i6, i7, i8, sizeL, mul5, lotsF]) ?_
  have g0 := ok_lots
  have n0 : lotsF.length = 5 := rfl
  generalize lotsF = L0 at *
  refine wp_seq (wp_forW (fun (j : Nat) => PyData.int j) (List.range 12) (fun xs ρ => ∃ (N : Nat) (o : OD) (ls : List (List RQ.Cl)) (a5 : EV), P1.Fd N o ∧ N + 61 * xs.length ≤ 1000 ∧ ls.length + xs.length ≤ 20 ∧ (∀ l ∈ ls, Ok14 l ∧ l.length ≤ 5) ∧ Fs a5 ∧ ρ = [.scr ns, .own o false, .d (.list H), e3, .own (.ol (ls.map lsD)) false, a5, .un, .un, .un, .un, .un, .un, .un])
    (rngN_map 12 _ _ rfl (by decide)) ⟨0, o, L0, .un, f0, by rw [List.length_range]; omega, by rw [List.length_range]; omega, g0, by simp, rfl⟩ ?_ ?_)
  · rintro x xs ρ ⟨N, o, ls, a4, fo, hN, hls, gl, f4, rfl⟩
    rw [List.length_cons] at hN hls
    refine ⟨[.scr ns, .own o false, .d (.list H), e3, .own (.ol (ls.map lsD)) false, .d (.int x), .un, .un, .un, .un, .un, .un, .un], by simp [free_fs f4], ?_⟩
    obtain ⟨q, eq, q1, q2⟩ := six (x := x)
    obtain ⟨r, o1, e1, r0, r3, fo1⟩ := P1.t_draw fo (by omega) (k := q) q1 (by omega) true
    obtain ⟨n, rfl⟩ := Int.eq_ofNat_of_zero_le r0
    have hr : iRng (xCall (arity 2 m_l_draw) (aSlot 1 (aCons (x2 idxY (xLst (aCons (xC (.int 6)) (aCons (xC (.int 4)) (aCons (xC (.int 4)) (aCons (xC (.int 4)) (aNil)))))) (x2 modD (xVar 5) (xC (.int 4)))) (aNil)))) [.scr ns, .own o false, .d (.list H), e3, .own (.ol (ls.map lsD)) false, .d (.int x), .un, .un, .un, .un, .un, .un, .un] = some ((List.range n).map fun (j : Nat) => PyData.int j, [.scr ns, .own o1 false, .d (.list H), e3, .own (.ol (ls.map lsD)) false, .d (.int x), .un, .un, .un, .un, .un, .un, .un]) :=
      e_rngN (n := n) (by simp only [p_l_draw]; simp [e1, sizeL, eq, o_mod]) (by omega)
    refine wp_drop (we_app (zs := ls.map lsD) (b := false) rfl (we_lcJ cD (fun c => RQ.WF c ∧ Sc 14 c) (fun m ρ => ∃ M o, P1.Fd M o ∧ M + 10 * m ≤ N + 1 + 10 * n ∧ ρ = [.scr ns, .own o false, .d (.list H), e3, .own (.ol (ls.map lsD)) false, .d (.int x), .un, .un, .un, .un, .un, .un, .un])
      hr rfl ⟨N + 1, o1, fo1, by rw [List.length_range]; omega, rfl⟩ ?_ (by rw [List.length_range]; omega) ?_))
    · rintro y ρ m hm ⟨M, o, fo, hM, rfl⟩
      obtain ⟨c, o', e, w, s, f'⟩ := P1.t_l_item fo (by omega) true
      exact ⟨c, [.scr ns, .own o' false, .d (.list H), e3, .own (.ol (ls.map lsD)) false, .d (.int x), .un, .un, .un, .un, .un, .un, .un], by simp [e_lcS, p_l_item, e], ⟨w, s⟩, M + 10, o', f', by omega, rfl⟩
    · rintro cs ρ clen cg ⟨M, o', fo', hM, rfl⟩
      rw [List.length_range] at clen
      refine ⟨ls.map lsD, false, rfl, by rw [List.length_map]; omega, _, rfl, M, o', ls ++ [cs], .d (.int x), fo', by omega, by rw [List.length_append, List.length_singleton]; omega, fun l hl => ?_, by simp, by rw [List.map_append]; rfl⟩
      rcases List.mem_append.mp hl with h | h
      · exact gl l h
      · rw [List.mem_singleton.mp h]
        exact ⟨fun c hc => ⟨(cg c hc).2, (cg c hc).1⟩, by omega⟩
  rintro ρ ⟨N, o, ls, a5, fo, hN, hls, gl, f5, rfl⟩
  refine wp_nx (ρ1 := [.scr ns, .own o false, .d (.list H), e3, .own (.ol (ls.map lsD)) false, a5, .d (cD (hF 3)), .d (cD (hF 4)), .d (cD (hF 5)), .d (cD (hF 7)), .un, .un, .un]) (by simp [i3, i4, i5, i7, sizeL]) ?_
  refine wp_nx (ρ1 := [.scr ns, .own o false, .d (.list H), e3, .own (.ol (ls.map lsD)) false, a5, .d (cD (hF 3)), .d (cD (hF 4)), .d (cD (hF 5)), .d (cD (hF 7)), .un, .un, .un]) ?_ ?_
  · generalize cD (hF 3) = D3 at *
    generalize cD (hF 4) = D4 at *
    generalize cD (hF 5) = D5 at *
    generalize cD (hF 7) = D7 at *
    simp [p_chained, tw1, tw2, tw4, sizeL, mul3]
  refine wp_ret (we_of (b := .bool true) (ρ' := [.scr ns, .own o false, .d (.list H), e3, .d (.list (ls.map lsD)), a5, .d (cD (hF 3)), .d (cD (hF 4)), .d (cD (hF 5)), .d (cD (hF 7)), .un, .un, .un]) (eq_none (fz_none (k := lsD) (xs := ls) (by simp) rfl fun y hy => ?_)) ⟨_, rfl, rfl⟩)
  have e := t_list (gl y hy).2 (gl y hy).1
  generalize lsD y = Y at *
  generalize cD (hF 3) = D3 at *
  generalize cD (hF 4) = D4 at *
  generalize cD (hF 5) = D5 at *
  generalize cD (hF 7) = D7 at *
  simp [e_lcS, e]
end K04
namespace K04
open PySem PySem.Spec PyProof.Rows L2 DL
theorem all_mk {P : Program} {w : World} {K : PySem.W.Frag} {h : Heap} {mg : Str → Option Value} {fa : Addr} (X : K.In h) (G : h.Ns mainGlobals mg) (hfa : mg "law" = some (.ref fa))
    (e_l_feed : DefEx K "_law_feed" (topS 24))
    (e_l_constant : DefEx K "_law_constant" (topS 33))
    (e_l_items_by_hand : DefEx K "_law_items_by_hand" (topS 41))
    (e_common_divisor : DefEx K "common_divisor" (topS 1))
    (e_fraction : DefExD K "fraction" (topS 4) [.int 1] [])
    (e_fraction_product : DefEx K "fraction_product" (topS 6))
    (e_fraction_sum : DefEx K "fraction_sum" (topS 5))
    (e_is_less : DefEx K "is_less" (topS 2))
    (e_bounded : DefEx K "bounded" (topS 9))
    (e_applied : DefEx K "applied" (topS 14))
    (e_end_after : DefEx K "end_after" (topS 15))
    (e_constant_clause : DefEx K "constant_clause" (topS 12))
    (e_normal_form : DefExD K "normal_form" (topS 13) [] [("low", .non), ("high", .non)])
    (e_chained_two : DefEx K "chained_two" (topS 16))
    (e_chained : DefEx K "chained" (topS 17))
    (e_l_gcd : DefEx K "_law_gcd" (topS 26))
    (e_l_ratio : DefEx K "_law_ratio" (topS 27))
    (e_l_add : DefEx K "_law_add" (topS 28))
    (e_l_less : DefEx K "_law_less" (topS 30))
    (e_l_bounded : DefEx K "_law_bounded" (topS 31))
    (e_l_normal : DefEx K "_law_normal" (topS 34))
    (e_l_times : DefEx K "_law_times" (topS 29))
    (e_l_apply : DefEx K "_law_apply" (topS 32))
    (e_l_then : DefEx K "_law_then" (topS 35))
    (e_l_chain : DefEx K "_law_chain" (topS 36))
    (e_values_of : DefEx K "values_of" (topS 22))
    (e_l_values_right : DefEx K "_law_values_right" (topS 48))
    (e_l_draw : DefEx K "_law_draw" (topS 25))
    (e_l_sizes : DefEx K "_law_sizes" (topS 37))
    (e_l_size : DefEx K "_law_size" (topS 38))
    (e_l_raw : DefEx K "_law_raw" (topS 39))
    (e_l_item : DefEx K "_law_item" (topS 40))
    (e_l_chained : DefEx K "_law_chained" (topS 44))
    (e_order_matters : DefEx K "order_matters" (topS 21))
    (e_l_matters : DefEx K "_law_matters" (topS 45))
    (e_l_all_chains : DefEx K "_law_all_chains" (topS 46))
    (e_quotient : DefEx K "quotient" (topS 8))
    (e_difference : DefEx K "difference" (topS 7))
    (e_bends_of : DefEx K "bends_of" (topS 18))
    (e_differs_at : DefEx K "differs_at" (topS 19))
    (e_commute : DefEx K "commute" (topS 20))
    (e_l_integer : DefEx K "_law_integer" (topS 42))
    (e_l_is_ratio : DefEx K "_law_is_ratio" (topS 43))
    (e_l_pair_right : DefEx K "_law_pair_right" (topS 47))
    (e_l_list_right : DefEx K "_law_list_right" (topS 49))
    (e_law : DefEx K "law" (topS 50))
    (n_abs : PySem.W.nsIn K mainGlobals "abs" = some none)
    (n_bool : PySem.W.nsIn K mainGlobals "bool" = some none)
    (n_int : PySem.W.nsIn K mainGlobals "int" = some none)
    (n_isinstance : PySem.W.nsIn K mainGlobals "isinstance" = some none)
    (n_len : PySem.W.nsIn K mainGlobals "len" = some none)
    (n_list : PySem.W.nsIn K mainGlobals "list" = some none)
    (n_range : PySem.W.nsIn K mainGlobals "range" = some none)
    (n_repr : PySem.W.nsIn K mainGlobals "repr" = some none)
    (n_tuple : PySem.W.nsIn K mainGlobals "tuple" = some none)
    (c_IDENTITY : ConT K "IDENTITY" (.tuple [.tuple [.int 1, .int 1], .tuple [.int 0, .int 1], .none, .none]))
    : ∃ fd : FuncData, (∀ (s : Shared) (u : Value), BindsTo s fd ⟨[u], []⟩ [("_law_script", u)]) ∧ ∀ base : Heap, K.In base → base.Ns mainGlobals mg → FnG P w K mg base 11 fa fd ["_law_script"] m_law := by
  obtain ⟨f24, fd24, d24⟩ := def_at (ps := ["_law_script"]) X G e_l_feed fun _ _ _ _ _ _ us hl => match us, hl with | [_], _ => rfl
  obtain ⟨f33, fd33, d33⟩ := def_at (ps := ["_law_size_here"]) X G e_l_constant fun _ _ _ _ _ _ us hl => match us, hl with | [_], _ => rfl
  obtain ⟨f41, fd41, d41⟩ := def_at (ps := []) X G e_l_items_by_hand fun _ _ _ _ _ _ us hl => match us, hl with | [], _ => rfl
  obtain ⟨f1, fd1, d1⟩ := def_at (ps := ["one", "other"]) X G e_common_divisor fun _ _ _ _ _ _ us hl => match us, hl with | [_, _], _ => rfl
  obtain ⟨f4, fd4, d4⟩ := def_atD X G e_fraction
  obtain ⟨f6, fd6, d6⟩ := def_atV (pv := "fractions") X G e_fraction_product fun _ _ _ _ _ _ us => match us with | [] => rfl | _ :: _ => rfl
  obtain ⟨f5, fd5, d5⟩ := def_atV (pv := "fractions") X G e_fraction_sum fun _ _ _ _ _ _ us => match us with | [] => rfl | _ :: _ => rfl
  obtain ⟨f2, fd2, d2⟩ := def_at (ps := ["one", "other"]) X G e_is_less fun _ _ _ _ _ _ us hl => match us, hl with | [_, _], _ => rfl
  obtain ⟨f9, fd9, d9⟩ := def_at (ps := ["amount", "low", "high"]) X G e_bounded fun _ _ _ _ _ _ us hl => match us, hl with | [_, _, _], _ => rfl
  obtain ⟨f14, fd14, d14⟩ := def_at (ps := ["clause", "amount"]) X G e_applied fun _ _ _ _ _ _ us hl => match us, hl with | [_, _], _ => rfl
  obtain ⟨f15, fd15, d15⟩ := def_at (ps := ["end", "clause", "bound"]) X G e_end_after fun _ _ _ _ _ _ us hl => match us, hl with | [_, _, _], _ => rfl
  obtain ⟨f12, fd12, d12⟩ := def_at (ps := ["amount"]) X G e_constant_clause fun _ _ _ _ _ _ us hl => match us, hl with | [_], _ => rfl
  obtain ⟨f13, fd13, d13⟩ := def_atD X G e_normal_form
  obtain ⟨f16, fd16, d16⟩ := def_at (ps := ["one", "other"]) X G e_chained_two fun _ _ _ _ _ _ us hl => match us, hl with | [_, _], _ => rfl
  obtain ⟨f17, fd17, d17⟩ := def_atV (pv := "clauses") X G e_chained fun _ _ _ _ _ _ us => match us with | [] => rfl | _ :: _ => rfl
  obtain ⟨f26, fd26, d26⟩ := def_at (ps := ["_law_one_in", "_law_other_in"]) X G e_l_gcd fun _ _ _ _ _ _ us hl => match us, hl with | [_, _], _ => rfl
  obtain ⟨f27, fd27, d27⟩ := def_at (ps := ["_law_top", "_law_under"]) X G e_l_ratio fun _ _ _ _ _ _ us hl => match us, hl with | [_, _], _ => rfl
  obtain ⟨f28, fd28, d28⟩ := def_at (ps := ["_law_one_in", "_law_other_in"]) X G e_l_add fun _ _ _ _ _ _ us hl => match us, hl with | [_, _], _ => rfl
  obtain ⟨f30, fd30, d30⟩ := def_at (ps := ["_law_one_in", "_law_other_in"]) X G e_l_less fun _ _ _ _ _ _ us hl => match us, hl with | [_, _], _ => rfl
  obtain ⟨f31, fd31, d31⟩ := def_at (ps := ["_law_size_here", "_law_low", "_law_high"]) X G e_l_bounded fun _ _ _ _ _ _ us hl => match us, hl with | [_, _, _], _ => rfl
  obtain ⟨f34, fd34, d34⟩ := def_at (ps := ["_law_ratio_here", "_law_more", "_law_low", "_law_high"]) X G e_l_normal fun _ _ _ _ _ _ us hl => match us, hl with | [_, _, _, _], _ => rfl
  obtain ⟨f29, fd29, d29⟩ := def_at (ps := ["_law_one_in", "_law_other_in"]) X G e_l_times fun _ _ _ _ _ _ us hl => match us, hl with | [_, _], _ => rfl
  obtain ⟨f32, fd32, d32⟩ := def_at (ps := ["_law_item_here", "_law_size_here"]) X G e_l_apply fun _ _ _ _ _ _ us hl => match us, hl with | [_, _], _ => rfl
  obtain ⟨f35, fd35, d35⟩ := def_at (ps := ["_law_one_in", "_law_other_in"]) X G e_l_then fun _ _ _ _ _ _ us hl => match us, hl with | [_, _], _ => rfl
  obtain ⟨f36, fd36, d36⟩ := def_at (ps := ["_law_items"]) X G e_l_chain fun _ _ _ _ _ _ us hl => match us, hl with | [_], _ => rfl
  obtain ⟨f22, fd22, d22⟩ := def_at (ps := ["clause"]) X G e_values_of fun _ _ _ _ _ _ us hl => match us, hl with | [_], _ => rfl
  obtain ⟨f48, fd48, d48⟩ := def_at (ps := ["_law_item_here"]) X G e_l_values_right fun _ _ _ _ _ _ us hl => match us, hl with | [_], _ => rfl
  obtain ⟨f25, fd25, d25⟩ := def_at (ps := ["_law_feed_here", "_law_many"]) X G e_l_draw fun _ _ _ _ _ _ us hl => match us, hl with | [_, _], _ => rfl
  obtain ⟨f37, fd37, d37⟩ := def_at (ps := []) X G e_l_sizes fun _ _ _ _ _ _ us hl => match us, hl with | [], _ => rfl
  obtain ⟨f38, fd38, d38⟩ := def_at (ps := ["_law_feed_here"]) X G e_l_size fun _ _ _ _ _ _ us hl => match us, hl with | [_], _ => rfl
  obtain ⟨f39, fd39, d39⟩ := def_at (ps := ["_law_feed_here"]) X G e_l_raw fun _ _ _ _ _ _ us hl => match us, hl with | [_], _ => rfl
  obtain ⟨f40, fd40, d40⟩ := def_at (ps := ["_law_feed_here"]) X G e_l_item fun _ _ _ _ _ _ us hl => match us, hl with | [_], _ => rfl
  obtain ⟨f44, fd44, d44⟩ := def_at (ps := ["_law_items"]) X G e_l_chained fun _ _ _ _ _ _ us hl => match us, hl with | [_], _ => rfl
  obtain ⟨f21, fd21, d21⟩ := def_atV (pv := "clauses") X G e_order_matters fun _ _ _ _ _ _ us => match us with | [] => rfl | _ :: _ => rfl
  obtain ⟨f45, fd45, d45⟩ := def_at (ps := ["_law_items"]) X G e_l_matters fun _ _ _ _ _ _ us hl => match us, hl with | [_], _ => rfl
  obtain ⟨f46, fd46, d46⟩ := def_at (ps := ["_law_items"]) X G e_l_all_chains fun _ _ _ _ _ _ us hl => match us, hl with | [_], _ => rfl
  obtain ⟨f8, fd8, d8⟩ := def_at (ps := ["one", "other"]) X G e_quotient fun _ _ _ _ _ _ us hl => match us, hl with | [_, _], _ => rfl
  obtain ⟨f7, fd7, d7⟩ := def_at (ps := ["one", "other"]) X G e_difference fun _ _ _ _ _ _ us hl => match us, hl with | [_, _], _ => rfl
  obtain ⟨f18, fd18, d18⟩ := def_at (ps := ["clause"]) X G e_bends_of fun _ _ _ _ _ _ us hl => match us, hl with | [_], _ => rfl
  obtain ⟨f19, fd19, d19⟩ := def_at (ps := ["one", "other"]) X G e_differs_at fun _ _ _ _ _ _ us hl => match us, hl with | [_, _], _ => rfl
  obtain ⟨f20, fd20, d20⟩ := def_at (ps := ["one", "other"]) X G e_commute fun _ _ _ _ _ _ us hl => match us, hl with | [_, _], _ => rfl
  obtain ⟨f42, fd42, d42⟩ := def_at (ps := ["_law_item_here"]) X G e_l_integer fun _ _ _ _ _ _ us hl => match us, hl with | [_], _ => rfl
  obtain ⟨f43, fd43, d43⟩ := def_at (ps := ["_law_item_here"]) X G e_l_is_ratio fun _ _ _ _ _ _ us hl => match us, hl with | [_], _ => rfl
  obtain ⟨f47, fd47, d47⟩ := def_at (ps := ["_law_one_in", "_law_other_in"]) X G e_l_pair_right fun _ _ _ _ _ _ us hl => match us, hl with | [_, _], _ => rfl
  obtain ⟨f49, fd49, d49⟩ := def_at (ps := ["_law_items"]) X G e_l_list_right fun _ _ _ _ _ _ us hl => match us, hl with | [_], _ => rfl
  obtain ⟨f50, fd50, d50⟩ := def_at (ps := ["_law_script"]) X G e_law fun _ _ _ _ _ _ us hl => match us, hl with | [_], _ => rfl
  have T : Txt K mg (fun i => [0, f1, f2, 0, f4, f5, f6, f7, f8, f9, 0, 0, f12, f13, f14, f15, f16, f17, f18, f19, f20, f21, f22, 0, f24, f25, f26, f27, f28, f29, f30, f31, f32, f33, f34, f35, f36, f37, f38, f39, f40, f41, f42, f43, f44, f45, f46, f47, f48, f49, f50].getD i 0) (fun i => [fd50, fd1, fd2, fd50, fd4, fd5, fd6, fd7, fd8, fd9, fd50, fd50, fd12, fd13, fd14, fd15, fd16, fd17, fd18, fd19, fd20, fd21, fd22, fd50, fd24, fd25, fd26, fd27, fd28, fd29, fd30, fd31, fd32, fd33, fd34, fd35, fd36, fd37, fd38, fd39, fd40, fd41, fd42, fd43, fd44, fd45, fd46, fd47, fd48, fd49, fd50].getD i fd50) := {
    d_l_feed := d24
    d_l_constant := d33
    d_l_items_by_hand := d41
    d_common_divisor := d1
    d_fraction := d4
    d_fraction_product := d6
    d_fraction_sum := d5
    d_is_less := d2
    d_bounded := d9
    d_applied := d14
    d_end_after := d15
    d_constant_clause := d12
    d_normal_form := d13
    d_chained_two := d16
    d_chained := d17
    d_l_gcd := d26
    d_l_ratio := d27
    d_l_add := d28
    d_l_less := d30
    d_l_bounded := d31
    d_l_normal := d34
    d_l_times := d29
    d_l_apply := d32
    d_l_then := d35
    d_l_chain := d36
    d_values_of := d22
    d_l_values_right := d48
    d_l_draw := d25
    d_l_sizes := d37
    d_l_size := d38
    d_l_raw := d39
    d_l_item := d40
    d_l_chained := d44
    d_order_matters := d21
    d_l_matters := d45
    d_l_all_chains := d46
    d_quotient := d8
    d_difference := d7
    d_bends_of := d18
    d_differs_at := d19
    d_commute := d20
    d_l_integer := d42
    d_l_is_ratio := d43
    d_l_pair_right := d47
    d_l_list_right := d49
    d_law := d50
    q_fraction_2 := pb_dfl d4.F (by simp) fun _ _ _ _ _ _ _ us ws its h1 h2 hv => match us, ws, its, h1, h2, hv with | [u0, u1], [], [x_denominator], _, _, .cons a_denominator (.nil) => ⟨_, [u0, u1], rfl, rfl, rfl, .at_ rfl (.at_ rfl (.nil))⟩
    q_normal_form_2_low_high := pb_none d13.F fun _ _ _ _ _ _ us ws h1 h2 => match us, ws, h1, h2 with | [u0, u1], [w0, w1], _, _ => ⟨[u0, u1, w0, w1], rfl, rfl, .at_ rfl (.at_ rfl (.at_ rfl (.at_ rfl (.nil))))⟩
    q_values_of_0_clause := pb_none (fun_d d22.F) fun _ _ _ _ _ _ us ws h1 h2 => match us, ws, h1, h2 with | [], [w0], _, _ => ⟨[w0], rfl, rfl, .at_ rfl (.nil)⟩
    q_commute_0_other_one := pb_none (fun_d d20.F) fun _ _ _ _ _ _ us ws h1 h2 => match us, ws, h1, h2 with | [], [w0, w1], _, _ => ⟨[w1, w0], rfl, rfl, .at_ rfl (.at_ rfl (.nil))⟩
    q_differs_at_0_other_one := pb_none (fun_d d19.F) fun _ _ _ _ _ _ us ws h1 h2 => match us, ws, h1, h2 with | [], [w0, w1], _, _ => ⟨[w1, w0], rfl, rfl, .at_ rfl (.at_ rfl (.nil))⟩
    n_abs := PySem.W.mg_none_of X G n_abs
    n_bool := PySem.W.mg_none_of X G n_bool
    n_int := PySem.W.mg_none_of X G n_int
    n_isinstance := PySem.W.mg_none_of X G n_isinstance
    n_len := PySem.W.mg_none_of X G n_len
    n_list := PySem.W.mg_none_of X G n_list
    n_range := PySem.W.mg_none_of X G n_range
    n_repr := PySem.W.mg_none_of X G n_repr
    n_tuple := PySem.W.mg_none_of X G n_tuple
    c_IDENTITY := con_atT X G c_IDENTITY }
  have e := hfa.symm.trans d50.g
  cases e
  exact ⟨fd50, fun s u => .of_eq (d50.be [u] rfl), fun base _ _ => ok_law T⟩
end K04

open PySem PySem.W PyProof.Rows in
set_option maxRecDepth 100000 in
set_option maxHeartbeats 0 in
theorem PySem.Challenge.cw_stackorder_k04_chains_holds : PySem.Challenge.rw_stackorder_k04_chains.Holds := by
  w_on; o_law; k_head; (case hw => w_witness2)
  k_fill
  refine DL.walk_d (l := PySem.Challenge.rw_stackorder_k04_chains) (k := 11) (m := K04.m_law) (x := "_law_script") rfl (by decide) rfl ⟨rfl, by decide, by decide⟩ (fun w h Y => PySem.W.kIn_of Y) ?F (fun ns hl => K04.law_true ns (Nat.le_trans hl (by decide)))
  case F =>
    intro w mg fa h KX G hmg
    refine' K04.all_mk KX G hmg ?e_l_feed ?e_l_constant ?e_l_items_by_hand ?e_common_divisor ?e_fraction ?e_fraction_product ?e_fraction_sum ?e_is_less ?e_bounded ?e_applied ?e_end_after ?e_constant_clause ?e_normal_form ?e_chained_two ?e_chained ?e_l_gcd ?e_l_ratio ?e_l_add ?e_l_less ?e_l_bounded ?e_l_normal ?e_l_times ?e_l_apply ?e_l_then ?e_l_chain ?e_values_of ?e_l_values_right ?e_l_draw ?e_l_sizes ?e_l_size ?e_l_raw ?e_l_item ?e_l_chained ?e_order_matters ?e_l_matters ?e_l_all_chains ?e_quotient ?e_difference ?e_bends_of ?e_differs_at ?e_commute ?e_l_integer ?e_l_is_ratio ?e_l_pair_right ?e_l_list_right ?e_law ?n_abs ?n_bool ?n_int ?n_isinstance ?n_len ?n_list ?n_range ?n_repr ?n_tuple ?c_IDENTITY
    (case e_l_feed => exact ⟨_, _, _, _, _, _, _, _, _, _, by k_is, by k_is, by k_is, by k_is⟩)
    (case e_l_constant => exact ⟨_, _, _, _, _, _, _, _, _, _, by k_is, by k_is, by k_is, by k_is⟩)
    (case e_l_items_by_hand => exact ⟨_, _, _, _, _, _, _, _, _, _, by k_is, by k_is, by k_is, by k_is⟩)
    (case e_common_divisor => exact ⟨_, _, _, _, _, _, _, _, _, _, by k_is, by k_is, by k_is, by k_is⟩)
    (case e_fraction => exact ⟨_, _, _, _, _, _, _, _, _, _, _, by k_is, by k_is, by k_is, by k_is, .inr ⟨by simp, _, _, _, _, rfl, by k_is, rfl, .cons ⟨_, rfl⟩ (.nil)⟩, .inl rfl⟩)
    (case e_fraction_product => exact ⟨_, _, _, _, _, _, _, _, _, _, by k_is, by k_is, by k_is, by k_is⟩)
    (case e_fraction_sum => exact ⟨_, _, _, _, _, _, _, _, _, _, by k_is, by k_is, by k_is, by k_is⟩)
    (case e_is_less => exact ⟨_, _, _, _, _, _, _, _, _, _, by k_is, by k_is, by k_is, by k_is⟩)
    (case e_bounded => exact ⟨_, _, _, _, _, _, _, _, _, _, by k_is, by k_is, by k_is, by k_is⟩)
    (case e_applied => exact ⟨_, _, _, _, _, _, _, _, _, _, by k_is, by k_is, by k_is, by k_is⟩)
    (case e_end_after => exact ⟨_, _, _, _, _, _, _, _, _, _, by k_is, by k_is, by k_is, by k_is⟩)
    (case e_constant_clause => exact ⟨_, _, _, _, _, _, _, _, _, _, by k_is, by k_is, by k_is, by k_is⟩)
    (case e_normal_form => exact ⟨_, _, _, _, _, _, _, _, _, _, _, by k_is, by k_is, by k_is, by k_is, .inl ⟨rfl, rfl⟩, .inr ⟨_, rfl, fun q hq => by rcases List.mem_cons.mp hq with rfl | hq; exact ⟨_, by k_is, rfl⟩; rcases List.mem_cons.mp hq with rfl | hq; exact ⟨_, by k_is, rfl⟩; cases hq⟩⟩)
    (case e_chained_two => exact ⟨_, _, _, _, _, _, _, _, _, _, by k_is, by k_is, by k_is, by k_is⟩)
    (case e_chained => exact ⟨_, _, _, _, _, _, _, _, _, _, by k_is, by k_is, by k_is, by k_is⟩)
    (case e_l_gcd => exact ⟨_, _, _, _, _, _, _, _, _, _, by k_is, by k_is, by k_is, by k_is⟩)
    (case e_l_ratio => exact ⟨_, _, _, _, _, _, _, _, _, _, by k_is, by k_is, by k_is, by k_is⟩)
    (case e_l_add => exact ⟨_, _, _, _, _, _, _, _, _, _, by k_is, by k_is, by k_is, by k_is⟩)
    (case e_l_less => exact ⟨_, _, _, _, _, _, _, _, _, _, by k_is, by k_is, by k_is, by k_is⟩)
    (case e_l_bounded => exact ⟨_, _, _, _, _, _, _, _, _, _, by k_is, by k_is, by k_is, by k_is⟩)
    (case e_l_normal => exact ⟨_, _, _, _, _, _, _, _, _, _, by k_is, by k_is, by k_is, by k_is⟩)
    (case e_l_times => exact ⟨_, _, _, _, _, _, _, _, _, _, by k_is, by k_is, by k_is, by k_is⟩)
    (case e_l_apply => exact ⟨_, _, _, _, _, _, _, _, _, _, by k_is, by k_is, by k_is, by k_is⟩)
    (case e_l_then => exact ⟨_, _, _, _, _, _, _, _, _, _, by k_is, by k_is, by k_is, by k_is⟩)
    (case e_l_chain => exact ⟨_, _, _, _, _, _, _, _, _, _, by k_is, by k_is, by k_is, by k_is⟩)
    (case e_values_of => exact ⟨_, _, _, _, _, _, _, _, _, _, by k_is, by k_is, by k_is, by k_is⟩)
    (case e_l_values_right => exact ⟨_, _, _, _, _, _, _, _, _, _, by k_is, by k_is, by k_is, by k_is⟩)
    (case e_l_draw => exact ⟨_, _, _, _, _, _, _, _, _, _, by k_is, by k_is, by k_is, by k_is⟩)
    (case e_l_sizes => exact ⟨_, _, _, _, _, _, _, _, _, _, by k_is, by k_is, by k_is, by k_is⟩)
    (case e_l_size => exact ⟨_, _, _, _, _, _, _, _, _, _, by k_is, by k_is, by k_is, by k_is⟩)
    (case e_l_raw => exact ⟨_, _, _, _, _, _, _, _, _, _, by k_is, by k_is, by k_is, by k_is⟩)
    (case e_l_item => exact ⟨_, _, _, _, _, _, _, _, _, _, by k_is, by k_is, by k_is, by k_is⟩)
    (case e_l_chained => exact ⟨_, _, _, _, _, _, _, _, _, _, by k_is, by k_is, by k_is, by k_is⟩)
    (case e_order_matters => exact ⟨_, _, _, _, _, _, _, _, _, _, by k_is, by k_is, by k_is, by k_is⟩)
    (case e_l_matters => exact ⟨_, _, _, _, _, _, _, _, _, _, by k_is, by k_is, by k_is, by k_is⟩)
    (case e_l_all_chains => exact ⟨_, _, _, _, _, _, _, _, _, _, by k_is, by k_is, by k_is, by k_is⟩)
    (case e_quotient => exact ⟨_, _, _, _, _, _, _, _, _, _, by k_is, by k_is, by k_is, by k_is⟩)
    (case e_difference => exact ⟨_, _, _, _, _, _, _, _, _, _, by k_is, by k_is, by k_is, by k_is⟩)
    (case e_bends_of => exact ⟨_, _, _, _, _, _, _, _, _, _, by k_is, by k_is, by k_is, by k_is⟩)
    (case e_differs_at => exact ⟨_, _, _, _, _, _, _, _, _, _, by k_is, by k_is, by k_is, by k_is⟩)
    (case e_commute => exact ⟨_, _, _, _, _, _, _, _, _, _, by k_is, by k_is, by k_is, by k_is⟩)
    (case e_l_integer => exact ⟨_, _, _, _, _, _, _, _, _, _, by k_is, by k_is, by k_is, by k_is⟩)
    (case e_l_is_ratio => exact ⟨_, _, _, _, _, _, _, _, _, _, by k_is, by k_is, by k_is, by k_is⟩)
    (case e_l_pair_right => exact ⟨_, _, _, _, _, _, _, _, _, _, by k_is, by k_is, by k_is, by k_is⟩)
    (case e_l_list_right => exact ⟨_, _, _, _, _, _, _, _, _, _, by k_is, by k_is, by k_is, by k_is⟩)
    (case e_law => exact ⟨_, _, _, _, _, _, _, _, _, _, by k_is, by k_is, by k_is, by k_is⟩)
    (case n_abs => k_is)
    (case n_bool => k_is)
    (case n_int => k_is)
    (case n_isinstance => k_is)
    (case n_len => k_is)
    (case n_list => k_is)
    (case n_range => k_is)
    (case n_repr => k_is)
    (case n_tuple => k_is)
    (case c_IDENTITY => exact ⟨_, by k_is, .tup (by k_is) rfl rfl (by decide) (.cons (.tup (by k_is) rfl rfl (by decide) (.cons (.int _ _) (.cons (.int _ _) (.nil))) rfl) (.cons (.tup (by k_is) rfl rfl (by decide) (.cons (.int _ _) (.cons (.int _ _) (.nil))) rfl) (.cons (.non) (.cons (.non) (.nil))))) rfl⟩)

