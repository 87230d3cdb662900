import PyProof.Rows.All
import Wide.All
import OpenK.AllK
import Wide.FinOn
import HandS.ForMost
import HandS.IsInst
import HandS.TupAny
import HandS.Wide
import HandS.Deep
import HandS.Style
import HandS.RaiseMore
import HandS.More
import HandS.TupMul
import PyProof.Rows.IntBool
import OpenK.KMore
import HandS.Star
import HandS.Defaults
import HandS.Iter
import HandS.Zip
import KE.SortData
import HandS.Conv
import KE.KDictSum
import HandS.DictComp
import KE.KParD
import HandS.TupSets
import KE.GoesEnum
import KE.SortKeyHeap
import PyProof.TupleOfSeq
import HandS.TupLen
import HandS.SetFor
import HandS.Strs
import KE.KDictDisplayH
import HandS.Flow
import KE.KDictZip
import KE.KDictCopyH
import KE.KDictWalk
import KE.KeyNested
import KE.KDictKeyed
import KE.KUnpackStar
import KE.LtData
import PyProof.Rows.MatchSeqLen
import HandS.FStr
import HandS.Text
import HandS.StrMore
import HandS.Exc
import HandS.ExcInit
import HandS.ExcOwn
import HandS.ExcIs
import HandS.ExcField
import HandS.Lambda
import KE.KNest
import HandS.Property
import HandS.ClsMeth
import PyProof.DictUpdate
import KE.KSuper
import HandS.Nested
import HandS.MakeKwOnly
import KE.KCallOwn
import PySem.Challenge.RW_stackorder_k05_classes
import PyProof.ReprLen
import PyProof.StrLawsRepr
import PyProof.FitsInt
import PyProof.StrLawsIn
import KE.KEqSeq
set_option Elab.async false
set_option linter.all false
set_option maxRecDepth 100000
set_option maxHeartbeats 2000000
namespace DL
open PySem L2

/-- a dict's key as a datum -/
def kD : Key → PyData
  | .inl i => .int i
  | .inr x => .str x

/-- tuples of the module's own top: not empty; at the front a text only if it is the clauses' names -/
def kOk : List PyData → Bool
  | [] => false
  | .str x :: _ :: _ :: _ :: _ => x == "factor"
  | .str _ :: _ => false
  | _ => true
/-- C is the one class of the name n in K; its instances are plain ones -/
structure IsC (K : PySem.W.Frag) (n : Str) (C : Addr) : Prop where
  at_ : PySem.W.nsIn K mainGlobals n = some (some (.ref C))
  cls : Cls K C
  ha : PySem.W.findIn K (.ref C) "__class__" = some (some (.builtin "object.__class__"))
  hn : PySem.W.specialIn K (.builtin "object.__class__") "__get__" = some (some (.builtin "getset_descriptor.__get__"))
  htk : PySem.W.takesIn K (.builtin "object.__class__") = some true
  hm : PySem.W.mroIn K C (.type "object") = some true
  six : ∀ N ∈ ["int", "bool", "str", "list", "tuple", "dict"], PySem.W.kitOne K (.ref C) (.type N) = some false
theorem IsC.eq {K : PySem.W.Frag} {n : Str} {C C' : Addr} (h : IsC K n C) (h' : IsC K n C') : C' = C := by
  have e := h'.at_
  rw [h.at_] at e
  cases e
  rfl
/-- an instance of the class n as a datum -/
abbrev insD (n : Str) (fs : List (Str × PyData)) : PyData := .dict ((.none, .str n) :: fs.map fun p => (.str p.1, p.2))
/-- a datum that stands for an instance -/
def isI : PyData → Bool
  | .dict ((.none, _) :: _) => true
  | _ => false
mutual
/-- v stands for d in the heap H -/
inductive Rp (K : PySem.W.Frag) (H : Hp) : V → PyData → Prop
  | non : Rp K H .non .none
  | bl (b : Bool) : Rp K H (.bl b) (.bool b)
  | int (i : Int) : Rp K H (.int i) (.int i)
  | str (x : Str) : Rp K H (.str x) (.str x)
  | lst {a : Addr} {xs : List V} {ds : List PyData} : H a = some (.lst xs) → RpA K H xs ds → Rp K H (.ref a) (.list ds)
  | tup {a : Addr} {xs : List V} {ds : List PyData} : H a = some (.tup xs) → RpA K H xs ds → Rp K H (.ref a) (.tuple ds)
  | tuk {a : Addr} {xs : List V} {ds : List PyData} : SqT K H a xs → kOk ds = true → RpA K H xs ds → Rp K H (.ref a) (.tuple ds)
  | dic {a : Addr} {kvs : List (Key × V)} {ds : List PyData} : H a = some (.dK kvs) → RpA K H (kvs.map (·.2)) ds → Rp K H (.ref a) (.dict ((kvs.map fun p => kD p.1).zip ds))
  | dit {a : Addr} {kvs : List (List Key × V)} {ds : List PyData} : H a = some (.dT kvs) → RpA K H (kvs.map (·.2)) ds → Rp K H (.ref a) (.dict ((kvs.map fun p => PyData.tuple (p.1.map kD)).zip ds))
  | ins {a C dx : Addr} {n : Str} {vs : List (Str × V)} {fs : List (Str × PyData)} : IsC K n C → H a = some (.ins C dx vs) → vs.map (·.1) = fs.map (·.1) → RpA K H (vs.map (·.2)) (fs.map (·.2)) → Rp K H (.ref a) (.dict ((.none, .str n) :: fs.map fun p => (.str p.1, p.2)))
inductive RpA (K : PySem.W.Frag) (H : Hp) : List V → List PyData → Prop
  | nil : RpA K H [] []
  | cons {v : V} {vs : List V} {d : PyData} {ds : List PyData} : Rp K H v d → RpA K H vs ds → RpA K H (v :: vs) (d :: ds)
end
theorem sqT_mono {K : PySem.W.Frag} {H H' : Hp} (e : Same H H') {a : Addr} {xs : List V} (h : SqT K H a xs) : SqT K H' a xs := by
  rcases h with (h | ⟨o, h⟩) | h
  · exact .inl (.inl (e _ _ h))
  · exact .inl (.inr ⟨o, e _ _ h⟩)
  · exact .inr h
mutual
theorem Rp.mono {K : PySem.W.Frag} {H H' : Hp} (e : Same H H') : ∀ {d : PyData} {v : V}, Rp K H v d → Rp K H' v d
  | _, _, .non => .non
  | _, _, .bl b => .bl b
  | _, _, .int i => .int i
  | _, _, .str x => .str x
  | _, _, .lst h r => .lst (e _ _ h) (RpA.mono e r)
  | _, _, .tup h r => .tup (e _ _ h) (RpA.mono e r)
  | _, _, .tuk h k r => .tuk (sqT_mono e h) k (RpA.mono e r)
  | _, _, .dic h r => .dic (e _ _ h) (RpA.mono e r)
  | _, _, .dit h r => .dit (e _ _ h) (RpA.mono e r)
  | _, _, .ins c h k r => .ins c (e _ _ h) k (RpA.mono e r)
theorem RpA.mono {K : PySem.W.Frag} {H H' : Hp} (e : Same H H') : ∀ {ds : List PyData} {vs : List V}, RpA K H vs ds → RpA K H' vs ds
  | _, _, .nil => .nil
  | _, _, .cons h r => .cons (Rp.mono e h) (RpA.mono e r)
end
section
variable {K : PySem.W.Frag} {H : Hp}
theorem RpA.length : ∀ {vs : List V} {ds : List PyData}, RpA K H vs ds → vs.length = ds.length
  | _, _, .nil => rfl
  | _, _, .cons _ t => congrArg (· + 1) (RpA.length t)
theorem RpA.get : ∀ {vs : List V} {ds : List PyData}, RpA K H vs ds → ∀ {i : Nat} {d : PyData}, ds[i]? = some d → ∃ v, vs[i]? = some v ∧ Rp K H v d
  | _, _, .nil, _, _, e => by simp at e
  | _, _, .cons r _, 0, _, e => by simp at e; subst e; exact ⟨_, rfl, r⟩
  | _, _, .cons _ t, i + 1, _, e => by
    obtain ⟨v, h1, h2⟩ := RpA.get t (i := i) (by simpa using e)
    exact ⟨v, by simpa using h1, h2⟩
theorem RpA.getV : ∀ {vs : List V} {ds : List PyData}, RpA K H vs ds → ∀ {i : Nat} {v : V}, vs[i]? = some v → ∃ d, ds[i]? = some d ∧ Rp K H v d
  | _, _, .nil, _, _, e => by simp at e
  | _, _, .cons r _, 0, _, e => by simp at e; subst e; exact ⟨_, rfl, r⟩
  | _, _, .cons _ t, i + 1, _, e => by
    obtain ⟨v, h1, h2⟩ := RpA.getV t (i := i) (by simpa using e)
    exact ⟨v, by simpa using h1, h2⟩
theorem RpA.append : ∀ {vs ws : List V} {ds es : List PyData}, RpA K H vs ds → RpA K H ws es → RpA K H (vs ++ ws) (ds ++ es)
  | _, _, _, _, .nil, s => s
  | _, _, _, _, .cons r t, s => .cons r (RpA.append t s)
theorem RpA.take : ∀ {vs : List V} {ds : List PyData} (n : Nat), RpA K H vs ds → RpA K H (vs.take n) (ds.take n)
  | _, _, 0, _ => .nil
  | _, _, _ + 1, .nil => .nil
  | _, _, n + 1, .cons r t => .cons r (RpA.take n t)
theorem RpA.drop : ∀ {vs : List V} {ds : List PyData} (n : Nat), RpA K H vs ds → RpA K H (vs.drop n) (ds.drop n)
  | _, _, 0, r => r
  | _, _, _ + 1, .nil => .nil
  | _, _, n + 1, .cons _ t => RpA.drop n t
theorem RpA.reverse : ∀ {vs : List V} {ds : List PyData}, RpA K H vs ds → RpA K H vs.reverse ds.reverse
  | _, _, .nil => .nil
  | _, _, .cons r t => by
    rw [List.reverse_cons, List.reverse_cons]
    exact RpA.append (RpA.reverse t) (.cons r .nil)
theorem RpA.set : ∀ {vs : List V} {ds : List PyData} (n : Nat) {v : V} {d : PyData}, RpA K H vs ds → Rp K H v d → RpA K H (vs.set n v) (ds.set n d)
  | _, _, _, _, _, .nil, _ => .nil
  | _, _, 0, _, _, .cons _ t, r => .cons r t
  | _, _, n + 1, _, _, .cons q t, r => .cons q (RpA.set n t r)
mutual
theorem Rp.toDp : ∀ {d : PyData} {v : V}, Rp K H v d → d.hasDict = false → Dp K H v d
  | _, _, .non, _ => .non
  | _, _, .bl b, _ => .bl b
  | _, _, .int i, _ => .int i
  | _, _, .str x, _ => .str x
  | _, _, .lst h r, e => .lst (SqL.of h) (RpA.toDp r (by simpa [PyData.hasDict] using e))
  | _, _, .tup h r, e => .tup (SqT.of h) (RpA.toDp r (by simpa [PyData.hasDict] using e))
  | _, _, .tuk h _ r, e => .tup h (RpA.toDp r (by simpa [PyData.hasDict] using e))
  | _, _, .dic h r, e => by simp [PyData.hasDict] at e
  | _, _, .dit h r, e => by simp [PyData.hasDict] at e
  | _, _, .ins _ h _ r, e => by simp [PyData.hasDict] at e
theorem RpA.toDp : ∀ {ds : List PyData} {vs : List V}, RpA K H vs ds → PyData.hasDictAll ds = false → DpAll K H vs ds
  | _, _, .nil, _ => .nil
  | _, _, .cons h r, e => by
    simp only [PyData.hasDictAll, Bool.or_eq_false_iff] at e
    exact .cons (Rp.toDp h e.1) (RpA.toDp r e.2)
end
end

/-- an object of the def's own -/
inductive OD where
  | ol (xs : List PyData)
  | od (kvs : List (Key × PyData))
  | ot (kvs : List (List Key × PyData))
  | oi (n : Str) (fs : List (Str × PyData))
/-- what else a slot holds: the script; a class of the module -/
inductive SlP where
  | ints (ns : List Int)
  | cls (n : Str)
instance : Coe (List Int) SlP := ⟨SlP.ints⟩
/-- nothing; a datum; an object of one's own (io: the caller's, lent); the script -/
inductive EV where
  | un
  | d (x : PyData)
  | own (o : OD) (io : Bool)
  | scr (p : SlP)
abbrev Nv := List EV

def odD : OD → PyData
  | .ol xs => .list xs
  | .od kvs => .dict ((kvs.map fun p => kD p.1).zip (kvs.map (·.2)))
  | .ot kvs => .dict ((kvs.map fun p => PyData.tuple (p.1.map kD)).zip (kvs.map (·.2)))
  | .oi n fs => insD n fs

/-- the object at a is o, its parts stand in Z -/
def ObAt (K : PySem.W.Frag) (Z H : Hp) (a : Addr) : OD → Prop
  | .ol xs => ∃ vs, H a = some (.lst vs) ∧ RpA K Z vs xs
  | .od kvs => ∃ vs : List (Key × V), H a = some (.dK vs) ∧ vs.map (·.1) = kvs.map (·.1) ∧ RpA K Z (vs.map (·.2)) (kvs.map (·.2))
  | .ot kvs => ∃ vs : List (List Key × V), H a = some (.dT vs) ∧ vs.map (·.1) = kvs.map (·.1) ∧ RpA K Z (vs.map (·.2)) (kvs.map (·.2))
  | .oi n fs => ∃ (C dx : Addr) (vs : List (Str × V)), IsC K n C ∧ H a = some (.ins C dx vs) ∧ vs.map (·.1) = fs.map (·.1) ∧ RpA K Z (vs.map (·.2)) (fs.map (·.2))
theorem ObAt.some {K : PySem.W.Frag} {Z H : Hp} {a : Addr} {o : OD} (h : ObAt K Z H a o) : ∃ u, H a = some u ∧ Mut (some u) := by
  cases o with
  | ol xs => obtain ⟨vs, e, _⟩ := h; exact ⟨_, e, trivial⟩
  | od kvs => obtain ⟨vs, e, _⟩ := h; exact ⟨_, e, trivial⟩
  | ot kvs => obtain ⟨vs, e, _⟩ := h; exact ⟨_, e, trivial⟩
  | oi n fs => obtain ⟨C, dx, vs, _, e, _⟩ := h; exact ⟨_, e, trivial⟩
theorem ObAt.move {K : PySem.W.Frag} {Z Z' H H' : Hp} {a : Addr} {o : OD} (h : ObAt K Z H a o) (z : Same Z Z') (e : H' a = H a) : ObAt K Z' H' a o := by
  cases o with
  | ol xs => obtain ⟨vs, q, r⟩ := h; exact ⟨vs, e.trans q, r.mono z⟩
  | od kvs => obtain ⟨vs, q, k, r⟩ := h; exact ⟨vs, e.trans q, k, r.mono z⟩
  | ot kvs => obtain ⟨vs, q, k, r⟩ := h; exact ⟨vs, e.trans q, k, r.mono z⟩
  | oi n fs => obtain ⟨C, dx, vs, c, q, k, r⟩ := h; exact ⟨C, dx, vs, c, e.trans q, k, r.mono z⟩
/-- frozen, it is a datum -/
theorem ObAt.rp {K : PySem.W.Frag} {Z H : Hp} {a : Addr} {o : OD} (h : ObAt K Z H a o) (zH : Same Z H) (hz : Z a = H a) : Rp K Z (.ref a) (odD o) := by
  cases o with
  | ol xs => obtain ⟨vs, q, r⟩ := h; exact .lst (hz.trans q) r
  | od kvs =>
    obtain ⟨vs, q, k, r⟩ := h
    have e : (kvs.map fun p => kD p.1) = vs.map fun p => kD p.1 := by
      have := congrArg (List.map kD) k
      simpa [List.map_map, Function.comp_def] using this.symm
    show Rp K Z (.ref a) (.dict ((kvs.map fun p => kD p.1).zip (kvs.map (·.2))))
    rw [e]
    exact .dic (hz.trans q) r
  | ot kvs =>
    obtain ⟨vs, q, k, r⟩ := h
    have e : (kvs.map fun p => PyData.tuple (p.1.map kD)) = vs.map fun p => PyData.tuple (p.1.map kD) := by
      have := congrArg (List.map fun (l : List Key) => PyData.tuple (l.map kD)) k
      simpa [List.map_map, Function.comp_def] using this.symm
    show Rp K Z (.ref a) (.dict ((kvs.map fun p => PyData.tuple (p.1.map kD)).zip (kvs.map (·.2))))
    rw [e]
    exact .dit (hz.trans q) r
  | oi n fs =>
    obtain ⟨C, dx, vs, c, q, k, r⟩ := h
    exact .ins c (hz.trans q) k r

/-- the fixed part: what was frozen at the entry, the heap at the entry, what must stay, the lent objects -/
structure Fx where
  F0 : Hp
  H0 : Hp
  Fr : Hp
  ino : Nat → Option Addr

/-- slot i holds the own object at a -/
def AtS (ρ : Nv) (σ : St) (i : Nat) (a : Addr) : Prop := (∃ o io, ρ[i]? = some (EV.own o io)) ∧ σ[i]? = some (some (V.ref a))

def ScA (K : PySem.W.Frag) (Z : Hp) (a : Addr) : SlP → Prop
  | .ints ns => SqL K Z a (ns.map V.int)
  | .cls n => IsC K n a
theorem ScA.mono {K : PySem.W.Frag} {Z Z' : Hp} (z : Same Z Z') {a : Addr} : ∀ {p : SlP}, ScA K Z a p → ScA K Z' a p
  | .ints _, h => z.seq h
  | .cls _, h => h
structure Rl (K : PySem.W.Frag) (Φ : Fx) (Z : Hp) (σ : St) (H : Hp) (ρ : Nv) : Prop where
  len : ρ.length = σ.length
  zH : Same Z H
  zN : ∀ a o, Z a = some o → (∀ xs, o ≠ .tup xs) → Φ.F0 a = some o ∨ (Φ.H0 a = none ∧ Φ.Fr a = none)
  f0 : ∀ a, Φ.H0 a = none → Φ.F0 a = none
  fr : Same Φ.Fr H
  dom : ∀ a, H a = none → Φ.H0 a = none
  inj : ∀ i j a, AtS ρ σ i a → AtS ρ σ j a → i = j
  sep : ∀ i a, AtS ρ σ i a → Z a = none ∧ Φ.Fr a = none
  dat : ∀ (i : Nat) (x : PyData), ρ[i]? = some (EV.d x) → ∃ v, σ[i]? = some (some v) ∧ Rp K Z v x
  scr : ∀ (i : Nat) (p : SlP), ρ[i]? = some (EV.scr p) → ∃ a, σ[i]? = some (some (V.ref a)) ∧ ScA K Z a p
  own : ∀ (i : Nat) (o : OD) (io : Bool), ρ[i]? = some (EV.own o io) → ∃ a, σ[i]? = some (some (V.ref a)) ∧ ObAt K Z H a o
  loc : ∀ (i : Nat) (o : OD) (a : Addr), ρ[i]? = some (EV.own o false) → σ[i]? = some (some (V.ref a)) → Φ.H0 a = none
  ino : ∀ (i : Nat) (a : Addr), Φ.ino i = some a → σ[i]? = some (some (V.ref a)) ∧ ∃ o, ρ[i]? = some (EV.own o true)
  io : ∀ (i : Nat) (o : OD), ρ[i]? = some (EV.own o true) → ∃ a, Φ.ino i = some a

section
variable {K : PySem.W.Frag} {Φ : Fx} {Z : Hp} {σ : St} {H : Hp} {ρ : Nv}
theorem Rl.at_some (R : Rl K Φ Z σ H ρ) {i : Nat} {a : Addr} (h : AtS ρ σ i a) : ∃ u, H a = some u ∧ Mut (some u) := by
  obtain ⟨⟨o, io, e⟩, s⟩ := h
  obtain ⟨b, sb, ob⟩ := R.own i o io e
  rw [s] at sb
  cases sb
  exact ob.some
theorem same_new {H : Hp} {p : Addr} {o : HO} (h : H p = none) : Same H (upd H p o) := fun b u e => by
  rw [upd_ne (ne_of_none e h)]
  exact e
theorem same_both {Z H : Hp} {p : Addr} {o : HO} (h : Same Z H) : Same (upd Z p o) (upd H p o) := fun b u e => by
  by_cases hb : b = p
  · subst hb
    rw [upd_same] at e ⊢
    exact e
  · rw [upd_ne hb] at e ⊢
    exact h b u e
/-- a new frozen object -/
theorem Rl.fresh (R : Rl K Φ Z σ H ρ) {p : Addr} {o : HO} (h : H p = none) : Same Z (upd Z p o) ∧ Rl K Φ (upd Z p o) σ (upd H p o) ρ := by
  have zp : Z p = none := R.zH.free h
  have zs : Same Z (upd Z p o) := same_new zp
  refine ⟨zs, R.len, same_both R.zH, ?_, R.f0, R.fr.trans (same_new h), ?_, R.inj, ?_, ?_, ?_, ?_, R.loc, R.ino, R.io⟩
  · intro a u e nt
    by_cases ha : a = p
    · subst ha; exact .inr ⟨R.dom _ h, R.fr.free h⟩
    · rw [upd_ne ha] at e; exact R.zN a u e nt
  · intro a e
    by_cases ha : a = p
    · subst ha; exact R.dom _ h
    · rw [upd_ne ha] at e; exact R.dom a e
  · intro i a hi
    obtain ⟨u, e, _⟩ := R.at_some hi
    rw [upd_ne (ne_of_none e h)]
    exact R.sep i a hi
  · intro i x e
    obtain ⟨v, q, r⟩ := R.dat i x e
    exact ⟨v, q, r.mono zs⟩
  · intro i ns e
    obtain ⟨a, q, r⟩ := R.scr i ns e
    exact ⟨a, q, r.mono zs⟩
  · intro i o' io e
    obtain ⟨a, q, ob⟩ := R.own i o' io e
    obtain ⟨u, eu, _⟩ := ob.some
    exact ⟨a, q, ob.move zs (upd_ne (ne_of_none eu h))⟩
/-- a new object that nobody holds yet, not frozen -/
theorem Rl.laid (R : Rl K Φ Z σ H ρ) {p : Addr} {o : HO} (h : H p = none) : Rl K Φ Z σ (upd H p o) ρ := by
  refine ⟨R.len, R.zH.trans (same_new h), R.zN, R.f0, R.fr.trans (same_new h), ?_, R.inj, R.sep, R.dat, R.scr, ?_, R.loc, R.ino, R.io⟩
  · intro a e
    by_cases ha : a = p
    · subst ha; exact R.dom _ h
    · rw [upd_ne ha] at e; exact R.dom a e
  · intro i o' io e
    obtain ⟨a, q, ob⟩ := R.own i o' io e
    obtain ⟨u, eu, _⟩ := ob.some
    exact ⟨a, q, ob.move (Same.refl Z) (upd_ne (ne_of_none eu h))⟩
/-- freeze an object that no slot holds -/
theorem Rl.freeze (R : Rl K Φ Z σ H ρ) {a : Addr} {o : HO} (h : H a = some o) (hz : Z a = none) (h0 : Φ.H0 a = none) (hf : Φ.Fr a = none) (hn : ∀ i, ¬ AtS ρ σ i a) : Same Z (upd Z a o) ∧ Rl K Φ (upd Z a o) σ H ρ := by
  have zs : Same Z (upd Z a o) := same_new hz
  have zH : Same (upd Z a o) H := fun b u e => by
    by_cases hb : b = a
    · subst hb; rw [upd_same] at e; rw [h]; exact e
    · rw [upd_ne hb] at e; exact R.zH b u e
  refine ⟨zs, R.len, zH, ?_, R.f0, R.fr, R.dom, R.inj, ?_, ?_, ?_, ?_, R.loc, R.ino, R.io⟩
  · intro b u e nt
    by_cases hb : b = a
    · subst hb; exact .inr ⟨h0, hf⟩
    · rw [upd_ne hb] at e; exact R.zN b u e nt
  · intro i b hi
    have hb : b ≠ a := fun e => hn i (e ▸ hi)
    rw [upd_ne hb]
    exact R.sep i b hi
  · intro i x e
    obtain ⟨v, q, r⟩ := R.dat i x e
    exact ⟨v, q, r.mono zs⟩
  · intro i ns e
    obtain ⟨b, q, r⟩ := R.scr i ns e
    exact ⟨b, q, r.mono zs⟩
  · intro i o' io e
    obtain ⟨b, q, ob⟩ := R.own i o' io e
    exact ⟨b, q, ob.move zs rfl⟩
/-- a slot is stored with a datum -/
theorem Rl.store (R : Rl K Φ Z σ H ρ) {i : Nat} {v : V} {x : PyData} (hi : i < ρ.length) (hn : ∀ o, ρ[i]? ≠ some (EV.own o true)) (r : Rp K Z v x) : Rl K Φ Z (σ.set i (some v)) H (ρ.set i (EV.d x)) := by
  have hs : i < σ.length := R.len ▸ hi
  have at_ : ∀ j a, AtS (ρ.set i (EV.d x)) (σ.set i (some v)) j a → j ≠ i ∧ AtS ρ σ j a := by
    rintro j a ⟨⟨o, io, e⟩, s⟩
    by_cases hj : i = j
    · subst hj
      rw [List.getElem?_set_self hi] at e
      cases e
    · rw [List.getElem?_set_ne hj] at e s
      exact ⟨Ne.symm hj, ⟨o, io, e⟩, s⟩
  refine ⟨by simp [R.len], R.zH, R.zN, R.f0, R.fr, R.dom, ?_, ?_, ?_, ?_, ?_, ?_, ?_, ?_⟩
  · intro j k a h1 h2
    exact R.inj j k a (at_ j a h1).2 (at_ k a h2).2
  · intro j a h
    exact R.sep j a (at_ j a h).2
  · intro j y e
    by_cases hj : i = j
    · subst hj
      rw [List.getElem?_set_self hi] at e
      cases e
      exact ⟨v, List.getElem?_set_self hs, r⟩
    · rw [List.getElem?_set_ne hj] at e ⊢
      exact R.dat j y e
  · intro j ns e
    by_cases hj : i = j
    · subst hj
      rw [List.getElem?_set_self hi] at e
      cases e
    · rw [List.getElem?_set_ne hj] at e ⊢
      exact R.scr j ns e
  · intro j o io e
    by_cases hj : i = j
    · subst hj
      rw [List.getElem?_set_self hi] at e
      cases e
    · rw [List.getElem?_set_ne hj] at e ⊢
      exact R.own j o io e
  · intro j o a e s
    by_cases hj : i = j
    · subst hj
      rw [List.getElem?_set_self hi] at e
      cases e
    · rw [List.getElem?_set_ne hj] at e s
      exact R.loc j o a e s
  · intro j a e
    have hj : i ≠ j := by
      rintro rfl
      obtain ⟨_, o, q⟩ := R.ino i a e
      exact hn o q
    rw [List.getElem?_set_ne hj, List.getElem?_set_ne hj]
    exact R.ino j a e
  · intro j o e
    by_cases hj : i = j
    · subst hj
      rw [List.getElem?_set_self hi] at e
      cases e
    · rw [List.getElem?_set_ne hj] at e
      exact R.io j o e
/-- a slot is stored with a new object of one's own -/
theorem Rl.hold (R : Rl K Φ Z σ H ρ) {i : Nat} {a : Addr} {o : OD} (hi : i < ρ.length) (hn : ∀ o, ρ[i]? ≠ some (EV.own o true)) (ob : ObAt K Z H a o) (hz : Z a = none) (hf : Φ.Fr a = none) (h0 : Φ.H0 a = none)
    (hna : ∀ i, ¬ AtS ρ σ i a) : Rl K Φ Z (σ.set i (some (V.ref a))) H (ρ.set i (EV.own o false)) := by
  have hs : i < σ.length := R.len ▸ hi
  have at_ : ∀ j b, AtS (ρ.set i (EV.own o false)) (σ.set i (some (V.ref a))) j b → (j = i ∧ b = a) ∨ (j ≠ i ∧ AtS ρ σ j b) := by
    rintro j b ⟨⟨o', io, e⟩, s⟩
    by_cases hj : i = j
    · subst hj
      rw [List.getElem?_set_self hs] at s
      cases s
      exact .inl ⟨rfl, rfl⟩
    · rw [List.getElem?_set_ne hj] at e s
      exact .inr ⟨Ne.symm hj, ⟨o', io, e⟩, s⟩
  refine ⟨by simp [R.len], R.zH, R.zN, R.f0, R.fr, R.dom, ?_, ?_, ?_, ?_, ?_, ?_, ?_, ?_⟩
  · intro j k b h1 h2
    rcases at_ j b h1 with ⟨rfl, rfl⟩ | ⟨h3, h4⟩
    · rcases at_ k b h2 with ⟨rfl, _⟩ | ⟨_, h5⟩
      · rfl
      · exact absurd h5 (hna _)
    · rcases at_ k b h2 with ⟨rfl, rfl⟩ | ⟨_, h5⟩
      · exact absurd h4 (hna _)
      · exact R.inj j k b h4 h5
  · intro j b h
    rcases at_ j b h with ⟨rfl, rfl⟩ | ⟨_, h4⟩
    · exact ⟨hz, hf⟩
    · exact R.sep j b h4
  · intro j y e
    by_cases hj : i = j
    · subst hj
      rw [List.getElem?_set_self hi] at e
      cases e
    · rw [List.getElem?_set_ne hj] at e ⊢
      exact R.dat j y e
  · intro j ns e
    by_cases hj : i = j
    · subst hj
      rw [List.getElem?_set_self hi] at e
      cases e
    · rw [List.getElem?_set_ne hj] at e ⊢
      exact R.scr j ns e
  · intro j o' io e
    by_cases hj : i = j
    · subst hj
      rw [List.getElem?_set_self hi] at e
      cases e
      exact ⟨a, List.getElem?_set_self hs, ob⟩
    · rw [List.getElem?_set_ne hj] at e ⊢
      exact R.own j o' io e
  · intro j o' b e s
    by_cases hj : i = j
    · subst hj
      rw [List.getElem?_set_self hs] at s
      cases s
      exact h0
    · rw [List.getElem?_set_ne hj] at e s
      exact R.loc j o' b e s
  · intro j b e
    have hj : i ≠ j := by
      rintro rfl
      obtain ⟨_, o, q⟩ := R.ino i b e
      exact hn o q
    rw [List.getElem?_set_ne hj, List.getElem?_set_ne hj]
    exact R.ino j b e
  · intro j o' e
    by_cases hj : i = j
    · subst hj
      rw [List.getElem?_set_self hi] at e
      cases e
    · rw [List.getElem?_set_ne hj] at e
      exact R.io j o' e
/-- an own object is read as a datum: it is frozen -/
theorem Rl.read (R : Rl K Φ Z σ H ρ) {i : Nat} {o : OD} (e : ρ[i]? = some (EV.own o false)) : ∃ a Z', σ[i]? = some (some (V.ref a)) ∧ Same Z Z' ∧ Rl K Φ Z' σ H (ρ.set i (EV.d (odD o))) ∧ Rp K Z' (.ref a) (odD o) := by
  obtain ⟨a, s, ob⟩ := R.own i o false e
  obtain ⟨u, hu, _⟩ := ob.some
  have ai : AtS ρ σ i a := ⟨⟨o, false, e⟩, s⟩
  have hz := (R.sep i a ai).1
  have hi : i < ρ.length := (List.getElem?_eq_some_iff.mp e).1
  have hs : i < σ.length := R.len ▸ hi
  have ss : σ.set i (some (V.ref a)) = σ := by
    apply List.ext_getElem?
    intro j
    by_cases hj : i = j
    · subst hj; rw [List.getElem?_set_self hs, s]
    · rw [List.getElem?_set_ne hj]
  -- first forget the slot
  have R1 : Rl K Φ Z σ H (ρ.set i EV.un) := by
    have at_ : ∀ j b, AtS (ρ.set i EV.un) σ j b → j ≠ i ∧ AtS ρ σ j b := by
      rintro j b ⟨⟨o', io, e'⟩, s'⟩
      by_cases hj : i = j
      · subst hj
        rw [List.getElem?_set_self hi] at e'
        cases e'
      · rw [List.getElem?_set_ne hj] at e'
        exact ⟨Ne.symm hj, ⟨o', io, e'⟩, s'⟩
    refine ⟨by simp [R.len], R.zH, R.zN, R.f0, R.fr, R.dom, fun j k b h1 h2 => R.inj j k b (at_ j b h1).2 (at_ k b h2).2, fun j b h => R.sep j b (at_ j b h).2, ?_, ?_, ?_, ?_, ?_, ?_⟩
    · intro j y q
      by_cases hj : i = j
      · subst hj; rw [List.getElem?_set_self hi] at q; cases q
      · rw [List.getElem?_set_ne hj] at q; exact R.dat j y q
    · intro j ns q
      by_cases hj : i = j
      · subst hj; rw [List.getElem?_set_self hi] at q; cases q
      · rw [List.getElem?_set_ne hj] at q; exact R.scr j ns q
    · intro j o' io q
      by_cases hj : i = j
      · subst hj; rw [List.getElem?_set_self hi] at q; cases q
      · rw [List.getElem?_set_ne hj] at q; exact R.own j o' io q
    · intro j o' b q s'
      by_cases hj : i = j
      · subst hj; rw [List.getElem?_set_self hi] at q; cases q
      · rw [List.getElem?_set_ne hj] at q; exact R.loc j o' b q s'
    · intro j b q
      obtain ⟨q1, o', q2⟩ := R.ino j b q
      have hj : i ≠ j := by
        rintro rfl
        rw [e] at q2
        cases q2
      rw [List.getElem?_set_ne hj]
      exact ⟨q1, o', q2⟩
    · intro j o' q
      by_cases hj : i = j
      · subst hj; rw [List.getElem?_set_self hi] at q; cases q
      · rw [List.getElem?_set_ne hj] at q; exact R.io j o' q
  have hna : ∀ j, ¬ AtS (ρ.set i EV.un) σ j a := by
    rintro j ⟨⟨o', io, e'⟩, s'⟩
    by_cases hj : i = j
    · subst hj
      rw [List.getElem?_set_self hi] at e'
      cases e'
    · rw [List.getElem?_set_ne hj] at e'
      exact hj (R.inj i j a ai ⟨⟨o', io, e'⟩, s'⟩)
  obtain ⟨zs, R2⟩ := R1.freeze hu hz (R.loc i o a e s) (R.sep i a ai).2 hna
  have rp : Rp K (upd Z a u) (.ref a) (odD o) := (ob.move zs rfl).rp R2.zH (by rw [upd_same, hu])
  have R3 := R2.store (i := i) (by simpa using hi) (fun o' q => by rw [List.getElem?_set_self hi] at q; cases q) rp
  rw [ss, List.set_set] at R3
  exact ⟨a, _, s, zs, R3, rp⟩
/-- an own object is changed -/
theorem Rl.mutate (R : Rl K Φ Z σ H ρ) {i : Nat} {o o' : OD} {io : Bool} {a : Addr} {u : HO} (e : ρ[i]? = some (EV.own o io)) (s : σ[i]? = some (some (V.ref a))) (ob : ObAt K Z (upd H a u) a o') : Rl K Φ Z σ (upd H a u) (ρ.set i (EV.own o' io)) := by
  have hi : i < ρ.length := (List.getElem?_eq_some_iff.mp e).1
  have ai : AtS ρ σ i a := ⟨⟨o, io, e⟩, s⟩
  obtain ⟨hz, hf⟩ := R.sep i a ai
  obtain ⟨w, hw, _⟩ := R.at_some ai
  have at_ : ∀ j b, AtS (ρ.set i (EV.own o' io)) σ j b → AtS ρ σ j b := by
    rintro j b ⟨⟨o2, io2, e2⟩, s2⟩
    by_cases hj : i = j
    · subst hj
      exact ⟨⟨o, io, e⟩, s2⟩
    · rw [List.getElem?_set_ne hj] at e2
      exact ⟨⟨o2, io2, e2⟩, s2⟩
  refine ⟨by simp [R.len], ?_, R.zN, R.f0, ?_, ?_, fun j k b h1 h2 => R.inj j k b (at_ j b h1) (at_ k b h2), fun j b h => R.sep j b (at_ j b h), ?_, ?_, ?_, ?_, ?_, ?_⟩
  · intro b v q
    rw [upd_ne (ne_of_none q hz)]
    exact R.zH b v q
  · intro b v q
    rw [upd_ne (ne_of_none q hf)]
    exact R.fr b v q
  · intro b q
    by_cases hb : b = a
    · subst hb; rw [upd_same] at q; cases q
    · rw [upd_ne hb] at q; exact R.dom b q
  · intro j y q
    by_cases hj : i = j
    · subst hj; rw [List.getElem?_set_self hi] at q; cases q
    · rw [List.getElem?_set_ne hj] at q; exact R.dat j y q
  · intro j ns q
    by_cases hj : i = j
    · subst hj; rw [List.getElem?_set_self hi] at q; cases q
    · rw [List.getElem?_set_ne hj] at q; exact R.scr j ns q
  · intro j o2 io2 q
    by_cases hj : i = j
    · subst hj
      rw [List.getElem?_set_self hi] at q
      cases q
      exact ⟨a, s, ob⟩
    · rw [List.getElem?_set_ne hj] at q
      obtain ⟨b, sb, ob2⟩ := R.own j o2 io2 q
      have hb : b ≠ a := by
        rintro rfl
        exact hj (R.inj i j b ai ⟨⟨o2, io2, q⟩, sb⟩)
      exact ⟨b, sb, ob2.move (Same.refl Z) (upd_ne hb)⟩
  · intro j o2 b q s2
    by_cases hj : i = j
    · subst hj
      rw [List.getElem?_set_self hi] at q
      cases q
      exact R.loc i o b e s2
    · rw [List.getElem?_set_ne hj] at q
      exact R.loc j o2 b q s2
  · intro j b q
    obtain ⟨q1, o2, q2⟩ := R.ino j b q
    refine ⟨q1, ?_⟩
    by_cases hj : i = j
    · subst hj
      rw [e] at q2
      cases q2
      exact ⟨o', List.getElem?_set_self hi⟩
    · rw [List.getElem?_set_ne hj]
      exact ⟨o2, q2⟩
  · intro j o2 q
    by_cases hj : i = j
    · subst hj
      rw [List.getElem?_set_self hi] at q
      cases q
      exact R.io i o e
    · rw [List.getElem?_set_ne hj] at q
      exact R.io j o2 q
end
end DL
set_option maxRecDepth 100000
set_option maxHeartbeats 2000000
namespace DL
open PySem L2

abbrev XE := Nv → Option (PyData × Nv)
abbrev XT := Nv → Option (Bool × Nv)
abbrev XB := Nv → Option PyData
/-- an argument: a datum, or the object (the script) that slot i holds -/
inductive AV where
  | v (d : PyData)
  | s (i : Nat)
abbrev XA := Nv → Option (List AV × Nv)

/-- a value that is looked at for a moment: frozen, or an own object whose parts are frozen -/
def Rb (K : PySem.W.Frag) (Z H : Hp) (v : V) (d : PyData) : Prop :=
  Rp K Z v d ∨ ∃ a o, v = .ref a ∧ ObAt K Z H a o ∧ d = odD o
inductive AvA (K : PySem.W.Frag) (Z : Hp) (σ : St) : List V → List AV → Prop
  | nil : AvA K Z σ [] []
  | v {x : V} {xs : List V} {d : PyData} {as : List AV} : Rp K Z x d → AvA K Z σ xs as → AvA K Z σ (x :: xs) (.v d :: as)
  | s {x : V} {xs : List V} {i : Nat} {as : List AV} : σ[i]? = some (some x) → AvA K Z σ xs as → AvA K Z σ (x :: xs) (.s i :: as)
theorem AvA.mono {K : PySem.W.Frag} {Z Z' : Hp} {σ : St} (z : Same Z Z') : ∀ {xs : List V} {as : List AV}, AvA K Z σ xs as → AvA K Z' σ xs as
  | _, _, .nil => .nil
  | _, _, .v r t => .v (r.mono z) (AvA.mono z t)
  | _, _, .s r t => .s r (AvA.mono z t)

/-- the reading t meets the function f -/
def ME (K : PySem.W.Frag) (t : TE) (f : XE) : Prop := ∀ (Φ : Fx) (Z : Hp) (σ : St) (H : Hp) (ρ : Nv) (d : PyData) (ρ' : Nv), Rl K Φ Z σ H ρ → f ρ = some (d, ρ') →
  ∀ Q : VK, (∀ v H' Z', Same Z Z' → Rl K Φ Z' σ H' ρ' → Rp K Z' v d → Q v H') → t σ H Q
/-- .. with a value for a moment -/
def MO (K : PySem.W.Frag) (t : TE) (f : XE) : Prop := ∀ (Φ : Fx) (Z : Hp) (σ : St) (H : Hp) (ρ : Nv) (d : PyData) (ρ' : Nv), Rl K Φ Z σ H ρ → f ρ = some (d, ρ') →
  ∀ Q : VK, (∀ v H' Z', Same Z Z' → Rl K Φ Z' σ H' ρ' → Rb K Z' H' v d → Q v H') → t σ H Q
/-- .. nothing changes -/
def MB (K : PySem.W.Frag) (t : TE) (f : XB) : Prop := ∀ (Φ : Fx) (Z : Hp) (σ : St) (H : Hp) (ρ : Nv) (d : PyData), Rl K Φ Z σ H ρ → f ρ = some d →
  ∀ Q : VK, (∀ v, Rb K Z H v d → Q v H) → t σ H Q
def MT (K : PySem.W.Frag) (t : TT) (f : XT) : Prop := ∀ (Φ : Fx) (Z : Hp) (σ : St) (H : Hp) (ρ : Nv) (d : Bool) (ρ' : Nv), Rl K Φ Z σ H ρ → f ρ = some (d, ρ') →
  ∀ Q : Bool → Hp → Prop, (∀ H' Z', Same Z Z' → Rl K Φ Z' σ H' ρ' → Q d H') → t σ H Q
def MA (K : PySem.W.Frag) (t : TA) (f : XA) : Prop := ∀ (Φ : Fx) (Z : Hp) (σ : St) (H : Hp) (ρ : Nv) (as : List AV) (ρ' : Nv), Rl K Φ Z σ H ρ → f ρ = some (as, ρ') →
  ∀ Q : List V → Hp → Prop, (∀ vs H' Z', Same Z Z' → Rl K Φ Z' σ H' ρ' → AvA K Z' σ vs as → Q vs H') → t σ H Q

def ED (X : Cx) (e : Expr) (f : XE) : Prop := ∃ t, PE X e t ∧ ME X.K t f
def OD' (X : Cx) (e : Expr) (f : XE) : Prop := ∃ t, PE X e t ∧ MO X.K t f
def BD (X : Cx) (e : Expr) (f : XB) : Prop := ∃ t, PE X e t ∧ MB X.K t f
def TD (X : Cx) (e : Expr) (f : XT) : Prop := ∃ t, PT X e t ∧ MT X.K t f
def WD (X : Cx) (e : Expr) (f : XT) : Prop := ∃ t, PW X e t ∧ MT X.K t f
def AD (X : Cx) (es : List Expr) (f : XA) : Prop := ∃ t, PA X es t ∧ MA X.K t f

/-- a pure function as one that hands on the environment -/
def xB (f : XB) : XE := fun ρ => (f ρ).map fun d => (d, ρ)

section
variable {X : Cx} {e : Expr} {f : XE} {g : XB}
theorem ED.od (h : ED X e f) : OD' X e f := by
  obtain ⟨t, p, m⟩ := h
  exact ⟨t, p, fun Φ Z σ H ρ d ρ' R q Q k => m Φ Z σ H ρ d ρ' R q Q fun v H' Z' z R' r => k v H' Z' z R' (.inl r)⟩
theorem BD.od (h : BD X e g) : OD' X e (xB g) := by
  obtain ⟨t, p, m⟩ := h
  refine ⟨t, p, fun Φ Z σ H ρ d ρ' R q Q k => ?_⟩
  unfold xB at q
  cases hg : g ρ with
  | none => rw [hg] at q; cases q
  | some d' =>
    rw [hg] at q
    cases q
    exact m Φ Z σ H ρ d R hg Q fun v r => k v H Z (Same.refl Z) R r
end

def bVar (i : Nat) : XB := fun ρ => match ρ[i]? with
  | some (.d x) => some x
  | some (.own o _) => some (odD o)
  | _ => none
def xVar (i : Nat) : XE := fun ρ => match ρ[i]? with
  | some (.d x) => some (x, ρ)
  | some (.own o false) => some (odD o, ρ.set i (.d (odD o)))
  | _ => none
def xC (d : PyData) : XE := fun ρ => some (d, ρ)
def bC (d : PyData) : XB := fun _ => some d
section
variable {X : Cx} {pos : Pos}
theorem bd_var (i : Nat) {x : Str} (hN : X.N[i]? = some x := by rfl) (hv : Vis X.env.scope x := by first | exact Or.inl rfl | exact Or.inr (Or.inl rfl) | exact Or.inr (Or.inr rfl)) (hd : (x == ("__debug__" : Str)) = false := by decide)
    (hcd : (x == ("__classdict__" : Str)) = false := by decide) : BD X (.Name x pos) (bVar i) := by
  refine ⟨tVar i, pe_var hN hv hd hcd, fun Φ Z σ H ρ d R q Q k => ?_⟩
  unfold bVar at q
  split at q
  · rename_i x' e
    cases q
    obtain ⟨v, s, r⟩ := R.dat _ _ e
    exact ⟨v, s, k v (.inl r)⟩
  · rename_i o io e
    cases q
    obtain ⟨a, s, ob⟩ := R.own _ _ _ e
    exact ⟨_, s, k _ (.inr ⟨a, o, rfl, ob, rfl⟩)⟩
  · cases q
theorem ed_var (i : Nat) {x : Str} (hN : X.N[i]? = some x := by rfl) (hv : Vis X.env.scope x := by first | exact Or.inl rfl | exact Or.inr (Or.inl rfl) | exact Or.inr (Or.inr rfl)) (hd : (x == ("__debug__" : Str)) = false := by decide)
    (hcd : (x == ("__classdict__" : Str)) = false := by decide) : ED X (.Name x pos) (xVar i) := by
  refine ⟨tVar i, pe_var hN hv hd hcd, fun Φ Z σ H ρ d ρ' R q Q k => ?_⟩
  unfold xVar at q
  split at q
  · rename_i x' e
    cases q
    obtain ⟨v, s, r⟩ := R.dat _ _ e
    exact ⟨v, s, k v H Z (Same.refl Z) R r⟩
  · rename_i o e
    cases q
    obtain ⟨a, Z', s, z, R', r⟩ := R.read e
    exact ⟨_, s, k _ H Z' z R' r⟩
  · cases q
theorem ed_c {e : Expr} {v : V} {d : PyData} (h : PE X e (tC v)) (r : ∀ Z : Hp, Rp X.K Z v d) : ED X e (xC d) :=
  ⟨tC v, h, fun Φ Z σ H ρ d' ρ' R q Q k => by
    cases q
    exact k v H Z (Same.refl Z) R (r Z)⟩
theorem ed_int {i : Int} {j} : ED X (.Constant (.int i) j pos) (xC (.int i)) := ed_c pe_int fun _ => .int i
theorem ed_bl {b : Bool} {j} : ED X (.Constant (.bool b) j pos) (xC (.bool b)) := ed_c pe_bl fun _ => .bl b
theorem ed_non {j} : ED X (.Constant .none j pos) (xC .none) := ed_c pe_non fun _ => .non
theorem ed_str {x : Str} {j} : ED X (.Constant (.str x) j pos) (xC (.str x)) := ed_c pe_str fun _ => .str x
/-- a constant of the module -/
theorem ed_glob {x : Str} {v : V} {d : PyData} (h : ∃ u, X.mg x = some u ∧ RelV v u) (r : ∀ Z : Hp, Rp X.K Z v d) (hg : Gl X x := by rfl) (hd : (x == ("__debug__" : Str)) = false := by decide) : ED X (.Name x pos) (xC d) := by
  obtain ⟨u, hm, hu⟩ := h
  exact ed_c (pe_glob hg hm hu hd) r
end

section
variable {K : PySem.W.Frag} {Z H : Hp} {v : V}
theorem Rb.int {i : Int} (h : Rb K Z H v (.int i)) : v = .int i := by
  rcases h with h | ⟨a, o, _, _, e⟩
  · cases h; rfl
  · cases o <;> cases e
theorem Rb.bl {i : Bool} (h : Rb K Z H v (.bool i)) : v = .bl i := by
  rcases h with h | ⟨a, o, _, _, e⟩
  · cases h; rfl
  · cases o <;> cases e
theorem Rb.str {i : Str} (h : Rb K Z H v (.str i)) : v = .str i := by
  rcases h with h | ⟨a, o, _, _, e⟩
  · cases h; rfl
  · cases o <;> cases e
theorem Rb.non (h : Rb K Z H v .none) : v = .non := by
  rcases h with h | ⟨a, o, _, _, e⟩
  · cases h; rfl
  · cases o <;> cases e
theorem Rb.lst {ds : List PyData} (zH : Same Z H) (h : Rb K Z H v (.list ds)) : ∃ a xs, v = .ref a ∧ H a = some (.lst xs) ∧ RpA K Z xs ds := by
  rcases h with h | ⟨a, o, e1, ob, e⟩
  · cases h with
    | lst h r => exact ⟨_, _, rfl, zH _ _ h, r⟩
  · cases o with
    | ol xs =>
      cases e
      obtain ⟨vs, q, r⟩ := ob
      exact ⟨a, vs, e1, q, r⟩
    | od _ => cases e
    | ot _ => cases e
    | oi _ _ => cases e
theorem Rb.tup {ds : List PyData} (zH : Same Z H) (h : Rb K Z H v (.tuple ds)) : ∃ a xs, v = .ref a ∧ SqT K H a xs ∧ RpA K Z xs ds := by
  rcases h with h | ⟨a, o, e1, ob, e⟩
  · cases h with
    | tup h r => exact ⟨_, _, rfl, SqT.of (zH _ _ h), r⟩
    | tuk h _ r => exact ⟨_, _, rfl, sqT_mono zH h, r⟩
  · cases o <;> cases e
theorem Rb.dict {ds : List (PyData × PyData)} (zH : Same Z H) (h : Rb K Z H v (.dict ds)) :
    (∃ a, v = .ref a ∧ isI (.dict ds) = false ∧ ((∃ kvs, H a = some (.dK kvs)) ∨ ∃ kvs, H a = some (.dT kvs))) ∨ (∃ a n C dx vs, v = .ref a ∧ isI (.dict ds) = true ∧ IsC K n C ∧ H a = some (.ins C dx vs)) := by
  have nk : ∀ (ks : List Key) (ds : List PyData), isI (.dict ((ks.map kD).zip ds)) = false := fun ks ds => by
    cases ks with
    | nil => rfl
    | cons k ks => cases ds with
      | nil => rfl
      | cons d ds => cases k <;> rfl
  have nt : ∀ (ks : List (List Key)) (ds : List PyData), isI (.dict ((ks.map fun k => PyData.tuple (k.map kD)).zip ds)) = false := fun ks ds => by
    cases ks with
    | nil => rfl
    | cons k ks => cases ds with
      | nil => rfl
      | cons d ds => rfl
  rcases h with h | ⟨a, o, e1, ob, e⟩
  · generalize ed : PyData.dict ds = dd at h
    cases h with
    | dic h r =>
      rename_i a kvs ds'
      refine .inl ⟨_, rfl, ?_, .inl ⟨_, zH _ _ h⟩⟩
      have := nk (kvs.map (·.1)) ds'
      rwa [List.map_map] at this
    | dit h r =>
      rename_i a kvs ds'
      refine .inl ⟨_, rfl, ?_, .inr ⟨_, zH _ _ h⟩⟩
      have := nt (kvs.map (·.1)) ds'
      rwa [List.map_map] at this
    | ins c h k r => exact .inr ⟨_, _, _, _, _, rfl, rfl, c, zH _ _ h⟩
    | _ => cases ed
  · cases o with
    | ol xs => cases e
    | od kvs =>
      obtain ⟨vs, q, _⟩ := ob
      refine .inl ⟨a, e1, ?_, .inl ⟨_, q⟩⟩
      rw [e]
      have := nk (kvs.map (·.1)) (kvs.map (·.2))
      rwa [List.map_map] at this
    | ot kvs =>
      obtain ⟨vs, q, _⟩ := ob
      refine .inl ⟨a, e1, ?_, .inr ⟨_, q⟩⟩
      rw [e]
      have := nt (kvs.map (·.1)) (kvs.map (·.2))
      rwa [List.map_map] at this
    | oi n fs =>
      obtain ⟨C, dx, vs, c, q, _⟩ := ob
      exact .inr ⟨a, n, C, dx, vs, e1, (by rw [e]; rfl), c, q⟩
/-- as seen in the whole heap -/
theorem Rb.rp {d : PyData} (zH : Same Z H) (h : Rb K Z H v d) : Rp K H v d := by
  rcases h with h | ⟨a, o, rfl, ob, rfl⟩
  · exact h.mono zH
  · exact (ob.move zH rfl).rp (Same.refl H) rfl
end

def R2M (K : PySem.W.Frag) (r : R2) (g : PyData → PyData → Option PyData) : Prop := ∀ (Φ : Fx) (Z : Hp) (σ : St) (H : Hp) (ρ : Nv) (x y : V) (d1 d2 z : PyData), Rl K Φ Z σ H ρ → Rb K Z H x d1 → Rb K Z H y d2 → g d1 d2 = some z →
  ∀ Q : VK, (∀ v H' Z', Same Z Z' → Rl K Φ Z' σ H' ρ → Rp K Z' v z → Q v H') → r x y H Q
def x2 (g : PyData → PyData → Option PyData) (a b : XE) : XE := fun ρ => (a ρ).bind fun p => (b p.2).bind fun q => (g p.1 q.1).map fun z => (z, q.2)
def b2 (g : PyData → PyData → Option PyData) (a b : XB) : XB := fun ρ => (a ρ).bind fun p => (b ρ).bind fun q => g p q
theorem R2M.or {K : PySem.W.Frag} {r r' : R2} {g g' : PyData → PyData → Option PyData} (h : R2M K r g) (h' : R2M K r' g') : R2M K (fun x y H Q => r x y H Q ∨ r' x y H Q) (fun x y => (g x y).or (g' x y)) := by
  intro Φ Z σ H ρ x y d1 d2 z R rx ry e Q k
  replace e : (g d1 d2).or (g' d1 d2) = some z := e
  cases hg : g d1 d2 with
  | some z' =>
    rw [hg] at e
    cases e
    exact .inl (h Φ Z σ H ρ x y d1 d2 z R rx ry hg Q k)
  | none =>
    rw [hg] at e
    exact .inr (h' Φ Z σ H ρ x y d1 d2 z R rx ry e Q k)
theorem me_op {K : PySem.W.Frag} {r : R2} {g : PyData → PyData → Option PyData} {ta tb : TE} {a b : XE} (hr : R2M K r g) (ha : ME K ta a) (hb : MO K tb b) : ME K (tOp r ta tb) (x2 g a b) := by
  intro Φ Z σ H ρ d ρ' R q Q k
  unfold x2 at q
  cases e1 : a ρ with
  | none => rw [e1] at q; cases q
  | some p =>
    rw [e1] at q
    cases e2 : b p.2 with
    | none => rw [Option.bind_some, e2] at q; cases q
    | some s =>
      rw [Option.bind_some, e2, Option.bind_some] at q
      cases e3 : g p.1 s.1 with
      | none => rw [e3] at q; cases q
      | some z =>
        rw [e3] at q
        cases q
        refine ha Φ Z σ H ρ p.1 p.2 R e1 _ fun x H1 Z1 z1 R1 r1 => ?_
        refine hb Φ Z1 σ H1 p.2 s.1 s.2 R1 e2 _ fun y H2 Z2 z2 R2 r2 => ?_
        exact hr Φ Z2 σ H2 s.2 x y p.1 s.1 _ R2 (.inl (r1.mono z2)) r2 e3 Q fun v H' Z' z' R' r' => k v H' Z' ((z1.trans z2).trans z') R' r'
section
variable {X : Cx} {a b : Expr} {fa fb : XE} {ga gb : XB} {g : PyData → PyData → Option PyData} {r : R2} {pos : Pos}
theorem ed_bin {op : Operator} (ho : OpR X (binaryOp op) r) (hr : R2M X.K r g) (ha : ED X a fa) (hb : OD' X b fb) : ED X (.BinOp a op b pos) (x2 g fa fb) := by
  obtain ⟨ta, pa, ma⟩ := ha
  obtain ⟨tb, pb, mb⟩ := hb
  exact ⟨_, pe_op ho pa pb, me_op hr ma mb⟩
theorem ed_cmp {op : CmpOp} (ho : OpR X (compareOp op) r) (hr : R2M X.K r g) (ha : ED X a fa) (hb : OD' X b fb) (hm : behindInMarks op b = false := by first | rfl | exact nobehind _ (by decide) (by decide)) : ED X (.Compare a [op] [b] pos) (x2 g fa fb) := by
  obtain ⟨ta, pa, ma⟩ := ha
  obtain ⟨tb, pb, mb⟩ := hb
  exact ⟨_, pe_cmpR ho pa pb hm, me_op hr ma mb⟩
/-- a bool's expression as a test -/
def tst (f : XE) : XT := fun ρ => (f ρ).bind fun p => match p.1 with
  | .bool b => some (b, p.2)
  | _ => none
theorem mt_tst {K : PySem.W.Frag} {t : TE} {f : XE} (h : ME K t f) : MT K (tTest t) (tst f) := by
  intro Φ Z σ H ρ d ρ' R q Q k
  unfold tst at q
  cases e1 : f ρ with
  | none => rw [e1] at q; cases q
  | some p =>
    rw [e1, Option.bind_some] at q
    split at q
    · rename_i b' e
      cases q
      refine h Φ Z σ H ρ p.1 p.2 R e1 _ fun v H1 Z1 z1 R1 r1 => ?_
      rw [e] at r1
      cases r1
      exact ⟨_, rfl, k H1 Z1 z1 R1⟩
    · cases q
theorem td_cmp {op : CmpOp} (ho : OpR X (compareOp op) r) (hr : R2M X.K r g) (ha : ED X a fa) (hb : OD' X b fb) (hm : behindInMarks op b = false := by first | rfl | exact nobehind _ (by decide) (by decide)) : TD X (.Compare a [op] [b] pos) (tst (x2 g fa fb)) := by
  obtain ⟨ta, pa, ma⟩ := ha
  obtain ⟨tb, pb, mb⟩ := hb
  exact ⟨_, pt_cmpR ho pa pb hm, mt_tst (me_op hr ma mb)⟩
end
end DL
set_option maxRecDepth 100000
set_option maxHeartbeats 2000000
namespace DL
open PySem L2

def addD : PyData → PyData → Option PyData
  | .int i, .int j => some (.int (i + j))
  | .bool b, .int j => some (.int ((if b = true then (1 : Int) else 0) + j))
  | .int i, .bool b => some (.int (i + if b = true then (1 : Int) else 0))
  | .str x, .str y => if x.length + y.length ≤ sizeLine then some (.str (x ++ y)) else none
  | .list x, .list y => if x.length + y.length ≤ sizeLine then some (.list (x ++ y)) else none
  | .tuple x, .tuple y => if x.length + y.length ≤ sizeLine then some (.tuple (x ++ y)) else none
  | _, _ => none
def subD : PyData → PyData → Option PyData
  | .int i, .int j => some (.int (i - j))
  | .bool b, .int j => some (.int ((if b = true then (1 : Int) else 0) - j))
  | .int i, .bool b => some (.int (i - if b = true then (1 : Int) else 0))
  | _, _ => none
def mulD : PyData → PyData → Option PyData
  | .int i, .int j => if i.natAbs.log2 + j.natAbs.log2 < 1000000 then some (.int (i * j)) else none
  | .list l, .int k => if -(2 ^ 63) ≤ k ∧ k < 2 ^ 63 ∧ l.length * k.toNat ≤ sizeLine then some (.list (List.replicate k.toNat l).flatten) else none
  | .tuple l, .int k => if l.length ≠ 0 ∧ 2 ≤ k ∧ k ≤ 1000 ∧ l.length ≤ 1000 then some (.tuple (List.replicate k.toNat l).flatten) else none
  | _, _ => none
def fdivD : PyData → PyData → Option PyData
  | .int i, .int j => if 0 < j ∧ j.natAbs.log2 < 9000 then some (.int (i / j)) else if j ≠ 0 ∧ j.natAbs < 1073741824 then some (.int (i.fdiv j)) else none
  | _, _ => none
def modD : PyData → PyData → Option PyData
  | .int i, .int j => if 0 < j then some (.int (i % j)) else if j ≠ 0 then some (.int (i.fmod j)) else none
  | _, _ => none
def powD : PyData → PyData → Option PyData
  | .int i, .int j => if 0 ≤ j ∧ j ≤ 1000000 ∧ i.natAbs < 2 ^ 64 then some (.int (i ^ j.toNat)) else none
  | _, _ => none

theorem addD_shape {x y z : PyData} (h : addD x y = some z) : (∃ i j, x = .int i ∧ y = .int j ∧ z = .int (i + j)) ∨ (∃ i j, x = .str i ∧ y = .str j ∧ i.length + j.length ≤ sizeLine ∧ z = .str (i ++ j)) ∨
    (∃ i j, x = .list i ∧ y = .list j ∧ i.length + j.length ≤ sizeLine ∧ z = .list (i ++ j)) ∨ (∃ i j, x = .tuple i ∧ y = .tuple j ∧ i.length + j.length ≤ sizeLine ∧ z = .tuple (i ++ j)) ∨
    (∃ b j, x = .bool b ∧ y = .int j ∧ z = .int ((if b = true then (1 : Int) else 0) + j)) ∨ ∃ i b, x = .int i ∧ y = .bool b ∧ z = .int (i + if b = true then (1 : Int) else 0) := by
  unfold addD at h
  split at h
  · cases h; exact .inl ⟨_, _, rfl, rfl, rfl⟩
  · cases h; exact .inr (.inr (.inr (.inr (.inl ⟨_, _, rfl, rfl, rfl⟩))))
  · cases h; exact .inr (.inr (.inr (.inr (.inr ⟨_, _, rfl, rfl, rfl⟩))))
  · split at h
    · cases h; exact .inr (.inl ⟨_, _, rfl, rfl, by assumption, rfl⟩)
    · cases h
  · split at h
    · cases h; exact .inr (.inr (.inl ⟨_, _, rfl, rfl, by assumption, rfl⟩))
    · cases h
  · split at h
    · cases h; exact .inr (.inr (.inr (.inl ⟨_, _, rfl, rfl, by assumption, rfl⟩)))
    · cases h
  · cases h

section
variable {K : PySem.W.Frag} {Φ : Fx} {Z : Hp} {σ : St} {H : Hp} {ρ : Nv} {Q : VK} {z : PyData}
/-- a flat answer -/
theorem ends_flat {v : V} (R : Rl K Φ Z σ H ρ) (r : Rp K Z v z) (k : ∀ v H' Z', Same Z Z' → Rl K Φ Z' σ H' ρ → Rp K Z' v z → Q v H') : Q v H := k v H Z (Same.refl Z) R r
/-- a new list, a new tuple -/
theorem ends_lst {vs : List V} {ds : List PyData} (R : Rl K Φ Z σ H ρ) (r : RpA K Z vs ds) (k : ∀ v H' Z', Same Z Z' → Rl K Φ Z' σ H' ρ → Rp K Z' v (.list ds) → Q v H') {p : Addr} (hp : H p = none) : Q (.ref p) (upd H p (.lst vs)) := by
  obtain ⟨z, R'⟩ := R.fresh (o := .lst vs) hp
  exact k _ _ _ z R' (.lst upd_same (r.mono z))
theorem ends_tup {vs : List V} {ds : List PyData} (R : Rl K Φ Z σ H ρ) (r : RpA K Z vs ds) (k : ∀ v H' Z', Same Z Z' → Rl K Φ Z' σ H' ρ → Rp K Z' v (.tuple ds) → Q v H') {p : Addr} (hp : H p = none) : Q (.ref p) (upd H p (.tup vs)) := by
  obtain ⟨z, R'⟩ := R.fresh (o := .tup vs) hp
  exact k _ _ _ z R' (.tup upd_same (r.mono z))
/-- a tuple that is looked at is frozen -/
theorem Rb.tupR {v : V} {ds : List PyData} (h : Rb K Z H v (.tuple ds)) : Rp K Z v (.tuple ds) := by
  rcases h with h | ⟨a, o, e1, ob, e⟩
  · exact h
  · cases o <;> cases e
end
theorem RpA.nil_iff {K : PySem.W.Frag} {Z : Hp} {vs : List V} {ds : List PyData} (r : RpA K Z vs ds) : vs = [] ↔ ds = [] := by
  constructor
  · rintro rfl; cases r; rfl
  · rintro rfl; cases r; rfl

def rBI (g : Int → Int → V) : R2 := fun x y H Q => ∃ b j, x = .bl b ∧ y = .int j ∧ Q (g (if b = true then (1 : Int) else 0) j) H
def rIB (g : Int → Int → V) : R2 := fun x y H Q => ∃ i b, x = .int i ∧ y = .bl b ∧ Q (g i (if b = true then (1 : Int) else 0)) H
theorem op_addBI {X : Cx} : OpR X (binaryOp .Add) (rBI fun i j => .int (i + j)) := by
  intro pins s σ H x y v u Q I rx ry h
  obtain ⟨b, j, rfl, rfl, q⟩ := h
  cases rx
  obtain ⟨t, rfl⟩ := ry
  exact PySem.IntBool.add_bool_int ⟨.int _, H, I.tok _, ⟨_, rfl⟩, q⟩
theorem op_addIB {X : Cx} : OpR X (binaryOp .Add) (rIB fun i j => .int (i + j)) := by
  intro pins s σ H x y v u Q I rx ry h
  obtain ⟨i, b, rfl, rfl, q⟩ := h
  obtain ⟨t, rfl⟩ := rx
  cases ry
  exact PySem.add_int_bool ⟨.int _, H, I.tok _, ⟨_, rfl⟩, q⟩
theorem op_subBI {X : Cx} : OpR X (binaryOp .Sub) (rBI fun i j => .int (i - j)) := by
  intro pins s σ H x y v u Q I rx ry h
  obtain ⟨b, j, rfl, rfl, q⟩ := h
  cases rx
  obtain ⟨t, rfl⟩ := ry
  exact PySem.IntBool.sub_bool_int ⟨.int _, H, I.tok _, ⟨_, rfl⟩, q⟩
theorem op_subIB {X : Cx} : OpR X (binaryOp .Sub) (rIB fun i j => .int (i - j)) := by
  intro pins s σ H x y v u Q I rx ry h
  obtain ⟨i, b, rfl, rfl, q⟩ := h
  obtain ⟨t, rfl⟩ := rx
  cases ry
  exact PySem.IntBool.sub_int_bool ⟨.int _, H, I.tok _, ⟨_, rfl⟩, q⟩
def rAdd (K : PySem.W.Frag) : R2 := fun x y H Q => rI0 (fun i j => .int (i + j)) x y H Q ∨ (∃ i j, x = .str i ∧ y = .str j ∧ i.length + j.length ≤ sizeLine ∧ Q (.str (i ++ j)) H) ∨ rCat x y H Q ∨ rCatA K x y H Q ∨ rBI (fun i j => .int (i + j)) x y H Q ∨ rIB (fun i j => .int (i + j)) x y H Q
theorem op_addD {X : Cx} : OpR X (binaryOp .Add) (rAdd X.K) := op_add.or (op_add_str.or (op_cat.or (op_catA.or (op_addBI.or op_addIB))))
def rSub : R2 := fun x y H Q => rI0 (fun i j => .int (i - j)) x y H Q ∨ rBI (fun i j => .int (i - j)) x y H Q ∨ rIB (fun i j => .int (i - j)) x y H Q
theorem op_subD {X : Cx} : OpR X (binaryOp .Sub) rSub := op_sub.or (op_subBI.or op_subIB)
theorem r2_add {K : PySem.W.Frag} : R2M K (rAdd K) addD := by
  intro Φ Z σ H ρ x y d1 d2 z R rx ry e Q k
  rcases addD_shape e with ⟨i, j, rfl, rfl, rfl⟩ | ⟨i, j, rfl, rfl, hl, rfl⟩ | ⟨i, j, rfl, rfl, hl, rfl⟩ | ⟨i, j, rfl, rfl, hl, rfl⟩ | ⟨b, j, rfl, rfl, rfl⟩ | ⟨i, b, rfl, rfl, rfl⟩
  · exact .inl ⟨i, j, rx.int, ry.int, ends_flat R (.int _) k⟩
  · exact .inr (.inl ⟨i, j, rx.str, ry.str, hl, ends_flat R (.str _) k⟩)
  · obtain ⟨a, xs, e1, h1, r1⟩ := rx.lst R.zH
    obtain ⟨b, ys, e2, h2, r2⟩ := ry.lst R.zH
    exact .inr (.inr (.inl ⟨a, b, xs, ys, e1, e2, h1, h2, by rw [r1.length, r2.length]; exact hl, fun p hp => ends_lst R (r1.append r2) k hp⟩))
  · have q1 := rx.tupR
    have q2 := ry.tupR
    obtain ⟨a, xs, e1, h1, r1⟩ := rx.tup R.zH
    obtain ⟨b, ys, e2, h2, r2⟩ := ry.tup R.zH
    refine .inr (.inr (.inr (.inl ⟨a, b, xs, ys, e1, e2, h1, h2, by rw [r1.length, r2.length]; exact hl, fun h => ?_, fun h h' => ?_, fun _ _ p hp => ends_tup R (r1.append r2) k hp⟩)))
    · have : i = [] := r1.nil_iff.mp h
      subst this
      rw [← e2]
      exact ends_flat R q2 k
    · have : j = [] := r2.nil_iff.mp h'
      subst this
      rw [← e1]
      rw [List.append_nil] at k
      exact ends_flat R q1 k
  · exact .inr (.inr (.inr (.inr (.inl ⟨b, j, rx.bl, ry.int, ends_flat R (.int _) k⟩))))
  · exact .inr (.inr (.inr (.inr (.inr ⟨i, b, rx.int, ry.bl, ends_flat R (.int _) k⟩))))
theorem r2_sub {K : PySem.W.Frag} : R2M K rSub subD := by
  intro Φ Z σ H ρ x y d1 d2 z R rx ry e Q k
  unfold subD at e
  split at e
  · cases e; exact .inl ⟨_, _, rx.int, ry.int, ends_flat R (.int _) k⟩
  · cases e; exact .inr (.inl ⟨_, _, rx.bl, ry.int, ends_flat R (.int _) k⟩)
  · cases e; exact .inr (.inr ⟨_, _, rx.int, ry.bl, ends_flat R (.int _) k⟩)
  · cases e
def rMul (K : PySem.W.Frag) : R2 := fun x y H Q => rI CMulW (fun i j => .int (i * j)) x y H Q ∨ rRep x y H Q ∨ rRepT K x y H Q
theorem op_mulD {X : Cx} : OpR X (binaryOp .Mult) (rMul X.K) := op_mulW.or (op_rep.or op_repT)
theorem RpA.rep {K : PySem.W.Frag} {Z : Hp} {vs : List V} {ds : List PyData} (r : RpA K Z vs ds) : ∀ n : Nat, RpA K Z (List.replicate n vs).flatten (List.replicate n ds).flatten
  | 0 => .nil
  | n + 1 => by
    rw [List.replicate_succ, List.replicate_succ, List.flatten_cons, List.flatten_cons]
    exact r.append (RpA.rep r n)
theorem r2_mul {K : PySem.W.Frag} : R2M K (rMul K) mulD := by
  intro Φ Z σ H ρ x y d1 d2 z R rx ry e Q k
  unfold mulD at e
  split at e
  · split at e
    · cases e; exact .inl ⟨_, _, rx.int, ry.int, by assumption, ends_flat R (.int _) k⟩
    · cases e
  · split at e
    · rename_i h
      cases e
      obtain ⟨a, xs, e1, h1, r1⟩ := rx.lst R.zH
      exact .inr (.inl ⟨a, _, xs, e1, ry.int, h1, h.1, h.2.1, by rw [r1.length]; exact h.2.2, fun p hp => ends_lst R (r1.rep _) k hp⟩)
    · cases e
  · split at e
    · rename_i h
      cases e
      obtain ⟨a, xs, e1, h1, r1⟩ := rx.tup R.zH
      exact .inr (.inr ⟨a, _, xs, e1, ry.int, h1, fun q => h.1 (by rw [← r1.length, q]; rfl), h.2.1, h.2.2.1, by rw [r1.length]; exact h.2.2.2, fun p hp => ends_tup R (r1.rep _) k hp⟩)
    · cases e
  · cases e
def rFdiv : R2 := fun x y H Q => rI CDivW (fun i j => .int (i / j)) x y H Q ∨ rI CDivN (fun i j => .int (i.fdiv j)) x y H Q
theorem op_fdivD {X : Cx} : OpR X (binaryOp .FloorDiv) rFdiv := op_fdivW.or op_fdivN
theorem r2_fdiv {K : PySem.W.Frag} : R2M K rFdiv fdivD := by
  intro Φ Z σ H ρ x y d1 d2 z R rx ry e Q k
  unfold fdivD at e
  split at e
  · split at e
    · cases e; exact .inl ⟨_, _, rx.int, ry.int, by assumption, ends_flat R (.int _) k⟩
    · split at e
      · cases e; exact .inr ⟨_, _, rx.int, ry.int, by assumption, ends_flat R (.int _) k⟩
      · cases e
  · cases e
def rMod : R2 := fun x y H Q => rI (fun _ j => 0 < j) (fun i j => .int (i % j)) x y H Q ∨ rI (fun _ j => j ≠ 0) (fun i j => .int (i.fmod j)) x y H Q
theorem op_modD {X : Cx} : OpR X (binaryOp .Mod) rMod := op_mod.or op_modN
theorem r2_mod {K : PySem.W.Frag} : R2M K rMod modD := by
  intro Φ Z σ H ρ x y d1 d2 z R rx ry e Q k
  unfold modD at e
  split at e
  · split at e
    · cases e; exact .inl ⟨_, _, rx.int, ry.int, by assumption, ends_flat R (.int _) k⟩
    · split at e
      · cases e; exact .inr ⟨_, _, rx.int, ry.int, by assumption, ends_flat R (.int _) k⟩
      · cases e
  · cases e
theorem r2_pow {K : PySem.W.Frag} : R2M K (rI CPow fun i j => .int (i ^ j.toNat)) powD := by
  intro Φ Z σ H ρ x y d1 d2 z R rx ry e Q k
  unfold powD at e
  split at e
  · split at e
    · cases e; exact ⟨_, _, rx.int, ry.int, by assumption, ends_flat R (.int _) k⟩
    · cases e
  · cases e

def ltD : PyData → PyData → Option PyData
  | .int i, .int j => some (.bool (decide (i < j)))
  | .str i, .str j => some (.bool (decide (i.cps.toList < j.cps.toList)))
  | _, _ => none
def leD : PyData → PyData → Option PyData
  | .int i, .int j => some (.bool (decide (i ≤ j)))
  | .str i, .str j => some (.bool (!decide (j.cps.toList < i.cps.toList)))
  | _, _ => none
def gtD : PyData → PyData → Option PyData
  | .int i, .int j => some (.bool (decide (j < i)))
  | _, _ => none
def geD : PyData → PyData → Option PyData
  | .int i, .int j => some (.bool (decide (j ≤ i)))
  | _, _ => none
/-- == of data at any depth -/
def eqD (x y : PyData) : Option PyData := match x, y with
  | .str a, .str b => some (.bool (a == b))
  | x, y => if SeqAt.shaped x && SeqAt.shaped y then some (.bool (PyData.eqv x y)) else none
def neD (x y : PyData) : Option PyData := match x, y with
  | .str a, .str b => some (.bool (!(a == b)))
  | x, y => if SeqAt.shaped x && SeqAt.shaped y then some (.bool (!PyData.eqv x y)) else none
theorem neD_of {x y : PyData} (hx : SeqAt.shaped x = true) (hy : SeqAt.shaped y = true) : neD x y = some (.bool (!PyData.eqv x y)) := by
  unfold neD
  split
  · simp [PyData.eqv]
  · rw [hx, hy]; rfl
def noneD : PyData → Bool
  | .none => true
  | _ => false
def isNonD (x y : PyData) : Option PyData := match y with
  | .none => some (.bool (noneD x))
  | _ => none
def notNonD (x y : PyData) : Option PyData := match y with
  | .none => some (.bool (!noneD x))
  | _ => none
/-- in: a sign or text in a text; an item (data) in a list, in a tuple of flat items -/
def flatD : PyData → Bool
  | .none | .bool _ | .int _ | .str _ => true
  | _ => false
def inD (x y : PyData) : Option PyData := match x, y with
  | .str i, .str j => some (.bool (!(Builtin.Str.occurrences j i 0 j.length 1).isEmpty))
  | d, .list ds => if SeqAt.shaped d && SeqAt.shaped (.list ds) then some (.bool (ds.any fun z => PyData.eqv z d)) else none
  | d, .tuple ds => if flatD d && ds.all flatD then some (.bool (ds.any fun z => PyData.eqv z d)) else none
  | _, _ => none
def rLt : R2 := fun x y H Q => rI0 (fun i j => .bl (decide (i < j))) x y H Q ∨ (∃ i j, x = .str i ∧ y = .str j ∧ Q (.bl (decide (i.cps.toList < j.cps.toList))) H)
theorem op_ltD {X : Cx} : OpR X (compareOp .Lt) rLt := op_lt.or op_lt_str
theorem r2_lt {K : PySem.W.Frag} : R2M K rLt ltD := by
  intro Φ Z σ H ρ x y d1 d2 z R rx ry e Q k
  unfold ltD at e
  split at e
  · cases e; exact .inl ⟨_, _, rx.int, ry.int, ends_flat R (.bl _) k⟩
  · cases e; exact .inr ⟨_, _, rx.str, ry.str, ends_flat R (.bl _) k⟩
  · cases e
theorem r2_gt {K : PySem.W.Frag} : R2M K (rI0 fun i j => .bl (decide (j < i))) gtD := by
  intro Φ Z σ H ρ x y d1 d2 z R rx ry e Q k
  unfold gtD at e
  split at e
  · cases e; exact ⟨_, _, rx.int, ry.int, ends_flat R (.bl _) k⟩
  · cases e
theorem r2_ge {K : PySem.W.Frag} : R2M K (rI0 fun i j => .bl (decide (j ≤ i))) geD := by
  intro Φ Z σ H ρ x y d1 d2 z R rx ry e Q k
  unfold geD at e
  split at e
  · cases e; exact ⟨_, _, rx.int, ry.int, ends_flat R (.bl _) k⟩
  · cases e
theorem noDict_of_shaped {d : PyData} (h : SeqAt.shaped d = true) : d.hasDict = false := PyData.hasDict_of_canLay d (SeqAt.canLay_of_shaped h)
theorem Rb.dp {K : PySem.W.Frag} {Z H : Hp} {v : V} {d : PyData} (zH : Same Z H) (h : Rb K Z H v d) (s : SeqAt.shaped d = true) : Dp K H v d := (h.rp zH).toDp (noDict_of_shaped s)
def rEqX (K : PySem.W.Frag) : R2 := fun x y H Q => (∃ a b, x = .str a ∧ y = .str b ∧ Q (.bl (a == b)) H) ∨ rEqD K x y H Q
def rNeX (K : PySem.W.Frag) : R2 := fun x y H Q => (∃ a b, x = .str a ∧ y = .str b ∧ Q (.bl (!(a == b))) H) ∨ rNeD K x y H Q
theorem op_eqSt {X : Cx} : OpR X (compareOp .Eq) (fun x y H Q => ∃ a b, x = .str a ∧ y = .str b ∧ Q (.bl (a == b)) H) := by
  intro pins s σ H x y v u Q I rx ry h
  obtain ⟨a, b, rfl, rfl, q⟩ := h
  obtain ⟨t, rfl⟩ := rx
  obtain ⟨t', rfl⟩ := ry
  exact PyProof.Rows.eq_str ⟨.bl (a == b), H, I, rfl, q⟩
theorem op_neSt {X : Cx} : OpR X (compareOp .NotEq) (fun x y H Q => ∃ a b, x = .str a ∧ y = .str b ∧ Q (.bl (!(a == b))) H) := by
  intro pins s σ H x y v u Q I rx ry h
  obtain ⟨a, b, rfl, rfl, q⟩ := h
  obtain ⟨t, rfl⟩ := rx
  obtain ⟨t', rfl⟩ := ry
  exact PyProof.Rows.ne_str ⟨.bl (!(a == b)), H, I, rfl, q⟩
theorem op_eqX {X : Cx} (hu : X.A.units + 64 < cLine) : OpR X (compareOp .Eq) (rEqX X.K) := op_eqSt.or (op_eqD hu)
theorem op_neX {X : Cx} (hu : X.A.units + 64 < cLine) : OpR X (compareOp .NotEq) (rNeX X.K) := op_neSt.or (op_neD hu)
theorem r2_eq {K : PySem.W.Frag} : R2M K (rEqX K) eqD := by
  intro Φ Z σ H ρ x y d1 d2 z R rx ry e Q k
  unfold eqD at e
  split at e
  · cases e
    exact .inl ⟨_, _, rx.str, ry.str, ends_flat R (.bl _) k⟩
  · split at e
    · rename_i h
      rw [Bool.and_eq_true] at h
      cases e; exact .inr ⟨_, _, rx.dp R.zH h.1, ry.dp R.zH h.2, h.1, h.2, ends_flat R (.bl _) k⟩
    · cases e
theorem r2_ne {K : PySem.W.Frag} : R2M K (rNeX K) neD := by
  intro Φ Z σ H ρ x y d1 d2 z R rx ry e Q k
  unfold neD at e
  split at e
  · cases e
    exact .inl ⟨_, _, rx.str, ry.str, ends_flat R (.bl _) k⟩
  · split at e
    · rename_i h
      rw [Bool.and_eq_true] at h
      cases e; exact .inr ⟨_, _, rx.dp R.zH h.1, ry.dp R.zH h.2, h.1, h.2, ends_flat R (.bl _) k⟩
    · cases e
theorem rb_none {K : PySem.W.Frag} {Z H : Hp} {v : V} {d : PyData} (h : Rb K Z H v d) : decide (v = .non) = noneD d := by
  rcases h with h | ⟨a, o, rfl, ob, rfl⟩
  · cases h <;> rfl
  · cases o <;> rfl
theorem r2_isN {K : PySem.W.Frag} : R2M K (fun x y H Q => y = .non ∧ Q (.bl (decide (x = .non))) H) isNonD := by
  intro Φ Z σ H ρ x y d1 d2 z R rx ry e Q k
  unfold isNonD at e
  split at e
  · cases e
    refine ⟨ry.non, ?_⟩
    rw [rb_none rx]
    exact ends_flat R (.bl _) k
  · cases e
theorem r2_notN {K : PySem.W.Frag} : R2M K (fun x y H Q => y = .non ∧ Q (.bl (!decide (x = .non))) H) notNonD := by
  intro Φ Z σ H ρ x y d1 d2 z R rx ry e Q k
  unfold notNonD at e
  split at e
  · cases e
    refine ⟨ry.non, ?_⟩
    rw [rb_none rx]
    exact ends_flat R (.bl _) k
  · cases e
theorem flat_rb {K : PySem.W.Frag} {Z H : Hp} {v : V} {d : PyData} (h : Rb K Z H v d) (f : flatD d = true) : flatV v = true := by
  rcases h with h | ⟨a, o, rfl, ob, rfl⟩
  · cases h <;> first | rfl | cases f
  · cases o <;> cases f
theorem eqv_flat {K : PySem.W.Frag} {Z : Hp} {v w : V} {d e : PyData} (h : Rp K Z v d) (h' : Rp K Z w e) (f : flatD d = true) (f' : flatD e = true) : eqV v w = PyData.eqv d e := by
  cases h <;> first | (cases f; done) | skip
  all_goals cases h' <;> first | (cases f'; done) | skip
  all_goals (simp [eqV, PyData.eqv] <;> done)
theorem flats {K : PySem.W.Frag} {Z : Hp} : ∀ {xs : List V} {ds : List PyData}, RpA K Z xs ds → ds.all flatD = true → xs.all flatV = true
  | _, _, .nil, _ => rfl
  | _, _, .cons r t, f => by
    rw [List.all_cons, Bool.and_eq_true] at f ⊢
    exact ⟨flat_rb (H := Z) (.inl r) f.1, flats t f.2⟩
theorem anys {K : PySem.W.Frag} {Z : Hp} {v : V} {d : PyData} (h : Rp K Z v d) (f : flatD d = true) : ∀ {xs : List V} {ds : List PyData}, RpA K Z xs ds → ds.all flatD = true → inV v xs = ds.any fun z => PyData.eqv z d
  | _, _, .nil, _ => rfl
  | _, _, .cons r t, g => by
    rw [List.all_cons, Bool.and_eq_true] at g
    show ((_ :: _).any fun y => eqV y v) = _
    rw [List.any_cons, List.any_cons, eqv_flat r h g.1 f]
    congr 1
    exact anys h f t g.2
theorem rb_flat {K : PySem.W.Frag} {Z H : Hp} {v : V} {d : PyData} (h : Rb K Z H v d) (f : flatD d = true) : Rp K Z v d := by
  rcases h with h | ⟨a, o, rfl, ob, rfl⟩
  · exact h
  · cases o <;> cases f
def rInA (K : PySem.W.Frag) : R2 := fun x y H Q => (∃ i j, x = .str i ∧ y = .str j ∧ Q (.bl (!(Builtin.Str.occurrences j i 0 j.length 1).isEmpty)) H) ∨ rInD K x y H Q ∨ rIn K false x y H Q
theorem op_inA {X : Cx} (hu : X.A.units + 65 < cLine) : OpR X (compareOp .In) (rInA X.K) := op_in_str.or ((op_inD hu).or op_in_seq)
theorem r2_in {K : PySem.W.Frag} : R2M K (rInA K) inD := by
  intro Φ Z σ H ρ x y d1 d2 z R rx ry e Q k
  unfold inD at e
  split at e
  · cases e; exact .inl ⟨_, _, rx.str, ry.str, ends_flat R (.bl _) k⟩
  · split at e
    · rename_i h
      rw [Bool.and_eq_true] at h
      cases e
      exact .inr (.inl ⟨_, _, rx.dp R.zH h.1, ry.dp R.zH h.2, h.1, h.2, ends_flat R (.bl _) k⟩)
    · cases e
  · split at e
    · rename_i h
      rw [Bool.and_eq_true] at h
      cases e
      obtain ⟨a, xs, e1, h1, r1⟩ := ry.tup R.zH
      have f := rb_flat rx h.1
      refine .inr (.inr ⟨a, xs, e1, .inr h1, flat_rb rx h.1, flats r1 h.2, ?_⟩)
      rw [if_neg Bool.false_ne_true, anys f h.1 r1 h.2]
      exact ends_flat R (.bl _) k
    · cases e
  · cases e
def idxD : PyData → PyData → Option PyData
  | .list xs, .int i => atI xs i
  | .tuple xs, .int i => atI xs i
  | .str z, .int i => if z.length ≤ sizeLine then (atI z.cps.toList i).map fun c => .str ⟨#[c]⟩ else none
  | _, _ => none
theorem atI_rp {K : PySem.W.Frag} {Z : Hp} {xs : List V} {ds : List PyData} {i : Int} {d : PyData} (r : RpA K Z xs ds) (h : atI ds i = some d) : ∃ v, atI xs i = some v ∧ Rp K Z v d := by
  unfold atI at h ⊢
  rw [r.length]
  cases e : ixN ds.length i with
  | none => rw [e] at h; cases h
  | some j =>
    rw [e, Option.bind_some] at h
    obtain ⟨v, h1, h2⟩ := r.get h
    exact ⟨v, h1, h2⟩
theorem r2_idx {K : PySem.W.Frag} : R2M K (rIx K) idxD := by
  intro Φ Z σ H ρ x y d1 d2 z R rx ry e Q k
  unfold idxD at e
  split at e
  · obtain ⟨a, xs, e1, h1, r1⟩ := rx.lst R.zH
    obtain ⟨v, h2, r2⟩ := atI_rp r1 e
    exact .inl ⟨a, xs, _, v, e1, ry.int, SqL.of h1, h2, ends_flat R r2 k⟩
  · obtain ⟨a, xs, e1, h1, r1⟩ := rx.tup R.zH
    obtain ⟨v, h2, r2⟩ := atI_rp r1 e
    exact .inr (.inl ⟨a, xs, _, v, e1, ry.int, h1, h2, ends_flat R r2 k⟩)
  · split at e
    · rename_i z0 i hz
      cases ha : atI z0.cps.toList i with
      | none => rw [ha] at e; cases e
      | some c =>
        rw [ha] at e
        cases e
        exact .inr (.inr ⟨z0, i, c, rx.str, ry.int, hz, ha, ends_flat R (.str _) k⟩)
    · cases e
  · cases e
section
variable {X : Cx} {a b : Expr} {fa fb : XE} {ga gb : XB} {pos : Pos}
theorem ed_ix (ha : ED X a fa) (hb : OD' X b fb) (hs : PlainIx b := by intro _ _; rfl) : ED X (.Subscript a b pos) (x2 idxD fa fb) := by
  obtain ⟨ta, pa, ma⟩ := ha
  obtain ⟨tb, pb, mb⟩ := hb
  exact ⟨_, pe_ix ix_seq pa pb hs, me_op r2_idx ma mb⟩
end
end DL
set_option maxRecDepth 100000
set_option maxHeartbeats 2000000
namespace DL
open PySem L2

/-- the truth of a datum -/
def truD : PyData → Option Bool
  | .none => some false
  | .bool b => some b
  | .int i => some (i != 0)
  | .str y => if y.length ≤ sizeLine then some ((y.length : Int) != 0) else none
  | .list xs => some (!xs.isEmpty)
  | .tuple xs => some (!xs.isEmpty)
  | .dict _ => none
def xTru (f : XE) : XT := fun ρ => (f ρ).bind fun p => (truD p.1).map fun b => (b, p.2)
theorem RpA.empty {K : PySem.W.Frag} {Z : Hp} {vs : List V} {ds : List PyData} (r : RpA K Z vs ds) : vs.isEmpty = ds.isEmpty := by cases r <;> rfl
theorem tru_rb {K : PySem.W.Frag} {Z H : Hp} {v : V} {d : PyData} {b : Bool} (zH : Same Z H) (r : Rb K Z H v d) (e : truD d = some b) : TruV K v H b := by
  cases d with
  | none => cases e; rw [r.non]; exact rfl
  | bool c => cases e; rw [r.bl]; exact rfl
  | int i => cases e; rw [r.int]; exact rfl
  | str y =>
    replace e : (if y.length ≤ sizeLine then some ((y.length : Int) != 0) else none) = some b := e
    split at e
    · cases e; rw [r.str]; exact ⟨by assumption, rfl⟩
    · cases e
  | list xs =>
    cases e
    obtain ⟨a, vs, rfl, h, q⟩ := r.lst zH
    exact .inl ⟨vs, SqL.of h, by rw [q.empty]⟩
  | tuple xs =>
    cases e
    obtain ⟨a, vs, rfl, h, q⟩ := r.tup zH
    exact .inr (.inl ⟨vs, h, by rw [q.empty]⟩)
  | dict _ => cases e
section
variable {X : Cx} {a b e c : Expr} {fa fb : XE} {f : XE} {ta tb : XT} {pos : Pos} {rest : List Expr}
theorem td_tru (h : OD' X a fa) (he : ∀ whole, isTrue a X.env whole = (do let v ← whole; standAt a.pos; holding [v] (truthy v)) := by intro _; rfl) : TD X a (xTru fa) := by
  obtain ⟨t, p, m⟩ := h
  refine ⟨_, pt_truth p he, fun Φ Z σ H ρ d ρ' R q Q k => ?_⟩
  unfold xTru at q
  cases e1 : fa ρ with
  | none => rw [e1] at q; cases q
  | some s =>
    rw [e1, Option.bind_some] at q
    cases e2 : truD s.1 with
    | none => rw [e2] at q; cases q
    | some b =>
      rw [e2] at q
      cases q
      exact m Φ Z σ H ρ s.1 s.2 R e1 _ fun v H1 Z1 z1 R1 r1 => ⟨_, tru_rb R1.zH r1 e2, k H1 Z1 z1 R1⟩
def xAndT (a b : XT) : XT := fun ρ => (a ρ).bind fun p => if p.1 = true then b p.2 else some (false, p.2)
def xOrT (a b : XT) : XT := fun ρ => (a ρ).bind fun p => if p.1 = true then some (true, p.2) else b p.2
def xNotT (a : XT) : XT := fun ρ => (a ρ).map fun p => (!p.1, p.2)
theorem wd_and1 (h : TD X a ta) : WD X (.BoolOp .And [a] pos) ta := by obtain ⟨t, p, m⟩ := h; exact ⟨t, pw_and1 p, m⟩
theorem wd_or1 (h : TD X a ta) : WD X (.BoolOp .Or [a] pos) ta := by obtain ⟨t, p, m⟩ := h; exact ⟨t, pw_or1 p, m⟩
theorem WD.td (h : WD X a ta) : TD X a ta := by obtain ⟨t, p, m⟩ := h; exact ⟨t, p.pt, m⟩
theorem mt_and {K : PySem.W.Frag} {t u : TT} {a b : XT} (h1 : MT K t a) (h2 : MT K u b) : MT K (tAnd t u) (xAndT a b) := by
  intro Φ Z σ H ρ d ρ' R q Q k
  unfold xAndT at q
  cases e1 : a ρ with
  | none => rw [e1] at q; cases q
  | some p =>
    rw [e1, Option.bind_some] at q
    refine h1 Φ Z σ H ρ p.1 p.2 R e1 _ fun H1 Z1 z1 R1 => ?_
    by_cases hp : p.1 = true
    · rw [if_pos hp] at q ⊢
      exact h2 Φ Z1 σ H1 p.2 d ρ' R1 q Q fun H2 Z2 z2 R2 => k H2 Z2 (z1.trans z2) R2
    · rw [if_neg hp] at q ⊢
      cases q
      exact k H1 Z1 z1 R1
theorem mt_or {K : PySem.W.Frag} {t u : TT} {a b : XT} (h1 : MT K t a) (h2 : MT K u b) : MT K (tOr t u) (xOrT a b) := by
  intro Φ Z σ H ρ d ρ' R q Q k
  unfold xOrT at q
  cases e1 : a ρ with
  | none => rw [e1] at q; cases q
  | some p =>
    rw [e1, Option.bind_some] at q
    refine h1 Φ Z σ H ρ p.1 p.2 R e1 _ fun H1 Z1 z1 R1 => ?_
    by_cases hp : p.1 = true
    · rw [if_pos hp] at q ⊢
      cases q
      exact k H1 Z1 z1 R1
    · rw [if_neg hp] at q ⊢
      exact h2 Φ Z1 σ H1 p.2 d ρ' R1 q Q fun H2 Z2 z2 R2 => k H2 Z2 (z1.trans z2) R2
theorem wd_and (ha : TD X a ta) (hb : WD X (.BoolOp .And (b :: rest) pos) tb) : WD X (.BoolOp .And (a :: b :: rest) pos) (xAndT ta tb) := by
  obtain ⟨t, p, m⟩ := ha
  obtain ⟨u, q, n⟩ := hb
  exact ⟨_, pw_and p q, mt_and m n⟩
theorem wd_or (ha : TD X a ta) (hb : WD X (.BoolOp .Or (b :: rest) pos) tb) : WD X (.BoolOp .Or (a :: b :: rest) pos) (xOrT ta tb) := by
  obtain ⟨t, p, m⟩ := ha
  obtain ⟨u, q, n⟩ := hb
  exact ⟨_, pw_or p q, mt_or m n⟩
theorem td_not (ha : TD X a ta) : TD X (.UnaryOp .Not a pos) (xNotT ta) := by
  obtain ⟨t, p, m⟩ := ha
  refine ⟨_, pt_not p, fun Φ Z σ H ρ d ρ' R q Q k => ?_⟩
  unfold xNotT at q
  cases e1 : ta ρ with
  | none => rw [e1] at q; cases q
  | some s =>
    rw [e1] at q
    cases q
    exact m Φ Z σ H ρ s.1 s.2 R e1 _ fun H1 Z1 z1 R1 => k H1 Z1 z1 R1
/-- and, or, not as values: all but the last a bool -/
def xAnd (a b : XE) : XE := fun ρ => (a ρ).bind fun p => match p.1 with
  | .bool true => b p.2
  | .bool false => some (.bool false, p.2)
  | _ => none
def xOr (a b : XE) : XE := fun ρ => (a ρ).bind fun p => match p.1 with
  | .bool true => some (.bool true, p.2)
  | .bool false => b p.2
  | _ => none
def xNot (a : XE) : XE := fun ρ => (a ρ).bind fun p => match p.1 with
  | .bool b => some (.bool (!b), p.2)
  | _ => none
theorem ed_one {op} (h : ED X a fa) : ED X (.BoolOp op [a] pos) fa := by obtain ⟨t, p, m⟩ := h; exact ⟨t, pe_one p, m⟩
theorem ed_and (ha : ED X a fa) (hb : ED X (.BoolOp .And (b :: rest) pos) fb) : ED X (.BoolOp .And (a :: b :: rest) pos) (xAnd fa fb) := by
  obtain ⟨t, p, m⟩ := ha
  obtain ⟨u, q, n⟩ := hb
  refine ⟨_, pe_and p q, fun Φ Z σ H ρ d ρ' R q Q k => ?_⟩
  unfold xAnd at q
  cases e1 : fa ρ with
  | none => rw [e1] at q; cases q
  | some s =>
    rw [e1, Option.bind_some] at q
    refine m Φ Z σ H ρ s.1 s.2 R e1 _ fun v H1 Z1 z1 R1 r1 => ?_
    split at q
    · rename_i e
      rw [e] at r1
      cases r1
      refine ⟨true, rfl, ?_⟩
      rw [if_pos rfl]
      exact n Φ Z1 σ H1 s.2 d ρ' R1 q Q fun v H2 Z2 z2 R2 r2 => k v H2 Z2 (z1.trans z2) R2 r2
    · rename_i e
      rw [e] at r1
      cases r1
      cases q
      refine ⟨false, rfl, ?_⟩
      rw [if_neg Bool.false_ne_true]
      exact k _ H1 Z1 z1 R1 (.bl false)
    · cases q
theorem ed_not (ha : ED X a fa) : ED X (.UnaryOp .Not a pos) (xNot fa) := by
  obtain ⟨t, p, m⟩ := ha
  refine ⟨_, pe_not p, fun Φ Z σ H ρ d ρ' R q Q k => ?_⟩
  unfold xNot at q
  cases e1 : fa ρ with
  | none => rw [e1] at q; cases q
  | some s =>
    rw [e1, Option.bind_some] at q
    refine m Φ Z σ H ρ s.1 s.2 R e1 _ fun v H1 Z1 z1 R1 r1 => ?_
    split at q
    · rename_i b' e
      rw [e] at r1
      cases r1
      cases q
      exact ⟨_, rfl, k _ H1 Z1 z1 R1 (.bl _)⟩
    · cases q
/-- a if t else b -/
def xIf (t : XT) (a b : XE) : XE := fun ρ => (t ρ).bind fun p => if p.1 = true then a p.2 else b p.2
theorem ed_if (hc : TD X c ta) (ha : ED X a fa) (hb : ED X b fb) : ED X (.IfExp c a b pos) (xIf ta fa fb) := by
  obtain ⟨t, p, m⟩ := hc
  obtain ⟨u, q, n⟩ := ha
  obtain ⟨w, r, o⟩ := hb
  refine ⟨_, pe_ifExp p q r, fun Φ Z σ H ρ d ρ' R q Q k => ?_⟩
  unfold xIf at q
  cases e1 : ta ρ with
  | none => rw [e1] at q; cases q
  | some s =>
    rw [e1, Option.bind_some] at q
    refine m Φ Z σ H ρ s.1 s.2 R e1 _ fun H1 Z1 z1 R1 => ?_
    by_cases hp : s.1 = true
    · rw [if_pos hp] at q ⊢
      exact n Φ Z1 σ H1 s.2 d ρ' R1 q Q fun v H2 Z2 z2 R2 r2 => k v H2 Z2 (z1.trans z2) R2 r2
    · rw [if_neg hp] at q ⊢
      exact o Φ Z1 σ H1 s.2 d ρ' R1 q Q fun v H2 Z2 z2 R2 r2 => k v H2 Z2 (z1.trans z2) R2 r2
/-- -a -/
def negD : PyData → Option PyData
  | .int i => some (.int (-i))
  | _ => none
def x1 (g : PyData → Option PyData) (f : XE) : XE := fun ρ => (f ρ).bind fun p => (g p.1).map fun z => (z, p.2)
theorem ed_neg (ha : OD' X a fa) : ED X (.UnaryOp .USub a pos) (x1 negD fa) := by
  obtain ⟨t, p, m⟩ := ha
  refine ⟨_, pe_un un_neg p, fun Φ Z σ H ρ d ρ' R q Q k => ?_⟩
  unfold x1 at q
  cases e1 : fa ρ with
  | none => rw [e1] at q; cases q
  | some s =>
    rw [e1, Option.bind_some] at q
    refine m Φ Z σ H ρ s.1 s.2 R e1 _ fun v H1 Z1 z1 R1 r1 => ?_
    unfold negD at q
    split at q
    · rename_i i e
      rw [e] at r1
      cases q
      exact ⟨i, r1.int, k _ H1 Z1 z1 R1 (.int _)⟩
    · cases q
end

def xChain (g g' : PyData → PyData → Option PyData) (a b c : XE) : XE := fun ρ => (a ρ).bind fun p => (b p.2).bind fun q => (g p.1 q.1).bind fun z => match z with
  | .bool true => (c q.2).bind fun r => (g' q.1 r.1).map fun z => (z, r.2)
  | .bool false => some (.bool false, q.2)
  | _ => none
section
variable {X : Cx} {a b c : Expr} {fa fb fc : XE} {g g' : PyData → PyData → Option PyData} {r r' : R2} {pos : Pos}
end
end DL
set_option maxRecDepth 100000
set_option maxHeartbeats 2000000
namespace DL
open PySem L2

def aNil : XA := fun ρ => some ([], ρ)
def aCons (f : XE) (r : XA) : XA := fun ρ => (f ρ).bind fun p => (r p.2).map fun q => (.v p.1 :: q.1, q.2)
/-- the object that slot i holds goes as it is -/
def aSlot (i : Nat) (r : XA) : XA := fun ρ => match ρ[i]? with
  | some (.own _ _) => (r ρ).map fun q => (.s i :: q.1, q.2)
  | some (.scr _) => (r ρ).map fun q => (.s i :: q.1, q.2)
  | _ => none
section
variable {X : Cx} {e : Expr} {es : List Expr} {f : XE} {r : XA} {pos : Pos}
theorem ad_nil : AD X [] aNil := ⟨tNil, pa_nil, fun Φ Z σ H ρ as ρ' R q Q k => by
  cases q
  exact k [] H Z (Same.refl Z) R .nil⟩
theorem ad_cons (he : ED X e f) (hr : AD X es r) (hs : starEach (e :: es) X.env = (false, eval e X.env) :: starEach es X.env := by rfl) : AD X (e :: es) (aCons f r) := by
  obtain ⟨t, p, m⟩ := he
  obtain ⟨u, q, n⟩ := hr
  refine ⟨_, pa_cons p q hs, fun Φ Z σ H ρ as ρ' R q Q k => ?_⟩
  unfold aCons at q
  cases e1 : f ρ with
  | none => rw [e1] at q; cases q
  | some s =>
    rw [e1, Option.bind_some] at q
    cases e2 : r s.2 with
    | none => rw [e2] at q; cases q
    | some w =>
      rw [e2] at q
      cases q
      refine m Φ Z σ H ρ s.1 s.2 R e1 _ fun v H1 Z1 z1 R1 r1 => ?_
      exact n Φ Z1 σ H1 s.2 w.1 w.2 R1 e2 _ fun vs H2 Z2 z2 R2 r2 => k _ H2 Z2 (z1.trans z2) R2 (.v (r1.mono z2) r2)
theorem ad_slot (i : Nat) {x : Str} (hr : AD X es r) (hN : X.N[i]? = some x := by rfl) (hv : Vis X.env.scope x := by first | exact Or.inl rfl | exact Or.inr (Or.inl rfl) | exact Or.inr (Or.inr rfl)) (hd : (x == ("__debug__" : Str)) = false := by decide)
    (hcd : (x == ("__classdict__" : Str)) = false := by decide) (hs : starEach (.Name x pos :: es) X.env = (false, eval (.Name x pos) X.env) :: starEach es X.env := by rfl) : AD X (.Name x pos :: es) (aSlot i r) := by
  obtain ⟨u, q, n⟩ := hr
  refine ⟨_, pa_cons (pe_var hN hv hd hcd) q hs, fun Φ Z σ H ρ as ρ' R q Q k => ?_⟩
  have go : ∀ v, σ[i]? = some (some v) → (r ρ).map (fun q => (AV.s i :: q.1, q.2)) = some (as, ρ') → tCons (tVar i) u σ H Q := fun v hv q => by
    cases e2 : r ρ with
    | none => rw [e2] at q; cases q
    | some w =>
      rw [e2] at q
      cases q
      exact ⟨v, hv, n Φ Z σ H ρ w.1 w.2 R e2 _ fun vs H2 Z2 z2 R2 r2 => k _ H2 Z2 z2 R2 (.s hv r2)⟩
  unfold aSlot at q
  split at q
  · rename_i o io e
    obtain ⟨a, s, _⟩ := R.own _ _ _ e
    exact go _ s q
  · rename_i ns e
    obtain ⟨a, s, _⟩ := R.scr _ _ e
    exact go _ s q
  · cases q
end
/-- all of them data -/
def allV : List AV → Option (List PyData)
  | [] => some []
  | .v d :: as => (allV as).map (d :: ·)
  | .s _ :: _ => none
theorem allV_rp {K : PySem.W.Frag} {Z : Hp} {σ : St} : ∀ {vs : List V} {as : List AV} {ds : List PyData}, AvA K Z σ vs as → allV as = some ds → RpA K Z vs ds
  | _, _, _, .nil, e => by cases e; exact .nil
  | _, _, _, .v (d := d) (as := as) r t, e => by
    replace e : (allV as).map (d :: ·) = some _ := e
    cases e2 : allV as with
    | none => rw [e2] at e; cases e
    | some l =>
      rw [e2] at e
      cases e
      exact .cons r (allV_rp t e2)
  | _, _, _, .s _ _, e => by cases e

def xTup (r : XA) : XE := fun ρ => (r ρ).bind fun p => (allV p.1).bind fun ds => if ds.length ≤ sizeLine then some (.tuple ds, p.2) else none
def xLst (r : XA) : XE := fun ρ => (r ρ).bind fun p => (allV p.1).bind fun ds => if ds.length ≤ sizeLine then some (.list ds, p.2) else none
section
variable {X : Cx} {es : List Expr} {r : XA} {pos : Pos}
theorem ed_tup {k : Nat} (h : AD X es r) : ED X (.Tuple es k pos) (xTup r) := by
  obtain ⟨t, p, m⟩ := h
  refine ⟨_, pe_tup p, fun Φ Z σ H ρ d ρ' R q Q k => ?_⟩
  unfold xTup at q
  cases e1 : r ρ with
  | none => rw [e1] at q; cases q
  | some s =>
    rw [e1, Option.bind_some] at q
    cases e2 : allV s.1 with
    | none => rw [e2] at q; cases q
    | some ds =>
      rw [e2, Option.bind_some] at q
      split at q
      · cases q
        refine m Φ Z σ H ρ s.1 s.2 R e1 _ fun vs H1 Z1 z1 R1 r1 => ?_
        have rp := allV_rp r1 e2
        refine ⟨by rw [rp.length]; assumption, fun p hp => ?_⟩
        exact ends_tup R1 rp (fun v H' Z' z' R' r' => k v H' Z' (z1.trans z') R' r') hp
      · cases q
theorem ed_lst (h : AD X es r) : ED X (.List es pos) (xLst r) := by
  obtain ⟨t, p, m⟩ := h
  refine ⟨_, pe_lst p, fun Φ Z σ H ρ d ρ' R q Q k => ?_⟩
  unfold xLst at q
  cases e1 : r ρ with
  | none => rw [e1] at q; cases q
  | some s =>
    rw [e1, Option.bind_some] at q
    cases e2 : allV s.1 with
    | none => rw [e2] at q; cases q
    | some ds =>
      rw [e2, Option.bind_some] at q
      split at q
      · cases q
        refine m Φ Z σ H ρ s.1 s.2 R e1 _ fun vs H1 Z1 z1 R1 r1 => ?_
        have rp := allV_rp r1 e2
        refine ⟨by rw [rp.length]; assumption, fun p hp => ?_⟩
        exact ends_lst R1 rp (fun v H' Z' z' R' r' => k v H' Z' (z1.trans z') R' r') hp
      · cases q
end

/-- the new object is at a, nobody holds it -/
structure New (K : PySem.W.Frag) (Φ : Fx) (Z : Hp) (σ : St) (H : Hp) (ρ : Nv) (a : Addr) (o : OD) : Prop where
  ob : ObAt K Z H a o
  z : Z a = none
  fr : Φ.Fr a = none
  h0 : Φ.H0 a = none
  no : ∀ i, ¬ AtS ρ σ i a
abbrev XN := Nv → Option (OD × Nv)
def MN (K : PySem.W.Frag) (t : TE) (f : XN) : Prop := ∀ (Φ : Fx) (Z : Hp) (σ : St) (H : Hp) (ρ : Nv) (o : OD) (ρ' : Nv), Rl K Φ Z σ H ρ → f ρ = some (o, ρ') →
  ∀ Q : VK, (∀ a H' Z', Same Z Z' → Rl K Φ Z' σ H' ρ' → New K Φ Z' σ H' ρ' a o → Q (.ref a) H') → t σ H Q
def ND (X : Cx) (e : Expr) (f : XN) : Prop := ∃ t, PE X e t ∧ MN X.K t f
theorem New.of {K : PySem.W.Frag} {Φ : Fx} {Z : Hp} {σ : St} {H : Hp} {ρ : Nv} (R : Rl K Φ Z σ H ρ) {p : Addr} {u : HO} {o : OD} (hp : H p = none) (ob : ObAt K Z (upd H p u) p o) : New K Φ Z σ (upd H p u) ρ p o :=
  ⟨ob, R.zH.free hp, R.fr.free hp, R.dom _ hp, fun i h => by
    obtain ⟨w, e, _⟩ := R.at_some h
    rw [hp] at e
    cases e⟩
/-- a list display, held -/
def nLst (r : XA) : XN := fun ρ => (r ρ).bind fun p => (allV p.1).bind fun ds => if ds.length ≤ sizeLine then some (.ol ds, p.2) else none
section
variable {X : Cx} {es : List Expr} {r : XA} {pos : Pos}
theorem nd_lst (h : AD X es r) : ND X (.List es pos) (nLst r) := by
  obtain ⟨t, p, m⟩ := h
  refine ⟨_, pe_lst p, fun Φ Z σ H ρ d ρ' R q Q k => ?_⟩
  unfold nLst at q
  cases e1 : r ρ with
  | none => rw [e1] at q; cases q
  | some s =>
    rw [e1, Option.bind_some] at q
    cases e2 : allV s.1 with
    | none => rw [e2] at q; cases q
    | some ds =>
      rw [e2, Option.bind_some] at q
      split at q
      · cases q
        refine m Φ Z σ H ρ s.1 s.2 R e1 _ fun vs H1 Z1 z1 R1 r1 => ?_
        have rp := allV_rp r1 e2
        refine ⟨by rw [rp.length]; assumption, fun p hp => ?_⟩
        exact k p _ Z1 z1 (R1.laid hp) (New.of R1 hp ⟨vs, upd_same, rp⟩)
      · cases q
/-- a list + a list, held -/
def nCat (a b : XE) : XN := fun ρ => (a ρ).bind fun p => (b p.2).bind fun q => match p.1, q.1 with
  | .list x, .list y => if x.length + y.length ≤ sizeLine then some (.ol (x ++ y), q.2) else none
  | _, _ => none
end

def C1M (K : PySem.W.Frag) (r : List V → Hp → VK → Prop) (g : PyData → Option PyData) : Prop := ∀ (Φ : Fx) (Z : Hp) (σ : St) (H : Hp) (ρ : Nv) (x : V) (d z : PyData), Rl K Φ Z σ H ρ → Rb K Z H x d → g d = some z →
  ∀ Q : VK, (∀ v H' Z', Same Z Z' → Rl K Φ Z' σ H' ρ → Rp K Z' v z → Q v H') → r [x] H Q
theorem me_c1 {K : PySem.W.Frag} {r : List V → Hp → VK → Prop} {g : PyData → Option PyData} {t : TE} {f : XE} (hr : C1M K r g) (h : MO K t f) : ME K (tCB r (tCons t tNil)) (x1 g f) := by
  intro Φ Z σ H ρ d ρ' R q Q k
  unfold x1 at q
  cases e1 : f ρ with
  | none => rw [e1] at q; cases q
  | some s =>
    rw [e1, Option.bind_some] at q
    cases e2 : g s.1 with
    | none => rw [e2] at q; cases q
    | some z =>
      rw [e2] at q
      cases q
      refine h Φ Z σ H ρ s.1 s.2 R e1 _ fun v H1 Z1 z1 R1 r1 => ?_
      exact hr Φ Z1 σ H1 s.2 v s.1 _ R1 r1 e2 Q fun v H2 Z2 z2 R2 r2 => k v H2 Z2 (z1.trans z2) R2 r2
section
variable {X : Cx} {e : Expr} {f : XE} {g : PyData → Option PyData} {r : List V → Hp → VK → Prop} {x : Str} {p pos : Pos}
theorem ed_c1 {id : String} (hc : CallR X (.builtin id) r) (hr : C1M X.K r g) (hm : X.mg x = none) (hv : bootBuiltins x = some (.builtin id)) (he : OD' X e f) (hg : Gl X x := by rfl) (hn : x ≠ "__name__" := by decide) (hdb : (x == ("__debug__" : Str)) = false := by decide)
    (hs : starEach [e] X.env = (false, eval e X.env) :: starEach [] X.env := by rfl) : ED X (.Call (.Name x p) [e] [] pos) (x1 g f) := by
  obtain ⟨t, q, m⟩ := he
  exact ⟨_, pe_callB hc hg hm hv (pa_cons q pa_nil hs) hn hdb hs, me_c1 hr m⟩
theorem ed_t1 {id : String} (hc : CallR X (.type id) r) (hr : C1M X.K r g) (hm : X.mg x = none) (hv : bootBuiltins x = some (.type id)) (he : OD' X e f) (hg : Gl X x := by rfl) (hn : x ≠ "__name__" := by decide) (hdb : (x == ("__debug__" : Str)) = false := by decide)
    (hs : starEach [e] X.env = (false, eval e X.env) :: starEach [] X.env := by rfl) : ED X (.Call (.Name x p) [e] [] pos) (x1 g f) := by
  obtain ⟨t, q, m⟩ := he
  exact ⟨_, pe_callTy hc hg hm hv (pa_cons q pa_nil hs) hn hdb hs, me_c1 hr m⟩
end
def lenD : PyData → Option PyData
  | .str y => if y.length ≤ sizeLine then some (.int y.length) else none
  | .list xs => some (.int xs.length)
  | .tuple xs => some (.int xs.length)
  | _ => none
def absD : PyData → Option PyData
  | .int i => some (.int (if i < 0 then -i else i))
  | _ => none
def listD : PyData → Option PyData
  | .list xs => some (.list xs)
  | .tuple xs => some (.list xs)
  | _ => none
def strD : PyData → Option PyData
  | .int i => if i.natAbs.log2 < 1920 then some (.str (toString i)) else none
  | .str x => some (.str x)
  | .bool b => some (.str (if b = true then ("True" : Str) else ("False" : Str)))
  | .none => some (.str "None")
  | _ => none
def intD : PyData → Option PyData
  | .int i => some (.int i)
  | .bool k => some (.int (if k then 1 else 0))
  | _ => none
section
variable {K : PySem.W.Frag}
theorem c1_len : C1M K (fun xs H Q => ∃ x n, xs = [x] ∧ LenV K x H n ∧ Q (.int n) H) lenD := by
  intro Φ Z σ H ρ x d z R rx e Q k
  unfold lenD at e
  split at e
  · split at e
    · cases e
      rw [rx.str]
      exact ⟨_, _, rfl, ⟨by assumption, rfl⟩, ends_flat R (.int _) k⟩
    · cases e
  · cases e
    obtain ⟨a, vs, rfl, h, q⟩ := rx.lst R.zH
    exact ⟨_, _, rfl, .inl ⟨vs, SqL.of h, rfl⟩, by rw [q.length]; exact ends_flat R (.int _) k⟩
  · cases e
    obtain ⟨a, vs, rfl, h, q⟩ := rx.tup R.zH
    exact ⟨_, _, rfl, .inr ⟨vs, h, rfl⟩, by rw [q.length]; exact ends_flat R (.int _) k⟩
  · cases e
theorem c1_abs : C1M K (fun xs H Q => ∃ i, xs = [.int i] ∧ Q (.int (if i < 0 then -i else i)) H) absD := by
  intro Φ Z σ H ρ x d z R rx e Q k
  unfold absD at e
  split at e
  · cases e
    rw [rx.int]
    exact ⟨_, rfl, ends_flat R (.int _) k⟩
  · cases e
theorem c1_list : C1M K (fun xs H Q => ∃ p ys, xs = [.ref p] ∧ (SqL K H p ys ∨ SqT K H p ys) ∧ ∀ l, H l = none → Q (.ref l) (upd H l (.lst ys))) listD := by
  intro Φ Z σ H ρ x d z R rx e Q k
  unfold listD at e
  split at e
  · cases e
    obtain ⟨a, vs, rfl, h, q⟩ := rx.lst R.zH
    exact ⟨a, vs, rfl, .inl (SqL.of h), fun l hl => ends_lst R q k hl⟩
  · cases e
    obtain ⟨a, vs, rfl, h, q⟩ := rx.tup R.zH
    exact ⟨a, vs, rfl, .inr h, fun l hl => ends_lst R q k hl⟩
  · cases e
def rStr : List V → Hp → VK → Prop := fun xs H Q => (∃ i, xs = [.int i] ∧ i.natAbs.log2 < 1920 ∧ Q (.str (toString i)) H) ∨ (∃ a, xs = [.str a] ∧ Q (.str a) H) ∨ (∃ b, xs = [.bl b] ∧ Q (.str (if b = true then ("True" : Str) else ("False" : Str))) H) ∨ (xs = [.non] ∧ Q (.str "None") H)
theorem call_str_bl {X : Cx} : CallR X (.type "str") (fun xs H Q => ∃ b, xs = [.bl b] ∧ Q (.str (if b = true then ("True" : Str) else ("False" : Str))) H) := by
  intro pins s σ H xs us Q I r h
  obtain ⟨b, rfl, q⟩ := h
  obtain ⟨u, rfl, ru⟩ := vals1 r
  cases ru
  refine PySem.P.str_of_bool ?_
  cases b
  · exact ⟨.str _, H, I.tok _, ⟨_, rfl⟩, q⟩
  · exact ⟨.str _, H, I.tok _, ⟨_, rfl⟩, q⟩
theorem call_str_non {X : Cx} : CallR X (.type "str") (fun xs H Q => xs = [.non] ∧ Q (.str "None") H) := by
  intro pins s σ H xs us Q I r h
  obtain ⟨rfl, q⟩ := h
  obtain ⟨u, rfl, ru⟩ := vals1 r
  cases ru
  exact PySem.P.str_of_none ⟨.str "None", H, I.tok _, ⟨_, rfl⟩, q⟩
theorem call_strD {X : Cx} : CallR X (.type "str") rStr := call_str_int.or (SkE.call_str_str.or (call_str_bl.or call_str_non))
theorem c1_str : C1M K rStr strD := by
  intro Φ Z σ H ρ x d z R rx e Q k
  unfold strD at e
  split at e
  · split at e
    · cases e
      rw [rx.int]
      exact .inl ⟨_, rfl, by assumption, ends_flat R (.str _) k⟩
    · cases e
  · cases e
    rw [rx.str]
    exact .inr (.inl ⟨_, rfl, ends_flat R (.str _) k⟩)
  · cases e
    rw [rx.bl]
    exact .inr (.inr (.inl ⟨_, rfl, ends_flat R (.str _) k⟩))
  · cases e
    rw [rx.non]
    exact .inr (.inr (.inr ⟨rfl, ends_flat R (.str _) k⟩))
  · cases e
end

def reprD (d : PyData) : Option PyData := if d.hasDict = false ∧ d.showable = true ∧ d.depth ≤ 60 ∧ d.shown.length ≤ sizeLine then some (.str d.shown) else none
def rRepr (K : PySem.W.Frag) : List V → Hp → VK → Prop := fun xs H Q => ∃ x d, xs = [x] ∧ Dp K H x d ∧ d.showable = true ∧ d.hasDict = false ∧ d.depth ≤ 60 ∧ d.shown.length ≤ sizeLine ∧ Q (.str d.shown) H
theorem call_reprD {X : Cx} (hg : X.A.guards = some []) (hu : X.A.units + 64 < cLine) : CallR X (.builtin "repr") (rRepr X.K) := by
  intro pins s σ H xs us Q I r h
  obtain ⟨x, d, rfl, hd, hs, hn, hp, hl, q⟩ := h
  obtain ⟨u, rfl, ru⟩ := vals1 r
  obtain ⟨as, rd⟩ := Dp.reads I d x u hd ru
  cases rd with
  | none =>
    simp only [PyData.shown] at q
    exact PySem.P.repr_of_none ⟨.str _, H, I.tok _, ⟨_, rfl⟩, q⟩
  | bool b =>
    simp only [PyData.shown] at q
    refine PySem.P.repr_of_bool ⟨.str _, H, I.tok _, ⟨s.toks, ?_⟩, q⟩
    cases b <;> rfl
  | int i t =>
    simp only [PyData.shown] at q
    exact PySem.P.repr_of_int (by simpa [PyData.showable] using hs) ⟨.str _, H, I.tok _, ⟨_, rfl⟩, q⟩
  | str y t =>
    simp only [PyData.shown] at q hl
    exact PySem.P.repr_of_str ⟨.str _, H, I.tok _, ⟨_, rfl⟩, q⟩ hl
  | list h1 h2 h3 h4 =>
    refine repr_of_reads' (.list h1 h2 h3 h4) hs (PySem.PyData.noDict_hsm hn) hg (by omega) (fun _ _ e => e) (fun h' u tk hk => ?_) hl
    exact ⟨.str _, H, I.kept hk, ⟨_, rfl⟩, q⟩
  | tuple h1 h2 h3 h4 =>
    refine repr_of_reads' (.tuple h1 h2 h3 h4) hs (PySem.PyData.noDict_hsm hn) hg (by omega) (fun _ _ e => e) (fun h' u tk hk => ?_) hl
    exact ⟨.str _, H, I.kept hk, ⟨_, rfl⟩, q⟩
  | dict h1 h2 h3 h4 h5 => simp [PyData.hasDict] at hn
theorem c1_repr {K : PySem.W.Frag} : C1M K (rRepr K) reprD := by
  intro Φ Z σ H ρ x d z R rx e Q k
  unfold reprD at e
  split at e
  · rename_i h
    cases e
    exact ⟨x, d, rfl, (rx.rp R.zH).toDp h.1, h.2.1, h.1, h.2.2.1, h.2.2.2, ends_flat R (.str _) k⟩
  · cases e
end DL
set_option maxRecDepth 100000
set_option maxHeartbeats 2000000
namespace DL
open PySem L2

def xIsi (g : PyData → Bool) (f : XE) : XE := fun ρ => (f ρ).map fun p => (.bool (g p.1), p.2)
section
variable {X : Cx} {e : Expr} {f : XE} {x n : Str} {p p2 pos : Pos}
end

abbrev XO := Nv → Option (Option Int × Nv)
def MP (K : PySem.W.Frag) (t : TO) (f : XO) : Prop := ∀ (Φ : Fx) (Z : Hp) (σ : St) (H : Hp) (ρ : Nv) (o : Option Int) (ρ' : Nv), Rl K Φ Z σ H ρ → f ρ = some (o, ρ') →
  ∀ Q : Option Int → Hp → Prop, (∀ H' Z', Same Z Z' → Rl K Φ Z' σ H' ρ' → Q o H') → t σ H Q
def PD (X : Cx) (e : Option Expr) (f : XO) : Prop := ∃ t, PO X e t ∧ MP X.K t f
def oNone : XO := fun ρ => some (none, ρ)
def oSome (f : XE) : XO := fun ρ => (f ρ).bind fun p => match p.1 with
  | .int i => some (some i, p.2)
  | _ => none
def cutD (ds : List PyData) (lo hi : Option Int) : List PyData := (ds.drop (HT.sIx ds.length 0 lo)).take (HT.sIx ds.length ds.length hi - HT.sIx ds.length 0 lo)
def slD : PyData → Option Int → Option Int → Option PyData
  | .list xs, lo, hi => some (.list (cutD xs lo hi))
  | .tuple xs, lo, hi => some (.tuple (cutD xs lo hi))
  | .str z, lo, hi => if z.length ≤ sizeLine then some (.str (cutS z lo hi)) else none
  | _, _, _ => none
def xSl (f : XE) (lo hi : XO) : XE := fun ρ => (f ρ).bind fun p => (lo p.2).bind fun l => (hi l.2).bind fun h => (slD p.1 l.1 h.1).map fun z => (z, h.2)
theorem cut_rp {K : PySem.W.Frag} {Z : Hp} {vs : List V} {ds : List PyData} (lo hi : Option Int) (r : RpA K Z vs ds) : RpA K Z (cutV vs lo hi) (cutD ds lo hi) := by
  unfold cutV cutD
  rw [r.length]
  exact (r.drop _).take _
theorem cut_all {ds : List PyData} {lo hi : Option Int} (h : HT.sIx ds.length 0 lo = 0 ∧ HT.sIx ds.length ds.length hi = ds.length) : cutD ds lo hi = ds := by
  unfold cutD
  rw [h.1, h.2]
  simp
def rSlD (K : PySem.W.Frag) : V → Option Int → Option Int → Hp → VK → Prop := fun x lo hi H Q => rSlL K x lo hi H Q ∨ rSlA K x lo hi H Q ∨ rSlS x lo hi H Q
section
variable {X : Cx} {e : Expr} {f : XE} {lo hi : Option Expr} {fl fh : XO} {p2 pos : Pos}
theorem pd_none : PD X none oNone := ⟨_, po_none, fun Φ Z σ H ρ o ρ' R q Q k => by
  cases q
  exact k H Z (Same.refl Z) R⟩
theorem pd_some (h : ED X e f) : PD X (some e) (oSome f) := by
  obtain ⟨t, p, m⟩ := h
  refine ⟨_, po_some p, fun Φ Z σ H ρ o ρ' R q Q k => ?_⟩
  unfold oSome at q
  cases e1 : f ρ with
  | none => rw [e1] at q; cases q
  | some s =>
    rw [e1, Option.bind_some] at q
    split at q
    · rename_i i ei
      cases q
      refine m Φ Z σ H ρ s.1 s.2 R e1 _ fun v H1 Z1 z1 R1 r1 => ?_
      rw [ei] at r1
      cases r1
      exact ⟨i, rfl, k H1 Z1 z1 R1⟩
    · cases q
theorem ed_sl (he : ED X e f) (hl : PD X lo fl) (hh : PD X hi fh) : ED X (.Subscript e (.Slice lo hi none p2) pos) (xSl f fl fh) := by
  obtain ⟨t, p, m⟩ := he
  obtain ⟨tl, pl, ml⟩ := hl
  obtain ⟨th, ph, mh⟩ := hh
  refine ⟨_, pe_slice (r := rSlD X.K) (sl_list.or (sl_tupA.or sl_str)) p pl ph, fun Φ Z σ H ρ d ρ' R q Q k => ?_⟩
  unfold xSl at q
  cases e1 : f ρ with
  | none => rw [e1] at q; cases q
  | some s =>
    rw [e1, Option.bind_some] at q
    cases e2 : fl s.2 with
    | none => rw [e2] at q; cases q
    | some l =>
      rw [e2, Option.bind_some] at q
      cases e3 : fh l.2 with
      | none => rw [e3] at q; cases q
      | some h =>
        rw [e3, Option.bind_some] at q
        cases e4 : slD s.1 l.1 h.1 with
        | none => rw [e4] at q; cases q
        | some z =>
          rw [e4] at q
          cases q
          refine m Φ Z σ H ρ s.1 s.2 R e1 _ fun v H1 Z1 z1 R1 r1 => ?_
          refine ml Φ Z1 σ H1 s.2 l.1 l.2 R1 e2 _ fun H2 Z2 z2 R2 => ?_
          refine mh Φ Z2 σ H2 l.2 h.1 h.2 R2 e3 _ fun H3 Z3 z3 R3 => ?_
          have r3 : Rp X.K Z3 v s.1 := (r1.mono z2).mono z3
          have k3 : ∀ v H' Z', Same Z3 Z' → Rl X.K Φ Z' σ H' h.2 → Rp X.K Z' v d → Q v H' := fun v H' Z' z R r => k v H' Z' (((z1.trans z2).trans z3).trans z) R r
          unfold slD at e4
          split at e4
          · rename_i xs _ _ es
            cases e4
            rw [es] at r3
            obtain ⟨a, vs, rfl, ha, rr⟩ := Rb.lst R3.zH (.inl r3)
            exact .inl ⟨a, vs, rfl, SqL.of ha, fun p hp => ends_lst R3 (cut_rp _ _ rr) k3 hp⟩
          · rename_i xs _ _ es
            cases e4
            rw [es] at r3
            obtain ⟨a, vs, rfl, ha, rr⟩ := Rb.tup R3.zH (.inl r3)
            refine .inr (.inl ⟨a, vs, rfl, ha, fun hw => ?_, fun _ p hp => ends_tup R3 (cut_rp _ _ rr) k3 hp⟩)
            rw [rr.length] at hw
            rw [cut_all hw] at k3
            exact ends_flat R3 r3 k3
          · split at e4
            · cases e4
              rename_i es hz
              rw [es] at r3
              cases r3
              exact .inr (.inr ⟨_, rfl, hz, ends_flat R3 (.str _) k3⟩)
            · cases e4
          · cases e4
end

def xScr (i : Nat) (lo hi : Option Int) : XE := fun ρ => match ρ[i]? with
  | some (.scr (.ints ns)) => some (.list (cutD (ns.map PyData.int) lo hi), ρ)
  | _ => none
theorem ints_rp {K : PySem.W.Frag} {Z : Hp} : ∀ ns : List Int, RpA K Z (ns.map V.int) (ns.map PyData.int)
  | [] => .nil
  | n :: r => .cons (.int n) (ints_rp r)
section
variable {X : Cx} {p2 pos vpos : Pos}
theorem ed_scrTo (i : Nat) {x : Str} {n : Int} {j : Nat} {cp : Pos} (hN : X.N[i]? = some x := by rfl) (hv : Vis X.env.scope x := by first | exact Or.inl rfl | exact Or.inr (Or.inl rfl) | exact Or.inr (Or.inr rfl)) (hd : (x == ("__debug__" : Str)) = false := by decide)
    (hcd : (x == ("__classdict__" : Str)) = false := by decide) : ED X (.Subscript (.Name x vpos) (.Slice none (some (.Constant (.int n) j cp)) none p2) pos) (xScr i none (some n)) := by
  refine ⟨_, pe_slice sl_list (pe_var hN hv hd hcd) po_none (po_some pe_int), fun Φ Z σ H ρ d ρ' R q Q k => ?_⟩
  unfold xScr at q
  split at q
  · rename_i ns e
    cases q
    obtain ⟨a, s, h⟩ := R.scr _ _ e
    exact ⟨_, s, n, rfl, a, _, rfl, R.zH.seq h, fun p hp => ends_lst R (cut_rp none (some n) (ints_rp ns)) k hp⟩
  · cases q
end

inductive Fl where
  | nx (ρ : Nv)
  | rt (d : PyData) (ρ : Nv)
  | rn (o : OD) (ρ : Nv)
  | bk (ρ : Nv)
  | ct (ρ : Nv)
abbrev XS := Nv → Option Fl
/-- what is wanted at a statement's end -/
def FlE (K : PySem.W.Frag) (Φ : Fx) (Z : Hp) (D : Ends) : Fl → Prop
  | .nx ρ' => ∀ σ' H' Z', Same Z Z' → Rl K Φ Z' σ' H' ρ' → D.nx σ' H'
  | .rt d ρ' => ∀ v σ' H' Z', Same Z Z' → Rl K Φ Z' σ' H' ρ' → Rp K Z' v d → D.rt v H'
  | .rn o ρ' => ∀ a σ' H' Z', Same Z Z' → Rl K Φ Z' σ' H' ρ' → New K Φ Z' σ' H' ρ' a o → D.rt (.ref a) H'
  | .bk ρ' => ∀ σ' H' Z', Same Z Z' → Rl K Φ Z' σ' H' ρ' → D.bk σ' H'
  | .ct ρ' => ∀ σ' H' Z', Same Z Z' → Rl K Φ Z' σ' H' ρ' → D.ct σ' H'
theorem FlE.mono {K : PySem.W.Frag} {Φ : Fx} {Z Z' : Hp} {D : Ends} {f : Fl} (z : Same Z Z') (h : FlE K Φ Z D f) : FlE K Φ Z' D f := by
  cases f with
  | nx ρ => exact fun σ' H' Z2 z2 => h σ' H' Z2 (z.trans z2)
  | rt d ρ => exact fun v σ' H' Z2 z2 => h v σ' H' Z2 (z.trans z2)
  | rn o ρ => exact fun v σ' H' Z2 z2 => h v σ' H' Z2 (z.trans z2)
  | bk ρ => exact fun σ' H' Z2 z2 => h σ' H' Z2 (z.trans z2)
  | ct ρ => exact fun σ' H' Z2 z2 => h σ' H' Z2 (z.trans z2)
def MS (K : PySem.W.Frag) (t : TS) (f : XS) : Prop := ∀ (Φ : Fx) (Z : Hp) (σ : St) (H : Hp) (ρ : Nv) (r : Fl), Rl K Φ Z σ H ρ → f ρ = some r → ∀ D : Ends, FlE K Φ Z D r → t D σ H
def SD (X : Cx) (st : Stmt) (f : XS) : Prop := ∃ t, PS X st t ∧ MS X.K t f
def SSD (X : Cx) (st : List Stmt) (f : XS) : Prop := ∃ t, PSs X st t ∧ MS X.K t f
def sNil : XS := fun ρ => some (.nx ρ)
def sSeq (a b : XS) : XS := fun ρ => (a ρ).bind fun r => match r with
  | .nx ρ' => b ρ'
  | r => some r
def sRet (f : XE) : XS := fun ρ => (f ρ).map fun p => .rt p.1 p.2
def sRetN : XS := fun ρ => some (.rt .none ρ)
def sIf (t : XT) (a b : XS) : XS := fun ρ => (t ρ).bind fun p => if p.1 = true then a p.2 else b p.2
def sDrop (f : XE) : XS := fun ρ => (f ρ).map fun p => .nx p.2
def sBrk : XS := fun ρ => some (.bk ρ)
def sCnt : XS := fun ρ => some (.ct ρ)
/-- the slot may be stored: it is there, and lends no caller's object -/
def free (ρ : Nv) (i : Nat) : Bool := match ρ[i]? with
  | some (.own _ true) => false
  | some _ => true
  | none => false
theorem free_lt {ρ : Nv} {i : Nat} (h : free ρ i = true) : i < ρ.length ∧ ∀ o, ρ[i]? ≠ some (EV.own o true) := by
  unfold free at h
  refine ⟨?_, fun o e => ?_⟩
  · cases e : ρ[i]? with
    | none => rw [e] at h; cases h
    | some x => exact (List.getElem?_eq_some_iff.mp e).1
  · rw [e] at h
    cases h
def put (ρ : Nv) (i : Nat) (d : PyData) : Option Nv := if free ρ i = true then some (ρ.set i (.d d)) else none
def sSet (i : Nat) (f : XE) : XS := fun ρ => (f ρ).bind fun p => (put p.2 i p.1).map .nx
def sNew (i : Nat) (f : XN) : XS := fun ρ => (f ρ).bind fun p => if free p.2 i = true then some (.nx (p.2.set i (.own p.1 false))) else none
theorem put_rl {K : PySem.W.Frag} {Φ : Fx} {Z : Hp} {σ : St} {H : Hp} {ρ ρ' : Nv} {i : Nat} {d : PyData} {v : V} (R : Rl K Φ Z σ H ρ) (r : Rp K Z v d) (h : put ρ i d = some ρ') : Rl K Φ Z (σ.set i (some v)) H ρ' := by
  unfold put at h
  split at h
  · rename_i hf
    cases h
    obtain ⟨h1, h2⟩ := free_lt hf
    exact R.store h1 h2 r
  · cases h
section
variable {X : Cx} {e c : Expr} {st : Stmt} {rest a b : List Stmt} {f : XE} {g h : XS} {t : XT} {pos : Pos}
theorem ssd_nil : SSD X [] sNil := ⟨_, pss_nil, fun Φ Z σ H ρ r R q D k => by
  cases q
  exact k σ H Z (Same.refl Z) R⟩
theorem ms_seq {K : PySem.W.Frag} {t u : TS} (m : MS K t g) (n : MS K u h) : MS K (tSeq t u) (sSeq g h) := by
  intro Φ Z σ H ρ r R q D k
  unfold sSeq at q
  cases e1 : g ρ with
  | none => rw [e1] at q; cases q
  | some s =>
    rw [e1, Option.bind_some] at q
    cases s with
    | nx ρ1 => exact m Φ Z σ H ρ _ R e1 _ fun σ1 H1 Z1 z1 R1 => n Φ Z1 σ1 H1 ρ1 r R1 q D (k.mono z1)
    | rt d ρ1 => cases q; exact m Φ Z σ H ρ _ R e1 _ k
    | rn d ρ1 => cases q; exact m Φ Z σ H ρ _ R e1 _ k
    | bk ρ1 => cases q; exact m Φ Z σ H ρ _ R e1 _ k
    | ct ρ1 => cases q; exact m Φ Z σ H ρ _ R e1 _ k
theorem ssd_cons (h1 : SD X st g) (h2 : SSD X rest h) : SSD X (st :: rest) (sSeq g h) := by
  obtain ⟨t, p, m⟩ := h1
  obtain ⟨u, q, n⟩ := h2
  exact ⟨_, pss_cons p q, ms_seq m n⟩
theorem ssd_one (h1 : SD X st g) : SSD X [st] g := by
  obtain ⟨t, p, m⟩ := h1
  exact ⟨_, pss_one p, m⟩
theorem sd_ret (he : ED X e f) : SD X (.Return (some e) pos) (sRet f) := by
  obtain ⟨t, p, m⟩ := he
  refine ⟨_, ps_ret p, fun Φ Z σ H ρ r R q D k => ?_⟩
  unfold sRet at q
  cases e1 : f ρ with
  | none => rw [e1] at q; cases q
  | some s =>
    rw [e1] at q
    cases q
    exact m Φ Z σ H ρ s.1 s.2 R e1 _ fun v H1 Z1 z1 R1 r1 => k v σ H1 Z1 z1 R1 r1
/-- return of a new object -/
def sRetO (f : XN) : XS := fun ρ => (f ρ).map fun p => .rn p.1 p.2
theorem sd_retO {n : XN} (he : ND X e n) : SD X (.Return (some e) pos) (sRetO n) := by
  obtain ⟨t, p, m⟩ := he
  refine ⟨_, ps_ret p, fun Φ Z σ H ρ r R q D k => ?_⟩
  unfold sRetO at q
  cases e1 : n ρ with
  | none => rw [e1] at q; cases q
  | some s =>
    rw [e1] at q
    cases q
    exact m Φ Z σ H ρ s.1 s.2 R e1 _ fun v H1 Z1 z1 R1 r1 => k v σ H1 Z1 z1 R1 r1
theorem sd_if (hc : TD X c t) (ha : SSD X a g) (hb : SSD X b h) : SD X (.If c a b pos) (sIf t g h) := by
  obtain ⟨tc, pc, mc⟩ := hc
  obtain ⟨ta, pa, ma⟩ := ha
  obtain ⟨tb, pb, mb⟩ := hb
  refine ⟨_, ps_if pc pa pb, fun Φ Z σ H ρ r R q D k => ?_⟩
  unfold sIf at q
  cases e1 : t ρ with
  | none => rw [e1] at q; cases q
  | some s =>
    rw [e1, Option.bind_some] at q
    refine mc Φ Z σ H ρ s.1 s.2 R e1 _ fun H1 Z1 z1 R1 => ?_
    by_cases hp : s.1 = true
    · rw [if_pos hp] at q ⊢
      exact ma Φ Z1 σ H1 s.2 r R1 q D (k.mono z1)
    · rw [if_neg hp] at q ⊢
      exact mb Φ Z1 σ H1 s.2 r R1 q D (k.mono z1)
theorem sd_drop (he : ED X e f) (hs : swapsWith e none pos.line X.env = pure false := by rfl) : SD X (.Expr e pos) (sDrop f) := by
  obtain ⟨t, p, m⟩ := he
  refine ⟨_, ps_expr p hs, fun Φ Z σ H ρ r R q D k => ?_⟩
  unfold sDrop at q
  cases e1 : f ρ with
  | none => rw [e1] at q; cases q
  | some s =>
    rw [e1] at q
    cases q
    exact m Φ Z σ H ρ s.1 s.2 R e1 _ fun v H1 Z1 z1 R1 r1 => k σ H1 Z1 z1 R1
theorem sd_set (i : Nat) {x : Str} {pos' : Pos} (hN : X.N.Nodup) (he : ED X e f) (hi : X.N[i]? = some x := by rfl) (hx : Loc X.env.scope x := by first | exact Or.inl rfl | exact Or.inr rfl) (hs : swapsWith e (some (.Name x pos')) pos.line X.env = pure false := by rfl)
    (hf : X.fn x = true ∨ X.env.scope.names.lookup x = some .local := by first | exact .inl rfl | exact .inr rfl) : SD X (.Assign [.Name x pos'] e pos) (sSet i f) := by
  obtain ⟨t, p, m⟩ := he
  refine ⟨_, ps_set hN hi hx p hs hf, fun Φ Z σ H ρ r R q D k => ?_⟩
  unfold sSet at q
  cases e1 : f ρ with
  | none => rw [e1] at q; cases q
  | some s =>
    rw [e1, Option.bind_some] at q
    cases e2 : put s.2 i s.1 with
    | none => rw [e2] at q; cases q
    | some ρ1 =>
      rw [e2] at q
      cases q
      exact m Φ Z σ H ρ s.1 s.2 R e1 _ fun v H1 Z1 z1 R1 r1 => k _ H1 Z1 z1 (put_rl R1 r1 e2)
theorem sd_new (i : Nat) {n : XN} {x : Str} {pos' : Pos} (hN : X.N.Nodup) (he : ND X e n) (hi : X.N[i]? = some x := by rfl) (hx : Loc X.env.scope x := by first | exact Or.inl rfl | exact Or.inr rfl) (hs : swapsWith e (some (.Name x pos')) pos.line X.env = pure false := by rfl)
    (hf : X.fn x = true ∨ X.env.scope.names.lookup x = some .local := by first | exact .inl rfl | exact .inr rfl) : SD X (.Assign [.Name x pos'] e pos) (sNew i n) := by
  obtain ⟨t, p, m⟩ := he
  refine ⟨_, ps_set hN hi hx p hs hf, fun Φ Z σ H ρ r R q D k => ?_⟩
  unfold sNew at q
  cases e1 : n ρ with
  | none => rw [e1] at q; cases q
  | some s =>
    rw [e1, Option.bind_some] at q
    split at q
    · rename_i hfr
      cases q
      obtain ⟨h1, h2⟩ := free_lt hfr
      exact m Φ Z σ H ρ s.1 s.2 R e1 _ fun a H1 Z1 z1 R1 w => k _ H1 Z1 z1 (R1.hold h1 h2 w.ob w.z w.fr w.h0 w.no)
    · cases q
end
end DL
set_option maxRecDepth 100000
set_option maxHeartbeats 2000000
namespace DL
open PySem L2

def xApp (i : Nat) (f : XE) : XE := fun ρ => match ρ[i]? with
  | some (.own (.ol _) _) => (f ρ).bind fun p => match p.2[i]? with
    | some (.own (.ol xs) io) => if xs.length < sizeLine then some (.none, p.2.set i (.own (.ol (xs ++ [p.1])) io)) else none
    | _ => none
  | _ => none
def xExt (i : Nat) (f : XE) : XE := fun ρ => match ρ[i]? with
  | some (.own (.ol _) _) => (f ρ).bind fun p => match p.1, p.2[i]? with
    | .list ys, some (.own (.ol xs) io) => if xs.length + ys.length ≤ sizeLine then some (.none, p.2.set i (.own (.ol (xs ++ ys)) io)) else none
    | _, _ => none
  | _ => none
/-- the own list that stands in slot i -/
theorem Rl.lst {K : PySem.W.Frag} {Φ : Fx} {Z : Hp} {σ : St} {H : Hp} {ρ : Nv} (R : Rl K Φ Z σ H ρ) {i : Nat} {xs : List PyData} {io : Bool} (e : ρ[i]? = some (EV.own (.ol xs) io)) :
    ∃ a vs, σ[i]? = some (some (V.ref a)) ∧ H a = some (.lst vs) ∧ RpA K Z vs xs := by
  obtain ⟨a, s, vs, h, r⟩ := R.own _ _ _ e
  exact ⟨a, vs, s, h, r⟩
section
variable {X : Cx} {e e2 : Expr} {f g : XE} {apos cpos vpos : Pos}
theorem ed_app (i : Nat) {x : Str} (he : ED X e f) (hN : X.N[i]? = some x := by rfl) (hv : Vis X.env.scope x := by first | exact Or.inl rfl | exact Or.inr (Or.inl rfl) | exact Or.inr (Or.inr rfl)) (hd : (x == ("__debug__" : Str)) = false := by decide)
    (hcd : (x == ("__classdict__" : Str)) = false := by decide) (hbase : attributeBase (.Name x vpos) "append" X.env (eval (.Name x vpos) X.env) = eval (.Name x vpos) X.env := by rfl)
    (hfew : ((backTo cpos (starEach [e] X.env)).all (fun x => !x.1) && (backToKw cpos (keywordEach [] X.env)).all (fun x => x.1.isSome) && decide ([e].length + ([] : List Keyword).length + (if ([] : List Keyword).isEmpty then 0 else 1) < 30)) = true := by rfl)
    (hline : (apos.endLine == cpos.line) = true := by rfl) (hs : starEach [e] X.env = (false, eval e X.env) :: starEach [] X.env := by rfl) (hplain : (backTo cpos (starEach [] X.env)).any (·.1) = false := by rfl) :
    ED X (.Call (.Attribute (.Name x vpos) "append" apos) [e] [] cpos) (xApp i f) := by
  obtain ⟨t, p, m⟩ := he
  refine ⟨_, pe_bm PySem.F.plainAttrs_list PySem.F.slot_list_append PySem.F.type_list_append mt_append (pe_var hN hv hd hcd) (pa_cons p pa_nil hs) hbase hfew hline hs hplain, fun Φ Z σ H ρ d ρ' R q Q k => ?_⟩
  unfold xApp at q
  split at q
  · rename_i ys io e0
    obtain ⟨a, vs, s, h, _⟩ := R.lst e0
    cases e1 : f ρ with
    | none => rw [e1] at q; cases q
    | some w =>
      rw [e1, Option.bind_some] at q
      split at q
      · rename_i xs io2 e2
        split at q
        · rename_i hl
          cases q
          refine ⟨_, s, .inl ⟨rfl, vs, SqL.of h⟩, m Φ Z σ H ρ w.1 w.2 R e1 _ fun v H1 Z1 z1 R1 r1 => ?_⟩
          obtain ⟨a2, vs2, s2, h2, rr⟩ := R1.lst e2
          rw [s] at s2
          cases s2
          refine ⟨a, vs2, v, rfl, rfl, h2, by rw [rr.length]; exact hl, ?_⟩
          exact k _ _ Z1 z1 (R1.mutate e2 s ⟨_, upd_same, rr.append (.cons r1 .nil)⟩) .non
        · cases q
      · cases q
  · cases q
end

section
variable {κ : Type} [DecidableEq κ]
def getD' (kvs : List (κ × PyData)) (k : κ) : Option PyData := (kvs.find? fun kv => decide (kv.1 = k)).map (·.2)
def putD (kvs : List (κ × PyData)) (k : κ) (d : PyData) : List (κ × PyData) := if (kvs.any fun kv => decide (kv.1 = k)) = true then kvs.map (fun kv => if kv.1 = k then (kv.1, d) else kv) else kvs ++ [(k, d)]
end
theorem get_rp {κ : Type} [DecidableEq κ] {K : PySem.W.Frag} {Z : Hp} {k : κ} : ∀ {vs : List (κ × V)} {kvs : List (κ × PyData)}, vs.map (·.1) = kvs.map (·.1) → RpA K Z (vs.map (·.2)) (kvs.map (·.2)) →
    (∀ d, getD' kvs k = some d → ∃ v, valV vs k = some v ∧ Rp K Z v d) ∧ (valV vs k).isSome = (getD' kvs k).isSome
  | [], [], _, _ => ⟨fun d e => (by cases e), rfl⟩
  | [], _ :: _, e, _ => by cases e
  | _ :: _, [], e, _ => by cases e
  | (a, v) :: vs, (b, d) :: kvs, e, r => by
    rw [List.map_cons, List.map_cons] at e
    injection e with e1 e2
    rw [List.map_cons, List.map_cons] at r
    cases r with
    | cons r1 r2 =>
      have ih := get_rp (k := k) e2 r2
      have e1 : a = b := e1
      subst e1
      by_cases hk : a = k
      · subst hk
        refine ⟨fun d' q => ?_, ?_⟩
        · have : getD' ((a, d) :: kvs) a = some d := by simp [getD', List.find?_cons]
          rw [this] at q
          cases q
          exact ⟨v, valV_pos rfl, r1⟩
        · simp [valV, getD', List.find?_cons]
      · have q1 : getD' ((a, d) :: kvs) k = getD' kvs k := by simp [getD', List.find?_cons, hk]
        rw [q1, valV_neg (p := (a, v)) hk]
        exact ih
theorem keys_any {κ : Type} [DecidableEq κ] {k : κ} : ∀ {vs : List (κ × V)} {kvs : List (κ × PyData)}, vs.map (·.1) = kvs.map (·.1) → (vs.any fun kv => decide (kv.1 = k)) = (kvs.any fun kv => decide (kv.1 = k))
  | [], [], _ => rfl
  | [], _ :: _, e => by cases e
  | _ :: _, [], e => by cases e
  | (a, v) :: vs, (b, d) :: kvs, e => by
    rw [List.map_cons, List.map_cons] at e
    injection e with e1 e2
    have e1 : a = b := e1
    subst e1
    rw [List.any_cons, List.any_cons, keys_any e2]
theorem put_keys {κ : Type} [DecidableEq κ] {k : κ} {v : V} {d : PyData} : ∀ {vs : List (κ × V)} {kvs : List (κ × PyData)}, vs.map (·.1) = kvs.map (·.1) →
    (vs.map fun kv => if kv.1 = k then (kv.1, v) else kv).map (·.1) = (kvs.map fun kv => if kv.1 = k then (kv.1, d) else kv).map (·.1)
  | [], [], _ => rfl
  | [], _ :: _, e => by cases e
  | _ :: _, [], e => by cases e
  | (a, v') :: vs, (b, d') :: kvs, e => by
    rw [List.map_cons, List.map_cons] at e
    injection e with e1 e2
    have e1 : a = b := e1
    subst e1
    have ih := put_keys (k := k) (v := v) (d := d) e2
    simp only [List.map_cons]
    rw [ih]
    by_cases hk : a = k <;> simp [hk]
theorem put_vals {κ : Type} [DecidableEq κ] {K : PySem.W.Frag} {Z : Hp} {k : κ} {v : V} {d : PyData} (h : Rp K Z v d) : ∀ {vs : List (κ × V)} {kvs : List (κ × PyData)}, vs.map (·.1) = kvs.map (·.1) → RpA K Z (vs.map (·.2)) (kvs.map (·.2)) →
    RpA K Z ((vs.map fun kv => if kv.1 = k then (kv.1, v) else kv).map (·.2)) ((kvs.map fun kv => if kv.1 = k then (kv.1, d) else kv).map (·.2))
  | [], [], _, _ => .nil
  | [], _ :: _, e, _ => by cases e
  | _ :: _, [], e, _ => by cases e
  | (a, v') :: vs, (b, d') :: kvs, e, r => by
    rw [List.map_cons, List.map_cons] at e
    injection e with e1 e2
    have e1 : a = b := e1
    subst e1
    rw [List.map_cons, List.map_cons] at r
    cases r with
    | cons r1 r2 =>
      have ih := put_vals (k := k) h e2 r2
      simp only [List.map_cons]
      by_cases hk : a = k
      · simp only [hk, if_true]
        exact .cons h ih
      · simp only [hk, if_false]
        exact .cons r1 ih
theorem put_rp {κ : Type} [DecidableEq κ] {K : PySem.W.Frag} {Z : Hp} {k : κ} {v : V} {d : PyData} {vs : List (κ × V)} {kvs : List (κ × PyData)} (h : Rp K Z v d) (e : vs.map (·.1) = kvs.map (·.1)) (r : RpA K Z (vs.map (·.2)) (kvs.map (·.2))) :
    (putK vs k v).map (·.1) = (putD kvs k d).map (·.1) ∧ RpA K Z ((putK vs k v).map (·.2)) ((putD kvs k d).map (·.2)) := by
  unfold putK putD
  rw [keys_any e]
  split
  · exact ⟨put_keys e, put_vals h e r⟩
  · rw [List.map_append, List.map_append, List.map_append, List.map_append, e]
    exact ⟨rfl, r.append (.cons h .nil)⟩
/-- a key: an int or a text; a tuple of texts -/
def keyD : PyData → Option Key
  | .int i => some (.inl i)
  | .str x => some (.inr x)
  | _ => none
def strKs : List PyData → Option (List Key)
  | [] => some []
  | .str x :: r => (strKs r).map (.inr x :: ·)
  | _ => none
def facB : List PyData → Bool
  | .str x :: _ => x == "factor"
  | _ => false
def keyT : PyData → Option (List Key)
  | .tuple ds => if 4 ≤ ds.length ∧ facB ds = true then none else strKs ds
  | _ => none
theorem keyD_rp {K : PySem.W.Frag} {Z : Hp} {v : V} {d : PyData} {k : Key} (r : Rp K Z v d) (e : keyD d = some k) : v = kV k := by
  unfold keyD at e
  split at e
  · cases e; cases r; rfl
  · cases e; cases r; rfl
  · cases e
theorem strKs_rp {K : PySem.W.Frag} {Z : Hp} : ∀ {vs : List V} {ds : List PyData} {ks : List Key}, RpA K Z vs ds → strKs ds = some ks → vs = ks.map kV
  | _, _, _, .nil, e => by cases e; rfl
  | _, _, _, .cons (d := d) (ds := ds) r t, e => by
    unfold strKs at e
    split at e
    · rename_i h; cases h
    · rename_i b r' h
      cases h
      cases e2 : strKs ds with
      | none => rw [e2] at e; cases e
      | some l =>
        rw [e2] at e
        cases e
        cases r
        rw [strKs_rp t e2]
        rfl
    · cases e
theorem keyT_rp {K : PySem.W.Frag} {Z : Hp} {v : V} {d : PyData} {k : List Key} (r : Rp K Z v d) (e : keyT d = some k) : ∃ b, v = .ref b ∧ Z b = some (.tup (k.map kV)) := by
  unfold keyT at e
  split at e
  · rename_i ds
    split at e
    · cases e
    rename_i hlen
    cases r with
    | tup h rr =>
      rw [strKs_rp rr e] at h
      exact ⟨_, rfl, h⟩
    | tuk h hk rr =>
      exfalso
      cases ds with
      | nil => cases hk
      | cons x l =>
        cases x <;> first | (cases hk; done) | (simp [strKs] at e; done) | skip
        rcases l with _ | ⟨y, _ | ⟨z, _ | ⟨w, l⟩⟩⟩
        · cases hk
        · cases hk
        · cases hk
        · exact hlen ⟨by simp, hk⟩
  · cases e
def ownQ (ρ : Nv) (i : Nat) : Bool := match ρ[i]? with
  | some (.own _ _) => true
  | _ => false
theorem Rl.ownAt {K : PySem.W.Frag} {Φ : Fx} {Z : Hp} {σ : St} {H : Hp} {ρ : Nv} (R : Rl K Φ Z σ H ρ) {i : Nat} (e : ownQ ρ i = true) : ∃ a, σ[i]? = some (some (V.ref a)) := by
  unfold ownQ at e
  split at e
  · rename_i o io h
    obtain ⟨a, s, _⟩ := R.own _ _ _ h
    exact ⟨a, s⟩
  · cases e
/-- d[k] of an own dict -/
def xGet (i : Nat) (f : XE) : XE := fun ρ => if ownQ ρ i = true then (f ρ).bind fun p => match p.2[i]? with
    | some (.own (.od kvs) _) => (keyD p.1).bind fun k => (getD' kvs k).map fun z => (z, p.2)
    | some (.own (.ot kvs) _) => (keyT p.1).bind fun k => (getD' kvs k).map fun z => (z, p.2)
    | _ => none
  else none
/-- d[k] = v -/
def sPut (i : Nat) (fk fv : XE) : XS := fun ρ => (fv ρ).bind fun p => if ownQ p.2 i = true then (fk p.2).bind fun q => match q.2[i]? with
    | some (.own (.od kvs) io) => (keyD q.1).bind fun k => if kvs.length < sizeLine then some (.nx (q.2.set i (.own (.od (putD kvs k p.1)) io))) else none
    | some (.own (.ot kvs) io) => (keyT q.1).bind fun k => if kvs.length < sizeLine then some (.nx (q.2.set i (.own (.ot (putD kvs k p.1)) io))) else none
    | _ => none
  else none
theorem Rl.dct {K : PySem.W.Frag} {Φ : Fx} {Z : Hp} {σ : St} {H : Hp} {ρ : Nv} (R : Rl K Φ Z σ H ρ) {i : Nat} {kvs : List (Key × PyData)} {io : Bool} (e : ρ[i]? = some (EV.own (.od kvs) io)) :
    ∃ a vs, σ[i]? = some (some (V.ref a)) ∧ H a = some (.dK vs) ∧ vs.map (·.1) = kvs.map (·.1) ∧ RpA K Z (vs.map (·.2)) (kvs.map (·.2)) := by
  obtain ⟨a, s, vs, h, r, q⟩ := R.own _ _ _ e
  exact ⟨a, vs, s, h, r, q⟩
theorem Rl.dtt {K : PySem.W.Frag} {Φ : Fx} {Z : Hp} {σ : St} {H : Hp} {ρ : Nv} (R : Rl K Φ Z σ H ρ) {i : Nat} {kvs : List (List Key × PyData)} {io : Bool} (e : ρ[i]? = some (EV.own (.ot kvs) io)) :
    ∃ a vs, σ[i]? = some (some (V.ref a)) ∧ H a = some (.dT vs) ∧ vs.map (·.1) = kvs.map (·.1) ∧ RpA K Z (vs.map (·.2)) (kvs.map (·.2)) := by
  obtain ⟨a, s, vs, h, r, q⟩ := R.own _ _ _ e
  exact ⟨a, vs, s, h, r, q⟩
theorem len_keys {κ : Type} {vs : List (κ × V)} {kvs : List (κ × PyData)} (e : vs.map (·.1) = kvs.map (·.1)) : vs.length = kvs.length := by
  have := congrArg List.length e
  simpa using this
/-- what is asked of an own dict under a key -/
theorem dget_rl {K : PySem.W.Frag} {Φ : Fx} {Z : Hp} {σ : St} {H : Hp} {ρ : Nv} (R : Rl K Φ Z σ H ρ) {i : Nat} {kvs : List (Key × PyData)} {io : Bool} (e : ρ[i]? = some (EV.own (.od kvs) io)) {v : V} {d : PyData} {k : Key} (r : Rp K Z v d) (hk : keyD d = some k) :
    ∃ a o, σ[i]? = some (some (V.ref a)) ∧ DGet H a v o ∧ o.isSome = (getD' kvs k).isSome ∧ ∀ z, getD' kvs k = some z → ∃ w, o = some w ∧ Rp K Z w z := by
  obtain ⟨a, vs, s, h, e1, rr⟩ := R.dct e
  obtain ⟨g1, g2⟩ := get_rp (k := k) e1 rr
  rw [keyD_rp r hk]
  exact ⟨a, _, s, DGet.k h, g2, g1⟩
theorem dgett_rl {K : PySem.W.Frag} {Φ : Fx} {Z : Hp} {σ : St} {H : Hp} {ρ : Nv} (R : Rl K Φ Z σ H ρ) {i : Nat} {kvs : List (List Key × PyData)} {io : Bool} (e : ρ[i]? = some (EV.own (.ot kvs) io)) {v : V} {d : PyData} {k : List Key} (r : Rp K Z v d) (hk : keyT d = some k) :
    ∃ a o, σ[i]? = some (some (V.ref a)) ∧ DGet H a v o ∧ o.isSome = (getD' kvs k).isSome ∧ ∀ z, getD' kvs k = some z → ∃ w, o = some w ∧ Rp K Z w z := by
  obtain ⟨a, vs, s, h, e1, rr⟩ := R.dtt e
  obtain ⟨g1, g2⟩ := get_rp (k := k) e1 rr
  obtain ⟨b, rfl, hb⟩ := keyT_rp r hk
  exact ⟨a, _, s, DGet.t h (R.zH _ _ hb), g2, g1⟩
section
variable {X : Cx} {e v : Expr} {f g : XE} {vpos pos pos' : Pos}
theorem ed_get (i : Nat) {x : Str} (hu : X.A.units + 1 < cLine) (he : ED X e f) (hN : X.N[i]? = some x := by rfl) (hv : Vis X.env.scope x := by first | exact Or.inl rfl | exact Or.inr (Or.inl rfl) | exact Or.inr (Or.inr rfl)) (hd : (x == ("__debug__" : Str)) = false := by decide)
    (hcd : (x == ("__classdict__" : Str)) = false := by decide) (hs : NoSl e := by intro _ _; rfl) : ED X (.Subscript (.Name x vpos) e pos) (xGet i f) := by
  obtain ⟨t, p, m⟩ := he
  refine ⟨_, pe_dget hu (pe_var hN hv hd hcd) p hs, fun Φ Z σ H ρ d ρ' R q Q k => ?_⟩
  unfold xGet at q
  split at q
  · rename_i ho
    obtain ⟨a, s⟩ := R.ownAt ho
    cases e1 : f ρ with
    | none => rw [e1] at q; cases q
    | some w =>
      rw [e1, Option.bind_some] at q
      refine ⟨_, s, m Φ Z σ H ρ w.1 w.2 R e1 _ fun y H1 Z1 z1 R1 r1 => ?_⟩
      split at q
      · rename_i kvs io e2
        cases e3 : keyD w.1 with
        | none => rw [e3] at q; cases q
        | some kk =>
          rw [e3, Option.bind_some] at q
          cases e4 : getD' kvs kk with
          | none => rw [e4] at q; cases q
          | some z =>
            rw [e4] at q
            cases q
            obtain ⟨a2, o, s2, g, _, h⟩ := dget_rl R1 e2 r1 e3
            rw [s] at s2
            cases s2
            obtain ⟨v', rfl, rv⟩ := h _ e4
            exact ⟨a, v', rfl, g, k _ H1 Z1 z1 R1 rv⟩
      · rename_i kvs io e2
        cases e3 : keyT w.1 with
        | none => rw [e3] at q; cases q
        | some kk =>
          rw [e3, Option.bind_some] at q
          cases e4 : getD' kvs kk with
          | none => rw [e4] at q; cases q
          | some z =>
            rw [e4] at q
            cases q
            obtain ⟨a2, o, s2, g, _, h⟩ := dgett_rl R1 e2 r1 e3
            rw [s] at s2
            cases s2
            obtain ⟨v', rfl, rv⟩ := h _ e4
            exact ⟨a, v', rfl, g, k _ H1 Z1 z1 R1 rv⟩
      · cases q
  · cases q
theorem sd_put (i : Nat) {x : Str} (hu : X.A.units + 1 < cLine) (he : ED X e f) (hv' : ED X v g) (hN : X.N[i]? = some x := by rfl) (hv : Vis X.env.scope x := by first | exact Or.inl rfl | exact Or.inr (Or.inl rfl) | exact Or.inr (Or.inr rfl)) (hd : (x == ("__debug__" : Str)) = false := by decide)
    (hcd : (x == ("__classdict__" : Str)) = false := by decide) (hs : swapsWith v (some (.Subscript (.Name x vpos) e pos')) pos.line X.env = pure false := by rfl) : SD X (.Assign [.Subscript (.Name x vpos) e pos'] v pos) (sPut i f g) := by
  obtain ⟨t, p, m⟩ := he
  obtain ⟨t2, p2, m2⟩ := hv'
  refine ⟨_, ps_dput hu (pe_var hN hv hd hcd) p p2 hs, fun Φ Z σ H ρ r R q D k => ?_⟩
  unfold sPut at q
  cases e1 : g ρ with
  | none => rw [e1] at q; cases q
  | some w =>
    rw [e1, Option.bind_some] at q
    split at q
    · rename_i ho
      cases e3 : f w.2 with
      | none => rw [e3] at q; cases q
      | some u =>
        rw [e3, Option.bind_some] at q
        refine m2 Φ Z σ H ρ w.1 w.2 R e1 _ fun y H1 Z1 z1 R1 r1 => ?_
        obtain ⟨a, s⟩ := R1.ownAt ho
        refine ⟨_, s, m Φ Z1 σ H1 w.2 u.1 u.2 R1 e3 _ fun ky H2 Z2 z2 R2 r2 => ?_⟩
        split at q
        · rename_i kvs io e2
          cases e4 : keyD u.1 with
          | none => rw [e4] at q; cases q
          | some kk =>
            rw [e4, Option.bind_some] at q
            split at q
            · rename_i hl
              cases q
              obtain ⟨a2, vs, s2, h, q1, q2⟩ := R2.dct e2
              rw [s] at s2
              cases s2
              obtain ⟨w1, w2⟩ := put_rp (k := kk) (r1.mono z2) q1 q2
              rw [keyD_rp r2 e4]
              exact ⟨a, _, rfl, DPut.k h (by rw [len_keys q1]; exact hl), k _ _ Z2 (z1.trans z2) (R2.mutate e2 s ⟨_, upd_same, w1, w2⟩)⟩
            · cases q
        · rename_i kvs io e2
          cases e4 : keyT u.1 with
          | none => rw [e4] at q; cases q
          | some kk =>
            rw [e4, Option.bind_some] at q
            split at q
            · rename_i hl
              cases q
              obtain ⟨a2, vs, s2, h, q1, q2⟩ := R2.dtt e2
              rw [s] at s2
              cases s2
              obtain ⟨w1, w2⟩ := put_rp (k := kk) (r1.mono z2) q1 q2
              obtain ⟨b, rfl, hb⟩ := keyT_rp r2 e4
              exact ⟨a, _, rfl, DPut.t h (R2.zH _ _ hb) (by rw [len_keys q1]; exact hl), k _ _ Z2 (z1.trans z2) (R2.mutate e2 s ⟨_, upd_same, w1, w2⟩)⟩
            · cases q
        · cases q
    · cases q
end
end DL
set_option maxRecDepth 100000
set_option maxHeartbeats 2000000
namespace DL
open PySem L2

def tOf (K : PySem.W.Frag) (f : XE) : TE := fun σ H Q => ∃ (Φ : Fx) (Z : Hp) (ρ : Nv) (d : PyData) (ρ' : Nv), Rl K Φ Z σ H ρ ∧ f ρ = some (d, ρ') ∧ ∀ v H' Z', Same Z Z' → Rl K Φ Z' σ H' ρ' → Rp K Z' v d → Q v H'
def tOfT (K : PySem.W.Frag) (f : XT) : TT := fun σ H Q => ∃ (Φ : Fx) (Z : Hp) (ρ : Nv) (d : Bool) (ρ' : Nv), Rl K Φ Z σ H ρ ∧ f ρ = some (d, ρ') ∧ ∀ H' Z', Same Z Z' → Rl K Φ Z' σ H' ρ' → Q d H'
theorem me_of {K : PySem.W.Frag} {f : XE} : ME K (tOf K f) f := fun Φ Z σ H ρ d ρ' R q Q k => ⟨Φ, Z, ρ, d, ρ', R, q, k⟩
theorem mt_of {K : PySem.W.Frag} {f : XT} : MT K (tOfT K f) f := fun Φ Z σ H ρ d ρ' R q Q k => ⟨Φ, Z, ρ, d, ρ', R, q, k⟩
theorem ED.pe {X : Cx} {e : Expr} {f : XE} (h : ED X e f) : PE X e (tOf X.K f) := by
  obtain ⟨t, p, m⟩ := h
  exact ⟨fun pins s σ H Q I q => p.run pins s σ H Q I (by
    obtain ⟨Φ, Z, ρ, d, ρ', R, e, k⟩ := q
    exact m Φ Z σ H ρ d ρ' R e Q k)⟩
theorem TD.pt {X : Cx} {e : Expr} {f : XT} (h : TD X e f) : PT X e (tOfT X.K f) := by
  obtain ⟨t, p, m⟩ := h
  exact ⟨fun pins s σ H Q I q => p.run pins s σ H Q I (by
    obtain ⟨Φ, Z, ρ, d, ρ', R, e, k⟩ := q
    exact m Φ Z σ H ρ d ρ' R e Q k)⟩

section
variable {K : PySem.W.Frag} {Φ : Fx} {Z : Hp} {σ σ' : St} {H : Hp} {ρ ρ' : Nv}
/-- other slots hold what they like where nothing is said -/
theorem Rl.reslot (R : Rl K Φ Z σ H ρ) (hl : σ'.length = σ.length) (h : ∀ i : Nat, (∃ e, ρ[i]? = some e ∧ e ≠ EV.un) → σ'[i]? = σ[i]?) : Rl K Φ Z σ' H ρ := by
  have at_ : ∀ i a, AtS ρ σ' i a → AtS ρ σ i a := by
    rintro i a ⟨⟨o, io, e⟩, s⟩
    refine ⟨⟨o, io, e⟩, ?_⟩
    rw [← h i ⟨_, e, by simp⟩]
    exact s
  refine ⟨R.len.trans hl.symm, R.zH, R.zN, R.f0, R.fr, R.dom, fun i j a h1 h2 => R.inj i j a (at_ i a h1) (at_ j a h2), fun i a h1 => R.sep i a (at_ i a h1), ?_, ?_, ?_, ?_, ?_, R.io⟩
  · intro i x e
    rw [h i ⟨_, e, by simp⟩]
    exact R.dat i x e
  · intro i ns e
    rw [h i ⟨_, e, by simp⟩]
    exact R.scr i ns e
  · intro i o io e
    rw [h i ⟨_, e, by simp⟩]
    exact R.own i o io e
  · intro i o a e s
    rw [h i ⟨_, e, by simp⟩] at s
    exact R.loc i o a e s
  · intro i a e
    obtain ⟨s, o, q⟩ := R.ino i a e
    rw [h i ⟨_, q, by simp⟩]
    exact ⟨s, o, q⟩
/-- what a slot holds is forgotten -/
theorem Rl.drop (R : Rl K Φ Z σ H ρ) {i : Nat} (hn : ∀ o, ρ[i]? ≠ some (EV.own o true)) : Rl K Φ Z σ H (ρ.set i .un) := by
  by_cases hi : i < ρ.length
  · have at_ : ∀ j b, AtS (ρ.set i .un) σ j b → j ≠ i ∧ AtS ρ σ j b := by
      rintro j b ⟨⟨o', io, e'⟩, s'⟩
      by_cases hj : i = j
      · subst hj
        rw [List.getElem?_set_self hi] at e'
        cases e'
      · rw [List.getElem?_set_ne hj] at e'
        exact ⟨Ne.symm hj, ⟨o', io, e'⟩, s'⟩
    refine ⟨by simp [R.len], R.zH, R.zN, R.f0, R.fr, R.dom, fun j k b h1 h2 => R.inj j k b (at_ j b h1).2 (at_ k b h2).2, fun j b h => R.sep j b (at_ j b h).2, ?_, ?_, ?_, ?_, ?_, ?_⟩
    · intro j y q
      by_cases hj : i = j
      · subst hj; rw [List.getElem?_set_self hi] at q; cases q
      · rw [List.getElem?_set_ne hj] at q; exact R.dat j y q
    · intro j ns q
      by_cases hj : i = j
      · subst hj; rw [List.getElem?_set_self hi] at q; cases q
      · rw [List.getElem?_set_ne hj] at q; exact R.scr j ns q
    · intro j o' io q
      by_cases hj : i = j
      · subst hj; rw [List.getElem?_set_self hi] at q; cases q
      · rw [List.getElem?_set_ne hj] at q; exact R.own j o' io q
    · intro j o' b q s'
      by_cases hj : i = j
      · subst hj; rw [List.getElem?_set_self hi] at q; cases q
      · rw [List.getElem?_set_ne hj] at q; exact R.loc j o' b q s'
    · intro j b q
      obtain ⟨q1, o', q2⟩ := R.ino j b q
      have hj : i ≠ j := by
        rintro rfl
        exact hn _ q2
      rw [List.getElem?_set_ne hj]
      exact ⟨q1, o', q2⟩
    · intro j o' q
      by_cases hj : i = j
      · subst hj; rw [List.getElem?_set_self hi] at q; cases q
      · rw [List.getElem?_set_ne hj] at q; exact R.io j o' q
  · rw [List.set_eq_of_length_le (by omega)]
    exact R
/-- one object more that must stay -/
def Fx.keep (Φ : Fx) (D : Addr) (o : HO) : Fx := { Φ with Fr := upd Φ.Fr D o }
theorem Rl.keep (R : Rl K Φ Z σ H ρ) {D : Addr} {o : HO} (h : H D = some o) (hz : Z D = none) (hn : ∀ i, ¬ AtS ρ σ i D) (hz0 : ∀ a u, Z a = some u → a ≠ D) : Rl K (Φ.keep D o) Z σ H ρ := by
  refine ⟨R.len, R.zH, ?_, R.f0, ?_, R.dom, R.inj, ?_, R.dat, R.scr, R.own, R.loc, R.ino, R.io⟩
  · intro a u e nt
    rcases R.zN a u e nt with q | ⟨q1, q2⟩
    · exact .inl q
    · refine .inr ⟨q1, ?_⟩
      show upd Φ.Fr D o a = none
      rw [upd_ne (hz0 a u e)]
      exact q2
  · intro a u e
    by_cases ha : a = D
    · subst ha
      have e : upd Φ.Fr a o a = some u := e
      rw [upd_same] at e
      rw [h]
      exact e
    · have e : upd Φ.Fr D o a = some u := e
      rw [upd_ne ha] at e
      exact R.fr a u e
  · intro i a q
    have ha : a ≠ D := fun e => hn i (e ▸ q)
    refine ⟨(R.sep i a q).1, ?_⟩
    show upd Φ.Fr D o a = none
    rw [upd_ne ha]
    exact (R.sep i a q).2
theorem Rl.unkeep {D : Addr} {o : HO} (R : Rl K (Φ.keep D o) Z σ H ρ) (hD : Φ.Fr D = none) : Rl K Φ Z σ H ρ ∧ H D = some o ∧ (∀ i, ¬ AtS ρ σ i D) := by
  have sub : ∀ a, upd Φ.Fr D o a = none → Φ.Fr a = none := fun a e => by
    by_cases ha : a = D
    · subst ha; exact hD
    · rw [upd_ne ha] at e; exact e
  refine ⟨⟨R.len, R.zH, fun a u e nt => ?_, R.f0, fun a u e => ?_, R.dom, R.inj, fun i a q => ?_, R.dat, R.scr, R.own, R.loc, R.ino, R.io⟩, R.fr D o upd_same, fun i q => ?_⟩
  · rcases R.zN a u e nt with q | ⟨q1, q2⟩
    · exact .inl q
    · exact .inr ⟨q1, sub a q2⟩
  · refine R.fr a u ?_
    show upd Φ.Fr D o a = some u
    rw [upd_ne (ne_of_none e hD)]
    exact e
  · exact ⟨(R.sep i a q).1, sub a (R.sep i a q).2⟩
  · have := (R.sep i D q).2
    have e : upd Φ.Fr D o D = none := this
    rw [upd_same] at e
    cases e
/-- the kept object changes -/
theorem Rl.rekeep {D : Addr} {o u : HO} (R : Rl K (Φ.keep D o) Z σ H ρ) (hD : Φ.Fr D = none) (hz : Z D = none) : Rl K (Φ.keep D u) Z σ (upd H D u) ρ := by
  have eq0 : ∀ a, a ≠ D → upd Φ.Fr D u a = upd Φ.Fr D o a := fun a h => by rw [upd_ne h, upd_ne h]
  have hat : ∀ i a, AtS ρ σ i a → a ≠ D := fun i a q e => by
    subst e
    have := (R.sep i a q).2
    have e : upd Φ.Fr a o a = none := this
    rw [upd_same] at e
    cases e
  refine ⟨R.len, fun a w e => ?_, fun a w e nt => ?_, R.f0, fun a w e => ?_, fun a e => ?_, R.inj, fun i a q => ?_, R.dat, R.scr, fun i o' io e => ?_, R.loc, R.ino, R.io⟩
  · rw [upd_ne (ne_of_none e hz)]
    exact R.zH a w e
  · rcases R.zN a w e nt with q | ⟨q1, q2⟩
    · exact .inl q
    · refine .inr ⟨q1, ?_⟩
      show upd Φ.Fr D u a = none
      rw [eq0 a (ne_of_none e hz)]
      exact q2
  · by_cases ha : a = D
    · subst ha
      have e : upd Φ.Fr a u a = some w := e
      rw [upd_same] at e ⊢
      exact e
    · have e : upd Φ.Fr D u a = some w := e
      rw [upd_ne ha] at e ⊢
      exact R.fr a w (by show upd Φ.Fr D o a = some w; rw [upd_ne ha]; exact e)
  · by_cases ha : a = D
    · subst ha
      rw [upd_same] at e
      cases e
    · rw [upd_ne ha] at e
      exact R.dom a e
  · refine ⟨(R.sep i a q).1, ?_⟩
    show upd Φ.Fr D u a = none
    rw [eq0 a (hat i a q)]
    exact (R.sep i a q).2
  · obtain ⟨a, s, ob⟩ := R.own i o' io e
    exact ⟨a, s, ob.move (Same.refl Z) (upd_ne (hat i a ⟨⟨o', io, e⟩, s⟩))⟩
end

abbrev XG := PyData → Nv → Option Nv
def MG (K : PySem.W.Frag) (g : TG) (f : XG) (vs : List Nat) : Prop := ∀ (Φ : Fx) (Z : Hp) (σ : St) (H : Hp) (ρ : Nv) (v : V) (d : PyData) (ρ' : Nv), Rl K Φ Z σ H ρ → Rp K Z v d → f d ρ = some ρ' →
  ∀ Q : St → Hp → Prop, (∀ σ', Rl K Φ Z σ' H ρ' → σ'.length = σ.length → (∀ j, j ∉ vs → σ'[j]? = σ[j]?) → Q σ' H) → g v σ H Q
def GD (X : Cx) (e : Expr) (f : XG) (vs : List Nat) : Prop := ∃ g, PG X e g ∧ MG X.K g f vs
def gOf (K : PySem.W.Frag) (f : XG) (vs : List Nat) : TG := fun v σ H Q => ∃ (Φ : Fx) (Z : Hp) (ρ : Nv) (d : PyData) (ρ' : Nv), Rl K Φ Z σ H ρ ∧ Rp K Z v d ∧ f d ρ = some ρ' ∧
  ∀ σ', Rl K Φ Z σ' H ρ' → σ'.length = σ.length → (∀ j, j ∉ vs → σ'[j]? = σ[j]?) → Q σ' H
theorem mg_of {K : PySem.W.Frag} {f : XG} {vs : List Nat} : MG K (gOf K f vs) f vs := fun Φ Z σ H ρ v d ρ' R r q Q k => ⟨Φ, Z, ρ, d, ρ', R, r, q, k⟩
theorem GD.pg {X : Cx} {e : Expr} {f : XG} {vs : List Nat} (h : GD X e f vs) : PG X e (gOf X.K f vs) := by
  obtain ⟨g, p, m⟩ := h
  exact ⟨fun pins s σ H v u Q I r q => p.run pins s σ H v u Q I r (by
    obtain ⟨Φ, Z, ρ, d, ρ', R, rp, e, k⟩ := q
    exact m Φ Z σ H ρ v d ρ' R rp e Q k)⟩
def gNm (i : Nat) : XG := fun d ρ => put ρ i d
abbrev XGs := List PyData → Nv → Option Nv
def MGs (K : PySem.W.Frag) (g : TGs) (f : XGs) (vs : List Nat) : Prop := ∀ (Φ : Fx) (Z : Hp) (σ : St) (H : Hp) (ρ : Nv) (xs : List V) (ds : List PyData) (ρ' : Nv), Rl K Φ Z σ H ρ → RpA K Z xs ds → f ds ρ = some ρ' →
  ∀ Q : St → Hp → Prop, (∀ σ', Rl K Φ Z σ' H ρ' → σ'.length = σ.length → (∀ j, j ∉ vs → σ'[j]? = σ[j]?) → Q σ' H) → g xs σ H Q
def GsD (X : Cx) (es : List Expr) (f : XGs) (vs : List Nat) : Prop := ∃ g, PGs X es g ∧ MGs X.K g f vs
def gsNil : XGs := fun ds ρ => match ds with
  | [] => some ρ
  | _ => none
def gsCons (f : XG) (r : XGs) : XGs := fun ds ρ => match ds with
  | d :: ds => (f d ρ).bind fun ρ' => r ds ρ'
  | [] => none
def gTp (n : Nat) (f : XGs) : XG := fun d ρ => match d with
  | .tuple ds => if ds.length = n then f ds ρ else none
  | _ => none
section
variable {X : Cx} {e : Expr} {es : List Expr} {f : XG} {r : XGs} {vs ws : List Nat} {pos : Pos}
theorem gd_name (i : Nat) {x : Str} (hN : X.N.Nodup) (hi : X.N[i]? = some x := by rfl) (hx : Loc X.env.scope x := by first | exact Or.inl rfl | exact Or.inr rfl) (hf : X.fn x = true ∨ X.env.scope.names.lookup x = some .local := by first | exact .inl rfl | exact .inr rfl) :
    GD X (.Name x pos) (gNm i) [i] := by
  refine ⟨_, pg_name hN hi hx hf, fun Φ Z σ H ρ v d ρ' R r q Q k => ?_⟩
  exact k _ (put_rl R r q) (by simp) fun j hj => List.getElem?_set_ne (fun e => hj (by simp [e]))
theorem gsd_nil : GsD X [] gsNil [] := ⟨_, pgs_nil, fun Φ Z σ H ρ xs ds ρ' R r q Q k => by
  unfold gsNil at q
  split at q
  · cases q
    cases r
    exact ⟨rfl, k σ R rfl fun _ _ => rfl⟩
  · cases q⟩
theorem gsd_cons (h1 : GD X e f vs) (h2 : GsD X es r ws) (hs : (assignEach (e :: es) X.env).map (·.2) = assign e X.env :: (assignEach es X.env).map (·.2) := by rfl) : GsD X (e :: es) (gsCons f r) (vs ++ ws) := by
  obtain ⟨g, p, m⟩ := h1
  obtain ⟨gs, ps, ms⟩ := h2
  refine ⟨_, pgs_cons p ps hs, fun Φ Z σ H ρ xs ds ρ' R rr q Q k => ?_⟩
  unfold gsCons at q
  split at q
  · rename_i d ds
    cases rr with
    | cons r1 r2 =>
      cases e1 : f d ρ with
      | none => rw [e1] at q; cases q
      | some ρ1 =>
        rw [e1, Option.bind_some] at q
        refine ⟨_, _, rfl, m Φ Z σ H ρ _ d ρ1 R r1 e1 _ fun σ1 R1 l1 s1 => ?_⟩
        refine ms Φ Z σ1 H ρ1 _ ds ρ' R1 r2 q Q fun σ2 R2 l2 s2 => k σ2 R2 (l2.trans l1) fun j hj => ?_
        rw [List.mem_append, not_or] at hj
        exact (s2 j hj.2).trans (s1 j hj.1)
  · cases q
theorem gd_tup {n kk : Nat} (hc : X.calm = true) (h : GsD X es r vs) (hn : (assignEach es X.env).length = n := by rfl) (hst : (assignEach es X.env).findIdx? (·.1) = none := by rfl) : GD X (.Tuple es kk pos) (gTp n r) vs := by
  obtain ⟨g, p, m⟩ := h
  refine ⟨_, pg_tup hc p hn hst, fun Φ Z σ H ρ v d ρ' R rr q Q k => ?_⟩
  unfold gTp at q
  split at q
  · split at q
    · rename_i ds hl
      obtain ⟨a, xs, rfl, h1, r1⟩ := Rb.tup (H := Z) (Same.refl Z) (.inl rr)
      exact ⟨a, xs, rfl, sqT_mono R.zH h1, r1.length.trans hl, m Φ Z σ H ρ xs ds ρ' R r1 q Q k⟩
    · cases q
  · cases q
/-- target = value, the target a tuple of names -/
def sAsg (f : XE) (g : XG) : XS := fun ρ => (f ρ).bind fun p => (g p.1 p.2).map .nx
theorem sd_asg {tg e : Expr} {fe : XE} {g : XG} (he : ED X e fe) (hg : GD X tg g vs) (hs : swapsWithSole [tg] e pos.line X.env = pure false := by rfl) (hw : swappedStores [tg] e X.env = pure none := by rfl)
    (h1 : (assignEach [tg] X.env).map (·.2) = [assign tg X.env] := by rfl) : SD X (.Assign [tg] e pos) (sAsg fe g) := by
  obtain ⟨t, p, m⟩ := he
  obtain ⟨u, q, n⟩ := hg
  refine ⟨_, ps_asg p q hs hw h1, fun Φ Z σ H ρ r R q D k => ?_⟩
  unfold sAsg at q
  cases e1 : fe ρ with
  | none => rw [e1] at q; cases q
  | some w =>
    rw [e1, Option.bind_some] at q
    cases e2 : g w.1 w.2 with
    | none => rw [e2] at q; cases q
    | some ρ1 =>
      rw [e2] at q
      cases q
      refine m Φ Z σ H ρ w.1 w.2 R e1 _ fun v H1 Z1 z1 R1 r1 => ?_
      exact n Φ Z1 σ H1 w.2 v w.1 ρ1 R1 r1 e2 _ fun σ' R2 _ _ => k σ' H1 Z1 z1 R2
/-- a, b = x, y: two local names -/
def sPar (i j : Nat) (f g : XE) : XS := fun ρ => (f ρ).bind fun p => (g p.2).bind fun q => (put q.2 i p.1).bind fun ρ1 => (put ρ1 j q.1).map .nx
theorem sd_par {i j : Nat} {x y : Str} {a b : Expr} {fa fb : XE} {px py pt : Pos} {kt k2 pt2} (hc : X.calm = true) (hN : X.N.Nodup) (ha : ED X a fa) (hb : ED X b fb) (hi : X.N[i]? = some x := by rfl) (hj : X.N[j]? = some y := by rfl) (hij : i ≠ j := by decide)
    (hx : X.env.scope.names.lookup x = some .local := by rfl) (hy : X.env.scope.names.lookup y = some .local := by rfl)
    (hw : swappedStores [.Tuple [.Name x px, .Name y py] kt pt] (.Tuple [a, b] k2 pt2) X.env = pure (some [x, y]) := by rfl)
    (hs : swapsWithSole [.Tuple [.Name x px, .Name y py] kt pt] (.Tuple [a, b] k2 pt2) pos.line X.env = pure false := by rfl)
    (h1 : starEach [a, b] X.env = (false, eval a X.env) :: starEach [b] X.env := by rfl) (h2 : starEach [b] X.env = (false, eval b X.env) :: starEach [] X.env := by rfl) :
    SD X (.Assign [.Tuple [.Name x px, .Name y py] kt pt] (.Tuple [a, b] k2 pt2) pos) (sPar i j fa fb) := by
  obtain ⟨t, p, m⟩ := ha
  obtain ⟨t2, p2, m2⟩ := hb
  refine ⟨_, ps_par hc hN hi hj hij hx hy (pa_cons p (pa_cons p2 pa_nil h2) h1) hw hs, fun Φ Z σ H ρ r R q D k => ?_⟩
  unfold sPar at q
  cases e1 : fa ρ with
  | none => rw [e1] at q; cases q
  | some w =>
    rw [e1, Option.bind_some] at q
    cases e2 : fb w.2 with
    | none => rw [e2] at q; cases q
    | some u =>
      rw [e2, Option.bind_some] at q
      cases e3 : put u.2 i w.1 with
      | none => rw [e3] at q; cases q
      | some ρ1 =>
        rw [e3, Option.bind_some] at q
        cases e4 : put ρ1 j u.1 with
        | none => rw [e4] at q; cases q
        | some ρ2 =>
          rw [e4] at q
          cases q
          refine m Φ Z σ H ρ w.1 w.2 R e1 _ fun v H1 Z1 z1 R1 r1 => ?_
          refine m2 Φ Z1 σ H1 w.2 u.1 u.2 R1 e2 _ fun v2 H2 Z2 z2 R2 r2 => ?_
          exact ⟨v, v2, rfl, k _ H2 Z2 (z1.trans z2) (put_rl (put_rl R2 (r1.mono z2) e3) r2 e4)⟩
end

/-- the iterator gives these items -/
structure Yld (K : PySem.W.Frag) (Z : Hp) (J : It) (ds : List PyData) : Prop where
  go : ∀ i H, Same Z H → i < ds.length → J.go i H
  stop : ∀ i H, Same Z H → i = ds.length → J.stop i H
  item : ∀ i H x H' Φ σ ρ Z2, i < ds.length → Same Z Z2 → Rl K Φ Z2 σ H ρ → J.yld i H x H' → ∃ Z3 d, Same Z2 Z3 ∧ Rl K Φ Z3 σ H' ρ ∧ ds[i]? = some d ∧ Rp K Z3 x d
abbrev XI := Nv → Option (List PyData × Nv)
def MI (K : PySem.W.Frag) (w : TI) (f : XI) : Prop := ∀ (Φ : Fx) (Z : Hp) (σ : St) (H : Hp) (ρ : Nv) (ds : List PyData) (ρ' : Nv), Rl K Φ Z σ H ρ → f ρ = some (ds, ρ') →
  ∀ R' : It → Hp → Prop, (∀ J H' Z', Same Z Z' → Rl K Φ Z' σ H' ρ' → Yld K Z' J ds → R' J H') → w σ H R'
def ID' (X : Cx) (tg e : Expr) (f : XI) : Prop := ∃ w, PI X tg e w ∧ MI X.K w f
theorem pi_orr {X : Cx} {tg e : Expr} {w1 w2 : TI} (h1 : PI X tg e w1) (h2 : PI X tg e w2) : PI X tg e (fun σ H R => w1 σ H R ∨ w2 σ H R) :=
  ⟨fun pins s σ H R I h => h.elim (h1.run pins s σ H R I) (h2.run pins s σ H R I)⟩
theorem yld_list {K : PySem.W.Frag} {Z : Hp} {a : Addr} {xs : List V} {ds : List PyData} (h : Z a = some (.lst xs)) (r : RpA K Z xs ds) : Yld K Z (Itl K a) ds := by
  refine ⟨fun i H z hi => ?_, fun i H z hi => ⟨xs, SqL.of (z _ _ h), by rw [r.length]; omega⟩, fun i H x H' Φ σ ρ Z2 hi z R y => ?_⟩
  · obtain ⟨v, hv, _⟩ := r.get (List.getElem?_eq_getElem hi)
    exact ⟨xs, v, SqL.of (z _ _ h), hv⟩
  · obtain ⟨rfl, y⟩ := y
    have hx := y xs (SqL.of (R.zH _ _ (z _ _ h)))
    obtain ⟨d, hd, rd⟩ := r.getV hx
    exact ⟨Z2, d, Same.refl Z2, R, hd, rd.mono z⟩
theorem yld_tup {K : PySem.W.Frag} {Z : Hp} {a : Addr} {xs : List V} {ds : List PyData} (h : SqT K Z a xs) (r : RpA K Z xs ds) : Yld K Z (Itt K a) ds := by
  refine ⟨fun i H z hi => ?_, fun i H z hi => ⟨xs, sqT_mono z h, by rw [r.length]; omega⟩, fun i H x H' Φ σ ρ Z2 hi z R y => ?_⟩
  · obtain ⟨v, hv, _⟩ := r.get (List.getElem?_eq_getElem hi)
    exact ⟨xs, v, sqT_mono z h, hv⟩
  · obtain ⟨rfl, y⟩ := y
    have hx := y xs (sqT_mono R.zH (sqT_mono z h))
    obtain ⟨d, hd, rd⟩ := r.getV hx
    exact ⟨Z2, d, Same.refl Z2, R, hd, rd.mono z⟩
def rngD (lo : Int) (n : Nat) : List PyData := (List.range n).map fun (i : Nat) => PyData.int (lo + (i : Int))
theorem yld_rng {K : PySem.W.Frag} {Z : Hp} {lo : Int} {n : Nat} : Yld K Z (Itr lo n) (rngD lo n) := by
  have hl : (rngD lo n).length = n := by simp [rngD]
  refine ⟨fun i H z hi => ?_, fun i H z hi => ?_, fun i H x H' Φ σ ρ Z2 hi z R y => ?_⟩
  · show i < n
    omega
  · show n ≤ i
    omega
  · obtain ⟨rfl, rfl⟩ := y
    refine ⟨Z2, .int (lo + i), Same.refl Z2, R, ?_, .int _⟩
    rw [hl] at hi
    simp [rngD, hi]
theorem yld_str {K : PySem.W.Frag} {Z : Hp} {x : Str} : Yld K Z (Its x) (x.cps.toList.map fun c => PyData.str ⟨#[c]⟩) := by
  refine ⟨fun i H z hi => ?_, fun i H z hi => ?_, fun i H y H' Φ σ ρ Z2 hi z R q => ?_⟩
  · show i < x.cps.size
    simpa using hi
  · show x.cps.size ≤ i
    have : i = x.cps.size := by simpa using hi
    omega
  · obtain ⟨rfl, c, hc, rfl⟩ := q
    refine ⟨Z2, .str ⟨#[c]⟩, Same.refl Z2, R, ?_, .str _⟩
    rw [List.getElem?_map, Array.getElem?_toList, hc]
    rfl
/-- the items of a list, a tuple, a text -/
def itD : PyData → Option (List PyData)
  | .list xs => some xs
  | .tuple xs => some xs
  | .str x => some (x.cps.toList.map fun c => PyData.str ⟨#[c]⟩)
  | _ => none
def iOf (f : XE) : XI := fun ρ => (f ρ).bind fun p => (itD p.1).map fun ds => (ds, p.2)
section
variable {X : Cx} {tg e e2 : Expr} {f g : XE} {p pos : Pos}
theorem id_seq (h : ED X e f) : ID' X tg e (iOf f) := by
  obtain ⟨t, pe, m⟩ := h
  refine ⟨_, pi_orr (pi_list pe) (pi_orr (pi_tup pe) (pi_str pe)), fun Φ Z σ H ρ ds ρ' R q R' k => ?_⟩
  unfold iOf at q
  cases e1 : f ρ with
  | none => rw [e1] at q; cases q
  | some w =>
    rw [e1, Option.bind_some] at q
    cases e2 : itD w.1 with
    | none => rw [e2] at q; cases q
    | some l =>
      rw [e2] at q
      cases q
      unfold itD at e2
      split at e2
      · rename_i xs ex
        cases e2
        refine .inl (m Φ Z σ H ρ w.1 w.2 R e1 _ fun v H1 Z1 z1 R1 r1 => ?_)
        rw [ex] at r1
        cases r1 with
        | lst h rr => exact ⟨_, rfl, ⟨_, SqL.of (R1.zH _ _ h)⟩, k _ H1 Z1 z1 R1 (yld_list h rr)⟩
      · rename_i xs ex
        cases e2
        refine .inr (.inl (m Φ Z σ H ρ w.1 w.2 R e1 _ fun v H1 Z1 z1 R1 r1 => ?_))
        rw [ex] at r1
        obtain ⟨a, vs, rfl, h, rr⟩ := Rb.tup (H := Z1) (Same.refl Z1) (.inl r1)
        exact ⟨a, rfl, ⟨vs, sqT_mono R1.zH h⟩, k _ H1 Z1 z1 R1 (yld_tup h rr)⟩
      · rename_i y ex
        cases e2
        refine .inr (.inr (m Φ Z σ H ρ w.1 w.2 R e1 _ fun v H1 Z1 z1 R1 r1 => ?_))
        rw [ex] at r1
        cases r1
        exact ⟨_, rfl, k _ H1 Z1 z1 R1 yld_str⟩
      · cases e2
def iRng (f : XE) : XI := fun ρ => (f ρ).bind fun p => match p.1 with
  | .int j => if -(2 ^ 62) ≤ j ∧ j < 2 ^ 62 then some (rngD 0 j.toNat, p.2) else none
  | _ => none
theorem id_rng (hm : X.mg "range" = none) (h : ED X e f) (hg : Gl X "range" := by rfl) (hs : starEach [e] X.env = [(false, eval e X.env)] := by rfl) : ID' X tg (.Call (.Name "range" p) [e] [] pos) (iRng f) := by
  obtain ⟨t, pe, m⟩ := h
  refine ⟨_, pi_range1 hg hm (pa_cons pe pa_nil hs) hs, fun Φ Z σ H ρ ds ρ' R q R' k => ?_⟩
  unfold iRng at q
  cases e1 : f ρ with
  | none => rw [e1] at q; cases q
  | some w =>
    rw [e1, Option.bind_some] at q
    split at q
    · rename_i j ej
      split at q
      · rename_i hj
        cases q
        refine m Φ Z σ H ρ w.1 w.2 R e1 _ fun v H1 Z1 z1 R1 r1 => ?_
        rw [ej] at r1
        cases r1
        exact ⟨j, rfl, hj.1, hj.2, k _ H1 Z1 z1 R1 yld_rng⟩
      · cases q
    · cases q
end

/-- through the items: the target, the body -/
def forL (g : XG) (b : XS) : List PyData → Nv → Option Fl
  | [], ρ => some (.nx ρ)
  | d :: ds, ρ => (g d ρ).bind fun ρ1 => (b ρ1).bind fun r => match r with
    | .nx ρ2 => forL g b ds ρ2
    | .ct ρ2 => forL g b ds ρ2
    | .bk ρ2 => some (.nx ρ2)
    | .rt x ρ2 => some (.rt x ρ2)
    | .rn x ρ2 => some (.rn x ρ2)
def sFor (it : XI) (g : XG) (b : XS) : XS := fun ρ => (it ρ).bind fun p => forL g b p.1 p.2
theorem ms_for {K : PySem.W.Frag} {w : TI} {g : TG} {tb : TS} {it : XI} {gf : XG} {vs : List Nat} {b : XS} (mi : MI K w it) (mg : MG K g gf vs) (mb : MS K tb b) : MS K (tFor w g tb) (sFor it gf b) := by
  intro Φ Z σ H ρ r R q D k
  unfold sFor at q
  cases e1 : it ρ with
  | none => rw [e1] at q; cases q
  | some p =>
    rw [e1, Option.bind_some] at q
    obtain ⟨ds, ρ1⟩ := p
    refine mi Φ Z σ H ρ ds ρ1 R e1 _ fun J H1 Z1 z1 R1 y => ?_
    have k1 := k.mono z1
    refine ⟨fun i m σ' H' => m = ds.length - i ∧ i ≤ ds.length ∧ ∃ Z' ρ', Same Z1 Z' ∧ Rl K Φ Z' σ' H' ρ' ∧ forL gf b (ds.drop i) ρ' = some r, ⟨ds.length, by simp, Nat.zero_le _, Z1, ρ1, Same.refl Z1, R1, by simpa using q⟩, ?_⟩
    rintro i m σ' H' ⟨rfl, hi, Z', ρ', z', R', q'⟩
    by_cases hlt : i < ds.length
    · refine .inr ⟨y.go i H' (z'.trans R'.zH) hlt, fun σ2 H2 => i + 1 ≤ ds.length ∧ ∃ Z' ρ', Same Z1 Z' ∧ Rl K Φ Z' σ2 H2 ρ' ∧ forL gf b (ds.drop (i + 1)) ρ' = some r, fun σ2 H2 ⟨h1, h2⟩ => ⟨ds.length - (i + 1), by omega, rfl, h1, h2⟩, fun x H2 yl => ?_⟩
      obtain ⟨Z3, d, z3, R3, hd, rd⟩ := y.item i H' x H2 Φ σ' ρ' Z' hlt z' R' yl
      have ed : ds.drop i = d :: ds.drop (i + 1) := by
        rw [List.drop_eq_getElem_cons hlt]
        congr 1
        rw [List.getElem?_eq_getElem hlt] at hd
        exact Option.some.inj hd
      rw [ed] at q'
      unfold forL at q'
      cases e2 : gf d ρ' with
      | none => rw [e2] at q'; cases q'
      | some ρ2 =>
        rw [e2, Option.bind_some] at q'
        cases e3 : b ρ2 with
        | none => rw [e3] at q'; cases q'
        | some f =>
          rw [e3, Option.bind_some] at q'
          refine mg Φ Z3 σ' H2 ρ' x d ρ2 R3 rd e2 _ fun σ3 R4 _ _ => ?_
          refine mb Φ Z3 σ3 H2 ρ2 f R4 e3 _ ?_
          cases f with
          | nx ρ4 => exact fun σ4 H4 Z4 z4 R5 => ⟨hlt, Z4, ρ4, (z'.trans z3).trans z4, R5, q'⟩
          | ct ρ4 => exact fun σ4 H4 Z4 z4 R5 => ⟨hlt, Z4, ρ4, (z'.trans z3).trans z4, R5, q'⟩
          | bk ρ4 =>
            cases q'
            exact fun σ4 H4 Z4 z4 R5 => k1 σ4 H4 Z4 ((z'.trans z3).trans z4) R5
          | rt dd ρ4 =>
            cases q'
            exact fun v σ4 H4 Z4 z4 R5 rr => k1 v σ4 H4 Z4 ((z'.trans z3).trans z4) R5 rr
          | rn dd ρ4 =>
            cases q'
            exact fun v σ4 H4 Z4 z4 R5 rr => k1 v σ4 H4 Z4 ((z'.trans z3).trans z4) R5 rr
    · have e : i = ds.length := by omega
      subst e
      rw [List.drop_length] at q'
      cases q'
      exact .inl ⟨y.stop _ H' (z'.trans R'.zH) rfl, k1 σ' H' Z' z' R'⟩
section
variable {X : Cx} {tg e : Expr} {body : List Stmt} {it : XI} {g : XG} {vs : List Nat} {b : XS} {pos : Pos}
theorem sd_for (hp : PassesOwn (model X.prog X.w) X.A X.env X.xe) (hc : X.calm = true) (hi : ID' X tg e it) (hg : GD X tg g vs) (hb : SSD X body b) (hs : ∀ x, foldedSetIterable e X.env x = pure x := by intro _; rfl) :
    SD X (.For tg e body [] pos) (sFor it g b) := by
  obtain ⟨w, p, m⟩ := hi
  obtain ⟨t, q, n⟩ := hg
  obtain ⟨u, r, o⟩ := hb
  exact ⟨_, ps_for hp hc p q r hs, ms_for m n o⟩
end

def whL (c : XT) (b : XS) : Nat → Nv → Option Fl
  | 0, _ => none
  | n + 1, ρ => (c ρ).bind fun p => if p.1 = true then (b p.2).bind fun r => match r with
      | .nx ρ2 => whL c b n ρ2
      | .ct ρ2 => whL c b n ρ2
      | .bk ρ2 => some (.nx ρ2)
      | .rt x ρ2 => some (.rt x ρ2)
      | .rn x ρ2 => some (.rn x ρ2)
    else some (.nx p.2)
def sWh (n : Nv → Nat) (c : XT) (b : XS) : XS := fun ρ => whL c b (n ρ) ρ
theorem ms_wh {K : PySem.W.Frag} {tc : TT} {tb : TS} {n : Nv → Nat} {c : XT} {b : XS} (mc : MT K tc c) (mb : MS K tb b) : MS K (tWhile tc tb) (sWh n c b) := by
  intro Φ Z σ H ρ r R q D k
  refine ⟨fun m σ' H' => ∃ Z' ρ', Same Z Z' ∧ Rl K Φ Z' σ' H' ρ' ∧ whL c b m ρ' = some r, ⟨n ρ, Z, ρ, Same.refl Z, R, q⟩, ?_⟩
  rintro m σ' H' ⟨Z', ρ', z', R', q'⟩
  cases m with
  | zero => cases q'
  | succ m =>
    unfold whL at q'
    cases e1 : c ρ' with
    | none => rw [e1] at q'; cases q'
    | some p =>
      rw [e1, Option.bind_some] at q'
      refine mc Φ Z' σ' H' ρ' p.1 p.2 R' e1 _ fun H1 Z1 z1 R1 => ?_
      by_cases hp : p.1 = true
      · rw [if_pos hp] at q' ⊢
        cases e2 : b p.2 with
        | none => rw [e2] at q'; cases q'
        | some f =>
          rw [e2, Option.bind_some] at q'
          refine ⟨fun σ2 H2 => ∃ Z' ρ', Same Z Z' ∧ Rl K Φ Z' σ2 H2 ρ' ∧ whL c b m ρ' = some r, fun σ2 H2 h => ⟨m, Nat.lt_succ_self m, h⟩, ?_⟩
          refine mb Φ Z1 σ' H1 p.2 f R1 e2 _ ?_
          cases f with
          | nx ρ4 => exact fun σ4 H4 Z4 z4 R5 => ⟨Z4, ρ4, (z'.trans z1).trans z4, R5, q'⟩
          | ct ρ4 => exact fun σ4 H4 Z4 z4 R5 => ⟨Z4, ρ4, (z'.trans z1).trans z4, R5, q'⟩
          | bk ρ4 =>
            cases q'
            exact fun σ4 H4 Z4 z4 R5 => k σ4 H4 Z4 ((z'.trans z1).trans z4) R5
          | rt dd ρ4 =>
            cases q'
            exact fun v σ4 H4 Z4 z4 R5 rr => k v σ4 H4 Z4 ((z'.trans z1).trans z4) R5 rr
          | rn dd ρ4 =>
            cases q'
            exact fun v σ4 H4 Z4 z4 R5 rr => k v σ4 H4 Z4 ((z'.trans z1).trans z4) R5 rr
      · rw [if_neg hp] at q' ⊢
        cases q'
        exact k σ' H1 Z1 (z'.trans z1) R1
section
variable {X : Cx} {c : Expr} {body : List Stmt} {t : XT} {b : XS} {pos : Pos}
theorem sd_wh (n : Nv → Nat) (hp : PassesOwn (model X.prog X.w) X.A X.env X.xe) (hc : TD X c t) (hb : SSD X body b) : SD X (.While c body [] pos) (sWh n t b) := by
  obtain ⟨w, p, m⟩ := hc
  obtain ⟨u, r, o⟩ := hb
  exact ⟨_, ps_while hp p r, ms_wh m o⟩
end
end DL
set_option maxRecDepth 100000
set_option maxHeartbeats 2000000
namespace DL
open PySem L2

def xFz (n : XN) : XE := fun ρ => (n ρ).map fun p => (odD p.1, p.2)
theorem me_fz {K : PySem.W.Frag} {t : TE} {n : XN} (m : MN K t n) : ME K t (xFz n) := by
  intro Φ Z σ H ρ d ρ' R q Q k
  unfold xFz at q
  cases e1 : n ρ with
  | none => rw [e1] at q; cases q
  | some p =>
    rw [e1] at q
    cases q
    refine m Φ Z σ H ρ p.1 p.2 R e1 _ fun a H1 Z1 z1 R1 w => ?_
    obtain ⟨u, hu, _⟩ := w.ob.some
    obtain ⟨z2, R2⟩ := R1.freeze hu w.z w.h0 w.fr w.no
    exact k _ H1 _ (z1.trans z2) R2 ((w.ob.move z2 rfl).rp R2.zH (by rw [upd_same, hu]))
theorem ND.ed {X : Cx} {e : Expr} {n : XN} (h : ND X e n) : ED X e (xFz n) := by
  obtain ⟨t, p, m⟩ := h
  exact ⟨t, p, me_fz m⟩

def unAt (ρ : Nv) (vs : List Nat) : Bool := vs.all fun v => match ρ[v]? with
  | some .un => true
  | _ => false
def wipeN : Nv → List Nat → Option Nv
  | ρ, [] => some ρ
  | ρ, v :: vs => if free ρ v = true then wipeN (ρ.set v .un) vs else none
theorem unAt_get {ρ : Nv} {vs : List Nat} (h : unAt ρ vs = true) {i : Nat} (hi : i ∈ vs) : ρ[i]? = some EV.un := by
  unfold unAt at h
  have := List.all_eq_true.mp h i hi
  split at this
  · assumption
  · cases this
theorem wipeN_keep : ∀ {vs : List Nat} {ρ ρ' : Nv} {i : Nat}, wipeN ρ vs = some ρ' → ρ[i]? = some EV.un → ρ'[i]? = some EV.un
  | [], _, _, _, h, e => by cases h; exact e
  | v :: vs, ρ, ρ', i, h, e => by
    unfold wipeN at h
    split at h
    · refine wipeN_keep h ?_
      by_cases hv : v = i
      · subst hv
        exact List.getElem?_set_self (List.getElem?_eq_some_iff.mp e).1
      · rw [List.getElem?_set_ne hv]
        exact e
    · cases h
theorem wipeN_un : ∀ {vs : List Nat} {ρ ρ' : Nv}, wipeN ρ vs = some ρ' → ∀ i ∈ vs, ρ'[i]? = some EV.un
  | [], _, _, _, i, hi => by cases hi
  | v :: vs, ρ, ρ', h, i, hi => by
    unfold wipeN at h
    split at h
    · rename_i hf
      rcases List.mem_cons.mp hi with rfl | hi
      · exact wipeN_keep h (List.getElem?_set_self (free_lt hf).1)
      · exact wipeN_un h i hi
    · cases h
theorem wipeN_unAt {vs : List Nat} {ρ ρ' : Nv} (h : wipeN ρ vs = some ρ') : unAt ρ' vs = true := by
  unfold unAt
  rw [List.all_eq_true]
  intro i hi
  rw [wipeN_un h i hi]
theorem wipeN_rl {K : PySem.W.Frag} {Φ : Fx} {Z : Hp} {σ : St} {H : Hp} : ∀ {vs : List Nat} {ρ ρ' : Nv}, Rl K Φ Z σ H ρ → wipeN ρ vs = some ρ' → Rl K Φ Z σ H ρ'
  | [], _, _, R, h => by cases h; exact R
  | v :: vs, ρ, ρ', R, h => by
    unfold wipeN at h
    split at h
    · rename_i hf
      exact wipeN_rl (R.drop (free_lt hf).2) h
    · cases h
theorem wipe_ne {σ : St} : ∀ {vs : List Nat} {i : Nat}, i ∉ vs → (wipe σ vs)[i]? = σ[i]?
  | [], _, _ => rfl
  | v :: vs, i, h => by
    rw [List.mem_cons, not_or] at h
    show ((wipe σ vs).set v none)[i]? = _
    rw [List.getElem?_set_ne (Ne.symm h.1), wipe_ne h.2]
theorem wipe_in {σ : St} : ∀ {vs : List Nat} {i : Nat}, i ∈ vs → i < σ.length → (wipe σ vs)[i]? = some none
  | v :: vs, i, h, hi => by
    show ((wipe σ vs).set v none)[i]? = _
    by_cases hv : v = i
    · subst hv
      exact List.getElem?_set_self (by rw [wipe_length]; exact hi)
    · rw [List.getElem?_set_ne hv]
      rcases List.mem_cons.mp h with rfl | h
      · exact absurd rfl hv
      · exact wipe_in h hi
theorem wipe_eq {σ σ' : St} {vs : List Nat} (hl : σ'.length = σ.length) (h : ∀ j, j ∉ vs → σ'[j]? = σ[j]?) : wipe σ' vs = wipe σ vs := by
  apply List.ext_getElem?
  intro j
  by_cases hj : j ∈ vs
  · by_cases hlt : j < σ.length
    · rw [wipe_in hj hlt, wipe_in hj (by omega)]
    · rw [List.getElem?_eq_none (by rw [wipe_length]; omega), List.getElem?_eq_none (by rw [wipe_length]; omega)]
  · rw [wipe_ne hj, wipe_ne hj, h j hj]
theorem reslot_un {K : PySem.W.Frag} {Φ : Fx} {Z : Hp} {σ σ' : St} {H : Hp} {ρ : Nv} {vs : List Nat} (R : Rl K Φ Z σ H ρ) (hu : unAt ρ vs = true) (hl : σ'.length = σ.length) (h : ∀ j, j ∉ vs → σ'[j]? = σ[j]?) : Rl K Φ Z σ' H ρ := by
  refine R.reslot hl fun i ⟨e, he, hne⟩ => h i fun hi => ?_
  rw [unAt_get hu hi] at he
  cases he
  exact hne rfl

def cYes : XT := fun ρ => some (true, ρ)
def lcL (g : XG) (c : XT) (e : XE) (vs : List Nat) : List PyData → Nv → List PyData → Option (List PyData × Nv)
  | [], ρ, acc => some (acc, ρ)
  | d :: ds, ρ, acc => (g d ρ).bind fun ρ1 => (c ρ1).bind fun p => if p.1 = true then (e p.2).bind fun q => if acc.length < sizeLine then (wipeN q.2 vs).bind fun ρ2 => lcL g c e vs ds ρ2 (acc ++ [q.1]) else none
    else (wipeN p.2 vs).bind fun ρ2 => lcL g c e vs ds ρ2 acc
def nLc (it : XI) (g : XG) (c : XT) (e : XE) (vs : List Nat) : XN := fun ρ => (it ρ).bind fun p => if unAt p.2 vs = true then (lcL g c e vs p.1 p.2 []).map fun q => (.ol q.1, q.2) else none
theorem mn_lc {K : PySem.W.Frag} {w : TI} {g : TG} {tt : TT} {te : TE} {it : XI} {gf : XG} {c : XT} {e : XE} {vs : List Nat} (mi : MI K w it) (mg : MG K g gf vs) (mc : MT K tt c) (me : ME K te e) : MN K (tLc w g tt te vs) (nLc it gf c e vs) := by
  intro Φ Z σ H ρ o ρ' R q Q k
  unfold nLc at q
  cases e1 : it ρ with
  | none => rw [e1] at q; cases q
  | some p =>
    rw [e1, Option.bind_some] at q
    obtain ⟨ds, ρ1⟩ := p
    split at q
    · rename_i hu
      cases e2 : lcL gf c e vs ds ρ1 [] with
      | none => rw [e2] at q; cases q
      | some s =>
        rw [e2] at q
        cases q
        refine mi Φ Z σ H ρ ds ρ1 R e1 _ fun J H1 Z1 z1 R1 y D hD => ?_
        have frD : Φ.Fr D = none := R1.fr.free hD
        have f0D : Φ.F0 D = none := R1.f0 D (R1.dom D hD)
        have zD : ∀ {o Z' σ' H' ρ'}, (∀ xs, o ≠ .tup xs) → Rl K (Φ.keep D o) Z' σ' H' ρ' → Z' D = none := fun {o Z' σ' H' ρ'} no R' => by
          cases hz : Z' D with
          | none => rfl
          | some u =>
            rcases R'.zN D u hz (fun xs e => by have h1 := R'.zH D u hz; have h2 := R'.fr D o upd_same; rw [h1] at h2; cases h2; exact no xs e) with h | ⟨_, h⟩
            · rw [show (Φ.keep D o).F0 D = Φ.F0 D from rfl, f0D] at h
              cases h
            · have h : upd Φ.Fr D o D = none := h
              rw [upd_same] at h
              cases h
        have start : Rl K (Φ.keep D (.lst [])) Z1 σ (upd H1 D (.lst [])) ρ1 := by
          have R2 := R1.laid (o := .lst []) hD
          refine R2.keep upd_same (R1.zH.free hD) (fun i hi => ?_) fun a u e => ne_of_none (R1.zH a u e) hD
          obtain ⟨u, hu, _⟩ := R1.at_some hi
          rw [hD] at hu
          cases hu
        refine ⟨fun i m H' => m = ds.length - i ∧ i ≤ ds.length ∧ ∃ Z' ρ' acc us, Same Z1 Z' ∧ Rl K (Φ.keep D (.lst us)) Z' σ H' ρ' ∧ unAt ρ' vs = true ∧ RpA K Z' us acc ∧ lcL gf c e vs (ds.drop i) ρ' acc = some s,
          ⟨ds.length, by simp, Nat.zero_le _, Z1, ρ1, [], [], Same.refl Z1, start, hu, .nil, by simpa using e2⟩, ?_⟩
        rintro i m H' ⟨rfl, hi, Z', ρ', acc, us, z', R', hu', ra, q'⟩
        by_cases hlt : i < ds.length
        · refine .inr ⟨y.go i H' (z'.trans R'.zH) hlt, fun H2 => i + 1 ≤ ds.length ∧ ∃ Z' ρ' acc us, Same Z1 Z' ∧ Rl K (Φ.keep D (.lst us)) Z' σ H2 ρ' ∧ unAt ρ' vs = true ∧ RpA K Z' us acc ∧ lcL gf c e vs (ds.drop (i + 1)) ρ' acc = some s,
            fun H2 ⟨h1, h2⟩ => ⟨ds.length - (i + 1), by omega, rfl, h1, h2⟩, fun x H2 yl => ?_⟩
          obtain ⟨Z3, d, z3, R3, hd, rd⟩ := y.item i H' x H2 _ σ ρ' Z' hlt z' R' yl
          have ed : ds.drop i = d :: ds.drop (i + 1) := by
            rw [List.drop_eq_getElem_cons hlt]
            congr 1
            rw [List.getElem?_eq_getElem hlt] at hd
            exact Option.some.inj hd
          rw [ed] at q'
          unfold lcL at q'
          cases e3 : gf d ρ' with
          | none => rw [e3] at q'; cases q'
          | some ρ2 =>
            rw [e3, Option.bind_some] at q'
            have R3w : Rl K (Φ.keep D (.lst us)) Z3 (wipe σ vs) H2 ρ' := reslot_un R3 hu' (wipe_length σ vs) fun j hj => wipe_ne hj
            refine mg _ Z3 (wipe σ vs) H2 ρ' x d ρ2 R3w rd e3 _ fun σ3 R4 l3 s3 => ⟨?_, ?_⟩
            · exact wipe_eq (l3.trans (wipe_length σ vs)) fun j hj => (s3 j hj).trans (wipe_ne hj)
            have l3' : σ3.length = σ.length := l3.trans (wipe_length σ vs)
            have s3' : ∀ j, j ∉ vs → σ[j]? = σ3[j]? := fun j hj => ((s3 j hj).trans (wipe_ne hj)).symm
            cases e4 : c ρ2 with
            | none => rw [e4] at q'; cases q'
            | some p =>
              rw [e4, Option.bind_some] at q'
              refine mc _ Z3 σ3 H2 ρ2 p.1 p.2 R4 e4 _ fun H5 Z5 z5 R5 => ?_
              by_cases hp : p.1 = true
              · rw [if_pos hp] at q' ⊢
                cases e5 : e p.2 with
                | none => rw [e5] at q'; cases q'
                | some w =>
                  rw [e5, Option.bind_some] at q'
                  split at q'
                  · rename_i hal
                    cases e6 : wipeN w.2 vs with
                    | none => rw [e6] at q'; cases q'
                    | some ρ4 =>
                      rw [e6, Option.bind_some] at q'
                      refine me _ Z5 σ3 H5 p.2 w.1 w.2 R5 e5 _ fun v H6 Z6 z6 R6 r6 => ?_
                      obtain ⟨_, hDl, _⟩ := R6.unkeep frD
                      have ra6 : RpA K Z6 us acc := ((ra.mono z3).mono z5).mono z6
                      refine ⟨us, hDl, by rw [ra.length]; exact hal, hlt, Z6, ρ4, acc ++ [w.1], us ++ [v], ((z'.trans z3).trans z5).trans z6, ?_, wipeN_unAt e6, ra6.append (.cons r6 .nil), q'⟩
                      exact reslot_un (wipeN_rl (R6.rekeep frD (zD (fun _ e => by cases e) R6)) e6) (wipeN_unAt e6) l3'.symm s3'
                  · cases q'
              · rw [if_neg hp] at q' ⊢
                cases e6 : wipeN p.2 vs with
                | none => rw [e6] at q'; cases q'
                | some ρ4 =>
                  rw [e6, Option.bind_some] at q'
                  refine ⟨hlt, Z5, ρ4, acc, us, (z'.trans z3).trans z5, ?_, wipeN_unAt e6, (ra.mono z3).mono z5, q'⟩
                  exact reslot_un (wipeN_rl R5 e6) (wipeN_unAt e6) l3'.symm s3'
        · have ei : i = ds.length := by omega
          subst ei
          rw [List.drop_length] at q'
          cases q'
          obtain ⟨R7, hDl, hn⟩ := R'.unkeep frD
          exact .inl ⟨y.stop _ H' (z'.trans R'.zH) rfl, k D H' Z' (z1.trans z') R7 ⟨⟨us, hDl, ra⟩, zD (fun _ e => by cases e) R', frD, R1.dom D hD, hn⟩⟩
    · cases q
def TsD (X : Cx) (ifs : List Expr) (f : XT) : Prop := ∃ t, PTs X ifs t ∧ MT X.K t f
theorem tsd_nil {X : Cx} : TsD X [] cYes := ⟨tYes, pts_nil, fun Φ Z σ H ρ d ρ' R q Q k => by
  cases q
  exact k H Z (Same.refl Z) R⟩
theorem TsD.pts {X : Cx} {e : List Expr} {f : XT} (h : TsD X e f) : PTs X e (tOfT X.K f) := by
  obtain ⟨t, p, m⟩ := h
  exact ⟨fun pins s σ H Q I q => p.run pins s σ H Q I (by
    obtain ⟨Φ, Z, ρ, d, ρ', R, e, k⟩ := q
    exact m Φ Z σ H ρ d ρ' R e Q k)⟩
theorem ms_asg {K : PySem.W.Frag} {t : TE} {f : XE} {i : Nat} (m : ME K t f) : MS K (tAsg t (gName i)) (sSet i f) := by
  intro Φ Z σ H ρ r R q D k
  unfold sSet at q
  cases e1 : f ρ with
  | none => rw [e1] at q; cases q
  | some s =>
    rw [e1, Option.bind_some] at q
    cases e2 : put s.2 i s.1 with
    | none => rw [e2] at q; cases q
    | some ρ1 =>
      rw [e2] at q
      cases q
      exact m Φ Z σ H ρ s.1 s.2 R e1 _ fun v H1 Z1 z1 R1 r1 => k _ H1 Z1 z1 (put_rl R1 r1 e2)
theorem ms_asgN {K : PySem.W.Frag} {t : TE} {n : XN} {i : Nat} (m : MN K t n) : MS K (tAsg t (gName i)) (sNew i n) := by
  intro Φ Z σ H ρ r R q D k
  unfold sNew at q
  cases e1 : n ρ with
  | none => rw [e1] at q; cases q
  | some s =>
    rw [e1, Option.bind_some] at q
    split at q
    · rename_i hfr
      cases q
      obtain ⟨h1, h2⟩ := free_lt hfr
      exact m Φ Z σ H ρ s.1 s.2 R e1 _ fun a H1 Z1 z1 R1 w => k _ H1 Z1 z1 (R1.hold h1 h2 w.ob w.z w.fr w.h0 w.no)
    · cases q
section
variable {X : Cx} {elt tg iter : Expr} {ifs : List Expr} {scope : Scope} {pos : Pos} {it : XI} {g : XG} {c : XT} {f : XE}
theorem nd_lc {vs : List Nat} (own : List (Str × Nat)) (ok : BlkOk X.N X.env.scope scope own) (hv : own.map (·.2) = vs) (hc : X.calm = true) (hN : X.N.Nodup) (hi : ID' X tg iter it)
    (hg : ∀ (s : Shared) (H : Hp) (C : Addr) (cl : List (Str × Addr)) (fp : List Addr), GD (X.blk s H scope (compEnvC scope cl C X.env) fp) tg g vs) (ht : ∀ (s : Shared) (H : Hp) (C : Addr) (cl : List (Str × Addr)) (fp : List Addr), TsD (X.blk s H scope (compEnvC scope cl C X.env) fp) ifs c)
    (he : ∀ (s : Shared) (H : Hp) (C : Addr) (cl : List (Str × Addr)) (fp : List Addr), ED (X.blk s H scope (compEnvC scope cl C X.env) fp) elt f) (hs : ∀ x, foldedSetIterable iter X.env x = pure x := by intro _; rfl) :
    ND X (.ListComp elt [⟨tg, iter, ifs, 0⟩] scope pos) (nLc it g c f vs) := by
  subst hv
  obtain ⟨w, p, m⟩ := hi
  exact ⟨_, pe_lc (g := gOf X.K g _) (tt := tOfT X.K c) (te := tOf X.K f) hc hN p ok (fun s H C cl fp => (hg s H C cl fp).pg) (fun s H C cl fp => (ht s H C cl fp).pts) (fun s H C cl fp => (he s H C cl fp).pe) hs, mn_lc m mg_of mt_of me_of⟩
theorem sd_setLc {vs : List Nat} (i : Nat) {y : Str} {py spos : Pos} (own : List (Str × Nat)) (ok : BlkOk X.N X.env.scope scope own) (hv : own.map (·.2) = vs) (hc : X.calm = true) (hN : X.N.Nodup) (hi : ID' X tg iter it)
    (hg : ∀ (s : Shared) (H : Hp) (C : Addr) (cl : List (Str × Addr)) (fp : List Addr), GD (X.blk s H scope (compEnvC scope cl C X.env) fp) tg g vs) (ht : ∀ (s : Shared) (H : Hp) (C : Addr) (cl : List (Str × Addr)) (fp : List Addr), TsD (X.blk s H scope (compEnvC scope cl C X.env) fp) ifs c)
    (he : ∀ (s : Shared) (H : Hp) (C : Addr) (cl : List (Str × Addr)) (fp : List Addr), ED (X.blk s H scope (compEnvC scope cl C X.env) fp) elt f)
    (hsw : swapsWith (.ListComp elt [⟨tg, iter, ifs, 0⟩] scope pos) (some (.Name y py)) spos.line X.env = pure true)
    (hy : X.N[i]? = some y := by rfl) (hyl : X.env.scope.names.lookup y = some .local := by rfl) (hs : ∀ x, foldedSetIterable iter X.env x = pure x := by intro _; rfl) :
    SD X (.Assign [.Name y py] (.ListComp elt [⟨tg, iter, ifs, 0⟩] scope pos) spos) (sSet i (xFz (nLc it g c f vs))) ∧ SD X (.Assign [.Name y py] (.ListComp elt [⟨tg, iter, ifs, 0⟩] scope pos) spos) (sNew i (nLc it g c f vs)) := by
  subst hv
  obtain ⟨w, p, m⟩ := hi
  have q := ps_setLc (py := py) (g := gOf X.K g _) (tt := tOfT X.K c) (te := tOf X.K f) hc hN hy hyl hsw p ok (fun s H C cl fp => (hg s H C cl fp).pg) (fun s H C cl fp => (ht s H C cl fp).pts) (fun s H C cl fp => (he s H C cl fp).pe) hs
  exact ⟨⟨_, q, ms_asg (me_fz (mn_lc m mg_of mt_of me_of))⟩, ⟨_, q, ms_asgN (mn_lc m mg_of mt_of me_of)⟩⟩
end

def prX : List (XE × XE) → Nv → Option (List (Key × PyData) × Nv)
  | [], ρ => some ([], ρ)
  | (fk, fv) :: r, ρ => (fk ρ).bind fun p => (fv p.2).bind fun q => (keyD p.1).bind fun k => (prX r q.2).map fun s => ((k, q.1) :: s.1, s.2)
def mergeD : List (Key × PyData) → List (Key × PyData) → List (Key × PyData) := fun kvs more => more.foldl (fun acc kv => putD acc kv.1 kv.2) kvs
def nDisp (ps : List (XE × XE)) : XN := fun ρ => (prX ps ρ).bind fun p => if p.1.length ≤ 15 then some (.od (mergeD [] p.1), p.2) else none
/-- the pairs' readings meet the pairs' functions -/
inductive MPs (K : PySem.W.Frag) : List (TE × TE) → List (XE × XE) → Prop
  | nil : MPs K [] []
  | cons {tk tv : TE} {ts : List (TE × TE)} {fk fv : XE} {fs : List (XE × XE)} : ME K tk fk → ME K tv fv → MPs K ts fs → MPs K ((tk, tv) :: ts) ((fk, fv) :: fs)
theorem prs_meet {K : PySem.W.Frag} : ∀ {ts : List (TE × TE)} {fs : List (XE × XE)}, MPs K ts fs → ∀ (Φ : Fx) (Z : Hp) (σ : St) (H : Hp) (ρ : Nv) (kvs : List (Key × PyData)) (ρ' : Nv), Rl K Φ Z σ H ρ → prX fs ρ = some (kvs, ρ') →
    ∀ Q : List (V × V) → Hp → Prop, (∀ (vs : List (Key × V)) H' Z', Same Z Z' → Rl K Φ Z' σ H' ρ' → vs.map (·.1) = kvs.map (·.1) → RpA K Z' (vs.map (·.2)) (kvs.map (·.2)) → Q (vs.map fun kv => (kV kv.1, kv.2)) H') → tPairs ts σ H Q
  | _, _, .nil, Φ, Z, σ, H, ρ, kvs, ρ', R, q, Q, k => by
    cases q
    exact k [] H Z (Same.refl Z) R rfl .nil
  | _, _, .cons (fk := fk) (fv := fv) (fs := fs) mk mv r, Φ, Z, σ, H, ρ, kvs, ρ', R, q, Q, k => by
    unfold prX at q
    cases e1 : fk ρ with
    | none => rw [e1] at q; cases q
    | some p =>
      rw [e1, Option.bind_some] at q
      cases e2 : fv p.2 with
      | none => rw [e2] at q; cases q
      | some s =>
        rw [e2, Option.bind_some] at q
        cases e3 : keyD p.1 with
        | none => rw [e3] at q; cases q
        | some kk =>
          rw [e3, Option.bind_some] at q
          cases e4 : prX fs s.2 with
          | none => rw [e4] at q; cases q
          | some w =>
            rw [e4] at q
            cases q
            refine mk Φ Z σ H ρ p.1 p.2 R e1 _ fun x H1 Z1 z1 R1 r1 => ?_
            refine mv Φ Z1 σ H1 p.2 s.1 s.2 R1 e2 _ fun y H2 Z2 z2 R2 r2 => ?_
            refine prs_meet r Φ Z2 σ H2 s.2 w.1 w.2 R2 e4 _ fun vs H3 Z3 z3 R3 q1 q2 => ?_
            rw [keyD_rp r1 e3]
            refine k ((kk, y) :: vs) H3 Z3 ((z1.trans z2).trans z3) R3 ?_ (.cons (r2.mono z3) q2)
            rw [List.map_cons, List.map_cons, q1]
theorem merge_rp {K : PySem.W.Frag} {Z : Hp} : ∀ {vs : List (Key × V)} {kvs : List (Key × PyData)} {us : List (Key × V)} {ws : List (Key × PyData)}, vs.map (·.1) = kvs.map (·.1) → RpA K Z (vs.map (·.2)) (kvs.map (·.2)) → us.map (·.1) = ws.map (·.1) → RpA K Z (us.map (·.2)) (ws.map (·.2)) →
    (mergeK us vs).map (·.1) = (mergeD ws kvs).map (·.1) ∧ RpA K Z ((mergeK us vs).map (·.2)) ((mergeD ws kvs).map (·.2))
  | [], [], us, ws, _, _, e, r => ⟨e, r⟩
  | [], _ :: _, _, _, e, _, _, _ => by cases e
  | _ :: _, [], _, _, e, _, _, _ => by cases e
  | (a, v) :: vs, (b, d) :: kvs, us, ws, e, r, e', r' => by
    rw [List.map_cons, List.map_cons] at e
    injection e with e1 e2
    have e1 : a = b := e1
    subst e1
    rw [List.map_cons, List.map_cons] at r
    cases r with
    | cons r1 r2 =>
      obtain ⟨w1, w2⟩ := put_rp (k := a) r1 e' r'
      exact merge_rp (us := putK us a v) (ws := putD ws a d) e2 r2 w1 w2
def PsD (X : Cx) (pos : Pos) (keys : List (Option Expr)) (values : List Expr) (fs : List (XE × XE)) : Prop := ∃ ts, PPs X pos keys values ts ∧ MPs X.K ts fs
section
variable {X : Cx} {pos : Pos} {k v : Expr} {ks : List (Option Expr)} {vs : List Expr} {fk fv : XE} {fs : List (XE × XE)}
theorem psd_nil : PsD X pos [] [] [] := ⟨_, pps_nil, .nil⟩
theorem psd_cons (hk : ED X k fk) (hv : ED X v fv) (hr : PsD X pos ks vs fs) : PsD X pos (some k :: ks) (v :: vs) ((fk, fv) :: fs) := by
  obtain ⟨t, p, m⟩ := hk
  obtain ⟨t2, p2, m2⟩ := hv
  obtain ⟨ts, ps, ms⟩ := hr
  exact ⟨_, pps_cons p p2 ps, .cons m m2 ms⟩
theorem nd_disp (h : PsD X pos ks vs fs) (hall : ks.all (·.isSome) = true := by rfl) (hl : ks.length = vs.length := by rfl) (h0 : ks ≠ [] := by intro z; cases z) (h15 : ks.length ≤ 15 := by decide) : ND X (.Dict ks vs pos) (nDisp fs) := by
  obtain ⟨ts, ps, ms⟩ := h
  refine ⟨_, pe_disp ps hall hl h0 h15, fun Φ Z σ H ρ o ρ' R q Q k => ?_⟩
  unfold nDisp at q
  cases e1 : prX fs ρ with
  | none => rw [e1] at q; cases q
  | some w =>
    rw [e1, Option.bind_some] at q
    split at q
    · rename_i hlen
      cases q
      intro D hD
      have frD : Φ.Fr D = none := R.fr.free hD
      have f0D : Φ.F0 D = none := R.f0 D (R.dom D hD)
      have start : Rl X.K (Φ.keep D (.dK [])) Z σ (upd H D (.dK [])) ρ := by
        have R2 := R.laid (o := .dK []) hD
        refine R2.keep upd_same (R.zH.free hD) (fun i hi => ?_) fun a u e => ne_of_none (R.zH a u e) hD
        obtain ⟨u, hu, _⟩ := R.at_some hi
        rw [hD] at hu
        cases hu
      refine prs_meet ms _ Z σ _ ρ w.1 w.2 start e1 _ fun us H1 Z1 z1 R1 q1 q2 => ?_
      have zD : Z1 D = none := by
        cases hz : Z1 D with
        | none => rfl
        | some u =>
          rcases R1.zN D u hz (fun xs e => by have h1 := R1.zH D u hz; have h2 := R1.fr D (.dK []) upd_same; rw [h1] at h2; cases h2; cases e) with h | ⟨_, h⟩
          · rw [show (Φ.keep D (.dK [])).F0 D = Φ.F0 D from rfl, f0D] at h
            cases h
          · have h : upd Φ.Fr D (.dK []) D = none := h
            rw [upd_same] at h
            cases h
      obtain ⟨_, hDl, _⟩ := R1.unkeep frD
      refine ⟨hDl, us, rfl, by rw [len_keys q1]; exact hlen, ?_⟩
      obtain ⟨R3, hD3, hn⟩ := (R1.rekeep (u := .dK (mergeK [] us)) frD zD).unkeep frD
      obtain ⟨w1, w2⟩ := merge_rp (us := []) (ws := []) q1 q2 rfl .nil
      exact k D _ Z1 z1 R3 ⟨⟨_, hD3, w1, w2⟩, zD, frD, R.dom D hD, hn⟩
    · cases q
end
end DL
set_option maxRecDepth 100000
set_option maxHeartbeats 2000000
namespace DL
open PySem PySem.Spec PyProof.Rows L2

/-- what a def makes of what its parameters hold: the answer, and what the lent objects are then -/
inductive Rv where
  | d (x : PyData)
  | n (o : OD)
abbrev XF := List EV → Option (Rv × List EV)
/-- the answer: a datum, or a new object that nobody holds -/
def RvOk (K : PySem.W.Frag) (Φ : Fx) (Z : Hp) (σ : L2.St) (H : Hp) (ρ : Nv) (v : V) : Rv → Prop
  | .d x => Rp K Z v x
  | .n o => ∃ a, v = .ref a ∧ New K Φ Z σ H ρ a o
/-- the promise that belongs to such a function -/
def spF (K : PySem.W.Frag) (m : XF) (vs : List V) (H : Hp) (Q : VK) : Prop := ∃ (Z Fr : Hp) (ino : Nat → Option Addr) (ρ : Nv) (d : Rv) (ρ' : Nv), m ρ = some (d, ρ') ∧ (∀ (i : Nat) o, ρ[i]? ≠ some (EV.own o false)) ∧ Rl K ⟨Z, H, Fr, ino⟩ Z (vs.map some) H ρ ∧
  ∀ v H' Z', Same Z Z' → Rl K ⟨Z, H, Fr, ino⟩ Z' (vs.map some) H' ρ' → RvOk K ⟨Z, H, Fr, ino⟩ Z' (vs.map some) H' ρ' v d → Q v H'
/-- the def at f keeps it, where no repr is under way -/
structure FnG (P : Program) (w : World) (K : PySem.W.Frag) (mg : Str → Option Value) (base : Heap) (k : Nat) (f : Addr) (fd : FuncData) (ps : List Str) (m : XF) : Prop where
  run : ∀ (A : Around) (outer : List Env) (s : Shared) (H : Hp) (args : Args) (us : List Value) (vs : List V) (Q : VK), Room k A → A.guards = some [] → Env0 P w K mg base A outer s H → BindsTo s fd args (ps.zip us) → Vals vs us →
    vs.length = ps.length → spF K m vs H Q → codeAny (model P w) A (.call (.ref f) args) (CR CX0 outer P w H s Q E0) s
theorem FnG.mono {P : Program} {w : World} {K : PySem.W.Frag} {mg : Str → Option Value} {base : Heap} {j k : Nat} {f : Addr} {fd : FuncData} {ps : List Str} {m : XF} (F : FnG P w K mg base j f fd ps m) (h : j ≤ k) : FnG P w K mg base k f fd ps m :=
  ⟨fun A outer s H args us vs Q hr => F.run A outer s H args us vs Q (hr.mono h)⟩
/-- a function that is defined at fewer places -/
theorem FnG.sub {P : Program} {w : World} {K : PySem.W.Frag} {mg : Str → Option Value} {base : Heap} {k : Nat} {f : Addr} {fd : FuncData} {ps : List Str} {m m' : XF} (F : FnG P w K mg base k f fd ps m) (h : ∀ ρ r, m' ρ = some r → m ρ = some r) : FnG P w K mg base k f fd ps m' :=
  ⟨fun A outer s H args us vs Q hr hg he hb hv hl ⟨Z, Fr, ino, ρ, d, ρ', e, io, R, q⟩ => F.run A outer s H args us vs Q hr hg he hb hv hl ⟨Z, Fr, ino, ρ, d, ρ', h _ _ e, io, R, q⟩⟩

def finA : List EV → List EV → List EV
  | [], _ => []
  | .own o b :: es, e :: ρ => (match e with | .own o' b' => .own o' b' | _ => .own o b) :: finA es ρ
  | e :: es, _ :: ρ => e :: finA es ρ
  | e :: es, [] => e :: es
def runF (n : Nat) (body : XS) : XF := fun es => match body (es ++ List.replicate (n - es.length) .un) with
  | some (.rt d ρ) => some (.d d, finA es ρ)
  | some (.rn o ρ) => some (.n o, finA es ρ)
  | some (.nx ρ) => some (.d .none, finA es ρ)
  | _ => none
theorem finA_length : ∀ es ρ : List EV, (finA es ρ).length = es.length
  | [], _ => rfl
  | e :: es, [] => by cases e <;> rfl
  | e :: es, r :: ρ => by cases e <;> simp [finA, finA_length es ρ]
theorem finA_other : ∀ {es ρ : List EV} {i : Nat} {e : EV}, es[i]? = some e → (∀ o b, e ≠ .own o b) → (finA es ρ)[i]? = some e
  | [], _, _, _, h, _ => by simp at h
  | x :: es, [], i, e, h, hn => by cases x <;> exact h
  | x :: es, r :: ρ, 0, e, h, hn => by
    simp at h
    subst h
    cases x with
    | own o b => exact absurd rfl (hn o b)
    | _ => rfl
  | x :: es, r :: ρ, i + 1, e, h, hn => by
    have h' : es[i]? = some e := by simpa using h
    have ih := finA_other (ρ := ρ) h' hn
    cases x <;> simpa [finA] using ih
theorem finA_own : ∀ {es ρ : List EV} {i : Nat} {o o' : OD} {b b' : Bool}, es[i]? = some (.own o b) → ρ[i]? = some (.own o' b') → (finA es ρ)[i]? = some (.own o' b')
  | [], _, _, _, _, _, _, h, _ => by simp at h
  | x :: es, [], i, _, _, _, _, h, h2 => by simp at h2
  | x :: es, r :: ρ, 0, o, o', b, b', h, h2 => by
    simp at h h2
    subst h h2
    rfl
  | x :: es, r :: ρ, i + 1, o, o', b, b', h, h2 => by
    have ih := finA_own (es := es) (ρ := ρ) (i := i) (by simpa using h) (by simpa using h2)
    cases x <;> simpa [finA] using ih
/-- at a def's end: its parameters as they came, the lent objects as they are -/
theorem fin_rl {K : PySem.W.Frag} {Φ : Fx} {Z Z' : Hp} {vs : List V} {σ : L2.St} {H H' : Hp} {es ρ : Nv} (R0 : Rl K Φ Z (vs.map some) H es) (hio : ∀ (i : Nat) o, es[i]? ≠ some (EV.own o false)) (z : Same Z Z') (R : Rl K Φ Z' σ H' ρ) : Rl K Φ Z' (vs.map some) H' (finA es ρ) ∧ ∀ i a, AtS (finA es ρ) (vs.map some) i a → AtS ρ σ i a := by
  -- a lent object's slot
  have lent : ∀ (i : Nat) o b, es[i]? = some (EV.own o b) → ∃ a o', Φ.ino i = some a ∧ (vs.map some)[i]? = some (some (V.ref a)) ∧ σ[i]? = some (some (V.ref a)) ∧ ρ[i]? = some (EV.own o' true) := fun i o b e => by
    cases b with
    | false => exact absurd e (hio i o)
    | true =>
      obtain ⟨a, ha⟩ := R0.io i o e
      obtain ⟨s1, _⟩ := R0.ino i a ha
      obtain ⟨s2, o', e2⟩ := R.ino i a ha
      exact ⟨a, o', ha, s1, s2, e2⟩
  have own_of : ∀ (i : Nat) o b, (finA es ρ)[i]? = some (EV.own o b) → ∃ o0 b0, es[i]? = some (EV.own o0 b0) := fun i o b e => by
    cases he : es[i]? with
    | none =>
      have hl := List.getElem?_eq_none_iff.mp he
      rw [List.getElem?_eq_none (by rw [finA_length]; exact hl)] at e
      cases e
    | some x =>
      cases x with
      | own o0 b0 => exact ⟨o0, b0, rfl⟩
      | un => rw [finA_other he (fun _ _ q => nomatch q)] at e; cases e
      | d x => rw [finA_other he (fun _ _ q => nomatch q)] at e; cases e
      | scr ns => rw [finA_other he (fun _ _ q => nomatch q)] at e; cases e
  have own_is : ∀ (i : Nat) o b, (finA es ρ)[i]? = some (EV.own o b) → ∃ a, Φ.ino i = some a ∧ (vs.map some)[i]? = some (some (V.ref a)) ∧ σ[i]? = some (some (V.ref a)) ∧ ρ[i]? = some (EV.own o true) ∧ b = true := fun i o b e => by
    obtain ⟨o0, b0, e0⟩ := own_of i o b e
    obtain ⟨a, o', h1, h2, h3, h4⟩ := lent i o0 b0 e0
    rw [finA_own e0 h4] at e
    cases e
    exact ⟨a, h1, h2, h3, h4, rfl⟩
  have at_ : ∀ i a, AtS (finA es ρ) (vs.map some) i a → AtS ρ σ i a := by
    rintro i a ⟨⟨o, b, e⟩, s⟩
    obtain ⟨a', h1, h2, h3, h4, _⟩ := own_is i o b e
    rw [s] at h2
    cases h2
    exact ⟨⟨o, true, h4⟩, h3⟩
  refine ⟨⟨by rw [finA_length]; exact R0.len, R.zH, R.zN, R.f0, R.fr, R.dom, fun i j a h1 h2 => R.inj i j a (at_ i a h1) (at_ j a h2), fun i a h => R.sep i a (at_ i a h), ?_, ?_, ?_, ?_, ?_, ?_⟩, at_⟩
  · intro i x e
    cases he : es[i]? with
    | none =>
      have hl := List.getElem?_eq_none_iff.mp he
      rw [List.getElem?_eq_none (by rw [finA_length]; exact hl)] at e
      cases e
    | some y =>
      cases y with
      | own o b =>
        obtain ⟨a, o', _, _, _, h4⟩ := lent i o b he
        rw [finA_own he h4] at e
        cases e
      | un => rw [finA_other he (fun _ _ q => nomatch q)] at e; cases e
      | scr ns => rw [finA_other he (fun _ _ q => nomatch q)] at e; cases e
      | d y =>
        rw [finA_other he (fun _ _ q => nomatch q)] at e
        cases e
        obtain ⟨v, s, r⟩ := R0.dat i _ he
        exact ⟨v, s, r.mono z⟩
  · intro i ns e
    cases he : es[i]? with
    | none =>
      have hl := List.getElem?_eq_none_iff.mp he
      rw [List.getElem?_eq_none (by rw [finA_length]; exact hl)] at e
      cases e
    | some y =>
      cases y with
      | own o b =>
        obtain ⟨a, o', _, _, _, h4⟩ := lent i o b he
        rw [finA_own he h4] at e
        cases e
      | un => rw [finA_other he (fun _ _ q => nomatch q)] at e; cases e
      | d y => rw [finA_other he (fun _ _ q => nomatch q)] at e; cases e
      | scr ns =>
        rw [finA_other he (fun _ _ q => nomatch q)] at e
        cases e
        obtain ⟨a, s, r⟩ := R0.scr i _ he
        exact ⟨a, s, r.mono z⟩
  · intro i o b e
    obtain ⟨a, h1, h2, h3, h4, _⟩ := own_is i o b e
    obtain ⟨a', s, ob⟩ := R.own i o true h4
    rw [h3] at s
    cases s
    exact ⟨a, h2, ob⟩
  · intro i o a e s
    obtain ⟨_, _, _, _, _, hb⟩ := own_is i o false e
    cases hb
  · intro i a e
    obtain ⟨s, o, eo⟩ := R0.ino i a e
    obtain ⟨s2, o', e2⟩ := R.ino i a e
    exact ⟨s, o', finA_own eo e2⟩
  · intro i o e
    obtain ⟨a, h1, _⟩ := own_is i o true e
    exact ⟨a, h1⟩
/-- at a def's start -/
theorem start_rl {K : PySem.W.Frag} {Φ : Fx} {Z : Hp} {N : List Str} {vs : List V} {H : Hp} {es : Nv} (R : Rl K Φ Z (vs.map some) H es) (hl : vs.length ≤ N.length) : Rl K Φ Z (L2.start N vs) H (es ++ List.replicate (N.length - es.length) .un) := by
  have le : es.length = vs.length := by have := R.len; simpa using this
  have get_ : ∀ (i : Nat) e, (es ++ List.replicate (N.length - es.length) EV.un)[i]? = some e → e ≠ .un → es[i]? = some e := fun i e h hn => by
    by_cases hi : i < es.length
    · rwa [List.getElem?_append_left hi] at h
    · rw [List.getElem?_append_right (by omega), List.getElem?_replicate] at h
      split at h
      · cases h; exact absurd rfl hn
      · cases h
  have st : ∀ i, i < vs.length → (L2.start N vs)[i]? = (vs.map some)[i]? := fun i hi => by
    unfold L2.start
    rw [List.getElem?_append_left (by simpa using hi)]
  have lt_of : ∀ (i : Nat) e, es[i]? = some e → i < vs.length := fun i e h => le ▸ (List.getElem?_eq_some_iff.mp h).1
  have at_ : ∀ i a, AtS (es ++ List.replicate (N.length - es.length) .un) (L2.start N vs) i a → AtS es (vs.map some) i a := by
    rintro i a ⟨⟨o, io, e⟩, s⟩
    have e' := get_ i _ e (fun q => nomatch q)
    exact ⟨⟨o, io, e'⟩, by rw [← st i (lt_of i _ e')]; exact s⟩
  refine ⟨by simp [L2.start]; omega, R.zH, R.zN, R.f0, R.fr, R.dom, fun i j a h1 h2 => R.inj i j a (at_ i a h1) (at_ j a h2), fun i a h => R.sep i a (at_ i a h), ?_, ?_, ?_, ?_, ?_, ?_⟩
  · intro i x e
    have e' := get_ i _ e (fun q => nomatch q)
    rw [st i (lt_of i _ e')]
    exact R.dat i x e'
  · intro i x e
    have e' := get_ i _ e (fun q => nomatch q)
    rw [st i (lt_of i _ e')]
    exact R.scr i x e'
  · intro i o io e
    have e' := get_ i _ e (fun q => nomatch q)
    rw [st i (lt_of i _ e')]
    exact R.own i o io e'
  · intro i o a e s
    have e' := get_ i _ e (fun q => nomatch q)
    rw [st i (lt_of i _ e')] at s
    exact R.loc i o a e' s
  · intro i a e
    obtain ⟨s, o, eo⟩ := R.ino i a e
    have hi := lt_of i _ eo
    rw [st i hi]
    exact ⟨s, o, by rw [List.getElem?_append_left (le ▸ hi)]; exact eo⟩
  · intro i o e
    exact R.io i o (get_ i _ e (fun q => nomatch q))
section
variable {P : Program} {w : World} {K : PySem.W.Frag} {mg : Str → Option Value} {base : Heap}
/-- THE RULE for a def -/
theorem fn_body {x qual : Str} {st : Stmt} {f : Addr} {fd : FuncData} {N ps : List Str} {k : Nat} {body : XS} (F : Fun K x qual st f fd) (S : FnScope N ps (defScope st))
    (hb : ∀ (cdv : Value) (A : Around) (outer : List Env) (s : Shared) (H : Hp), Room k (A.deeper (envOfC qual (defScope st) s.heap.objs.size f cdv)) → A.guards = some [] →
      SSD (cxOf CX0 P w K mg base N qual (defScope st) f cdv A outer s H E0).nox (defBody st) body) : FnG P w K mg base (k + 1) f fd ps (runF N.length body) := by
  obtain ⟨oc, od, kV, doc, pm, an, cdv, ct, osl, rfl, lk, hcd⟩ := F.ex
  refine ⟨fun A outer s H args us vs Q room hG e0 bnd rv hl hsp => ?_⟩
  obtain ⟨Z, Fr, ino, es, d, ρ', hm, hio', R0, hQ⟩ := hsp
  have kin : K.In s.heap := e0.mod.kin.keeps fun b o q => (e0.bs b o q).1
  have nolim : s.heap.NoLimit := e0.mod.nolimit.keeps fun b o q => (e0.bs b o q).1
  have nv : N.length ≥ vs.length := by
    have h1 := congrArg List.length S.pre
    rw [List.length_take] at h1
    omega
  have kinds : ∀ y ∈ ps.zip us, (defScope st).names.lookup y.1 = some .local ∨ ((defScope st).names.lookup y.1 = some .cell ∧ ((cellsFrom (s.heap.objs.size + 1) (defScope st).names []).lookup y.1).isSome = true) := by
    rintro ⟨n, v⟩ hy
    cases S.par n (List.of_mem_zip hy).1 with
    | inl q => exact .inl q
    | inr q => exact .inr ⟨q, PySem.W.cellsFrom_some _ _ _ (.inl q)⟩
  obtain ⟨t, pt, mt⟩ := hb cdv A outer s H (room.deeper _) hG
  have fin : ∀ {σ' : L2.St} {H' : Hp} {v : V} {u : Value} {s' : Shared}, L2.Inv (cxOf CX0 P w K mg base N qual (defScope st) f cdv A outer s H E0) [] σ' H' s' → RelV v u → Q v H' → CE outer P w H s Q u s' :=
    fun {σ' H' v u s'} J ru q => ⟨v, H', J.os, J.bare, J.base, J.hok, ru, q⟩
  have want : t { nx := fun _ H' => Q .non H', rt := Q } (L2.start N vs) H := by
    unfold runF at hm
    cases eb : body (es ++ List.replicate (N.length - es.length) .un) with
    | none => rw [eb] at hm; cases hm
    | some fl =>
      rw [eb] at hm
      refine mt _ Z _ H _ fl (start_rl R0 nv) eb _ ?_
      cases fl with
      | rt d1 ρ1 =>
        cases hm
        exact fun v σ' H' Z' z R r => hQ v H' Z' z (fin_rl R0 hio' z R).1 r
      | rn o1 ρ1 =>
        cases hm
        exact fun a σ' H' Z' z R r => hQ _ H' Z' z (fin_rl R0 hio' z R).1 ⟨a, rfl, r.ob, r.z, r.fr, r.h0, fun i q => r.no i ((fin_rl R0 hio' z R).2 i a q)⟩
      | nx ρ1 =>
        cases hm
        exact fun σ' H' Z' z R => hQ .non H' Z' z (fin_rl R0 hio' z R).1 .non
      | bk ρ1 => cases hm
      | ct ρ1 => cases hm
  refine codeAny_call_function room.depth (kin _ _ lk) rfl S.co S.gen rfl (PySem.W.codeRec_of kin hcd) (bnd _ _ _ _ ?_)
  refine wpAny_newFunctionEnv_cells S.kind kinds fun env he s1 xin => ?_
  subst he
  refine ⟨nolim.keeps xin.toInCall.keep, codeAny_func ?_⟩
  have I : L2.Inv (cxOf CX0 P w K mg base N qual (defScope st) f cdv A outer s H E0) [] (L2.start N vs) H s1 := inv_start S room.hd e0 hl rv xin
  refine wpAny_mono (pt.nox.run [] s1 (L2.start N vs) H _ I want) (fun fl s' hs => ?_) fun _ _ q => q
  match fl, hs with
  | .ret u, ⟨v, σ', H', J, ru, q⟩ => exact fin J ru q
  | .next, ⟨σ', H', J, q⟩ => exact fin (v := V.non) (u := Value.none) J rfl q
  | .brk, ⟨_, _, _, q⟩ => exact q.elim
  | .cont, ⟨_, _, _, q⟩ => exact q.elim
end

def slotsOf : List AV → List Nat
  | [] => []
  | .v _ :: as => slotsOf as
  | .s i :: as => i :: slotsOf as
def entN : List AV → Nv → Option (List EV)
  | [], _ => some []
  | .v d :: as, ρ => (entN as ρ).map (.d d :: ·)
  | .s i :: as, ρ => match ρ[i]? with
    | some (.own o _) => (entN as ρ).map (.own o true :: ·)
    | some (.scr ns) => (entN as ρ).map (.scr ns :: ·)
    | _ => none
def back : List AV → List EV → Nv → Option Nv
  | [], _, ρ => some ρ
  | .v _ :: as, _ :: es, ρ => back as es ρ
  | .s i :: as, e :: es, ρ => match ρ[i]?, e with
    | some (.own _ io), .own o _ => back as es (ρ.set i (.own o io))
    | some (.scr _), .scr _ => back as es ρ
    | _, _ => none
  | _, _, _ => none
def gCall (m : XF) (r : XA) : Nv → Option (Rv × Nv) := fun ρ => (r ρ).bind fun p => if (slotsOf p.1).Nodup then (entN p.1 p.2).bind fun es => (m es).bind fun q => (back p.1 q.2 p.2).map fun ρ' => (q.1, ρ') else none
def xCall (m : XF) (r : XA) : XE := fun ρ => (gCall m r ρ).bind fun p => match p.1 with
  | .d x => some (x, p.2)
  | .n _ => none
def nCall (m : XF) (r : XA) : XN := fun ρ => (gCall m r ρ).bind fun p => match p.1 with
  | .n o => some (o, p.2)
  | .d _ => none
theorem ent_get : ∀ {as : List AV} {ρ : Nv} {es : List EV}, entN as ρ = some es → ∀ {j : Nat} {e : EV}, es[j]? = some e →
    (∃ d, as[j]? = some (.v d) ∧ e = .d d) ∨ (∃ i, as[j]? = some (.s i) ∧ ((∃ o io, ρ[i]? = some (EV.own o io) ∧ e = .own o true) ∨ ∃ ns, ρ[i]? = some (EV.scr ns) ∧ e = .scr ns))
  | [], _, _, h, j, e, he => by cases h; simp at he
  | .v d :: as, ρ, es, h, j, e, he => by
    unfold entN at h
    cases h2 : entN as ρ with
    | none => rw [h2] at h; cases h
    | some l =>
      rw [h2] at h
      cases h
      cases j with
      | zero => simp at he; subst he; exact .inl ⟨d, rfl, rfl⟩
      | succ j => simpa using ent_get h2 (j := j) (e := e) (by simpa using he)
  | .s i :: as, ρ, es, h, j, e, he => by
    unfold entN at h
    split at h
    · rename_i o io ho
      cases h2 : entN as ρ with
      | none => rw [h2] at h; cases h
      | some l =>
        rw [h2] at h
        cases h
        cases j with
        | zero => simp at he; subst he; exact .inr ⟨i, rfl, .inl ⟨o, io, ho, rfl⟩⟩
        | succ j => simpa using ent_get h2 (j := j) (e := e) (by simpa using he)
    · rename_i ns hn
      cases h2 : entN as ρ with
      | none => rw [h2] at h; cases h
      | some l =>
        rw [h2] at h
        cases h
        cases j with
        | zero => simp at he; subst he; exact .inr ⟨i, rfl, .inr ⟨ns, hn, rfl⟩⟩
        | succ j => simpa using ent_get h2 (j := j) (e := e) (by simpa using he)
    · cases h
theorem ent_len : ∀ {as : List AV} {ρ : Nv} {es : List EV}, entN as ρ = some es → es.length = as.length
  | [], _, _, h => by cases h; rfl
  | .v d :: as, ρ, es, h => by
    unfold entN at h
    cases h2 : entN as ρ with
    | none => rw [h2] at h; cases h
    | some l => rw [h2] at h; cases h; simp [ent_len h2]
  | .s i :: as, ρ, es, h => by
    unfold entN at h
    split at h
    · cases h2 : entN as ρ with
      | none => rw [h2] at h; cases h
      | some l => rw [h2] at h; cases h; simp [ent_len h2]
    · cases h2 : entN as ρ with
      | none => rw [h2] at h; cases h
      | some l => rw [h2] at h; cases h; simp [ent_len h2]
    · cases h
theorem ava_get {K : PySem.W.Frag} {Z : Hp} {σ : L2.St} : ∀ {vs : List V} {as : List AV}, AvA K Z σ vs as → ∀ {j : Nat}, (∀ d, as[j]? = some (.v d) → ∃ v, vs[j]? = some v ∧ Rp K Z v d) ∧ (∀ i, as[j]? = some (.s i) → ∃ v, vs[j]? = some v ∧ σ[i]? = some (some v))
  | _, _, .nil, j => ⟨fun d h => (by simp at h), fun i h => (by simp at h)⟩
  | _, _, .v r t, 0 => ⟨fun d h => (by simp at h; subst h; exact ⟨_, rfl, r⟩), fun i h => (by simp at h)⟩
  | _, _, .s r t, 0 => ⟨fun d h => (by simp at h), fun i h => (by simp at h; subst h; exact ⟨_, rfl, r⟩)⟩
  | _, _, .v r t, j + 1 => by simpa using ava_get t (j := j)
  | _, _, .s r t, j + 1 => by simpa using ava_get t (j := j)
theorem ava_len {K : PySem.W.Frag} {Z : Hp} {σ : L2.St} : ∀ {vs : List V} {as : List AV}, AvA K Z σ vs as → vs.length = as.length
  | _, _, .nil => rfl
  | _, _, .v _ t => congrArg (· + 1) (ava_len t)
  | _, _, .s _ t => congrArg (· + 1) (ava_len t)
theorem mem_slots : ∀ {as : List AV} {j i : Nat}, as[j]? = some (.s i) → i ∈ slotsOf as
  | [], _, _, h => by simp at h
  | .v _ :: as, 0, _, h => by simp at h
  | .s k :: as, 0, i, h => by simp at h; subst h; exact List.mem_cons_self
  | .v _ :: as, j + 1, i, h => mem_slots (as := as) (j := j) (by simpa using h)
  | .s k :: as, j + 1, i, h => List.mem_cons_of_mem _ (mem_slots (as := as) (j := j) (by simpa using h))
theorem slots_mem : ∀ {as : List AV} {i : Nat}, i ∈ slotsOf as → ∃ j : Nat, as[j]? = some (AV.s i)
  | .v _ :: as, i, h => by obtain ⟨j, hj⟩ := slots_mem (as := as) h; exact ⟨j + 1, by simpa using hj⟩
  | .s k :: as, i, h => by
    rcases List.mem_cons.mp h with rfl | h
    · exact ⟨0, rfl⟩
    · obtain ⟨j, hj⟩ := slots_mem (as := as) h; exact ⟨j + 1, by simpa using hj⟩
theorem slots_inj : ∀ {as : List AV}, (slotsOf as).Nodup → ∀ {j j' i : Nat}, as[j]? = some (.s i) → as[j']? = some (.s i) → j = j'
  | [], _, _, _, _, h, _ => by simp at h
  | .v _ :: as, n, 0, _, i, h, _ => by simp at h
  | .v _ :: as, n, _, 0, i, _, h => by simp at h
  | .v _ :: as, n, j + 1, j' + 1, i, h, h' => congrArg (· + 1) (slots_inj (as := as) n (by simpa using h) (by simpa using h'))
  | .s k :: as, n, 0, 0, i, h, h' => rfl
  | .s k :: as, n, 0, j' + 1, i, h, h' => by
    simp at h
    subst h
    exact absurd (mem_slots (as := as) (j := j') (by simpa using h')) (List.nodup_cons.mp n).1
  | .s k :: as, n, j + 1, 0, i, h, h' => by
    simp at h'
    subst h'
    exact absurd (mem_slots (as := as) (j := j) (by simpa using h)) (List.nodup_cons.mp n).1
  | .s k :: as, n, j + 1, j' + 1, i, h, h' => congrArg (· + 1) (slots_inj (as := as) (List.nodup_cons.mp n).2 (by simpa using h) (by simpa using h'))
theorem back_len : ∀ {as : List AV} {es : List EV} {ρ ρ' : Nv}, back as es ρ = some ρ' → ρ'.length = ρ.length
  | [], _, _, _, h => by cases h; rfl
  | .v _ :: as, _ :: es, ρ, ρ', h => back_len (as := as) h
  | .s i :: as, e :: es, ρ, ρ', h => by
    unfold back at h
    split at h
    · have := back_len h; simpa using this
    · exact back_len h
    · cases h
  | .v _ :: _, [], _, _, h => by cases h
  | .s _ :: _, [], _, _, h => by cases h
theorem back_other : ∀ {as : List AV} {es : List EV} {ρ ρ' : Nv}, back as es ρ = some ρ' → ∀ {i : Nat}, i ∉ slotsOf as → ρ'[i]? = ρ[i]?
  | [], _, _, _, h, i, _ => by cases h; rfl
  | .v _ :: as, _ :: es, ρ, ρ', h, i, hi => back_other (as := as) h hi
  | .s k :: as, e :: es, ρ, ρ', h, i, hi => by
    have hi' : i ∉ k :: slotsOf as := hi
    rw [List.mem_cons, not_or] at hi'
    unfold back at h
    split at h
    · rw [back_other h hi'.2, List.getElem?_set_ne (Ne.symm hi'.1)]
    · exact back_other h hi'.2
    · cases h
  | .v _ :: _, [], _, _, h, _, _ => by cases h
  | .s _ :: _, [], _, _, h, _, _ => by cases h
theorem back_at : ∀ {as : List AV} {es : List EV} {ρ ρ' : Nv}, back as es ρ = some ρ' → (slotsOf as).Nodup → ∀ {j i : Nat}, as[j]? = some (.s i) →
    (∃ o io o' io', ρ[i]? = some (EV.own o io) ∧ es[j]? = some (.own o' io') ∧ ρ'[i]? = some (EV.own o' io)) ∨ (∃ ns ns', ρ[i]? = some (EV.scr ns) ∧ es[j]? = some (.scr ns') ∧ ρ'[i]? = some (EV.scr ns))
  | [], _, _, _, _, _, _, _, h => by simp at h
  | .v _ :: as, e :: es, ρ, ρ', h, n, 0, i, hj => by simp at hj
  | .v _ :: as, e :: es, ρ, ρ', h, n, j + 1, i, hj => by simpa using back_at (as := as) (es := es) h n (j := j) (by simpa using hj)
  | .s k :: as, e :: es, ρ, ρ', h, n, 0, i, hj => by
    simp at hj
    subst hj
    unfold back at h
    have nk := (List.nodup_cons.mp n).1
    split at h
    · rename_i o io o' io' e1
      refine .inl ⟨o, io, o', io', e1, rfl, ?_⟩
      rw [back_other h nk, List.getElem?_set_self (List.getElem?_eq_some_iff.mp e1).1]
    · rename_i ns ns' e1
      refine .inr ⟨ns, ns', e1, rfl, ?_⟩
      rw [back_other h nk, e1]
    · cases h
  | .s k :: as, e :: es, ρ, ρ', h, n, j + 1, i, hj => by
    have hj' : as[j]? = some (.s i) := by simpa using hj
    have nk := List.nodup_cons.mp n
    have hne : k ≠ i := fun q => nk.1 (q ▸ mem_slots hj')
    unfold back at h
    split at h
    · have ih := back_at h nk.2 hj'
      rw [List.getElem?_set_ne hne] at ih
      simpa using ih
    · simpa using back_at h nk.2 hj'
    · cases h
  | .v _ :: _, [], _, _, h, _, _, _, _ => by cases h
  | .s _ :: _, [], _, _, h, _, _, _, _ => by cases h
/-- the argument's address, if it is lent -/
def inoOf (ρ : Nv) (σ : L2.St) (as : List AV) (j : Nat) : Option Addr := match as[j]? with
  | some (.s i) => match ρ[i]?, σ[i]? with
    | some (.own _ _), some (some (.ref a)) => some a
    | _, _ => none
  | _ => none
theorem inoOf_is {ρ : Nv} {σ : L2.St} {as : List AV} {j : Nat} {a : Addr} (h : inoOf ρ σ as j = some a) : ∃ i, as[j]? = some (.s i) ∧ AtS ρ σ i a := by
  unfold inoOf at h
  split at h
  · rename_i i e
    split at h
    · rename_i o io b e1 e2
      cases h
      exact ⟨i, e, ⟨o, io, e1⟩, e2⟩
    · cases h
  · cases h
theorem inoOf_of {ρ : Nv} {σ : L2.St} {as : List AV} {i j : Nat} {a : Addr} (h : as[j]? = some (.s i)) (q : AtS ρ σ i a) : inoOf ρ σ as j = some a := by
  obtain ⟨⟨o, io, e1⟩, e2⟩ := q
  unfold inoOf
  rw [h]
  simp only [e1, e2]
open Classical in
/-- what must stay through a call: all but the lent objects -/
noncomputable def frOf (H : Hp) (ρ : Nv) (σ : L2.St) (as : List AV) : Hp := fun b => if ∃ j, inoOf ρ σ as j = some b then none else H b
section
variable {K : PySem.W.Frag} {Φ : Fx} {Z : Hp} {σ : L2.St} {H : Hp} {ρ : Nv} {vs : List V} {as : List AV} {es : List EV}
theorem ent_io (he : entN as ρ = some es) (i : Nat) (o : OD) : es[i]? ≠ some (EV.own o false) := fun h => by
  rcases ent_get he h with ⟨d, _, q⟩ | ⟨k, _, ⟨_, _, _, q⟩ | ⟨_, _, q⟩⟩ <;> cases q
theorem call_in (R : Rl K Φ Z σ H ρ) (ra : AvA K Z σ vs as) (he : entN as ρ = some es) (hn : (slotsOf as).Nodup) : Rl K ⟨Z, H, frOf H ρ σ as, inoOf ρ σ as⟩ Z (vs.map some) H es := by
  have vget : ∀ {j : Nat} {v : V}, vs[j]? = some v → (vs.map some)[j]? = some (some v) := fun h => by rw [List.getElem?_map, h]; rfl
  -- an own object that is handed on
  have own_ : ∀ (j : Nat) o b, es[j]? = some (EV.own o b) → ∃ i a o2 io, as[j]? = some (.s i) ∧ ρ[i]? = some (EV.own o io) ∧ o2 = o ∧ b = true ∧ σ[i]? = some (some (V.ref a)) ∧ (vs.map some)[j]? = some (some (V.ref a)) ∧ ObAt K Z H a o := fun j o b h => by
    rcases ent_get he h with ⟨d, _, q⟩ | ⟨i, ei, ⟨o1, io, e1, q⟩ | ⟨ns, _, q⟩⟩
    · cases q
    · cases q
      obtain ⟨a, s, ob⟩ := R.own i o io e1
      obtain ⟨v, hv, sv⟩ := (ava_get ra).2 i ei
      rw [s] at sv
      cases sv
      exact ⟨i, a, o, io, ei, e1, rfl, rfl, s, vget hv, ob⟩
    · cases q
  have at_ : ∀ j a, AtS es (vs.map some) j a → ∃ i, as[j]? = some (.s i) ∧ AtS ρ σ i a := by
    rintro j a ⟨⟨o, b, e⟩, s⟩
    obtain ⟨i, a', _, io, ei, e1, _, _, s1, s2, _⟩ := own_ j o b e
    rw [s] at s2
    cases s2
    exact ⟨i, ei, ⟨o, io, e1⟩, s1⟩
  refine ⟨by simp [ent_len he, ava_len ra], R.zH, fun a o h _ => .inl h, fun a h => R.zH.free h, fun a o h => ?_, fun a h => h, ?_, ?_, ?_, ?_, ?_, ?_, ?_, ?_⟩
  · have h : frOf H ρ σ as a = some o := h
    unfold frOf at h
    split at h
    · cases h
    · exact h
  · intro j j' a h1 h2
    obtain ⟨i, ei, q1⟩ := at_ j a h1
    obtain ⟨i', ei', q2⟩ := at_ j' a h2
    cases R.inj i i' a q1 q2
    exact slots_inj hn ei ei'
  · intro j a h
    obtain ⟨i, ei, q⟩ := at_ j a h
    refine ⟨(R.sep i a q).1, ?_⟩
    show frOf H ρ σ as a = none
    unfold frOf
    rw [if_pos ⟨j, inoOf_of ei q⟩]
  · intro j x h
    rcases ent_get he h with ⟨d, ed, q⟩ | ⟨i, _, ⟨_, _, _, q⟩ | ⟨_, _, q⟩⟩
    · cases q
      obtain ⟨v, hv, r⟩ := (ava_get ra).1 x ed
      exact ⟨v, vget hv, r⟩
    · cases q
    · cases q
  · intro j ns h
    rcases ent_get he h with ⟨d, ed, q⟩ | ⟨i, ei, ⟨_, _, _, q⟩ | ⟨ns', e1, q⟩⟩
    · cases q
    · cases q
    · cases q
      obtain ⟨a, s, hl⟩ := R.scr i ns e1
      obtain ⟨v, hv, sv⟩ := (ava_get ra).2 i ei
      rw [s] at sv
      cases sv
      exact ⟨a, vget hv, hl⟩
  · intro j o b h
    obtain ⟨i, a, _, io, _, _, _, _, _, s2, ob⟩ := own_ j o b h
    exact ⟨a, s2, ob⟩
  · intro j o a h _
    exact absurd h (ent_io he j o)
  · intro j a h
    obtain ⟨i, ei, ⟨⟨o, io, e1⟩, s⟩⟩ := inoOf_is h
    obtain ⟨v, hv, sv⟩ := (ava_get ra).2 i ei
    rw [s] at sv
    cases sv
    refine ⟨vget hv, ?_⟩
    have hlt : j < es.length := by rw [ent_len he]; exact (List.getElem?_eq_some_iff.mp ei).1
    rcases ent_get he (List.getElem?_eq_getElem hlt) with ⟨d, ed, q⟩ | ⟨i', ei', ⟨o', io', e1', q⟩ | ⟨ns', e1', q⟩⟩
    · rw [ei] at ed; cases ed
    · rw [ei] at ei'
      cases ei'
      rw [e1] at e1'
      cases e1'
      exact ⟨o, by rw [List.getElem?_eq_getElem hlt, q]⟩
    · rw [ei] at ei'
      cases ei'
      rw [e1] at e1'
      cases e1'
  · intro j o h
    obtain ⟨i, a, _, io, ei, e1, _, _, s1, _, _⟩ := own_ j o true h
    exact ⟨a, inoOf_of ei ⟨⟨o, io, e1⟩, s1⟩⟩
theorem call_out (R : Rl K Φ Z σ H ρ) (he : entN as ρ = some es) (hn : (slotsOf as).Nodup) {Z' H' : Hp} {us : L2.St} {es' : List EV} {ρ' : Nv} (z : Same Z Z')
    (Rc : Rl K ⟨Z, H, frOf H ρ σ as, inoOf ρ σ as⟩ Z' us H' es') (hb : back as es' ρ = some ρ') : Rl K Φ Z' σ H' ρ' ∧ ∀ i a, AtS ρ' σ i a → AtS ρ σ i a := by
  -- what each slot is now
  have slot_ : ∀ (i : Nat) (o : OD) (io : Bool), ρ'[i]? = some (EV.own o io) → ∃ o0 a, ρ[i]? = some (EV.own o0 io) ∧ σ[i]? = some (some (V.ref a)) ∧ ObAt K Z' H' a o := fun i o io h => by
    by_cases hi : i ∈ slotsOf as
    · obtain ⟨j, hj⟩ := slots_mem hi
      rcases back_at hb hn hj with ⟨o0, io0, o', io', e1, e2, e3⟩ | ⟨ns, ns', _, _, e3⟩
      · rw [h] at e3
        cases e3
        obtain ⟨a, s, _⟩ := R.own i o0 io e1
        obtain ⟨a2, s2, ob⟩ := Rc.own j _ io' e2
        obtain ⟨s3, _⟩ := Rc.ino j a (inoOf_of hj ⟨⟨o0, io, e1⟩, s⟩)
        rw [s2] at s3
        cases s3
        exact ⟨o0, a, e1, s, ob⟩
      · rw [h] at e3
        cases e3
    · rw [back_other hb hi] at h
      obtain ⟨a, s, ob⟩ := R.own i o io h
      refine ⟨o, a, h, s, ob.move z ?_⟩
      obtain ⟨u, hu, _⟩ := ob.some
      have hf : frOf H ρ σ as a = some u := by
        unfold frOf
        rw [if_neg, hu]
        rintro ⟨j, hj⟩
        obtain ⟨i', ei', q⟩ := inoOf_is hj
        have e := R.inj i i' a ⟨⟨o, io, h⟩, s⟩ q
        subst e
        exact hi (mem_slots ei')
      rw [hu]
      exact Rc.fr a u hf
  have at_ : ∀ i a, AtS ρ' σ i a → AtS ρ σ i a := by
    rintro i a ⟨⟨o, io, e⟩, s⟩
    obtain ⟨o0, a', e1, s1, _⟩ := slot_ i o io e
    exact ⟨⟨o0, io, e1⟩, s⟩
  have dat_ : ∀ (i : Nat) e, ρ'[i]? = some e → (∀ o io, e ≠ .own o io) → ρ[i]? = some e := fun i e h hne => by
    by_cases hi : i ∈ slotsOf as
    · obtain ⟨j, hj⟩ := slots_mem hi
      rcases back_at hb hn hj with ⟨o0, io0, o', io', e1, e2, e3⟩ | ⟨ns, ns', e1, _, e3⟩
      · rw [h] at e3
        cases e3
        exact absurd rfl (hne _ _)
      · rw [h] at e3
        cases e3
        exact e1
    · rwa [back_other hb hi] at h
  refine ⟨⟨(back_len hb).trans R.len, Rc.zH, fun a o h nt => ?_, R.f0, fun a u h => ?_, fun a h => R.dom a (Rc.dom a h), fun i j a h1 h2 => R.inj i j a (at_ i a h1) (at_ j a h2), fun i a h => ?_, ?_, ?_, ?_, ?_, ?_, ?_⟩, at_⟩
  · rcases Rc.zN a o h nt with q | ⟨q, _⟩
    · exact R.zN a o q nt
    · exact .inr ⟨R.dom a q, R.fr.free q⟩
  · refine Rc.fr a u ?_
    show frOf H ρ σ as a = some u
    unfold frOf
    rw [if_neg, R.fr a u h]
    rintro ⟨j, hj⟩
    obtain ⟨i, _, q⟩ := inoOf_is hj
    rw [(R.sep i a q).2] at h
    cases h
  · have q := at_ i a h
    refine ⟨?_, (R.sep i a q).2⟩
    cases hz : Z' a with
    | none => rfl
    | some u =>
      exfalso
      rcases Rc.zN a u hz (fun xs ex => by obtain ⟨⟨o, io, e⟩, s⟩ := h; obtain ⟨_, a', _, s1, ob⟩ := slot_ i o io e; rw [s] at s1; cases s1; obtain ⟨w, hw, hm⟩ := ob.some; have h3 := Rc.zH a u hz; rw [hw] at h3; cases h3; rw [ex] at hm; exact hm) with q1 | ⟨q1, _⟩
      · have q1 : Z a = some u := q1
        rw [(R.sep i a q).1] at q1
        cases q1
      · obtain ⟨w, hw, _⟩ := R.at_some q
        have q1 : H a = none := q1
        rw [q1] at hw
        cases hw
  · intro i x h
    obtain ⟨v, s, r⟩ := R.dat i x (dat_ i _ h (fun _ _ q => nomatch q))
    exact ⟨v, s, r.mono z⟩
  · intro i ns h
    obtain ⟨a, s, r⟩ := R.scr i ns (dat_ i _ h (fun _ _ q => nomatch q))
    exact ⟨a, s, r.mono z⟩
  · intro i o io h
    obtain ⟨o0, a, _, s, ob⟩ := slot_ i o io h
    exact ⟨a, s, ob⟩
  · intro i o a h s
    obtain ⟨o0, a', e1, s1, _⟩ := slot_ i o false h
    exact R.loc i o0 a e1 s
  · intro i a h
    obtain ⟨s, o, e⟩ := R.ino i a h
    refine ⟨s, ?_⟩
    cases hi' : ρ'[i]? with
    | none =>
      have l := (List.getElem?_eq_some_iff.mp e).1
      have l2 := List.getElem?_eq_none_iff.mp hi'
      rw [back_len hb] at l2
      omega
    | some x =>
      cases x with
      | own o' io' =>
        obtain ⟨o0, _, e1, _, _⟩ := slot_ i o' io' hi'
        rw [e] at e1
        cases e1
        exact ⟨o', rfl⟩
      | un => rw [dat_ i _ hi' (fun _ _ q => nomatch q)] at e; cases e
      | d x => rw [dat_ i _ hi' (fun _ _ q => nomatch q)] at e; cases e
      | scr ns => rw [dat_ i _ hi' (fun _ _ q => nomatch q)] at e; cases e
  · intro i o h
    obtain ⟨o0, _, e1, _, _⟩ := slot_ i o true h
    exact R.io i o0 e1
end
section
variable {X : Cx} {k : Nat} {f : Addr} {fd : FuncData} {ps : List Str} {m : XF} {x : Str} {p pos : Pos} {e : Expr} {es : List Expr} {r : XA}
/-- what a call asks -/
def tCallG (K : PySem.W.Frag) (n : Nat) (m : XF) (t : TA) : TE := fun σ H Q => t σ H fun vs H1 => vs.length = n ∧ spF K m vs H1 Q
theorem run_g {pins : List (Addr × Obj)} {σ : L2.St} {H : Hp} {s : Shared} {Q : VK} {us : List Value} {vs : List V} (F : FnG X.prog X.w X.K X.mg X.base k f fd ps m) (hr : Room k X.A) (hG : X.A.guards = some []) (hb : Binds X.K fd ps [])
    (I : L2.Inv X pins σ H s) (rv : Vals vs us) (hl : vs.length = ps.length) (h : spF X.K m vs H Q) : wpAny (model X.prog X.w) X.A (call (.ref f) us) (EP X pins σ Q) X.xe s := by
  have hb' := hb s us I.kIn (by rw [List.append_nil, ← rv.length]; exact hl)
  rw [List.append_nil] at hb'
  refine wpAny_call (codeAny_mono (F.run X.A X.stack s H ⟨us, []⟩ us vs Q hr hG I.env0 hb' rv hl h) fun out s' hq => ?_)
  match out, hq with
  | .ok (.ret u), hq => exact I.after hq
  | .error e, hq => exact hq.elim
  | .ok .next, hq => exact hq.elim
  | .ok .brk, hq => exact hq.elim
  | .ok .cont, hq => exact hq.elim
/-- the answer as the caller sees it -/
theorem rv_out {K : PySem.W.Frag} {Φ : Fx} {Z : Hp} {σ : L2.St} {H : Hp} {ρ ρ' : Nv} {Fr' : Hp} {ino' : Nat → Option Addr} {Z' H' : Hp} {us : L2.St} {es' : List EV} {v : V} {x : Rv} (R : Rl K Φ Z σ H ρ) (at_ : ∀ i a, AtS ρ' σ i a → AtS ρ σ i a)
    (h : RvOk K ⟨Z, H, Fr', ino'⟩ Z' us H' es' v x) : RvOk K Φ Z' σ H' ρ' v x := by
  cases x with
  | d x => exact h
  | n o =>
    obtain ⟨a, rfl, w⟩ := h
    have hn : H a = none := w.h0
    refine ⟨a, rfl, w.ob, w.z, R.fr.free hn, R.dom a hn, fun i q => ?_⟩
    obtain ⟨u, hu, _⟩ := R.at_some (at_ i a q)
    rw [hn] at hu
    cases hu
def MC (K : PySem.W.Frag) (t : TE) (f : Nv → Option (Rv × Nv)) : Prop := ∀ (Φ : Fx) (Z : Hp) (σ : L2.St) (H : Hp) (ρ : Nv) (d : Rv) (ρ' : Nv), Rl K Φ Z σ H ρ → f ρ = some (d, ρ') →
  ∀ Q : VK, (∀ v H' Z', Same Z Z' → Rl K Φ Z' σ H' ρ' → RvOk K Φ Z' σ H' ρ' v d → Q v H') → t σ H Q
def CD (X : Cx) (e : Expr) (m : XF) (r : XA) : Prop := ∃ t, PE X e t ∧ MC X.K t (gCall m r)
theorem CD.ed (h : CD X e m r) : ED X e (xCall m r) := by
  obtain ⟨t, p, mc⟩ := h
  refine ⟨t, p, fun Φ Z σ H ρ d ρ' R q Q k => ?_⟩
  unfold xCall at q
  cases e1 : gCall m r ρ with
  | none => rw [e1] at q; cases q
  | some w =>
    obtain ⟨x, ρ1⟩ := w
    rw [e1, Option.bind_some] at q
    cases x with
    | n o => cases q
    | d x => cases q; exact mc Φ Z σ H ρ _ _ R e1 Q k
theorem CD.nd (h : CD X e m r) : ND X e (nCall m r) := by
  obtain ⟨t, p, mc⟩ := h
  refine ⟨t, p, fun Φ Z σ H ρ d ρ' R q Q k => ?_⟩
  unfold nCall at q
  cases e1 : gCall m r ρ with
  | none => rw [e1] at q; cases q
  | some w =>
    obtain ⟨x, ρ1⟩ := w
    rw [e1, Option.bind_some] at q
    cases x with
    | d x => cases q
    | n o => cases q; exact mc Φ Z σ H ρ _ _ R e1 Q fun v H' Z' z R' ⟨a, ev, w⟩ => ev ▸ k a H' Z' z R' w
theorem me_call {K : PySem.W.Frag} {n : Nat} {t : TA} (hn : ∀ as es, m es ≠ none → as = es.length → as = n) (ma : MA K t r) : MC K (tCallG K n m t) (gCall m r) := by
  intro Φ Z σ H ρ d ρ' R q Q kk
  unfold gCall at q
  cases e1 : r ρ with
  | none => rw [e1] at q; cases q
  | some a =>
    rw [e1, Option.bind_some] at q
    split at q
    · rename_i nd
      cases e2 : entN a.1 a.2 with
      | none => rw [e2] at q; cases q
      | some es =>
        rw [e2, Option.bind_some] at q
        cases e3 : m es with
        | none => rw [e3] at q; cases q
        | some w =>
          rw [e3, Option.bind_some] at q
          cases e4 : back a.1 w.2 a.2 with
          | none => rw [e4] at q; cases q
          | some ρ1 =>
            rw [e4] at q
            cases q
            refine ma Φ Z σ H ρ a.1 a.2 R e1 _ fun vs H1 Z1 z1 R1 ra => ⟨?_, ?_⟩
            · refine hn _ es (by rw [e3]; exact fun h => nomatch h) ?_
              rw [ent_len e2, ava_len ra]
            · exact ⟨Z1, _, _, es, w.1, w.2, e3, ent_io e2, call_in R1 ra e2 nd, fun v H2 Z2 z2 Rc rc => kk v H2 Z2 (z1.trans z2) (call_out R1 e2 nd z2 Rc e4).1 (rv_out R1 (call_out R1 e2 nd z2 Rc e4).2 rc)⟩
    · cases q
/-- f(e, ..): the number of arguments is that of the parameters -/
def arity (n : Nat) (m : XF) : XF := fun es => if es.length = n then m es else none
theorem cd_call (F : FnG X.prog X.w X.K X.mg X.base k f fd ps m) (hr : Room k X.A) (hG : X.A.guards = some []) (hm : X.mg x = some (.ref f)) (hk : PySem.W.keepIn X.K (.ref f) = true) (hb : Binds X.K fd ps []) (ha : AD X (e :: es) r)
    (hg : Gl X x := by rfl) (hdb : (x == ("__debug__" : Str)) = false := by decide) (hs : starEach (e :: es) X.env = (false, eval e X.env) :: starEach es X.env := by rfl) (hpl : (backTo pos (starEach es X.env)).any (·.1) = false := by rfl) {ar : Nat} (har : ps.length = ar := by rfl) :
    CD X (.Call (.Name x p) (e :: es) [] pos) (arity ar m) r := by
  subst har
  obtain ⟨t, pa, ma⟩ := ha
  refine ⟨tCallG X.K ps.length (arity ps.length m) t, ⟨fun pins s σ H Q I h => ?_⟩, me_call (fun n es h e => ?_) ma⟩
  · refine wpAny_Call_Name_kw (ld_glob I hg hm ?_ hdb)
    refine PySem.W.callWith_K (h₀ := X.base) I.ok.mod.kin hk (thn (pa.run pos pins s σ H _ I h) fun us s1 ⟨vs, H1, I1, rv, hl, q⟩ => ⟨I1.kIn, ?_⟩) hs hpl
    refine run_g (F.sub fun ρ r h => ?_) hr hG hb I1 rv hl q
    unfold arity at h
    split at h
    · exact h
    · cases h
  · unfold arity at h
    split at h
    · omega
    · exact absurd rfl h
theorem cd_call0 (F : FnG X.prog X.w X.K X.mg X.base k f fd ps m) (hr : Room k X.A) (hG : X.A.guards = some []) (hm : X.mg x = some (.ref f)) (hk : PySem.W.keepIn X.K (.ref f) = true) (hb : Binds X.K fd ps []) (h0 : ps.length = 0 := by rfl)
    (hg : Gl X x := by rfl) (hdb : (x == ("__debug__" : Str)) = false := by decide) : CD X (.Call (.Name x p) [] [] pos) m aNil := by
  refine ⟨fun σ H Q => spF X.K m [] H Q, ⟨fun pins s σ H Q I h => ?_⟩, fun Φ Z σ H ρ d ρ' R q Q kk => ?_⟩
  · refine wpAny_Call_Name_kw (ld_glob I hg hm ?_ hdb)
    exact PySem.W.callWith_K0 I.kIn hk (run_g F hr hG hb I .nil h0.symm h)
  · unfold gCall at q
    have q : (m []).bind (fun w => (back [] w.2 ρ).map fun ρ' => (w.1, ρ')) = some (d, ρ') := q
    cases e3 : m [] with
    | none => rw [e3] at q; cases q
    | some w =>
      rw [e3] at q
      cases q
      exact ⟨Z, _, _, [], w.1, w.2, e3, fun i o h => by simp at h, call_in (as := []) R .nil rfl List.nodup_nil, fun v H2 Z2 z2 Rc rc => kk v H2 Z2 z2 (call_out (as := []) R rfl List.nodup_nil z2 Rc rfl).1 (rv_out R (call_out (as := []) R rfl List.nodup_nil z2 Rc rfl).2 rc)⟩
end
end DL
set_option maxRecDepth 100000
set_option maxHeartbeats 2000000
namespace DL
open PySem PySem.Spec PyProof.Rows L2
section
variable {P : Program} {w : World} {K : PySem.W.Frag} {mg mb : Str → Option Value} {k : Nat} {fa a : Addr} {fd : FuncData} {x : Str} {m : XF} {s1 : Shared} {vs : List Value} {ns : List Int}
/-- what is asked behind the law's call -/
def LawEnd (s1 : Shared) (r : Result) (s' : Shared) : Prop := r = .ok (.ret (.bool true)) ∧ OldK s1.heap s'.heap ∧ s'.os = s1.os ∧ AllBare s'.gens
theorem law_from (kin : K.In s1.heap) (hns : s1.heap.Ns mainGlobals mg) (hb : s1.heap.Ns builtinsNs mb) (hbb : ∀ x : Str, x ≠ "__name__" → mb x = bootBuiltins x) (hlim : s1.heap.NoLimit) (hg : s1.gens = #[])
    (ha : s1.heap.get? a = some { cls := .type "list", data := .seq vs.toArray }) (room : Room k callerA)
    (F : ∀ base : Heap, K.In base → base.Ns mainGlobals mg → FnG P w K mg base k fa fd [x] m) (hbind : ∀ (s : Shared) (u : Value), BindsTo s fd ⟨[u], []⟩ [(x, u)])
    (law : m [.scr ns] = some (.d (.bool true), [.scr ns])) (H : Hp) (hS : SqL K H a (ns.map V.int)) (ok : HOk P w H s1.heap) (hA : ∀ b u, H b = some u → b = a ∧ ∃ o xs, u = .frz o (.lst xs)) (hK : H a ≠ none → K.lookup a = none) :
    codeAny (model P w) callerA (.call (.ref fa) ⟨[.ref a], []⟩) (LawEnd s1) s1 := by
  have nodict : ∀ {b : Addr} {o : Obj} {es : Array DictEntry} {ep : Nat}, s1.heap.get? b = some o → o.data = .dict es ep → H b = none := fun {b o es ep} e d => by
    cases q : H b with
    | none => rfl
    | some u =>
      obtain ⟨rfl, _⟩ := hA b u q
      rw [ha] at e
      cases e
      cases (show Data.seq vs.toArray _ = Data.dict es ep from d)
  have ns_ : ∀ {b : Addr} {f : Str → Option Value}, s1.heap.Ns b f → (hidT s1.heap H).Ns b f := fun {b f} ⟨o, es, ep, e, d, r⟩ => ⟨o, es, ep, hidT_get e (nodict e d), d, r⟩
  have kin' : K.In (hidT s1.heap H) := fun b o e => hidT_get (kin b o e) (by
    cases q : H b with
    | none => rfl
    | some u =>
      obtain ⟨rfl, _⟩ := hA b u q
      rw [hK (by rw [q]; exact fun z => nomatch z)] at e
      cases e)
  have lim' : (hidT s1.heap H).NoLimit := by
    obtain ⟨mc, h1, h2⟩ := hlim
    exact ⟨mc, ns_ h1, h2⟩
  have e0 : Env0 P w K mg (hidT s1.heap H) callerA [] s1 H :=
    { frames := rfl
      mod := ⟨kin', ns_ hns, ⟨mb, ns_ hb, hbb⟩, lim'⟩
      bs := fun b o e => of_hidT e
      bsz := Nat.le_of_eq (hidT_size _ _)
      funs := trivial
      frf := fun b hb => absurd (show b ∈ ([] : List Addr) from hb) (by simp)
      hok := ok
      bare := .of_eq hg }
  have R0 : Rl K ⟨H, H, H, fun _ => none⟩ H [some (V.ref a)] H [.scr ns] :=
    { len := rfl
      zH := Same.refl H
      zN := fun b o h _ => .inl h
      f0 := fun b h => h
      fr := Same.refl H
      dom := fun b h => h
      inj := fun i j b ⟨⟨o, io, e⟩, _⟩ _ => by cases i <;> simp at e
      sep := fun i b ⟨⟨o, io, e⟩, _⟩ => by cases i <;> simp at e
      dat := fun i y e => by cases i <;> simp at e
      scr := fun i l e => by
        cases i with
        | zero => simp at e; subst e; exact ⟨a, rfl, hS⟩
        | succ i => simp at e
      own := fun i o io e => by cases i <;> simp at e
      loc := fun i o b e => by cases i <;> simp at e
      ino := fun i b e => nomatch e
      io := fun i o e => by cases i <;> simp at e }
  have want : spF K m [.ref a] H (fun v _ => v = .bl true) := ⟨H, H, fun _ => none, [.scr ns], _, _, law, fun i o e => by cases i <;> simp at e, R0, fun v H' Z' _ _ r => by cases r; rfl⟩
  refine codeAny_mono ((F _ kin' (ns_ hns)).run callerA [] s1 H ⟨[.ref a], []⟩ [.ref a] [.ref a] _ room rfl e0 (hbind s1 (.ref a)) (.cons rfl .nil) rfl want) fun out s' h => ?_
  match out, h with
  | .error e, h => exact h.elim
  | .ok .next, h => exact h.elim
  | .ok .brk, h => exact h.elim
  | .ok .cont, h => exact h.elim
  | .ok (.ret u), ⟨v, H', os, bare, un, hok', ru, hv⟩ =>
    subst hv
    cases (show u = Value.bool true from ru)
    refine ⟨rfl, OldK.of_keep fun b o e => ?_, os, bare⟩
    cases q : H b with
    | none => exact un.keep b o e q (fun z => absurd (show b ∈ ([] : List Addr) from z) (by simp)) (by simp)
    | some u =>
      obtain ⟨rfl, ob, xs, rfl⟩ := hA b u q
      obtain ⟨e1, _⟩ := ok b _ q
      obtain ⟨e2, _⟩ := hok' b _ (un.frzs b ob _ q)
      rw [e] at e1
      cases e1
      exact e2
theorem law_at (kin : K.In s1.heap) (hns : s1.heap.Ns mainGlobals mg) (hb : s1.heap.Ns builtinsNs mb) (hbb : ∀ x : Str, x ≠ "__name__" → mb x = bootBuiltins x) (hlim : s1.heap.NoLimit) (hg : s1.gens = #[])
    (ha : s1.heap.get? a = some { cls := .type "list", data := .seq vs.toArray }) (hi : IntsAre vs ns) (hl : ns.length ≤ sizeLine) (room : Room k callerA)
    (F : ∀ base : Heap, K.In base → base.Ns mainGlobals mg → FnG P w K mg base k fa fd [x] m) (hbind : ∀ (s : Shared) (u : Value), BindsTo s fd ⟨[u], []⟩ [(x, u)])
    (law : m [.scr ns] = some (.d (.bool true), [.scr ns])) : codeAny (model P w) callerA (.call (.ref fa) ⟨[.ref a], []⟩) (LawEnd s1) s1 := by
  have rel := vals_ints hi
  have len := hi.length
  cases hk : K.lookup a with
  | some o =>
    have e := kin a o hk
    rw [ha] at e
    cases e
    refine law_from kin hns hb hbb hlim hg ha room F hbind law (fun _ => none) ?_ (fun b u z => nomatch z) (fun b u z => nomatch z) fun z => absurd rfl z
    exact .inr ⟨_, vs.toArray, _, hk, rfl, rfl, rfl, by rw [List.size_toArray, len]; exact hl, by simpa using rel⟩
  | none =>
    have at_ : ∀ {b : Addr} {u : HO}, (if b = a then some (HO.frz { cls := .type "list", data := .seq vs.toArray } (.lst (ns.map V.int))) else none) = some u → b = a ∧ u = .frz { cls := .type "list", data := .seq vs.toArray } (.lst (ns.map V.int)) := fun {b u} z => by
      by_cases hb : b = a
      · rw [if_pos hb] at z
        cases z
        exact ⟨hb, rfl⟩
      · rw [if_neg hb] at z
        cases z
    refine law_from kin hns hb hbb hlim hg ha room F hbind law (fun b => if b = a then some (.frz { cls := .type "list", data := .seq vs.toArray } (.lst (ns.map V.int))) else none) (.inl (.inr ⟨_, if_pos rfl⟩)) (fun b u z => ?_) (fun b u z => ?_) fun _ => hk
    · obtain ⟨rfl, rfl⟩ := at_ z
      exact ⟨ha, by rw [List.length_map]; exact hl, vs, _, rel, ha⟩
    · obtain ⟨h1, h2⟩ := at_ z
      exact ⟨h1, _, _, h2⟩
end
theorem walk_d {l : PySem.W.OpenLaw} {n k : Nat} {q : Program} {loose : List Str} {XP : (Str → Option Value) → Heap → Prop} {YP : World → Heap → Prop} {d : DefRec} {K : Params → PySem.W.Frag} {m : XF} {x : Str}
    (hn : l.most = some n) (hn2 : n ≤ sizeLine) (hdf : d.params.defaults = []) (room : Room k callerA) (hY : ∀ (w : World) (h : Heap), YP w h → (K w.params).In h)
    (F : ∀ (w : World) (mg : Str → Option Value) (fa : Addr) (h : Heap), (K w.params).In h → h.Ns mainGlobals mg → mg d.name = some (.ref fa) →
      ∃ fd : FuncData, (∀ (s : Shared) (u : Value), BindsTo s fd ⟨[u], []⟩ [(x, u)]) ∧ ∀ base : Heap, (K w.params).In base → base.Ns mainGlobals mg → FnG l.prog w (K w.params) mg base k fa fd [x] m)
    (law : ∀ ns : List Int, ns.length ≤ n → m [.scr ns] = some (.d (.bool true), [.scr ns])) : PySem.W.WalkO q loose XP YP l.row.toRowW d [] (fun f vs => PySem.call f vs) := by
  refine Att.attach_call hn hdf fun w s₀ s₁ mg mb fa o pm cd doc a vs ns G Y ho hd hcd hmg hobj hints hlen hg => ?_
  have kin := hY w _ Y
  obtain ⟨fd, hb, hF⟩ := F w mg fa _ kin G.T.g hmg
  exact law_at kin G.T.g G.T.b G.T.builtins G.T.nolimit hg hobj hints (Nat.le_trans hlen hn2) room hF hb (law ns hlen)
end DL
set_option maxRecDepth 100000
set_option maxHeartbeats 2000000
namespace DL
open PySem PySem.Spec PyProof.Rows L2

/-- a def of the module as it stands behind the top -/
def DefEx (K : PySem.W.Frag) (x : Str) (st : Stmt) : Prop := ∃ (f : Addr) (oc : Value) (od an : Option Addr) (osl : Array (Option Value)) (kV doc pm cdv ct : Value),
  PySem.W.nsIn K mainGlobals x = some (some (.ref f)) ∧ K.lookup f = some ⟨oc, od, .func (PySem.W.fnOf x x (defArgs st) (defBody st) (defScope st) .none kV doc pm an cdv ct), osl⟩ ∧ PySem.W.codeIn K cdv x = true ∧ PySem.W.keepIn K (.ref f) = true
structure DefAt (K : PySem.W.Frag) (mg : Str → Option Value) (x : Str) (st : Stmt) (ps : List Str) (f : Addr) (fd : FuncData) : Prop where
  F : Fun K x x st f fd
  be : ∀ us : List Value, us.length = ps.length → bindArgs fd ⟨us, []⟩ = pure (ps.zip us)
  g : mg x = some (.ref f)
theorem DefAt.b {K : PySem.W.Frag} {mg : Str → Option Value} {x : Str} {st : Stmt} {ps : List Str} {f : Addr} {fd : FuncData} (h : DefAt K mg x st ps f fd) : Binds K fd ps [] := .all h.be
theorem def_at {K : PySem.W.Frag} {mg : Str → Option Value} {x : Str} {st : Stmt} {ps : List Str} {h : Heap} (X : K.In h) (G : h.Ns mainGlobals mg) (e : DefEx K x st)
    (hb : ∀ (kV doc pm : Value) (an : Option Addr) (cdv ct : Value) (us : List Value), us.length = ps.length → bindArgs (PySem.W.fnOf x x (defArgs st) (defBody st) (defScope st) .none kV doc pm an cdv ct) ⟨us, []⟩ = pure (ps.zip us)) :
    ∃ f fd, DefAt K mg x st ps f fd := by
  obtain ⟨f, oc, od, an, osl, kV, doc, pm, cdv, ct, h1, h2, h3, h4⟩ := e
  exact ⟨f, _, fun_mk h2 h3 h4, hb kV doc pm an cdv ct, PySem.W.mg_of X G h1⟩
/-- a constant of the module -/
def ConEx (K : PySem.W.Frag) (x : Str) (v : V) : Prop := ∃ u, PySem.W.nsIn K mainGlobals x = some (some u) ∧ RelV v u
theorem con_at {K : PySem.W.Frag} {mg : Str → Option Value} {x : Str} {v : V} {h : Heap} (X : K.In h) (G : h.Ns mainGlobals mg) (e : ConEx K x v) : ∃ u, mg x = some u ∧ RelV v u := by
  obtain ⟨u, h1, h2⟩ := e
  exact ⟨u, PySem.W.mg_of X G h1, h2⟩
theorem _root_.L2.Room.u64 {k : Nat} {A : Around} (r : Room k A) : A.units + 64 < cLine := r.units
theorem _root_.L2.Room.u65 {k : Nat} {A : Around} (r : Room k A) : A.units + 65 < cLine := by have := r.un; omega
theorem _root_.L2.Room.u1 {k : Nat} {A : Around} (r : Room k A) : A.units + 1 < cLine := by have := r.un; omega

theorem b_len : bootBuiltins "len" = some (.builtin "len") := by decide +kernel
theorem b_abs : bootBuiltins "abs" = some (.builtin "abs") := by decide +kernel
theorem b_repr : bootBuiltins "repr" = some (.builtin "repr") := by decide +kernel
theorem b_isinstance : bootBuiltins "isinstance" = some (.builtin "isinstance") := by decide +kernel
theorem b_list : bootBuiltins "list" = some (.type "list") := by decide +kernel
theorem b_str : bootBuiltins "str" = some (.type "str") := by decide +kernel
end DL
set_option maxRecDepth 100000
set_option maxHeartbeats 2000000
namespace DL
open PySem PySem.Spec PyProof.Rows L2 HT

theorem fm_congr {α β : Type} {f g : α → Option β} : ∀ {l : List α}, (∀ a ∈ l, f a = g a) → l.filterMap f = l.filterMap g
  | [], _ => rfl
  | a :: l, h => by
    rw [List.filterMap_cons, List.filterMap_cons, h a List.mem_cons_self, fm_congr fun b hb => h b (List.mem_cons_of_mem _ hb)]
theorem rev_pick (xs : Array Value) : ((List.range xs.size).filterMap fun (m : Nat) => xs[(((xs.size : Int) - 1) + (m : Int) * -1).toNat]?).toArray = xs.toList.reverse.toArray := by
  have e : ∀ m ∈ List.range xs.size, xs[(((xs.size : Int) - 1) + (m : Int) * -1).toNat]? = xs.toList.reverse[m]? := fun m hm => by
    have h := List.mem_range.mp hm
    have h2 : (((xs.size : Int) - 1) + (m : Int) * -1).toNat = xs.size - 1 - m := by omega
    rw [h2, List.getElem?_reverse (by simpa using h)]
    simp
  rw [fm_congr e]
  have := pick_run xs.toList.reverse.toArray 0 xs.size
  rw [List.filterMap_map] at this
  simp only [Function.comp_def, Nat.zero_add] at this
  have h3 : (getElem? xs.toList.reverse : Nat → Option Value) = fun x => xs.toList.reverse.toArray[x]? := by
    funext m
    simp
  rw [h3, this]
  simp only [List.drop_zero]
  rw [List.take_of_length_le (by simp)]
section
variable {prog : Program} {w : World} {A : Around} {E : Value → Shared → Prop} {s : Shared}
theorem slice_back {sl : Addr} {vs : Value} {n : Nat} {Q : Int × Int × Nat → Shared → Prop} (hs : s.heap.IsSliceOf sl .none .none vs) (ps : IsPart vs (some (-1))) (h : Q ((n : Int) - 1, -1, n) s) :
    wpAny (model prog w) A (Builtin.Slice.sliceApplied (.ref sl) (pure (n : Int))) Q E s := by
  obtain ⟨os, h1, _, h2⟩ := id hs
  unfold Builtin.Slice.sliceApplied Builtin.Slice.sliceFields
  refine wpAny_bind (wpAny_bind (wpAny_field h1 h2 (x := .none) rfl (wpAny_bind (wpAny_field h1 h2 (x := .none) rfl (wpAny_bind (wpAny_field h1 h2 (x := vs) rfl (wpAny_pure ?_)))))))
  refine wpAny_bind (slicePart_ ps ?_)
  show wpAny _ _ (if ((-1 : Int) == 0) = true then _ else _) _ _ s
  rw [if_neg (by decide)]
  refine wpAny_bind (slicePart_none (wpAny_bind (slicePart_none (wpAny_bind (wpAny_pure ?_)))))
  have e : Builtin.Slice.slicePlaces ((n : Int) - 1) (-1) (-1) = n := by
    unfold Builtin.Slice.slicePlaces
    rw [if_neg (by decide)]
    by_cases hn : ((n : Int) - 1) > -1
    · rw [if_pos hn, show (- -1 : Int) = 1 by decide, Int.ediv_one]
      omega
    · rw [if_neg hn]
      omega
  show wpAny _ _ (pure ((n : Int) - 1, (-1 : Int), Builtin.Slice.slicePlaces ((n : Int) - 1) (-1) (-1))) _ _ s
  rw [e]
  exact wpAny_pure h
theorem getItem_tuple_back {t sl : Addr} {items : Array Value} {vs : Value} {Q : Value → Shared → Prop} (ht : IsTup s.heap t items) (hs : s.heap.IsSliceOf sl .none .none vs) (ps : IsPart vs (some (-1)))
    (h : Q (.ref s.heap.objs.size) { s with heap := s.heap.push { cls := .type "tuple", data := .seq items.toList.reverse.toArray } }) (hsz : items.size ≤ sizeLine) : wpAny (model prog w) A (getItem (.ref t) (.ref sl)) Q E s := by
  have fits : sizeOk (.seq items.toList.reverse.toArray) := by
    show items.toList.reverse.toArray.size ≤ sizeLine
    simpa using hsz
  obtain ⟨os, h1, h2, _⟩ := id hs
  have isS : s.TypeIs (.ref sl) "slice" := ⟨os, h1, h2⟩
  unfold getItem
  try with_reducible refine wpAny_holding ?_
  first | refine wpAny_bind (wpAny_pure ?_) | skip
  refine wpAny_bind (wpAny_sequenceKey ht.typeIs (by decide) ?_)
  refine wpAny_bind (wpAny_callSpecial?_slot (name := Str.ofString "__getitem__") ht.typeIs PyProof.Rows.slot_tuple_getitem (wpAny_call_entry PyProof.Rows.slot_tuple_getitem ht.typeIs entry_tuple_getitem ?_ (args_tuple_getitem _ _)))
  show wpAny _ _ (Builtin.Tuple.tupleItemsOf (.ref t) >>= _) _ _ s
  refine wpAny_bind (tupleItemsOf_ ht ?_)
  refine wpAny_bind (wpAny_typeOf isS ?_)
  rw [if_pos (by decide)]
  refine wpAny_bind (slice_back hs ps ?_)
  have no : ¬ (((((items.size : Nat) : Int) - 1) == 0 && (-1 : Int) == 1 && items.size == items.size) = true) := by
    rw [show ((-1 : Int) == 1) = false by decide, Bool.and_false, Bool.false_and]
    exact Bool.false_ne_true
  show wpAny _ _ (if ((((items.size : Nat) : Int) - 1) == 0 && (-1 : Int) == 1 && items.size == items.size) = true then _ else _) _ _ s
  rw [if_neg no, rev_pick]
  first
    | exact wpAny_bind (m := Builtin.Tuple.tupleExact _) (wpAny_newObj_type (wpAny_pure ⟨_, rfl, wpAny_pure h⟩) fits)
    | exact wpAny_bind (m := Builtin.Tuple.tupleExact _) (wpAny_newObj_type (wpAny_bind (wpAny_pure (wpAny_pure ⟨_, rfl, wpAny_pure h⟩))) fits)
    | exact wpAny_bind (wpAny_bind (m := Builtin.Tuple.tupleExact _) (wpAny_newObj_type (wpAny_pure (wpAny_pure ⟨_, rfl, wpAny_pure h⟩)) fits))
    | exact wpAny_bind (wpAny_bind (m := Builtin.Tuple.tupleExact _) (wpAny_newObj_type (wpAny_pure ⟨_, rfl, wpAny_pure h⟩) fits))
end
/-- t[::-1] of a tuple -/
def tRevT (K : PySem.W.Frag) (te : TE) : TE := fun σ H Q => te σ H fun x H1 => ∃ a xs, x = .ref a ∧ SqT K H1 a xs ∧ ∀ p, H1 p = none → Q (.ref p) (upd H1 p (.tup xs.reverse))
theorem pe_revT {X : Cx} {e : Expr} {te : TE} {k : Nat} {p1 p2 p3 pos : Pos} (he : PE X e te) : PE X (.Subscript e (.Slice none none (some (.UnaryOp .USub (.Constant (.int 1) k p1) p2)) p3) pos) (tRevT X.K te) := by
  refine ⟨fun pins s σ H Q I h => Subscript_ (thn (he.run pins s σ H _ I h) fun v s1 ⟨x, H1, I1, r1, a, xs, ex, hx, q⟩ => ?_)⟩
  subst ex
  cases r1
  have minus : PO X (some (.UnaryOp .USub (.Constant (.int 1) k p1) p2)) (tPart (tUn (rU fun i => .int (-i)) (tC (.int 1)))) := po_some (pe_un un_neg pe_int)
  refine wpAny_Slice (thn (po_none.run pins s1 σ H1 (fun o H2 => o = none ∧ H2 = H1) I1 ⟨rfl, rfl⟩) fun vl s2 ⟨l, H2, I2, pl, el, e2⟩ => ?_)
  subst el e2
  cases pl
  refine thn (po_none.run pins s2 σ H2 (fun o H3 => o = none ∧ H3 = H2) I2 ⟨rfl, rfl⟩) fun vu s3 ⟨u, H3, I3, pu, eu, e3⟩ => ?_
  subst eu e3
  cases pu
  refine thn (minus.run pins s3 σ H3 (fun o H4 => o = some (-1) ∧ H4 = H3) I3 ⟨1, rfl, -1, rfl, rfl, rfl⟩) fun vs s4 ⟨o, H4, I4, ps, eo, e4⟩ => ?_
  subst eo e4
  have I5 : L2.Inv X pins σ H4 { s4 with heap := s4.heap.push { cls := .type "slice", data := .fields #[.none, .none, vs] } } := I4.kept (t' := s4.toks) fun b ob q => Heap.get?_push_of_some _ q
  obtain ⟨its, r, ht, hz⟩ := I5.tuple hx
  have hlen := r.length
  show wpAny (model X.prog X.w) X.A (subscriptTail e (.Slice none none (some (.UnaryOp .USub (.Constant (.int 1) k p1) p2)) p3) (.ref a) (.ref s4.heap.objs.size)) (EP X pins σ Q) X.xe { s4 with heap := s4.heap.push { cls := .type "slice", data := .fields #[.none, .none, vs] } }
  refine tail_any (ops := [.ref a, .ref s4.heap.objs.size]) ht.typeIs (PyProof.Rows.slot_tuple_getitem.lookup) ?_ (by with_unfolding_all rfl)
  refine getItem_tuple_back ht (Heap.IsSliceOf.new _ _ _ vs) ps ?_ (by rw [List.size_toArray]; omega)
  refine ⟨.ref _, _, I5.laid (t' := s4.toks) (o := .tup xs.reverse) (fun b ob q => Heap.get?_push_of_some _ q) (Nat.le_refl _) ?_, rfl, q _ (I5.hok.fresh (Nat.le_refl _))⟩
  exact ⟨by rw [List.length_reverse]; exact hz, _, r.reverse, ⟨_, Heap.get?_push_size _ rfl, rfl, _, rfl⟩⟩
theorem pe_orr {X : Cx} {e : Expr} {t1 t2 : TE} (h1 : PE X e t1) (h2 : PE X e t2) : PE X e (fun σ H Q => t1 σ H Q ∨ t2 σ H Q) :=
  ⟨fun pins s σ H Q I h => h.elim (h1.run pins s σ H Q I) (h2.run pins s σ H Q I)⟩
def revD : PyData → Option PyData
  | .list xs => some (.list xs.reverse)
  | .tuple xs => some (.tuple xs.reverse)
  | _ => none
theorem ed_rev {X : Cx} {e : Expr} {f : XE} {k : Nat} {p1 p2 p3 pos : Pos} (he : ED X e f) : ED X (.Subscript e (.Slice none none (some (.UnaryOp .USub (.Constant (.int 1) k p1) p2)) p3) pos) (x1 revD f) := by
  obtain ⟨t, p, m⟩ := he
  refine ⟨_, pe_orr (pe_revL p) (pe_revT p), fun Φ Z σ H ρ d ρ' R q Q k => ?_⟩
  unfold x1 at q
  cases e1 : f ρ with
  | none => rw [e1] at q; cases q
  | some w =>
    rw [e1, Option.bind_some] at q
    cases e2 : revD w.1 with
    | none => rw [e2] at q; cases q
    | some z =>
      rw [e2] at q
      cases q
      unfold revD at e2
      split at e2
      · rename_i xs ex
        cases e2
        refine .inl (m Φ Z σ H ρ w.1 w.2 R e1 _ fun v H1 Z1 z1 R1 r1 => ?_)
        rw [ex] at r1
        obtain ⟨a, vs, rfl, h, rr⟩ := Rb.lst R1.zH (.inl r1)
        exact ⟨a, vs, rfl, SqL.of h, fun p hp => ends_lst R1 rr.reverse (fun v H' Z' z' R' r' => k v H' Z' (z1.trans z') R' r') hp⟩
      · rename_i xs ex
        cases e2
        refine .inr (m Φ Z σ H ρ w.1 w.2 R e1 _ fun v H1 Z1 z1 R1 r1 => ?_)
        rw [ex] at r1
        obtain ⟨a, vs, rfl, h, rr⟩ := Rb.tup R1.zH (.inl r1)
        exact ⟨a, vs, rfl, h, fun p hp => ends_tup R1 rr.reverse (fun v H' Z' z' R' r' => k v H' Z' (z1.trans z') R' r') hp⟩
      · cases e2

def KD (X : Cx) (kws : List Keyword) (r : XA) : Prop := ∃ t, PK X kws t ∧ MA X.K t r
section
variable {X : Cx} {k : Nat} {f : Addr} {fd : FuncData} {ps : List Str} {m : XF} {x : Str} {p pos : Pos} {e : Expr} {kws : List Keyword} {r : XA} {fe : XE} {nm : Option Str} {kpos : Pos}
theorem kd_nil : KD X [] aNil := ⟨tNil, pk_nil, fun Φ Z σ H ρ as ρ' R q Q k => by
  cases q
  exact k [] H Z (Same.refl Z) R .nil⟩
theorem kd_cons (he : ED X e fe) (hr : KD X kws r) : KD X (⟨nm, e, kpos⟩ :: kws) (aCons fe r) := by
  obtain ⟨t, p, m⟩ := he
  obtain ⟨u, q, n⟩ := hr
  refine ⟨_, pk_cons p q, fun Φ Z σ H ρ as ρ' R q Q k => ?_⟩
  unfold aCons at q
  cases e1 : fe ρ with
  | none => rw [e1] at q; cases q
  | some s =>
    rw [e1, Option.bind_some] at q
    cases e2 : r s.2 with
    | none => rw [e2] at q; cases q
    | some w =>
      rw [e2] at q
      cases q
      refine m Φ Z σ H ρ s.1 s.2 R e1 _ fun v H1 Z1 z1 R1 r1 => ?_
      exact n Φ Z1 σ H1 s.2 w.1 w.2 R1 e2 _ fun vs H2 Z2 z2 R2 r2 => k _ H2 Z2 (z1.trans z2) R2 (.v (r1.mono z2) r2)
end
/-- turns enough for Euclid's loop over slots 0 and 1 -/
def gcdFuel (ρ : Nv) : Nat := match ρ[1]? with
  | some (EV.d (PyData.int j)) => j.natAbs + 1
  | _ => 0
end DL
set_option maxRecDepth 100000
set_option maxHeartbeats 2000000
namespace DL
open PySem PySem.Spec PyProof.Rows L2

/-- a flat datum as a value -/
def cV : PyData → V
  | .bool b => .bl b
  | .int i => .int i
  | .str s => .str s
  | _ => .non
theorem cV_rp {K : PySem.W.Frag} {Z : Hp} {d : PyData} (h : flatD d = true) : Rp K Z (cV d) d := by
  cases d with
  | none => exact .non
  | bool b => exact .bl b
  | int i => exact .int i
  | str s => exact .str s
  | list _ => cases h
  | tuple _ => cases h
  | dict _ => cases h
/-- which of the given values, or which default, stands at each parameter -/
abbrev Sel := List (Nat ⊕ PyData)
inductive Pk {α : Type} (r : PyData → α → Prop) (xs : List α) : Sel → List α → Prop
  | nil : Pk r xs [] []
  | at_ {i : Nat} {z : α} {s : Sel} {zs : List α} : xs[i]? = some z → Pk r xs s zs → Pk r xs (.inl i :: s) (z :: zs)
  | co {d : PyData} {z : α} {s : Sel} {zs : List α} : r d z → Pk r xs s zs → Pk r xs (.inr d :: s) (z :: zs)
theorem vals_get : ∀ {vs : List V} {us : List Value}, Vals vs us → ∀ {i : Nat} {u : Value}, us[i]? = some u → ∃ v, vs[i]? = some v ∧ RelV v u
  | _, _, .nil, i, u, h => by simp at h
  | _, _, .cons a r, 0, u, h => by
    simp at h
    subst h
    exact ⟨_, rfl, a⟩
  | _, _, .cons a r, i + 1, u, h => by
    obtain ⟨v, e, q⟩ := vals_get r (i := i) (u := u) (by simpa using h)
    exact ⟨v, by simpa using e, q⟩
theorem Pk.vals {vs : List V} {us : List Value} (r : Vals vs us) : ∀ {s : Sel} {zs : List Value}, Pk (fun d u => RelV (cV d) u) us s zs → ∃ xs, Vals xs zs ∧ Pk (fun d v => v = cV d) vs s xs
  | _, _, .nil => ⟨[], .nil, .nil⟩
  | _, _, .at_ h t => by
    obtain ⟨xs, a, b⟩ := Pk.vals r t
    obtain ⟨v, e, q⟩ := vals_get r h
    exact ⟨v :: xs, .cons q a, .at_ e b⟩
  | _, _, .co h t => by
    obtain ⟨xs, a, b⟩ := Pk.vals r t
    exact ⟨_ :: xs, .cons h a, .co rfl b⟩
def pick : Sel → List AV → Option (List AV)
  | [], _ => some []
  | .inl i :: s, as => (as[i]?).bind fun a => (pick s as).map (a :: ·)
  | .inr d :: s, as => if flatD d = true then (pick s as).map (.v d :: ·) else none
theorem ava_at {K : PySem.W.Frag} {Z : Hp} {σ : L2.St} : ∀ {xs : List V} {as : List AV}, AvA K Z σ xs as → ∀ {i : Nat} {v : V} {a : AV}, xs[i]? = some v → as[i]? = some a → ∀ {ys : List V} {bs : List AV}, AvA K Z σ ys bs → AvA K Z σ (v :: ys) (a :: bs)
  | _, _, .nil, i, v, a, h, _, _, _, _ => by simp at h
  | _, _, .v r t, 0, v, a, h, h2, _, _, q => by
    simp at h h2
    subst h h2
    exact .v r q
  | _, _, .s r t, 0, v, a, h, h2, _, _, q => by
    simp at h h2
    subst h h2
    exact .s r q
  | _, _, .v r t, i + 1, v, a, h, h2, _, _, q => ava_at t (i := i) (by simpa using h) (by simpa using h2) q
  | _, _, .s r t, i + 1, v, a, h, h2, _, _, q => ava_at t (i := i) (by simpa using h) (by simpa using h2) q
theorem ava_pick {K : PySem.W.Frag} {Z : Hp} {σ : L2.St} {xs : List V} {as : List AV} (r : AvA K Z σ xs as) {s : Sel} {zs : List V} (hp : Pk (fun d v => v = cV d) xs s zs) : ∀ {cs : List AV}, pick s as = some cs → AvA K Z σ zs cs := by
  induction hp with
  | nil => intro cs h; cases h; exact .nil
  | @at_ i z s zs e t ih =>
    intro cs h
    replace h : (as[i]?).bind (fun a => (pick s as).map (a :: ·)) = some cs := h
    cases e1 : as[i]? with
    | none => rw [e1] at h; cases h
    | some a =>
      rw [e1, Option.bind_some] at h
      cases e2 : pick s as with
      | none => rw [e2] at h; cases h
      | some bs =>
        rw [e2] at h
        cases h
        exact ava_at r e e1 (ih e2)
  | @co d z s zs e t ih =>
    intro cs h
    replace h : (if flatD d = true then (pick s as).map (.v d :: ·) else none) = some cs := h
    split at h
    · rename_i hf
      cases e2 : pick s as with
      | none => rw [e2] at h; cases h
      | some bs =>
        rw [e2] at h
        cases h
        subst e
        exact .v (cV_rp hf) (ih e2)
    · cases h
theorem AvA.append {K : PySem.W.Frag} {Z : Hp} {σ : L2.St} : ∀ {xs ys : List V} {as bs : List AV}, AvA K Z σ xs as → AvA K Z σ ys bs → AvA K Z σ (xs ++ ys) (as ++ bs)
  | _, _, _, _, .nil, q => q
  | _, _, _, _, .v r t, q => .v r (AvA.append t q)
  | _, _, _, _, .s r t, q => .s r (AvA.append t q)

/-- what such a call binds: n values by place, the names ks -/
structure PB (K : PySem.W.Frag) (fd : FuncData) (ps : List Str) (n : Nat) (ks : List Str) (s : Sel) : Prop where
  to : ∀ (sh : Shared) (us ws : List Value), K.In sh.heap → us.length = n → ws.length = ks.length → ∃ zs, BindsTo sh fd ⟨us, ks.zip ws⟩ (ps.zip zs) ∧ zs.length = ps.length ∧ Pk (fun d u => RelV (cV d) u) (us ++ ws) s zs
/-- the arguments by place, then those by name, as the parameters stand -/
def aPick (s : Sel) (r rk : XA) : XA := fun ρ => (r ρ).bind fun p => (rk p.2).bind fun q => (pick s (p.1 ++ q.1)).map fun as => (as, q.2)
def tCallP (K : PySem.W.Frag) (n nk : Nat) (s : Sel) (m : XF) (t tk : TA) : TE := fun σ H Q => t σ H fun vs H1 => tk σ H1 fun zs H2 => vs.length = n ∧ zs.length = nk ∧ ∀ xs, Pk (fun d v => v = cV d) (vs ++ zs) s xs → spF K m xs H2 Q
theorem me_callP {K : PySem.W.Frag} {n nk : Nat} {s : Sel} {m : XF} {t tk : TA} {r rk : XA} (hn : ∀ ρ p, r ρ = some p → p.1.length = n) (hk : ∀ ρ p, rk ρ = some p → p.1.length = nk) (ma : MA K t r) (mk : MA K tk rk) : MC K (tCallP K n nk s m t tk) (gCall m (aPick s r rk)) := by
  intro Φ Z σ H ρ d ρ' R q Q kk
  unfold gCall aPick at q
  cases e1 : r ρ with
  | none => rw [e1] at q; cases q
  | some a =>
    rw [e1, Option.bind_some] at q
    cases e1' : rk a.2 with
    | none => rw [e1'] at q; cases q
    | some b =>
      rw [e1', Option.bind_some] at q
      cases e1'' : pick s (a.1 ++ b.1) with
      | none => rw [e1''] at q; cases q
      | some cs =>
        rw [e1''] at q
        simp only [Option.map_some, Option.bind_some] at q
        split at q
        · rename_i nd
          cases e2 : entN cs b.2 with
          | none => rw [e2] at q; cases q
          | some es =>
            rw [e2, Option.bind_some] at q
            cases e3 : m es with
            | none => rw [e3] at q; cases q
            | some w =>
              rw [e3, Option.bind_some] at q
              cases e4 : back cs w.2 b.2 with
              | none => rw [e4] at q; cases q
              | some ρ1 =>
                rw [e4] at q
                cases q
                refine ma Φ Z σ H ρ a.1 a.2 R e1 _ fun vs H1 Z1 z1 R1 ra => ?_
                refine mk Φ Z1 σ H1 a.2 b.1 b.2 R1 e1' _ fun zs H2 Z2 z2 R2 rb => ⟨?_, ?_, fun xs hx => ?_⟩
                · rw [← hn _ _ e1, ava_len ra]
                · rw [← hk _ _ e1', ava_len rb]
                · have rc := ava_pick ((ra.mono z2).append rb) hx e1''
                  exact ⟨Z2, _, _, es, w.1, w.2, e3, ent_io e2, call_in R2 rc e2 nd, fun v H3 Z3 z3 Rc r3 => kk v H3 Z3 ((z1.trans z2).trans z3) (call_out R2 e2 nd z3 Rc e4).1 (rv_out R2 (call_out R2 e2 nd z3 Rc e4).2 r3)⟩
        · cases q
section
variable {X : Cx} {k n : Nat} {f : Addr} {fd : FuncData} {ps ks : List Str} {m : XF} {x : Str} {p pos : Pos} {e : Expr} {es : List Expr} {kws : List Keyword} {r rk : XA} {s : Sel}
theorem run_p {pins : List (Addr × Obj)} {σ : L2.St} {H : Hp} {sh : Shared} {Q : VK} {us ws : List Value} {vs zs : List V} (F : FnG X.prog X.w X.K X.mg X.base k f fd ps m) (hr : Room k X.A) (hG : X.A.guards = some []) (hb : PB X.K fd ps n ks s)
    (I : L2.Inv X pins σ H sh) (rv : Vals vs us) (rz : Vals zs ws) (l1 : vs.length = n) (l2 : zs.length = ks.length) (h : ∀ xs, Pk (fun d v => v = cV d) (vs ++ zs) s xs → spF X.K m xs H Q) : wpAny (model X.prog X.w) X.A (call (.ref f) us (ks.zip ws)) (EP X pins σ Q) X.xe sh := by
  obtain ⟨ys, hB, hl, hp⟩ := hb.to sh us ws I.kIn (rv.length.symm.trans l1) (rz.length.symm.trans l2)
  obtain ⟨xs, rx, px⟩ := Pk.vals (rv.append rz) hp
  refine wpAny_call (codeAny_mono (F.run X.A X.stack sh H ⟨us, ks.zip ws⟩ ys xs Q hr hG I.env0 hB rx (rx.length.trans hl) (h xs px)) fun out s' hq => ?_)
  match out, hq with
  | .ok (.ret u), hq => exact I.after hq
  | .error e, hq => exact hq.elim
  | .ok .next, hq => exact hq.elim
  | .ok .brk, hq => exact hq.elim
  | .ok .cont, hq => exact hq.elim
/-- f(e, ..) with defaults -/
theorem cd_callP (F : FnG X.prog X.w X.K X.mg X.base k f fd ps m) (hr : Room k X.A) (hG : X.A.guards = some []) (hm : X.mg x = some (.ref f)) (hk : PySem.W.keepIn X.K (.ref f) = true) (hb : PB X.K fd ps n [] s) (ha : AD X (e :: es) r)
    (hn : ∀ ρ p, r ρ = some p → p.1.length = n)
    (hg : Gl X x := by rfl) (hdb : (x == ("__debug__" : Str)) = false := by decide) (hs : starEach (e :: es) X.env = (false, eval e X.env) :: starEach es X.env := by rfl) (hpl : (backTo pos (starEach es X.env)).any (·.1) = false := by rfl) :
    CD X (.Call (.Name x p) (e :: es) [] pos) m (aPick s r aNil) := by
  obtain ⟨t, pa, ma⟩ := ha
  refine ⟨tCallP X.K n 0 s m t tNil, ⟨fun pins sh σ H Q I h => ?_⟩, me_callP hn (fun ρ p e => by cases e; rfl) ma (fun Φ Z σ H ρ as ρ' R q Q k => by cases q; exact k [] H Z (Same.refl Z) R .nil)⟩
  refine wpAny_Call_Name_kw (ld_glob I hg hm ?_ hdb)
  refine PySem.W.callWith_K (h₀ := X.base) I.ok.mod.kin hk (thn (pa.run pos pins sh σ H _ I h) fun us s1 ⟨vs, H1, I1, rv, q⟩ => ⟨I1.kIn, ?_⟩) hs hpl
  obtain ⟨l1, l2, q2⟩ := q
  exact run_p F hr hG hb I1 rv .nil l1 rfl q2
/-- f(e, .., k = v, ..) -/
theorem cd_callPQ (F : FnG X.prog X.w X.K X.mg X.base k f fd ps m) (hr : Room k X.A) (hG : X.A.guards = some []) (hm : X.mg x = some (.ref f)) (hk : PySem.W.keepIn X.K (.ref f) = true) (hb : PB X.K fd ps n ks s) (ha : AD X (e :: es) r) (hkw : KD X kws rk)
    (hn : ∀ ρ p, r ρ = some p → p.1.length = n) (hn2 : ∀ ρ p, rk ρ = some p → p.1.length = ks.length)
    (hg : Gl X x := by rfl) (hdb : (x == ("__debug__" : Str)) = false := by decide) (hall : (backToKw pos (keywordEach kws X.env)).all (·.1.isSome) = true := by rfl) (hks : (backToKw pos (keywordEach kws X.env)).filterMap (·.1) = ks := by rfl)
    (he : starEach (e :: es) X.env = (false, eval e X.env) :: starEach es X.env := by rfl)
    (hpl : ((backTo pos (starEach (e :: es) X.env)).any (·.1) || (backToKw pos (keywordEach kws X.env)).any (·.1.isNone)) = false := by rfl) :
    CD X (.Call (.Name x p) (e :: es) kws pos) m (aPick s r rk) := by
  obtain ⟨t, pa, ma⟩ := ha
  obtain ⟨tk, pk, mk⟩ := hkw
  refine ⟨tCallP X.K n ks.length s m t tk, ⟨fun pins sh σ H Q I h => ?_⟩, me_callP hn hn2 ma mk⟩
  refine wpAny_Call_Name_kw (ld_glob I hg hm ?_ hdb)
  refine PySem.W.callWith_KW (h₀ := X.base) I.ok.mod.kin hk hall (thn (pa.run pos pins sh σ H _ I h) fun us s1 ⟨vs, H1, I1, r, q⟩ => ?_) hpl he
  refine thn (pk.run pos pins s1 σ H1 _ I1 q) fun ws s2 ⟨zs, H2, I2, rz, l1, l2, q2⟩ => ⟨I2.kIn, ?_⟩
  rw [hks]
  exact run_p F hr hG hb I2 r rz l1 l2 q2
end
/-- how many arguments a reading makes -/
theorem ln_nil : ∀ (ρ : Nv) (p : List AV × Nv), aNil ρ = some p → p.1.length = 0 := fun ρ p e => by cases e; rfl
theorem ln_cons {f : XE} {r : XA} {n : Nat} (h : ∀ (ρ : Nv) (p : List AV × Nv), r ρ = some p → p.1.length = n) : ∀ (ρ : Nv) (p : List AV × Nv), aCons f r ρ = some p → p.1.length = n + 1 := fun ρ p e => by
  unfold aCons at e
  cases e1 : f ρ with
  | none => rw [e1] at e; cases e
  | some s =>
    rw [e1, Option.bind_some] at e
    cases e2 : r s.2 with
    | none => rw [e2] at e; cases e
    | some w => rw [e2] at e; cases e; exact congrArg Nat.succ (h _ _ e2)
end DL
set_option maxRecDepth 100000
set_option maxHeartbeats 2000000
namespace DL
open PySem PySem.Spec PyProof.Rows L2

/-- the def at f, called with any number of values -/
structure FnV (P : Program) (w : World) (K : PySem.W.Frag) (mg : Str → Option Value) (base : Heap) (k : Nat) (f : Addr) (m : XF) : Prop where
  run : ∀ (A : Around) (outer : List Env) (s : Shared) (H : Hp) (us : List Value) (vs : List V) (Q : VK), Room k A → A.guards = some [] → Env0 P w K mg base A outer s H → Vals vs us → spF K m vs H Q →
    codeAny (model P w) A (.call (.ref f) ⟨us, []⟩) (CR CX0 outer P w H s Q E0) s
theorem FnV.mono {P : Program} {w : World} {K : PySem.W.Frag} {mg : Str → Option Value} {base : Heap} {j k : Nat} {f : Addr} {m : XF} (F : FnV P w K mg base j f m) (h : j ≤ k) : FnV P w K mg base k f m :=
  ⟨fun A outer s H us vs Q hr => F.run A outer s H us vs Q (hr.mono h)⟩
def datEs : List EV → Option (List PyData)
  | [] => some []
  | .d x :: es => (datEs es).map (x :: ·)
  | _ :: _ => none
theorem datEs_map : ∀ {es : List EV} {ds : List PyData}, datEs es = some ds → es = ds.map EV.d
  | [], _, h => by cases h; rfl
  | .d x :: es, ds, h => by
    replace h : (datEs es).map (x :: ·) = some ds := h
    cases e : datEs es with
    | none => rw [e] at h; cases h
    | some r => rw [e] at h; cases h; exact congrArg _ (datEs_map e)
  | .un :: _, _, h => by cases h
  | .own _ _ :: _, _, h => by cases h
  | .scr _ :: _, _, h => by cases h
/-- what the values make a tuple -/
def starF (m : XF) : XF := fun es => (datEs es).bind fun ds => if ds.length ≤ sizeLine then (m [.d (.tuple ds)]).map fun q => (q.1, es) else none
theorem rpa_of {K : PySem.W.Frag} {Z : Hp} : ∀ {vs : List V} {ds : List PyData}, vs.length = ds.length → (∀ (i : Nat) (x : PyData), ds[i]? = some x → ∃ v, vs[i]? = some v ∧ Rp K Z v x) → RpA K Z vs ds
  | [], [], _, _ => .nil
  | [], _ :: _, h, _ => by cases h
  | _ :: _, [], h, _ => by cases h
  | v :: vs, d :: ds, hl, h => by
    obtain ⟨v', e, r⟩ := h 0 d rfl
    cases e
    refine .cons r (rpa_of (by simpa using hl) fun i x hx => ?_)
    obtain ⟨u, e, q⟩ := h (i + 1) x (by simpa using hx)
    exact ⟨u, by simpa using e, q⟩
/-- into the body: the tuple is laid -/
theorem star_in {K : PySem.W.Frag} {m : XF} {vs : List V} {H : Hp} {Q : VK} (h : spF K (starF m) vs H Q) {p : Addr} (hp : H p = none) : vs.length ≤ sizeLine ∧ spF K m [V.ref p] (upd H p (.tup vs)) Q := by
  obtain ⟨Z, Fr, ino, es, d, ρ', hm, hio, R0, hQ⟩ := h
  unfold starF at hm
  cases e1 : datEs es with
  | none => rw [e1] at hm; cases hm
  | some ds =>
    rw [e1, Option.bind_some] at hm
    split at hm
    · rename_i hle
      cases e2 : m [.d (.tuple ds)] with
      | none => rw [e2] at hm; cases hm
      | some w =>
        rw [e2] at hm
        cases hm
        have hes := datEs_map e1
        have hlen : vs.length = ds.length := by
          have := R0.len
          rw [hes, List.length_map, List.length_map] at this
          exact this.symm
        have noown : ∀ (i : Nat) o b, es[i]? ≠ some (EV.own o b) := fun i o b q => by
          rw [hes, List.getElem?_map] at q
          cases h' : ds[i]? <;> rw [h'] at q <;> cases q
        have noscr : ∀ (i : Nat) ns, es[i]? ≠ some (EV.scr ns) := fun i o q => by
          rw [hes, List.getElem?_map] at q
          cases h' : ds[i]? <;> rw [h'] at q <;> cases q
        have noino : ∀ i a, ino i ≠ some a := fun i a q => by
          obtain ⟨_, o, e⟩ := R0.ino i a q
          exact noown i o _ e
        obtain ⟨zs, R1⟩ := R0.fresh (o := .tup vs) hp
        have hra : RpA K (upd Z p (.tup vs)) vs ds := rpa_of hlen fun i x hx => by
          obtain ⟨v, e, r⟩ := R1.dat i x (by rw [hes, List.getElem?_map, hx]; rfl)
          refine ⟨v, ?_, r⟩
          rw [List.getElem?_map] at e
          cases h' : vs[i]? with
          | none => rw [h'] at e; cases e
          | some u => rw [h'] at e; cases e; rfl
        refine ⟨by rw [hlen]; exact hle, upd Z p (.tup vs), Fr, fun _ => none, [.d (.tuple ds)], w.1, w.2, e2, fun i o e => by cases i <;> simp at e, ?_, ?_⟩
        · refine
            { len := rfl
              zH := R1.zH
              zN := fun b o h _ => .inl h
              f0 := fun b h => R1.zH.free h
              fr := R1.fr
              dom := fun b h => h
              inj := fun i j b ⟨⟨o, io, e⟩, _⟩ _ => by cases i <;> simp at e
              sep := fun i b ⟨⟨o, io, e⟩, _⟩ => by cases i <;> simp at e
              dat := fun i y e => ?_
              scr := fun i l e => by cases i <;> simp at e
              own := fun i o io e => by cases i <;> simp at e
              loc := fun i o b e => by cases i <;> simp at e
              ino := fun i b e => nomatch e
              io := fun i o e => by cases i <;> simp at e }
          cases i with
          | zero =>
            simp at e
            subst e
            exact ⟨_, rfl, .tup upd_same hra⟩
          | succ i => simp at e
        · intro v H2 Z2 z2 R2 r2
          have hH : ∀ a, upd H p (.tup vs) a = none → H a = none := fun a e => by
            by_cases ha : a = p
            · subst ha; exact hp
            · rw [upd_ne ha] at e; exact e
          refine hQ v H2 Z2 (zs.trans z2)
            { len := R0.len
              zH := R2.zH
              zN := fun a o q nt => ?_
              f0 := R0.f0
              fr := R2.fr
              dom := fun a q => hH a (R2.dom a q)
              inj := fun i j a ⟨⟨o, io, e⟩, _⟩ _ => absurd e (noown i o io)
              sep := fun i a ⟨⟨o, io, e⟩, _⟩ => absurd e (noown i o io)
              dat := fun i x e => ?_
              scr := fun i ns e => absurd e (noscr i ns)
              own := fun i o io e => absurd e (noown i o io)
              loc := fun i o a e => absurd e (noown i o false)
              ino := fun i a e => absurd e (noino i a)
              io := fun i o e => absurd e (noown i o true) } ?_
          · rcases R2.zN a o q nt with q | ⟨q1, q2⟩
            · by_cases ha : a = p
              · subst ha
                exact .inr ⟨hp, R0.fr.free hp⟩
              · left
                have q' : upd Z p (.tup vs) a = some o := q
                rw [upd_ne ha] at q'
                exact q'
            · exact .inr ⟨hH a q1, q2⟩
          · obtain ⟨u, e', r⟩ := R0.dat i x e
            exact ⟨u, e', r.mono (zs.trans z2)⟩
          · cases hw : w.1 with
            | d x => rw [hw] at r2; exact r2
            | n o =>
              rw [hw] at r2
              obtain ⟨a, rfl, W⟩ := r2
              exact ⟨a, rfl, W.ob, W.z, W.fr, hH a W.h0, fun i ⟨⟨o, io, e⟩, _⟩ => noown i o io e⟩
    · cases hm
section
variable {P : Program} {w : World} {K : PySem.W.Frag} {mg : Str → Option Value} {base : Heap}
/-- THE RULE for def f(*v) -/
theorem fn_bodyV {x qual pv : Str} {st : Stmt} {f : Addr} {fd : FuncData} {N : List Str} {k : Nat} {body : XS} (F : Fun K x qual st f fd) (S : FnScope N [pv] (defScope st))
    (hbind : ∀ us : List Value, bindArgs fd ⟨us, []⟩ = (newTuple us >>= fun t => pure [(pv, t)]))
    (hb : ∀ (cdv : Value) (A : Around) (outer : List Env) (s : Shared) (H : Hp), Room k (A.deeper (envOfC qual (defScope st) s.heap.objs.size f cdv)) → A.guards = some [] →
      SSD (cxOf CX0 P w K mg base N qual (defScope st) f cdv A outer s H E0).nox (defBody st) body) : FnV P w K mg base (k + 1) f (starF (runF N.length body)) := by
  obtain ⟨oc, od, kV, doc, pm, an, cdv, ct, osl, rfl, lk, hcd⟩ := F.ex
  refine ⟨fun A outer s H us vs Q hr hG e0 rv hsp => ?_⟩
  have hn : H s.heap.objs.size = Option.none := e0.hok.fresh (Nat.le_refl _)
  have hz := (star_in hsp hn).1
  have hl2 : us.length ≤ sizeLine := by rw [← rv.length]; exact hz
  refine StX.run_bnd (CX := CX0) lk hcd S hr e0 (G := fun xs H2 => ∃ p, H p = Option.none ∧ xs = [V.ref p] ∧ H2 = upd H p (.tup vs)) (fun A' Ex Q' h => ?_) fun s2 H2 xs ⟨p, hp, ex, eH⟩ hr' => ?_
  · rw [hbind us]
    refine wpAny_bind (wpAny_newTuple (wpAny_pure ?_) hl2)
    have new : ObjOk P w (upd H s.heap.objs.size (.tup vs)) (s.heap.push ({ cls := .type "tuple", data := .seq us.toArray } : Obj)) s.heap.objs.size (.tup vs) := ⟨hz, us, rv, ⟨_, Heap.get?_push_size _ rfl, rfl, _, rfl⟩⟩
    have un := StX.un_laid (fs := frs outer) (s := s) (o := ({ cls := .type "tuple", data := .seq us.toArray } : Obj)) (u := .tup vs) hn
    exact h _ _ [V.ref s.heap.objs.size] [Value.ref s.heap.objs.size] (StX.env0_laid e0 new) un rfl (fun e s' z => z) (.cons rfl .nil) rfl ⟨_, hn, rfl, rfl⟩
  · subst ex eH
    obtain ⟨t, pt, mt⟩ := hb cdv A outer s2 (upd H p (.tup vs)) hr' hG
    refine ⟨t, pt.nox, ?_⟩
    obtain ⟨_, Z, Fr, ino, es, d, ρ', hm, hio', R0, hQ⟩ := star_in hsp hp
    have nv : N.length ≥ [V.ref p].length := by
      have h1 := congrArg List.length S.pre
      rw [List.length_take] at h1
      simp only [List.length_cons, List.length_nil] at h1 ⊢
      omega
    unfold runF at hm
    cases eb : body (es ++ List.replicate (N.length - es.length) .un) with
    | none => rw [eb] at hm; cases hm
    | some fl =>
      rw [eb] at hm
      refine mt _ Z _ _ _ fl (start_rl R0 nv) eb _ ?_
      cases fl with
      | rt d1 ρ1 =>
        cases hm
        exact fun v σ' H' Z' z R r => hQ v H' Z' z (fin_rl R0 hio' z R).1 r
      | rn o1 ρ1 =>
        cases hm
        exact fun a σ' H' Z' z R r => hQ _ H' Z' z (fin_rl R0 hio' z R).1 ⟨a, rfl, r.ob, r.z, r.fr, r.h0, fun i q => r.no i ((fin_rl R0 hio' z R).2 i a q)⟩
      | nx ρ1 =>
        cases hm
        exact fun σ' H' Z' z R => hQ .non H' Z' z (fin_rl R0 hio' z R).1 .non
      | bk ρ1 => cases hm
      | ct ρ1 => cases hm
end

section
variable {X : Cx} {k : Nat} {f : Addr} {m : XF} {x : Str} {p pos sp_ : Pos} {e : Expr} {es : List Expr} {r : XA} {fe : XE}
theorem run_v {pins : List (Addr × Obj)} {σ : L2.St} {H : Hp} {s : Shared} {Q : VK} {us : List Value} {vs : List V} (F : FnV X.prog X.w X.K X.mg X.base k f m) (hr : Room k X.A) (hG : X.A.guards = some [])
    (I : L2.Inv X pins σ H s) (rv : Vals vs us) (h : spF X.K m vs H Q) : wpAny (model X.prog X.w) X.A (call (.ref f) us) (EP X pins σ Q) X.xe s := by
  refine wpAny_call (codeAny_mono (F.run X.A X.stack s H us vs Q hr hG I.env0 rv h) fun out s' hq => ?_)
  match out, hq with
  | .ok (.ret u), hq => exact I.after hq
  | .error e, hq => exact hq.elim
  | .ok .next, hq => exact hq.elim
  | .ok .brk, hq => exact hq.elim
  | .ok .cont, hq => exact hq.elim
def tCallV (K : PySem.W.Frag) (m : XF) (t : TA) : TE := fun σ H Q => t σ H fun vs H1 => spF K m vs H1 Q
theorem me_callV {K : PySem.W.Frag} {t : TA} (ma : MA K t r) : MC K (tCallV K m t) (gCall m r) := by
  intro Φ Z σ H ρ d ρ' R q Q kk
  unfold gCall at q
  cases e1 : r ρ with
  | none => rw [e1] at q; cases q
  | some a =>
    rw [e1, Option.bind_some] at q
    split at q
    · rename_i nd
      cases e2 : entN a.1 a.2 with
      | none => rw [e2] at q; cases q
      | some es =>
        rw [e2, Option.bind_some] at q
        cases e3 : m es with
        | none => rw [e3] at q; cases q
        | some w =>
          rw [e3, Option.bind_some] at q
          cases e4 : back a.1 w.2 a.2 with
          | none => rw [e4] at q; cases q
          | some ρ1 =>
            rw [e4] at q
            cases q
            refine ma Φ Z σ H ρ a.1 a.2 R e1 _ fun vs H1 Z1 z1 R1 ra => ?_
            exact ⟨Z1, _, _, es, w.1, w.2, e3, ent_io e2, call_in R1 ra e2 nd, fun v H2 Z2 z2 Rc rc => kk v H2 Z2 (z1.trans z2) (call_out R1 e2 nd z2 Rc e4).1 (rv_out R1 (call_out R1 e2 nd z2 Rc e4).2 rc)⟩
    · cases q
/-- f(e, ..) -/
theorem cd_callV (F : FnV X.prog X.w X.K X.mg X.base k f m) (hr : Room k X.A) (hG : X.A.guards = some []) (hm : X.mg x = some (.ref f)) (hk : PySem.W.keepIn X.K (.ref f) = true) (ha : AD X (e :: es) r)
    (hg : Gl X x := by rfl) (hdb : (x == ("__debug__" : Str)) = false := by decide) (hs : starEach (e :: es) X.env = (false, eval e X.env) :: starEach es X.env := by rfl) (hpl : (backTo pos (starEach es X.env)).any (·.1) = false := by rfl) :
    CD X (.Call (.Name x p) (e :: es) [] pos) m r := by
  obtain ⟨t, pa, ma⟩ := ha
  refine ⟨tCallV X.K m t, ⟨fun pins s σ H Q I h => ?_⟩, me_callV ma⟩
  refine wpAny_Call_Name_kw (ld_glob I hg hm ?_ hdb)
  exact PySem.W.callWith_K (h₀ := X.base) I.ok.mod.kin hk (thn (pa.run pos pins s σ H _ I h) fun us s1 ⟨vs, H1, I1, rv, q⟩ => ⟨I1.kIn, run_v F hr hG I1 rv q⟩) hs hpl
/-- f(*e) -/
def aStar (fe : XE) : XA := fun ρ => (fe ρ).bind fun p => match p.1 with
  | .list ds => some (ds.map .v, p.2)
  | .tuple ds => some (ds.map .v, p.2)
  | _ => none
theorem ava_dat {K : PySem.W.Frag} {Z : Hp} {σ : L2.St} : ∀ {vs : List V} {ds : List PyData}, RpA K Z vs ds → AvA K Z σ vs (ds.map .v)
  | _, _, .nil => .nil
  | _, _, .cons r t => .v r (ava_dat t)
theorem ma_star1 {K : PySem.W.Frag} {te : TE} (m : ME K te fe) : MA K (fun σ H Q => te σ H fun y H1 => ∃ a xs, y = V.ref a ∧ (SqT K H1 a xs ∨ SqL K H1 a xs) ∧ Q xs H1) (aStar fe) := by
  intro Φ Z σ H ρ as ρ' R q Q k
  unfold aStar at q
  cases e1 : fe ρ with
  | none => rw [e1] at q; cases q
  | some w =>
    rw [e1, Option.bind_some] at q
    split at q
    · rename_i ds ew
      cases q
      refine m Φ Z σ H ρ w.1 w.2 R e1 _ fun v H1 Z1 z1 R1 r1 => ?_
      rw [ew] at r1
      obtain ⟨a, xs, rfl, h, ra⟩ := Rb.lst R1.zH (.inl r1)
      exact ⟨a, xs, rfl, .inr (SqL.of h), k _ H1 Z1 z1 R1 (ava_dat ra)⟩
    · rename_i ds ew
      cases q
      refine m Φ Z σ H ρ w.1 w.2 R e1 _ fun v H1 Z1 z1 R1 r1 => ?_
      rw [ew] at r1
      obtain ⟨a, xs, rfl, h, ra⟩ := Rb.tup R1.zH (.inl r1)
      exact ⟨a, xs, rfl, .inl h, k _ H1 Z1 z1 R1 (ava_dat ra)⟩
    · cases q
theorem cd_callVs (F : FnV X.prog X.w X.K X.mg X.base k f m) (hr : Room k X.A) (hG : X.A.guards = some []) (hm : X.mg x = some (.ref f)) (hk : PySem.W.keepIn X.K (.ref f) = true) (he : ED X e fe)
    (hg : Gl X x := by rfl) (hdb : (x == ("__debug__" : Str)) = false := by decide) (hst : starEach [.Starred e sp_] X.env = [(true, eval e X.env)] := by rfl) : CD X (.Call (.Name x p) [.Starred e sp_] [] pos) m (aStar fe) := by
  obtain ⟨te, pe, me⟩ := he
  refine ⟨_, ⟨fun pins s σ H Q I h => ?_⟩, me_callV (ma_star1 me)⟩
  refine wpAny_Call_Name_kw (ld_glob I hg hm ?_ hdb)
  refine PySem.W.callWith_S (h₀ := X.base) I.ok.mod.kin hk (thn (pe.run pins s σ H _ I h) fun v s1 ⟨y, H1, I1, ry, a, xs, ey, hxs, q⟩ => ?_) hst
  subst ey
  obtain rfl : v = Value.ref a := ry
  exact StX.star_any I1 hxs fun us s2 I2 rv => ⟨I2.kIn, run_v F hr hG I2 rv q⟩
end
end DL
set_option maxRecDepth 100000
set_option maxHeartbeats 2000000
namespace DL
open PySem PySem.Spec PyProof.Rows L2
section
variable {P : Program} {w : World} {K : PySem.W.Frag} {mg : Str → Option Value} {base : Heap}
/-- THE RULE for a def with defaults -/
theorem fn_bodyD {x qual : Str} {st : Stmt} {f : Addr} {fd : FuncData} {N ps : List Str} {k : Nat} {body : XS} {dvs : List V} {kws : List (Str × V)} (F : FunD K x qual (defArgs st) (defBody st) (defScope st) dvs kws f fd) (S : FnScope N ps (defScope st))
    (hb : ∀ (cdv : Value) (A : Around) (outer : List Env) (s : Shared) (H : Hp), Room k (A.deeper (envOfC qual (defScope st) s.heap.objs.size f cdv)) → A.guards = some [] →
      SSD (cxOf CX0 P w K mg base N qual (defScope st) f cdv A outer s H E0).nox (defBody st) body) : FnG P w K mg base (k + 1) f fd ps (runF N.length body) := by
  obtain ⟨oc, od, dV, kV, doc, pm, an, cdv, ct, osl, rfl, lk, hcd, _, _⟩ := F.ex
  refine ⟨fun A outer s H args us vs Q room hG e0 bnd rv hl hsp => ?_⟩
  obtain ⟨Z, Fr, ino, es, d, ρ', hm, hio', R0, hQ⟩ := hsp
  have kin : K.In s.heap := e0.mod.kin.keeps fun b o q => (e0.bs b o q).1
  have nolim : s.heap.NoLimit := e0.mod.nolimit.keeps fun b o q => (e0.bs b o q).1
  have nv : N.length ≥ vs.length := by
    have h1 := congrArg List.length S.pre
    rw [List.length_take] at h1
    omega
  have kinds : ∀ y ∈ ps.zip us, (defScope st).names.lookup y.1 = some .local ∨ ((defScope st).names.lookup y.1 = some .cell ∧ ((cellsFrom (s.heap.objs.size + 1) (defScope st).names []).lookup y.1).isSome = true) := by
    rintro ⟨n, v⟩ hy
    cases S.par n (List.of_mem_zip hy).1 with
    | inl q => exact .inl q
    | inr q => exact .inr ⟨q, PySem.W.cellsFrom_some _ _ _ (.inl q)⟩
  obtain ⟨t, pt, mt⟩ := hb cdv A outer s H (room.deeper _) hG
  have fin : ∀ {σ' : L2.St} {H' : Hp} {v : V} {u : Value} {s' : Shared}, L2.Inv (cxOf CX0 P w K mg base N qual (defScope st) f cdv A outer s H E0) [] σ' H' s' → RelV v u → Q v H' → CE outer P w H s Q u s' :=
    fun {σ' H' v u s'} J ru q => ⟨v, H', J.os, J.bare, J.base, J.hok, ru, q⟩
  have want : t { nx := fun _ H' => Q .non H', rt := Q } (L2.start N vs) H := by
    unfold runF at hm
    cases eb : body (es ++ List.replicate (N.length - es.length) .un) with
    | none => rw [eb] at hm; cases hm
    | some fl =>
      rw [eb] at hm
      refine mt _ Z _ H _ fl (start_rl R0 nv) eb _ ?_
      cases fl with
      | rt d1 ρ1 =>
        cases hm
        exact fun v σ' H' Z' z R r => hQ v H' Z' z (fin_rl R0 hio' z R).1 r
      | rn o1 ρ1 =>
        cases hm
        exact fun a σ' H' Z' z R r => hQ _ H' Z' z (fin_rl R0 hio' z R).1 ⟨a, rfl, r.ob, r.z, r.fr, r.h0, fun i q => r.no i ((fin_rl R0 hio' z R).2 i a q)⟩
      | nx ρ1 =>
        cases hm
        exact fun σ' H' Z' z R => hQ .non H' Z' z (fin_rl R0 hio' z R).1 .non
      | bk ρ1 => cases hm
      | ct ρ1 => cases hm
  refine codeAny_call_function room.depth (kin _ _ lk) rfl S.co S.gen rfl (PySem.W.codeRec_of kin hcd) (bnd _ _ _ _ ?_)
  refine wpAny_newFunctionEnv_cells S.kind kinds fun env he s1 xin => ?_
  subst he
  refine ⟨nolim.keeps xin.toInCall.keep, codeAny_func ?_⟩
  have I : L2.Inv (cxOf CX0 P w K mg base N qual (defScope st) f cdv A outer s H E0) [] (L2.start N vs) H s1 := inv_start S room.hd e0 hl rv xin
  refine wpAny_mono (pt.nox.run [] s1 (L2.start N vs) H _ I want) (fun fl s' hs => ?_) fun _ _ q => q
  match fl, hs with
  | .ret u, ⟨v, σ', H', J, ru, q⟩ => exact fin J ru q
  | .next, ⟨σ', H', J, q⟩ => exact fin (v := V.non) (u := Value.none) J rfl q
  | .brk, ⟨_, _, _, q⟩ => exact q.elim
  | .cont, ⟨_, _, _, q⟩ => exact q.elim
end
/-- a def with defaults as it stands behind the top -/
def DefExD (K : PySem.W.Frag) (x : Str) (st : Stmt) (dvs : List V) (kws : List (Str × V)) : Prop := ∃ (f : Addr) (oc : Value) (od an : Option Addr) (osl : Array (Option Value)) (dV kV doc pm cdv ct : Value),
  PySem.W.nsIn K mainGlobals x = some (some (.ref f)) ∧ K.lookup f = some ⟨oc, od, .func (PySem.W.fnOf x x (defArgs st) (defBody st) (defScope st) dV kV doc pm an cdv ct), osl⟩ ∧ PySem.W.codeIn K cdv x = true ∧ PySem.W.keepIn K (.ref f) = true ∧ DflV K dV dvs ∧ KwdV K kV kws
structure DefAtD (K : PySem.W.Frag) (mg : Str → Option Value) (x : Str) (st : Stmt) (dvs : List V) (kws : List (Str × V)) (f : Addr) (fd : FuncData) : Prop where
  F : FunD K x x (defArgs st) (defBody st) (defScope st) dvs kws f fd
  g : mg x = some (.ref f)
theorem def_atD {K : PySem.W.Frag} {mg : Str → Option Value} {x : Str} {st : Stmt} {dvs : List V} {kws : List (Str × V)} {h : Heap} (X : K.In h) (G : h.Ns mainGlobals mg) (e : DefExD K x st dvs kws) : ∃ f fd, DefAtD K mg x st dvs kws f fd := by
  obtain ⟨f, oc, od, an, osl, dV, kV, doc, pm, cdv, ct, h1, h2, h3, h4, h5, h6⟩ := e
  exact ⟨f, _, ⟨⟨oc, od, dV, kV, doc, pm, an, cdv, ct, osl, rfl, h2, h3, h5, h6⟩, h4⟩, PySem.W.mg_of X G h1⟩
theorem fun_d {K : PySem.W.Frag} {x qual : Str} {st : Stmt} {f : Addr} {fd : FuncData} (F : Fun K x qual st f fd) : FunD K x qual (defArgs st) (defBody st) (defScope st) [] [] f fd := by
  obtain ⟨oc, od, kV, doc, pm, an, cdv, ct, osl, rfl, lk, hcd⟩ := F.ex
  exact ⟨⟨oc, od, .none, kV, doc, pm, an, cdv, ct, osl, rfl, lk, hcd, .inl ⟨rfl, rfl⟩, .inl rfl⟩, F.kp⟩
section
variable {K : PySem.W.Frag} {x qual : Str} {params : Arguments} {body : List Stmt} {scope : Scope} {f : Addr} {fd : FuncData} {ps ks : List Str} {n : Nat} {s : Sel} {ds : List PyData} {dvs : List V} {kws : List (Str × V)}
/-- a plain def -/
theorem pb_none (F : FunD K x qual params body scope [] kws f fd)
    (h : ∀ (kV doc pm : Value) (an : Option Addr) (cdv ct : Value) (us ws : List Value), us.length = n → ws.length = ks.length →
      ∃ zs, bindArgs (PySem.W.fnOf x qual params body scope .none kV doc pm an cdv ct) ⟨us, ks.zip ws⟩ = pure (ps.zip zs) ∧ zs.length = ps.length ∧ Pk (fun d u => RelV (cV d) u) (us ++ ws) s zs) : PB K fd ps n ks s := by
  obtain ⟨oc, od, dV, kV, doc, pm, an, cdv, ct, osl, rfl, lk, hcd, hD, hK⟩ := F.ex
  rcases hD with ⟨_, rfl⟩ | ⟨e, _⟩
  · refine ⟨fun sh us ws hin h1 h2 => ?_⟩
    obtain ⟨zs, e, hl, hp⟩ := h kV doc pm an cdv ct us ws h1 h2
    exact ⟨zs, .of_eq e, hl, hp⟩
  · exact absurd rfl e
/-- defaults fill up -/
theorem pb_dfl (F : FunD K x qual params body scope dvs kws f fd) (hd : dvs ≠ [])
    (h : ∀ (T : Addr) (kV doc pm : Value) (an : Option Addr) (cdv ct : Value) (us ws its : List Value), us.length = n → ws.length = ks.length → Vals dvs its →
      ∃ k zs, bindArgs (PySem.W.fnOf x qual params body scope (.ref T) kV doc pm an cdv ct) ⟨us, ks.zip ws⟩ = seqItems? (.ref T) >>= k ∧ k (some its.toArray) = pure (ps.zip zs) ∧ zs.length = ps.length ∧ Pk (fun d u => RelV (cV d) u) (us ++ ws) s zs) : PB K fd ps n ks s := by
  obtain ⟨oc, od, dV, kV, doc, pm, an, cdv, ct, osl, rfl, lk, hcd, hD, hK⟩ := F.ex
  rcases hD with ⟨e, _⟩ | ⟨_, T, o, its, m, rfl, lT, oT, rT⟩
  · exact absurd e hd
  · refine ⟨fun sh us ws hin h1 h2 => ?_⟩
    obtain ⟨k, zs, e1, e2, hl, hp⟩ := h T kV doc pm an cdv ct us ws its h1 h2 rT
    refine ⟨zs, BindsTo.of_looks fun M => ?_, hl, hp⟩
    rw [e1]
    exact looks_items hin lT oT (.of_pure e2)
/-- keyword-only defaults fill up (ms: those that lack) -/
theorem pb_kwd (F : FunD K x qual params body scope [] kws f fd) (ms : List (Str × V)) (hms : ∀ q ∈ ms, q ∈ kws) (hk : kws ≠ [])
    (h : ∀ (D : Addr) (doc pm : Value) (an : Option Addr) (cdv ct : Value) (us ws xs : List Value), us.length = n → ws.length = ks.length → Vals (ms.map (·.2)) xs →
      ∃ zs, KwChain D ((ms.map (·.1)).zip xs) (bindArgs (PySem.W.fnOf x qual params body scope .none (.ref D) doc pm an cdv ct) ⟨us, ks.zip ws⟩) (ps.zip zs) ∧ zs.length = ps.length ∧ Pk (fun d u => RelV (cV d) u) (us ++ ws) s zs) : PB K fd ps n ks s := by
  obtain ⟨oc, od, dV, kV, doc, pm, an, cdv, ct, osl, rfl, lk, hcd, hD, hK⟩ := F.ex
  rcases hD with ⟨_, rfl⟩ | ⟨e, _⟩
  · rcases hK with e | ⟨D, rfl, hq⟩
    · exact absurd e hk
    · obtain ⟨xs, hl, rk, hxs⟩ := kwd_vals (ms := ms) fun q hq' => hq q (hms q hq')
      refine ⟨fun sh us ws hin h1 h2 => ?_⟩
      obtain ⟨zs, e1, hl', hp⟩ := h D doc pm an cdv ct us ws xs h1 h2 rk
      exact ⟨zs, BindsTo.of_looks fun M => KwChain.looks hin hxs e1, hl', hp⟩
  · exact absurd rfl e
end
/-- a def f(*v) -/
structure DefAtV (K : PySem.W.Frag) (mg : Str → Option Value) (x : Str) (st : Stmt) (pv : Str) (f : Addr) (fd : FuncData) : Prop where
  F : Fun K x x st f fd
  bv : ∀ us : List Value, bindArgs fd ⟨us, []⟩ = (newTuple us >>= fun t => pure [(pv, t)])
  g : mg x = some (.ref f)
theorem def_atV {K : PySem.W.Frag} {mg : Str → Option Value} {x pv : Str} {st : Stmt} {h : Heap} (X : K.In h) (G : h.Ns mainGlobals mg) (e : DefEx K x st)
    (hb : ∀ (kV doc pm : Value) (an : Option Addr) (cdv ct : Value) (us : List Value), bindArgs (PySem.W.fnOf x x (defArgs st) (defBody st) (defScope st) .none kV doc pm an cdv ct) ⟨us, []⟩ = (newTuple us >>= fun t => pure [(pv, t)])) :
    ∃ f fd, DefAtV K mg x st pv f fd := by
  obtain ⟨f, oc, od, an, osl, kV, doc, pm, cdv, ct, h1, h2, h3, h4⟩ := e
  exact ⟨f, _, fun_mk h2 h3 h4, hb kV doc pm an cdv ct, PySem.W.mg_of X G h1⟩
end DL
set_option maxRecDepth 100000
set_option maxHeartbeats 2000000
namespace DL
open PySem PySem.Spec PyProof.Rows L2
def stepL {α : Type} (k : Int) (xs : List α) : List α := (sliceRange 0 xs.length k).filterMap (xs[·]?)
theorem pick_step (items : List Value) {k : Int} (hk : 0 < k) : slicePick items.toArray none none (some k) = (stepL k items).toArray := by
  unfold slicePick stepL
  have e : sliceBounds none none (some k) items.toArray.size = (0, (items.length : Int), k) := by
    have hk' : k > 0 := hk
    simp [sliceBounds, hk']
  rw [e]
  congr 2
  funext i
  simp
theorem RpA.picks {K : PySem.W.Frag} {Z : Hp} {vs : List V} {ds : List PyData} (r : RpA K Z vs ds) : ∀ L : List Nat, RpA K Z (L.filterMap (vs[·]?)) (L.filterMap (ds[·]?))
  | [] => .nil
  | i :: L => by
    have ih := RpA.picks r L
    cases h : ds[i]? with
    | none =>
      have h' : vs[i]? = none := by
        rw [List.getElem?_eq_none_iff] at h ⊢
        rw [r.length]; exact h
      simp only [List.filterMap_cons, h, h']
      exact ih
    | some d =>
      obtain ⟨v, h', rv⟩ := r.get h
      simp only [List.filterMap_cons, h, h']
      exact .cons rv ih
theorem vals_picks {vs : List V} {us : List Value} (r : Vals vs us) : ∀ L : List Nat, Vals (L.filterMap (vs[·]?)) (L.filterMap (us[·]?))
  | [] => .nil
  | i :: L => by
    have ih := vals_picks r L
    cases h : us[i]? with
    | none =>
      have h' : vs[i]? = none := by
        rw [List.getElem?_eq_none_iff] at h ⊢
        rw [r.length]; exact h
      simp only [List.filterMap_cons, h, h']
      exact ih
    | some d =>
      obtain ⟨v, h', rv⟩ := vals_get r h
      simp only [List.filterMap_cons, h, h']
      exact .cons rv ih
def tStepL (K : PySem.W.Frag) (k : Int) (te : TE) : TE := fun σ H Q => te σ H fun x H1 => ∃ a xs, x = .ref a ∧ SqL K H1 a xs ∧ (stepL k xs).length ≤ sizeLine ∧ ∀ p, H1 p = none → Q (.ref p) (upd H1 p (.lst (stepL k xs)))
theorem pe_stepL {X : Cx} {e : Expr} {te : TE} {k : Int} {j} {p2 p3 pos : Pos} (hk : 0 < k) (he : PE X e te) : PE X (.Subscript e (.Slice none none (some (.Constant (.int k) j p2)) p3) pos) (tStepL X.K k te) := by
  refine ⟨fun pins s σ H Q I h => Subscript_ (thn (he.run pins s σ H _ I h) fun v s1 ⟨x, H1, I1, r1, a, xs, ex, hx, hz2, q⟩ => ?_)⟩
  subst ex
  cases r1
  have st : PO X (some (.Constant (.int k) j p2)) (tPart (tC (.int k))) := po_some pe_int
  refine wpAny_Slice (thn (po_none.run pins s1 σ H1 (fun o H2 => o = none ∧ H2 = H1) I1 ⟨rfl, rfl⟩) fun vl s2 ⟨l, H2, I2, pl, el, e2⟩ => ?_)
  subst el e2
  refine thn (po_none.run pins s2 σ H2 (fun o H3 => o = none ∧ H3 = H2) I2 ⟨rfl, rfl⟩) fun vu s3 ⟨u, H3, I3, pu, eu, e3⟩ => ?_
  subst eu e3
  refine thn (st.run pins s3 σ H3 (fun o H4 => o = some k ∧ H4 = H3) I3 ⟨k, rfl, rfl, rfl⟩) fun vs s4 ⟨o, H4, I4, ps, eo, e4⟩ => ?_
  subst eo e4
  have I5 : L2.Inv X pins σ H4 { s4 with heap := s4.heap.push { cls := .type "slice", data := .fields #[vl, vu, vs] } } := I4.kept (t' := s4.toks) fun b ob q => Heap.get?_push_of_some _ q
  obtain ⟨its, r, ht, hz⟩ := I5.list hx
  have hlen := r.length
  show wpAny (model X.prog X.w) X.A (subscriptTail e (.Slice none none (some (.Constant (.int k) j p2)) p3) (.ref a) (.ref s4.heap.objs.size)) (EP X pins σ Q) X.xe { s4 with heap := s4.heap.push { cls := .type "slice", data := .fields #[vl, vu, vs] } }
  refine tail_any (ops := [.ref a, .ref s4.heap.objs.size]) ht.isList.typeIs (PySem.slot_list_getitem.lookup) ?_ (by with_unfolding_all rfl)
  refine wpAny_getItem_list_slice ht.isList (Heap.IsSliceOf.new _ vl vu vs) pl pu ps (by intro q; cases q; omega) ?_ (by rw [List.size_toArray]; omega)
  rw [pick_step its hk]
  refine ⟨.ref _, _, I5.laid (t' := s4.toks) (o := .lst (stepL k xs)) (fun b ob q => Heap.get?_push_of_some _ q) (Nat.le_refl _) ?_, rfl, q _ (I5.hok.fresh (Nat.le_refl _))⟩
  refine ⟨hz2, _, 0, ?_, Heap.get?_push_size _ rfl⟩
  have e : sliceRange 0 (its.length : Int) k = sliceRange 0 (xs.length : Int) k := by rw [hlen]
  unfold stepL
  rw [e]
  exact vals_picks r _
def stepD (k : Int) : PyData → Option PyData
  | .list xs => if (stepL k xs).length ≤ sizeLine then some (.list (stepL k xs)) else none
  | _ => none
theorem ed_step {X : Cx} {e : Expr} {f : XE} {k : Int} {j} {p2 p3 pos : Pos} (he : ED X e f) (hk : 0 < k := by decide) : ED X (.Subscript e (.Slice none none (some (.Constant (.int k) j p2)) p3) pos) (x1 (stepD k) f) := by
  obtain ⟨t, p, m⟩ := he
  refine ⟨_, pe_stepL hk p, fun Φ Z σ H ρ d ρ' R q Q kk => ?_⟩
  unfold x1 at q
  cases e1 : f ρ with
  | none => rw [e1] at q; cases q
  | some w =>
    rw [e1, Option.bind_some] at q
    cases e2 : stepD k w.1 with
    | none => rw [e2] at q; cases q
    | some z =>
      rw [e2] at q
      cases q
      unfold stepD at e2
      split at e2
      · rename_i xs ex
        split at e2
        · rename_i hle
          cases e2
          refine m Φ Z σ H ρ w.1 w.2 R e1 _ fun v H1 Z1 z1 R1 r1 => ?_
          rw [ex] at r1
          obtain ⟨a, vs, rfl, h, rr⟩ := Rb.lst R1.zH (.inl r1)
          have hl : (vs.length : Int) = (xs.length : Int) := by rw [rr.length]
          have rs : RpA X.K Z1 (stepL k vs) (stepL k xs) := by
            unfold stepL
            rw [hl]
            exact rr.picks _
          exact ⟨a, vs, rfl, SqL.of h, by rw [rs.length]; exact hle, fun p hp => ends_lst R1 rs (fun v H' Z' z' R' r' => kk v H' Z' (z1.trans z') R' r') hp⟩
        · cases e2
      · cases e2
end DL
set_option maxRecDepth 100000
set_option maxHeartbeats 2000000
namespace DL
open PySem PySem.Spec PyProof.Rows L2
mutual
inductive KT (K : PySem.W.Frag) : Value → PyData → Prop
  | non : KT K .none .none
  | bl (b : Bool) : KT K (.bool b) (.bool b)
  | int (i : Int) (t : Tok) : KT K (.int i t) (.int i)
  | str (x : Str) (t : Tok) : KT K (.str x t) (.str x)
  | tup {a : Addr} {o : Obj} {its : Array Value} {n : Nat} {ds : List PyData} : K.lookup a = some o → o.cls = .type "tuple" → o.data = .seq its n → its.size ≤ sizeLine → KTA K its.toList ds → kOk ds = true → KT K (.ref a) (.tuple ds)
inductive KTA (K : PySem.W.Frag) : List Value → List PyData → Prop
  | nil : KTA K [] []
  | cons {u : Value} {us : List Value} {d : PyData} {ds : List PyData} : KT K u d → KTA K us ds → KTA K (u :: us) (d :: ds)
end
mutual
theorem KT.rp {K : PySem.W.Frag} : ∀ {u : Value} {d : PyData}, KT K u d → ∃ v, RelV v u ∧ ∀ Z : Hp, Rp K Z v d
  | _, _, .non => ⟨.non, rfl, fun _ => .non⟩
  | _, _, .bl b => ⟨.bl b, rfl, fun _ => .bl b⟩
  | _, _, .int i t => ⟨.int i, ⟨t, rfl⟩, fun _ => .int i⟩
  | _, _, .str x t => ⟨.str x, ⟨t, rfl⟩, fun _ => .str x⟩
  | _, _, .tup (a := a) (o := o) (its := its) (n := n) h1 h2 h3 h4 h5 h6 => by
    obtain ⟨vs, r, q⟩ := KTA.rp h5
    exact ⟨.ref a, rfl, fun Z => .tuk (.inr ⟨o, its, n, h1, h2, h3, h4, r⟩) h6 (q Z)⟩
theorem KTA.rp {K : PySem.W.Frag} : ∀ {us : List Value} {ds : List PyData}, KTA K us ds → ∃ vs, Vals vs us ∧ ∀ Z : Hp, RpA K Z vs ds
  | _, _, .nil => ⟨[], .nil, fun _ => .nil⟩
  | _, _, .cons a b => by
    obtain ⟨v, r, q⟩ := KT.rp a
    obtain ⟨vs, rs, qs⟩ := KTA.rp b
    exact ⟨v :: vs, .cons r rs, fun Z => .cons (q Z) (qs Z)⟩
end
def ConT (K : PySem.W.Frag) (x : Str) (d : PyData) : Prop := ∃ u, PySem.W.nsIn K mainGlobals x = some (some u) ∧ KT K u d
def ConV (K : PySem.W.Frag) (mg : Str → Option Value) (x : Str) (d : PyData) : Prop := ∃ v u, mg x = some u ∧ RelV v u ∧ ∀ Z : Hp, Rp K Z v d
theorem con_atT {K : PySem.W.Frag} {mg : Str → Option Value} {x : Str} {d : PyData} {h : Heap} (X : K.In h) (G : h.Ns mainGlobals mg) (e : ConT K x d) : ConV K mg x d := by
  obtain ⟨u, h1, h2⟩ := e
  obtain ⟨v, r, q⟩ := h2.rp
  exact ⟨v, u, PySem.W.mg_of X G h1, r, q⟩
theorem ed_globT {X : Cx} {pos : Pos} {x : Str} {d : PyData} (h : ConV X.K X.mg x d) (hg : Gl X x := by rfl) (hd : (x == ("__debug__" : Str)) = false := by decide) : ED X (.Name x pos) (xC d) := by
  obtain ⟨v, u, hm, hu, r⟩ := h
  exact ed_glob ⟨u, hm, hu⟩ r hg hd
end DL
set_option maxRecDepth 100000
set_option maxHeartbeats 2000000
namespace DL
open PySem PySem.Spec PyProof.Rows L2
abbrev XR := Nv → Option (Rv × Nv)
def RD (X : Cx) (e : Expr) (f : XR) : Prop := ∃ t, PE X e t ∧ MC X.K t f
def rD (f : XE) : XR := fun ρ => (f ρ).map fun p => (.d p.1, p.2)
def rN (n : XN) : XR := fun ρ => (n ρ).map fun p => (.n p.1, p.2)
theorem ED.rd {X : Cx} {e : Expr} {f : XE} (h : ED X e f) : RD X e (rD f) := by
  obtain ⟨t, p, m⟩ := h
  refine ⟨t, p, fun Φ Z σ H ρ d ρ' R q Q k => ?_⟩
  unfold rD at q
  cases e1 : f ρ with
  | none => rw [e1] at q; cases q
  | some w => rw [e1] at q; cases q; exact m Φ Z σ H ρ _ _ R e1 Q k
theorem ND.rd {X : Cx} {e : Expr} {n : XN} (h : ND X e n) : RD X e (rN n) := by
  obtain ⟨t, p, m⟩ := h
  refine ⟨t, p, fun Φ Z σ H ρ d ρ' R q Q k => ?_⟩
  unfold rN at q
  cases e1 : n ρ with
  | none => rw [e1] at q; cases q
  | some w => rw [e1] at q; cases q; exact m Φ Z σ H ρ _ _ R e1 Q fun a H' Z' z R' W => k _ H' Z' z R' ⟨a, rfl, W⟩
def Rv.new : Rv → Prop
  | .d _ => False
  | .n _ => True
section
variable {K : PySem.W.Frag}
def putR (ρ : Nv) (i : Nat) : Rv → Option Nv
  | .d x => put ρ i x
  | .n o => if free ρ i = true then some (ρ.set i (.own o false)) else none
end
def sParR (i j : Nat) (f g : XR) : XS := fun ρ => (f ρ).bind fun p => (g p.2).bind fun q => (putR q.2 i p.1).bind fun ρ1 => (putR ρ1 j q.1).map .nx
def sParR3 (i j l : Nat) (f g h : XR) : XS := fun ρ => (f ρ).bind fun p => (g p.2).bind fun q => (h q.2).bind fun s => (putR s.2 i p.1).bind fun ρ1 => (putR ρ1 j q.1).bind fun ρ2 => (putR ρ2 l s.1).map .nx
end DL
set_option maxRecDepth 100000
set_option maxHeartbeats 2000000
namespace DL
open PySem PySem.Spec PyProof.Rows L2 RZ
section
variable {K : PySem.W.Frag} {Z : Hp} {a b : Addr} {xs ys : List V} {ds es : List PyData}
end
theorem Rp.lst_at {K : PySem.W.Frag} {Z : Hp} {v : V} {ds : List PyData} (h : Rp K Z v (.list ds)) : ∃ a xs, v = .ref a ∧ Z a = some (.lst xs) ∧ RpA K Z xs ds := by
  cases h with
  | lst h r => exact ⟨_, _, rfl, h, r⟩
theorem Rp.tup_at {K : PySem.W.Frag} {Z : Hp} {v : V} {ds : List PyData} (h : Rp K Z v (.tuple ds)) : ∃ a xs, v = .ref a ∧ SqT K Z a xs ∧ RpA K Z xs ds := by
  cases h with
  | tup h r => exact ⟨_, _, rfl, SqT.of h, r⟩
  | tuk h _ r => exact ⟨_, _, rfl, h, r⟩
section
variable {X : Cx} {e e2 : Expr} {f g : XE} {p pos tpos : Pos} {elts : List Expr} {kk : Nat}
def enuD (ds : List PyData) : List PyData := List.zipWith (fun (i : Nat) x => PyData.tuple [.int (i : Int), x]) (List.range ds.length) ds
theorem enuD_get {ds : List PyData} {i : Nat} {x : PyData} (h : ds[i]? = some x) : (enuD ds)[i]? = some (.tuple [.int (i : Int), x]) := by
  unfold enuD
  have hi := (List.getElem?_eq_some_iff.mp h).1
  rw [List.getElem?_zipWith, h, List.getElem?_range hi]
theorem yld_enum {K : PySem.W.Frag} {Z : Hp} {a : Addr} {xs : List V} {ds : List PyData} (ha : Z a = some (.lst xs)) (rx : RpA K Z xs ds) : Yld K Z (Ite K a) (enuD ds) := by
  have hl : (enuD ds).length = ds.length := by unfold enuD; rw [List.length_zipWith, List.length_range]; omega
  refine ⟨fun i H z hi => ?_, fun i H z hi => ⟨xs, SqL.of (z _ _ ha), by rw [rx.length]; omega⟩, fun i H x H' Φ σ ρ Z2 hi z R y => ?_⟩
  · obtain ⟨v, hv, _⟩ := rx.get (List.getElem?_eq_getElem (show i < ds.length by omega))
    exact ⟨xs, v, SqL.of (z _ _ ha), hv⟩
  · obtain ⟨T, v, rfl, hT, rfl, y1⟩ := y
    have hx := y1 xs (SqL.of (R.zH _ _ (z _ _ ha)))
    obtain ⟨d, hd, rd⟩ := rx.getV hx
    obtain ⟨zs, R'⟩ := R.fresh (o := .tup [.int (i : Nat), v]) hT
    exact ⟨_, _, zs, R', enuD_get hd, .tup upd_same (.cons (.int _) (.cons (rd.mono (z.trans zs)) .nil))⟩
end
end DL
set_option maxRecDepth 100000
set_option maxHeartbeats 2000000
namespace DL
open PySem PySem.Spec PyProof.Rows L2 PySem.W PySem.SeqAt
def headB : PyData → PyData → Bool
  | .tuple (.str n :: _), .tuple (.str m :: _) => decide (n ≠ m)
  | _, _ => false
def simB (d d' : PyData) : Bool := alike d d' || headB d d'
def Row (d : PyData) : Prop := ∃ n r, d = .tuple (.str n :: r)
section
variable {prog : Program} {w : World} {A : Around} {s : Shared}
variable {E : Value → Shared → Prop} {β : Type} {vs : List Value} {bs : List β} {enc : β → PyData} {R : Value → β → Prop}
end
end DL
set_option maxRecDepth 100000
set_option maxHeartbeats 2000000
namespace DL
open PySem PySem.Spec PyProof.Rows L2
def allAlikeB (ds : List PyData) : Bool := ds.all fun d => ds.all fun d' => simB d d'
def alikesB (ds : List PyData) : Bool := ds.all fun d => ds.all fun d' => PySem.W.alike d d'
def emptyB (ds : List PyData) : Bool := (match ds with | .tuple [] :: _ => true | _ => false) && ds.all fun d => match d with | .tuple _ => true | _ => false
def rowsB (ds : List PyData) : Bool := ds.all fun d => match d with | .tuple (.str _ :: _) => true | _ => false
def sortableB (ds : List PyData) : Bool := rowsB ds || (alikesB ds && ((ds.all fun d => match d with | .tuple (_ :: _) => true | _ => false) || (ds.all fun d => match d with | .none => false | .tuple _ => false | _ => true) || emptyB ds))
def sortD (ds : List PyData) : List PyData := ds.mergeSort (PySem.W.dataLe false id)
def sortedD : PyData → Option PyData
  | .list ds => if allAlikeB ds = true ∧ sortableB ds = true ∧ PyData.hasDictAll ds = false ∧ ds.length ≤ sizeLine ∧ PyData.depthAll ds ≤ 50 then some (.list (sortD ds)) else none
  | _ => none

end DL
set_option maxRecDepth 100000
set_option maxHeartbeats 2000000
namespace DL
open PySem PySem.Spec PyProof.Rows L2
section
variable {K : PySem.W.Frag} {Φ : Fx} {Z : Hp} {σ : L2.St} {H : Hp} {ρ : Nv}
end
end DL
set_option maxRecDepth 100000
set_option maxHeartbeats 2000000
namespace DL
open PySem PySem.Spec PyProof.Rows L2
def isKt : PyData → Bool
  | .tuple _ => true
  | _ => false
def sortedX : PyData → Option PyData
  | .dict kvs => if allAlikeB (kvs.map (·.1)) = true ∧ sortableB (kvs.map (·.1)) = true ∧ (kvs.map (·.1)).all isKt = true then some (.list (sortD (kvs.map (·.1)))) else none
  | d => sortedD d
end DL
set_option maxRecDepth 100000
set_option maxHeartbeats 2000000
namespace DL
open PySem PySem.Spec PyProof.Rows L2
section
variable {X : Cx} {elt tg iter : Expr} {ifs : List Expr} {scope : Scope} {pos : Pos} {it : XI} {g : XG} {c : XT} {f : XE}
end

section
variable {X : Cx} {elt tg iter tg1 iter1 : Expr} {ifs ifs1 : List Expr} {scope : Scope} {pos : Pos} {it it1 : XI} {g g1 : XG} {c c1 : XT} {f : XE}
end
end DL
set_option maxRecDepth 100000
set_option maxHeartbeats 2000000
namespace DL
open PySem PySem.Spec PyProof.Rows L2

def xChain3 (g g1 g2 : PyData → PyData → Option PyData) (a b c d : XE) : XE := fun ρ => (a ρ).bind fun p => (b p.2).bind fun q => (g p.1 q.1).bind fun z => match z with
  | .bool true => (c q.2).bind fun r => (g1 q.1 r.1).bind fun z => match z with
    | .bool true => (d r.2).bind fun s => (g2 r.1 s.1).map fun z => (z, s.2)
    | .bool false => some (.bool false, r.2)
    | _ => none
  | .bool false => some (.bool false, q.2)
  | _ => none
section
variable {X : Cx} {a b c d : Expr} {fa fb fc fd : XE} {g g1 g2 : PyData → PyData → Option PyData} {r r1 r2 : R2} {pos : Pos} {ta tb tc td : TE}
end

def sStuck : XS := fun _ => none
theorem sd_stuck {X : Cx} (st : Stmt) : SD X st sStuck := ⟨fun _ _ _ => False, ⟨fun pins s σ H D I h => h.elim⟩, fun Φ Z σ H ρ r R q D k => nomatch q⟩

def xOg1 (i : Nat) (g : XE) : XE := fun ρ => match ρ[i]? with
  | some (.own (.od _) _) => (g ρ).bind fun q => match q.2[i]?, keyD q.1 with
    | some (.own (.od kvs) _), some k => some ((getD' kvs k).getD .none, q.2)
    | _, _ => none
  | _ => none
def xOg2 (i : Nat) (g h : XE) : XE := fun ρ => match ρ[i]? with
  | some (.own (.od _) _) => (g ρ).bind fun q => (h q.2).bind fun r => match r.2[i]?, keyD q.1 with
    | some (.own (.od kvs) _), some k => some ((getD' kvs k).getD r.1, r.2)
    | _, _ => none
  | _ => none
section
variable {X : Cx} {e f2 : Expr} {g h : XE} {apos cpos vpos : Pos}
end

def leS (a b : Str) : Bool := !decide (b.cps.toList < a.cps.toList)
def srtS (ks : List Str) : List Str := ks.mergeSort leS
def skeys : List (PyData × PyData) → Option (List Str)
  | [] => some []
  | (.str x, _) :: r => (skeys r).map (x :: ·)
  | _ => none
def sortedKX : PyData → Option PyData
  | .dict ps => (skeys ps).bind fun ks => if ks.length < 64 then some (.list ((srtS ks).map PyData.str)) else none
  | _ => none
end DL
set_option maxRecDepth 100000
set_option maxHeartbeats 2000000
namespace DL
open PySem PySem.Spec PyProof.Rows L2
section
variable {prog : Program} {w : World} {A : Around} {E : Value → Shared → Prop} {d : Addr}
theorem ns_new {s : Shared} {kvs : List (Key × Value)} {k : Str} {v : Value} {Q : Unit → Shared → Prop} (hm : s.heap.DictOf (mixKind prog w) d kvs) (hn : Sum.inr k ∉ kvs.map (·.1))
    (h : ∀ h', h'.DictOf (mixKind prog w) d (kvs ++ [(.inr k, v)]) → Heap.SameBut d s.heap h' → h'.objs.size = s.heap.objs.size → Q () { s with heap := h', toks := s.toks + 1 }) : wpAny (model prog w) A (nsSet d k v) Q E s := by
  obtain ⟨o, es, ep, ho, hc, hd, hk, hp, hnd⟩ := hm
  have hno : ∀ e ∈ es, e.key.isStr k = false ∧ e.refKey = false := fun e he => by
    obtain ⟨kk, h1, h2⟩ := hk e he
    have hs : (mixKind prog w).is (.inr k) e.key = e.key.isStr k := (mixKind prog w).strs (.inr k) k 0 e.key (mixKind_str prog w k 0)
    constructor
    · rw [← hs]
      cases hb : (mixKind prog w).is (.inr k) e.key with
      | false => rfl
      | true =>
        exfalso
        have hi := hp.findIdx (.inr k)
        have : (kvs.findIdx? fun kv => decide (kv.1 = .inr k)) = none := by
          rw [List.findIdx?_eq_none_iff]
          intro x hx
          rw [decide_eq_false_iff_not]
          intro e
          exact hn (e ▸ List.mem_map_of_mem hx)
        rw [this] at hi
        have := List.findIdx?_eq_none_iff.mp hi e (Array.mem_toList_iff.mpr he)
        rw [hb] at this
        cases this
    · rcases keyIs_shape (show keyIs kk e.key = true from h1) with ⟨i, t, _, e1⟩ | ⟨x, t, _, e1⟩ <;> simp [DictEntry.refKey, e1]
  have c : aRefKeyMayBeTheName k es = false := by
    rw [aRefKeyMayBeTheName_at]
    have : es.any (·.refKey) = false := by rw [Array.any_eq_false']; intro e he; rw [(hno e he).2]; exact Bool.false_ne_true
    rw [this, Bool.and_false]
  have hi : es.findIdx? (·.key.isStr k) = none := by
    rw [Array.findIdx?_eq_none_iff]
    intro e he
    exact (hno e he).1
  unfold nsSet
  refine wpAny_bind (wpAny_bind (wpAny_askSetting (wpAny_pure (wpAny_bind (wpAny_mkText (wpAny_bind (wpAny_loadPart ho ?_)))))))
  simp only [hd, c]
  refine wpAny_updatePart ho ?_
  have hput : ∀ (hh : Int) (key : Value), Obj.putName k hh key v o = ⟨o.cls, o.dict, .dict (es.push ⟨hh, key, v⟩) (ep + 1), o.slots⟩ := fun hh key => by
    obtain ⟨c1, d1, dt, sl⟩ := o
    simp only at hd
    subst hd
    simp only [Obj.putName_eq, Obj.putNameByArray, hi]
  refine h _ ⟨_, es.push ⟨(mixKind prog w).hash (.inr k), .str k s.toks, v⟩, ep + 1, Heap.get?_update_self _ ho (by rw [hput]; rfl), ?_, ?_, hk.push (mixKind_str prog w k s.toks) v, ?_, ?_⟩ (Heap.SameBut.update ..) ?_
  · rw [hput]; exact hc
  · rw [hput]; rfl
  · have := hp.append (mixKind_str prog w k s.toks) ((mixKind prog w).hash (.inr k)) v
    simpa using this
  · rw [List.map_append, List.nodup_append]
    refine ⟨hnd, by simp, fun a ha b hb => ?_⟩
    simp at hb
    subst hb
    exact fun e => hn (e ▸ ha)
  · exact (Heap.SameBut.update ..).1
end
section
variable {prog : Program} {w : World} {A : Around} {E : Value → Shared → Prop} {d : Addr}
theorem ns_fill {Q : PUnit → Shared → Prop} : ∀ (ex : List (Str × Value)) (s : Shared) (kvs : List (Key × Value)), s.heap.DictOf (mixKind prog w) d kvs → (∀ x ∈ ex, Sum.inr x.1 ∉ kvs.map (·.1)) → (ex.map (·.1)).Nodup →
    (∀ h', h'.DictOf (mixKind prog w) d (kvs ++ ex.map fun x => (.inr x.1, x.2)) → Heap.SameBut d s.heap h' → Q ⟨⟩ { s with heap := h', toks := s.toks + ex.length }) →
    wpAny (model prog w) A (forIn ex PUnit.unit fun x _ => (nsSet d x.1 x.2 >>= fun _ => pure (ForInStep.yield PUnit.unit))) Q E s
  | [], s, kvs, hm, _, _, h => by
    rw [List.forIn_nil]
    refine wpAny_pure (h s.heap (by simpa using hm) ⟨rfl, fun _ _ => rfl⟩)
  | x :: r, s, kvs, hm, hn, hd, h => by
    obtain ⟨hn1, hn2⟩ := List.nodup_cons.mp (show (x.1 :: r.map (·.1)).Nodup from hd)
    rw [List.forIn_cons]
    refine wpAny_bind (wpAny_bind (ns_new hm (hn x List.mem_cons_self) fun h' hm' sb sz => wpAny_pure ?_))
    show wpAny (model prog w) A (forIn r PUnit.unit fun x _ => (nsSet d x.1 x.2 >>= fun _ => pure (ForInStep.yield PUnit.unit))) Q E { s with heap := h', toks := s.toks + 1 }
    refine ns_fill r { s with heap := h', toks := s.toks + 1 } _ hm' (fun y hy => ?_) hn2 fun h'' hm'' sb' => ?_
    · rw [List.map_append, List.mem_append, not_or]
      refine ⟨hn y (List.mem_cons_of_mem _ hy), ?_⟩
      simp only [List.map_cons, List.map_nil, List.mem_singleton]
      intro e
      injection e with e
      exact hn1 (e ▸ List.mem_map_of_mem hy)
    · have t1 : s.toks + 1 + r.length = s.toks + (r.length + 1) := by omega
      show Q ⟨⟩ { s with heap := h'', toks := s.toks + 1 + r.length }
      rw [t1]
      refine h h'' ?_ ⟨sb'.1.trans sb.1, fun b hb => (sb'.2 b hb).trans (sb.2 b hb)⟩
      rw [List.append_assoc] at hm''
      exact hm''
end
/-- the def at f, called with keywords alone -/
structure FnK (P : Program) (w : World) (K : PySem.W.Frag) (mg : Str → Option Value) (base : Heap) (k : Nat) (f : Addr) (fd : FuncData) (pv : Str) (m : XF) : Prop where
  run : ∀ (A : Around) (outer : List Env) (s : Shared) (H : Hp) (ks : List Str) (us : List Value) (vs : List V) (Q : VK), Room k A → A.guards = some [] → Env0 P w K mg base A outer s H → Vals vs us → vs.length = ks.length → ks.Nodup → ks.length ≤ 1000 →
    bindArgs fd ⟨[], ks.zip us⟩ = ((alloc ({ cls := .type "dict", data := .dict #[] } : Obj) : Sem Addr) >>= fun d => forIn (ks.zip us) PUnit.unit (fun x _ => (nsSet d x.1 x.2 >>= fun _ => pure (ForInStep.yield PUnit.unit))) >>= fun _ => pure [(pv, Value.ref d)]) →
    (∀ p, H p = none → spF K m [V.ref p] (upd H p (.dK ((ks.map Sum.inr).zip vs))) Q) →
    codeAny (model P w) A (.call (.ref f) ⟨[], ks.zip us⟩) (CR CX0 outer P w H s Q E0) s
theorem FnK.mono {P : Program} {w : World} {K : PySem.W.Frag} {mg : Str → Option Value} {base : Heap} {j k : Nat} {f : Addr} {fd : FuncData} {pv : Str} {m : XF} (F : FnK P w K mg base j f fd pv m) (h : j ≤ k) : FnK P w K mg base k f fd pv m :=
  ⟨fun A outer s H ks us vs Q hr => F.run A outer s H ks us vs Q (hr.mono h)⟩
section
variable {P : Program} {w : World} {K : PySem.W.Frag} {mg : Str → Option Value} {base : Heap}
theorem env0_laid2 {A : Around} {outer : List Env} {s : Shared} {H : Hp} {u : HO} {h' : Heap} {tk : Tok} (e0 : Env0 P w K mg base A outer s H) (kp : ∀ b x, s.heap.get? b = some x → h'.get? b = some x) (sz : s.heap.objs.size ≤ h'.objs.size) (new : ObjOk P w (upd H s.heap.objs.size u) h' s.heap.objs.size u) :
    Env0 P w K mg base A outer { s with heap := h', toks := tk } (upd H s.heap.objs.size u) := by
  refine ⟨e0.frames, e0.mod, fun b x e => ⟨kp b x (e0.bs b x e).1, ?_⟩, ?_, Heap.FunFrames.of_keeps (fun b x e _ => ⟨x, kp b x e, rfl⟩) e0.funs, fun b hb => ?_, e0.hok.laid kp (Nat.le_refl _) new, e0.bare⟩
  · rw [upd_ne (Nat.ne_of_lt (Heap.lt_size (e0.bs b x e).1))]
    exact (e0.bs b x e).2
  · show base.objs.size ≤ h'.objs.size
    exact Nat.le_trans e0.bsz sz
  · obtain ⟨_, x, hx, _⟩ := e0.funs.mem hb
    rw [upd_ne (Nat.ne_of_lt (Heap.lt_size hx))]
    exact e0.frf b hb
theorem kv_zip : ∀ {ks : List Str} {vs : List V} {us : List Value}, Vals vs us → KV ((ks.map (Sum.inr (α := Int))).zip vs) ((ks.zip us).map fun x => (Sum.inr x.1, x.2))
  | [], _, _, _ => .nil
  | _ :: _, [], [], .nil => .nil
  | k :: ks, v :: vs, u :: us, .cons a r => .cons ⟨rfl, a⟩ (kv_zip r)
end
section
variable {X : Cx} {k : Nat} {f : Addr} {fd : FuncData} {pv : Str} {m : XF} {x : Str} {p pos : Pos} {ks : List Str} {kws : List Keyword} {rk : XA}
end
theorem GD.mono {X : Cx} {e : Expr} {f : XG} {vs ws : List Nat} (h : GD X e f vs) (hs : ∀ i ∈ vs, i ∈ ws) : GD X e f ws := by
  obtain ⟨g, p, m⟩ := h
  exact ⟨g, p, fun Φ Z σ H ρ v d ρ' R r q Q k => m Φ Z σ H ρ v d ρ' R r q Q fun σ' R' l s => k σ' R' l fun j hj => s j fun hi => hj (hs j hi)⟩
section
variable {X : Cx} {elt tg iter tg1 iter1 : Expr} {ifs ifs1 : List Expr} {scope : Scope} {pos : Pos} {it it1 : XI} {g g1 : XG} {c c1 : XT} {f : XE}
end
end DL
set_option maxRecDepth 100000
set_option maxHeartbeats 2000000
namespace DL
open PySem L2
def b1 (g : PyData → Option PyData) (a : XB) : XB := fun ρ => (a ρ).bind g
section
variable {X : Cx} {e : Expr} {pos : Pos}
end
end DL
set_option maxRecDepth 100000
set_option maxHeartbeats 4000000
namespace DL
open PySem PySem.Spec PyProof.Rows L2
open AutoSeq1 (wpAny_loadPart')
theorem en_new {v : Value} {ob : Obj} {W : Heap → Prop} (B : Begins v ob W) :
    Meets (Builtin.«enumerate.__new__» ⟨[.type "enumerate", v], []⟩) (fun _ R s => W s.heap ∧
      R (.ok (.ret (.ref (s.heap.push ob).objs.size))) { s with heap := (s.heap.push ob).push { cls := .type "enumerate", data := .fields #[.none, .bool false, .ref s.heap.objs.size, rawInt 0, .none, .none] } }) :=
  .of_wp fun prog w A R s0 hw => by
    obtain ⟨hp, gn, dr, tk, os⟩ := s0; obtain ⟨w1, hw⟩ := hw
    have sb := sub_enumerate; have itr : ∀ {A' : Around} {E Q : Value → Shared → Prop}, Q (.ref hp.objs.size) ⟨hp.push ob, gn, dr, tk, os⟩ → wpAny (model prog w) A' (pyIter v) Q E ⟨hp, gn, dr, tk, os⟩ := fun q => B.iter prog w _ _ ⟨hp, gn, dr, tk, os⟩ _ w1 q
    wp_walk using itr
    refine wpAny_stack_any fun _st => wpAny_pure ?_
    split
    · rename_i c1 _ _ _ _ _
      cases (c1 == Value.type "enumerate") <;> (wp_walk using itr; exact ⟨_, rfl, hw⟩)
    · wp_walk using itr
      exact ⟨_, rfl, hw⟩
section
variable {prog : Program} {w : World} {A : Around} {E : Value → Shared → Prop} {s : Shared}
theorem en_call {v : Value} {ob : Obj} {W : Heap → Prop} {Q : Value → Shared → Prop} (B : Begins v ob W) (w1 : W s.heap)
    (k : ∀ h1, IsEnum h1 (s.heap.objs.size + 1) s.heap.objs.size 0 .none → h1.get? s.heap.objs.size = some ob → (∀ b o, s.heap.get? b = some o → h1.get? b = some o) → Q (.ref (s.heap.objs.size + 1)) { s with heap := h1 }) :
    wpAny (model prog w) A (call (.type "enumerate") [v]) Q E s := by
  refine callType_new F.called_enumerate (by decide) (F.typeCall_enumerate_1 _) (F.newCall_enumerate_1 _) (fun o => F.args_object_init_2 o _) F.entry_enumerate_new (en_new B) ⟨w1, ?_⟩
  have sz : (s.heap.push ob).objs.size = s.heap.objs.size + 1 := Heap.size_push ..
  show _ ∧ _; rw [sz]
  have ie := Heap.get?_push_size (s.heap.push ob) (o := { cls := .type "enumerate", data := .fields #[.none, .bool false, .ref s.heap.objs.size, rawInt 0, .none, .none] }) rfl
  rw [sz] at ie
  exact ⟨⟨_, ie, rfl⟩, k _ ie (Heap.get?_push_of_some _ (Heap.get?_push_size _ B.free)) fun b o x => Heap.get?_push_of_some _ (Heap.get?_push_of_some _ x)⟩
end
/-- the tuple at a, each item in a new pair -/
def Itet (K : PySem.W.Frag) (a : Addr) (xs : List V) : It :=
  ⟨fun i H => SqT K H a xs ∧ i < xs.length, fun i H v H' => ∃ T x, v = .ref T ∧ H T = none ∧ H' = upd H T (.tup [.int (i : Nat), x]) ∧ xs[i]? = some x, fun i H => SqT K H a xs ∧ i = xs.length⟩
theorem turn_enumT {P : Program} {w : World} {K : PySem.W.Frag} {elts : List Expr} {kk : Nat} {tpos : Pos} {xs : List V} (a e it : Addr) (na : a ≠ it) :
    Turn P w K (.Tuple elts kk tpos) (Itet K a xs) [e, it] e (fun i h => (∃ old, IsEnum h e it ((i : Nat) : Int) old) ∧ h.IsTupleIter it a i ∧ e ≠ it ∧ e ≠ a) where
  mem := List.mem_cons_self
  obj := fun i h st b hb => by
    obtain ⟨⟨old, h1⟩, ⟨o, h2, h3, h4⟩, _⟩ := st
    rcases List.mem_cons.mp hb with rfl | hb
    · exact ⟨_, h1, fun v q => nomatch q⟩
    · rw [List.mem_singleton.mp hb]; exact ⟨o, h2, fun v q => by rw [h4] at q; cases q⟩
  keep := fun i h h1 st k => by
    obtain ⟨⟨old, q1⟩, q2, q3, q4⟩ := st
    exact ⟨⟨old, k e List.mem_cons_self _ q1⟩, q2.at fun o q => k it (List.mem_cons_of_mem _ List.mem_cons_self) o q, q3, q4⟩
  item := by
    intro X hP hw hK hc i pins s σ H E I hf st hg
    subst hP hw hK
    obtain ⟨⟨old, h1⟩, h2, h3, h4⟩ := st
    obtain ⟨hq, hi⟩ := hg
    obtain ⟨its, rv, tp, hz⟩ := I.tuple hq
    have hlen : its.toArray.size = xs.length := by rw [rv.length]; simp
    have D := Draws.tuple (prog := X.prog) (w := X.w) (A := X.A.in1) (I.ok.hd hc) it a na its.toArray
    have el : e < s.heap.objs.size := Heap.lt_size h1
    have il : it < s.heap.objs.size := by obtain ⟨_, q, _⟩ := h2; exact Heap.lt_size q
    refine wpAny_pyNext_enum_itemD D h1 ⟨h2, tp⟩ (by rw [hlen]; exact hi) h3 (by simp [h3, h4]) fun u h5 tk hu ho hst hT hsz hk => ?_
    obtain ⟨x, hx, rx⟩ : ∃ x, xs[i]? = some x ∧ RelV x u := by
      obtain ⟨u1, hu1, ru⟩ := rv.get (List.getElem?_eq_getElem hi)
      have : u1 = u := by simpa [hu1] using hu
      exact ⟨_, List.getElem?_eq_getElem hi, this ▸ ru⟩
    refine ⟨_, rfl, wpAny_letOwnedTupleGo_enum (s := { s with heap := h5, toks := tk + 1 }) ho fun h6 hen sb => ?_⟩
    have hT2 : h6.get? s.heap.objs.size = some { cls := .type "tuple", data := .seq #[.int i tk, u] } := (sb.2 _ (Nat.ne_of_gt el)).trans hT
    have new : ObjOk X.prog X.w (upd H s.heap.objs.size (.tup [.int (i : Nat), x])) h6 s.heap.objs.size (.tup [.int (i : Nat), x]) := ⟨by show 2 ≤ sizeLine; decide, [.int i tk, u], .cons ⟨_, rfl⟩ (.cons rx .nil), ⟨_, hT2, rfl, _, rfl⟩⟩
    have I1 : Inv X pins σ (upd H s.heap.objs.size (.tup [.int (i : Nat), x])) { s with heap := h6, toks := tk + 1 } :=
      I.turnedNew (ch := [e, it]) (fun b ob hb q => (sb.2 b (fun z => hb (by simp [z]))).trans (hk b ob (fun z => hb (by simp [z])) (fun z => hb (by simp [z])) q)) hf (Nat.le_refl _) new
    have nw : H s.heap.objs.size = none := I.hok.fresh (Nat.le_refl _)
    refine ⟨.ref s.heap.objs.size, _, I1, rfl, ⟨_, x, rfl, nw, rfl, hx⟩, ⟨⟨u, by rw [show ((i + 1 : Nat) : Int) = (i : Int) + 1 by omega]; exact hen⟩, hst.1.at fun o q => (sb.2 it (Ne.symm h3)).trans q, h3, h4⟩, fun b hb => ?_⟩
    have hne : b ≠ s.heap.objs.size := by
      rcases List.mem_cons.mp hb with rfl | hb
      · exact Nat.ne_of_lt el
      · rw [List.mem_singleton.mp hb]; exact Nat.ne_of_lt il
    rw [upd_ne hne]; exact (hf b hb).1
  done := by
    intro X hP hw hK hc i pins s σ H E I hf st hg
    subst hP hw hK
    obtain ⟨⟨old, h1⟩, h2, h3, h4⟩ := st
    obtain ⟨hq, hi⟩ := hg
    obtain ⟨its, rv, tp, hz⟩ := I.tuple hq
    obtain ⟨f0, f1, f2, f3, f4, f5⟩ := hf it (List.mem_cons_of_mem _ List.mem_cons_self)
    have hlen : its.toArray.size = xs.length := by rw [rv.length]; simp
    have D := Draws.tuple (prog := X.prog) (w := X.w) (A := X.A.in1) (I.ok.hd hc) it a na its.toArray
    exact wpAny_pyNext_enum_endD D h1 ⟨by rw [hlen, ← hi]; exact h2, tp⟩ fun h5 eb => ⟨rfl, I.turned (t' := s.toks) (fun b o hb q => eb b o hb q) f0 f1 f3 f4 f5⟩
  self := fun A i s Q E st h => let ⟨⟨_, h1⟩, _⟩ := st; wpAny_pyIter_enum h1 h
/-- enumerate(x), x a list or a tuple -/
def iEnumA (K : PySem.W.Frag) (ta : TA) : TI := fun σ H R => ta σ H fun vs H1 => ∃ a xs, vs = [.ref a] ∧ ((SqL K H1 a xs ∧ R (Ite K a) H1) ∨ (SqT K H1 a xs ∧ R (Itet K a xs) H1))
theorem pi_enumA {X : Cx} {e : Expr} {ta : TA} {p pos tpos : Pos} {elts : List Expr} {kk : Nat} (hg : Gl X "enumerate") (hm : X.mg "enumerate" = none) (ha : PA X [e] ta) (hs : starEach [e] X.env = [(false, eval e X.env)] := by rfl) :
    PI X (.Tuple elts kk tpos) (.Call (.Name "enumerate" p) [e] [] pos) (iEnumA X.K ta) := by
  refine ⟨fun pins s σ H R I h => Call_ (ld_blt I hg hm boot_enumerate (PyProof.Rows.callWith_type1 (thn (ha.run pos pins s σ H _ I h) fun us s1 ⟨vs, H1, I1, r1, q1⟩ => ?_) hs rfl))⟩
  obtain ⟨a, xs, rfl, q1⟩ := q1
  cases r1 with
  | cons r rr =>
    cases rr
    cases r
    have fp : ∀ b : Addr, s1.heap.objs.size ≤ b → FpOk X pins H1 b := fun b hb => I1.fpOk hb (I1.hok.fresh hb)
    have fps : ∀ b ∈ ([s1.heap.objs.size + 1, s1.heap.objs.size] : List Addr), FpOk X pins H1 b := fun b hb => by
      rcases List.mem_cons.mp hb with rfl | hb
      · exact fp _ (Nat.le_add_right _ _)
      · rw [List.mem_singleton.mp hb]; exact fp _ (Nat.le_refl _)
    rcases q1 with ⟨hq, q⟩ | ⟨hq, q⟩
    · obtain ⟨its, rv, pl, hz⟩ := I1.list hq
      refine call_enumerate_list pl.isList fun h1 he hit hsz hk => wpAny_pyIter_enum he ?_
      exact ⟨s1.heap.objs.size + 1, [s1.heap.objs.size + 1, s1.heap.objs.size], _, _, H1, rfl, I1.kept (t' := s1.toks) hk, turn_enum a _ _, ⟨⟨.none, he⟩, hit, Nat.succ_ne_self _⟩, fps, q⟩
    · obtain ⟨its, rv, tp, hz⟩ := I1.tuple hq
      have al : a < s1.heap.objs.size := by obtain ⟨_, q, _⟩ := tp; exact Heap.lt_size q
      refine en_call (begins_tuple a its.toArray) tp fun h1 he ho hk => wpAny_pyIter_enum he ?_
      exact ⟨s1.heap.objs.size + 1, [s1.heap.objs.size + 1, s1.heap.objs.size], _, _, H1, rfl, I1.kept (t' := s1.toks) hk, turn_enumT a _ _ (Nat.ne_of_lt al), ⟨⟨.none, he⟩, ⟨_, ho, rfl, rfl⟩, Nat.succ_ne_self _, Nat.ne_of_gt (Nat.lt_succ_of_lt al)⟩, fps, q⟩
theorem yld_enumT {K : PySem.W.Frag} {Z : Hp} {a : Addr} {xs : List V} {ds : List PyData} (ha : SqT K Z a xs) (rx : RpA K Z xs ds) : Yld K Z (Itet K a xs) (enuD ds) := by
  have hl : (enuD ds).length = ds.length := by unfold enuD; rw [List.length_zipWith, List.length_range, Nat.min_self]
  have hx : xs.length = ds.length := rx.length
  refine ⟨fun i H z hi => ⟨sqT_mono z ha, by omega⟩, fun i H z hi => ⟨sqT_mono z ha, by omega⟩, fun i H x H' Φ σ ρ Z2 hi z R y => ?_⟩
  obtain ⟨T, v, rfl, hT, rfl, y1⟩ := y
  obtain ⟨d, hd, rd⟩ := rx.getV y1
  obtain ⟨zs, R1⟩ := R.fresh (o := .tup [.int (i : Nat), v]) hT
  exact ⟨_, _, zs, R1, enuD_get hd, .tup upd_same (.cons (.int _) (.cons (rd.mono (z.trans zs)) .nil))⟩
def iEnuA (f : XE) : XI := fun ρ => (f ρ).bind fun p => match p.1 with
  | .list x => some (enuD x, p.2)
  | .tuple x => some (enuD x, p.2)
  | _ => none
theorem id_enuA {X : Cx} {e : Expr} {f : XE} {p pos tpos : Pos} {elts : List Expr} {kk : Nat} (hm : X.mg "enumerate" = none) (he : ED X e f) (hg : Gl X "enumerate" := by rfl) (hs : starEach [e] X.env = [(false, eval e X.env)] := by rfl) :
    ID' X (.Tuple elts kk tpos) (.Call (.Name "enumerate" p) [e] [] pos) (iEnuA f) := by
  obtain ⟨t, q1, m⟩ := he
  refine ⟨_, pi_enumA hg hm (pa_cons q1 pa_nil hs) hs, fun Φ Z σ H ρ ds ρ1 R q R' k => ?_⟩
  unfold iEnuA at q
  cases e1 : f ρ with
  | none => rw [e1] at q; cases q
  | some w =>
    rw [e1, Option.bind_some] at q
    refine m Φ Z σ H ρ w.1 w.2 R e1 _ fun v H1 Z1 z1 R1 r1 => ?_
    split at q
    · rename_i x ex
      cases q
      rw [ex] at r1
      obtain ⟨a, xs, rfl, h1, rx⟩ := Rp.lst_at r1
      exact ⟨a, xs, rfl, .inl ⟨SqL.of (R1.zH _ _ h1), k _ H1 Z1 z1 R1 (yld_enum h1 rx)⟩⟩
    · rename_i x ex
      cases q
      rw [ex] at r1
      obtain ⟨a, xs, rfl, h1, rx⟩ := Rp.tup_at r1
      exact ⟨a, xs, rfl, .inr ⟨sqT_mono R1.zH h1, k _ H1 Z1 z1 R1 (yld_enumT h1 rx)⟩⟩
    · cases q
end DL
set_option maxRecDepth 100000
set_option maxHeartbeats 2000000
namespace DL
open PySem L2
end DL
set_option maxRecDepth 100000
set_option maxHeartbeats 4000000
namespace DL
open PySem L2

section
variable {K : PySem.W.Frag} {Φ : Fx} {Z : Hp} {σ : St} {H : Hp} {ρ : Nv}
/-- what must stay is said anew at the places P, where nobody else looks -/
theorem Rl.reframe (R : Rl K Φ Z σ H ρ) {H2 Fr2 : Hp} (P : Addr → Prop) (hS : ∀ c, ¬ P c → H2 c = H c ∧ Fr2 c = Φ.Fr c) (hz : ∀ c, P c → Z c = none) (h2 : ∀ c, P c → ∃ u, H2 c = some u ∧ (Fr2 c = none ∨ Fr2 c = some u)) (hn : ∀ i a, AtS ρ σ i a → ¬ P a) :
    Rl K { Φ with Fr := Fr2 } Z σ H2 ρ := by
  have zP : ∀ c u, Z c = some u → ¬ P c := fun c u e p => by rw [hz c p] at e; cases e
  refine ⟨R.len, fun a w e => ?_, fun a w e nt => ?_, R.f0, fun a w e => ?_, fun a e => ?_, R.inj, fun i a q => ?_, R.dat, R.scr, fun i o' io e => ?_, R.loc, R.ino, R.io⟩
  · rw [(hS a (zP a w e)).1]
    exact R.zH a w e
  · rcases R.zN a w e nt with q | ⟨q1, q2⟩
    · exact .inl q
    · exact .inr ⟨q1, (hS a (zP a w e)).2.trans q2⟩
  · have e : Fr2 a = some w := e
    by_cases hp : P a
    · obtain ⟨u, hu, h | h⟩ := h2 a hp
      · rw [h] at e; cases e
      · rw [h] at e; cases e; exact hu
    · rw [(hS a hp).2] at e
      rw [(hS a hp).1]
      exact R.fr a w e
  · by_cases hp : P a
    · obtain ⟨u, hu, _⟩ := h2 a hp
      rw [hu] at e; cases e
    · rw [(hS a hp).1] at e
      exact R.dom a e
  · exact ⟨(R.sep i a q).1, (hS a (hn i a q)).2.trans (R.sep i a q).2⟩
  · obtain ⟨a, s, ob⟩ := R.own i o' io e
    exact ⟨a, s, ob.move (Same.refl Z) (hS a (hn i a ⟨⟨o', io, e⟩, s⟩)).1⟩
/-- what must stay and is no tuple is not frozen, where it is new -/
theorem Rl.frZ (R : Rl K Φ Z σ H ρ) {c : Addr} {u : HO} (h : Φ.Fr c = some u) (nt : ∀ xs, u ≠ .tup xs) (h0 : Φ.H0 c = none) : Z c = none := by
  cases hz : Z c with
  | none => rfl
  | some w =>
    have e1 := R.zH c w hz
    have e2 := R.fr c u h
    have e : w = u := Option.some.inj (e1.symm.trans e2)
    rcases R.zN c w hz (by rw [e]; exact nt) with q | ⟨_, q⟩
    · rw [R.f0 c h0] at q; cases q
    · rw [h] at q; cases q
theorem Rl.frN (R : Rl K Φ Z σ H ρ) {c : Addr} {u : HO} (h : Φ.Fr c = some u) : ∀ i, ¬ AtS ρ σ i c := fun i q => by
  have := (R.sep i c q).2
  rw [h] at this
  cases this
end

/-- the inner lists -/
inductive InL (K : PySem.W.Frag) (Z Fr : Hp) : List (Key × V) → List (Key × PyData) → List Addr → Prop
  | nil : InL K Z Fr [] [] []
  | cons {k : Key} {b : Addr} {ws : List V} {xs : List PyData} {vs : List (Key × V)} {kvs : List (Key × PyData)} {bs : List Addr} : Fr b = some (.lst ws) → RpA K Z ws xs → b ∉ bs → InL K Z Fr vs kvs bs → InL K Z Fr ((k, .ref b) :: vs) ((k, .list xs) :: kvs) (b :: bs)
section
variable {K : PySem.W.Frag} {Z Fr : Hp}
theorem InL.mono {Z' Fr' : Hp} (z : Same Z Z') : ∀ {vs : List (Key × V)} {kvs : List (Key × PyData)} {bs : List Addr}, InL K Z Fr vs kvs bs → (∀ b ∈ bs, Fr' b = Fr b) → InL K Z' Fr' vs kvs bs
  | _, _, _, .nil, _ => .nil
  | _, _, _, .cons h r n t, e => .cons ((e _ (by simp)).trans h) (r.mono z) n (t.mono z fun b hb => e b (by simp [hb]))
theorem InL.keys : ∀ {vs : List (Key × V)} {kvs : List (Key × PyData)} {bs : List Addr}, InL K Z Fr vs kvs bs → vs.map (·.1) = kvs.map (·.1)
  | _, _, _, .nil => rfl
  | _, _, _, .cons _ _ _ t => by simp [t.keys]
theorem InL.fr : ∀ {vs : List (Key × V)} {kvs : List (Key × PyData)} {bs : List Addr}, InL K Z Fr vs kvs bs → ∀ b ∈ bs, ∃ ws, Fr b = some (.lst ws)
  | _, _, _, .nil, _, h => by cases h
  | _, _, _, .cons (ws := ws) h r n t, c, hc => by
    rcases List.mem_cons.mp hc with rfl | hc
    · exact ⟨ws, h⟩
    · exact t.fr c hc
/-- what stands under a key -/
theorem InL.get : ∀ {vs : List (Key × V)} {kvs : List (Key × PyData)} {bs : List Addr}, InL K Z Fr vs kvs bs → ∀ k : Key, (valV vs k).isSome = (getD' kvs k).isSome ∧ ∀ z, getD' kvs k = some z → ∃ b ws xs, valV vs k = some (.ref b) ∧ b ∈ bs ∧ z = .list xs ∧ Fr b = some (.lst ws) ∧ RpA K Z ws xs
  | _, _, _, .nil, k => ⟨rfl, fun z e => by simp [getD'] at e⟩
  | _, _, _, .cons (k := k') (b := b) (ws := ws) (xs := xs) (vs := vs) (kvs := kvs) (bs := bs) h r n t, k => by
    have ih := t.get k
    by_cases hk : k' = k
    · subst hk
      refine ⟨by simp [valV, getD'], fun z e => ⟨b, ws, xs, by simp [valV], by simp, ?_, h, r⟩⟩
      simp [getD'] at e
      exact e.symm
    · have e1 : valV ((k', V.ref b) :: vs) k = valV vs k := by simp [valV, hk]
      have e2 : getD' ((k', PyData.list xs) :: kvs) k = getD' kvs k := by simp [getD', hk]
      rw [e1, e2]
      refine ⟨ih.1, fun z e => ?_⟩
      obtain ⟨b2, ws2, xs2, h1, h2, h3, h4, h5⟩ := ih.2 z e
      exact ⟨b2, ws2, xs2, h1, by simp [h2], h3, h4, h5⟩
end

/-- a lock: the object, where it is, what it holds -/
abbrev Lk := Obj × Addr × List (Key × V)
def LkOk : Option Lk → Hp → Addr → List (Key × V) → Prop
  | none, Fr, a, vs => Fr a = some (.dK vs)
  | some (o, a', vs'), Fr, a, vs => a = a' ∧ vs = vs' ∧ Fr a = some (.frz o (.dK vs))
/-- slot j holds a dict of lists, all of one's own; lk: the dict is locked -/
def NR (K : PySem.W.Frag) (j : Nat) (lk : Option Lk) (Φ : Fx) (Z : Hp) (σ : St) (H : Hp) (ρ : Nv) : Prop := ∃ (Fr : Hp) (a : Addr) (vs : List (Key × V)) (kvs : List (Key × PyData)) (bs : List Addr),
  ρ[j]? = some (.own (.od kvs) false) ∧ σ[j]? = some (some (.ref a)) ∧ LkOk lk Fr a vs ∧ InL K Z Fr vs kvs bs ∧ (kvs.map (·.1)).Nodup ∧ a ∉ bs ∧ (∀ c, c ∈ a :: bs → Φ.Fr c = none ∧ Φ.H0 c = none) ∧ Same Φ.Fr Fr ∧
  Rl K { Φ with Fr := Fr } Z σ H (ρ.set j .un)
section
variable {K : PySem.W.Frag} {j : Nat} {lk : Option Lk} {Φ : Fx} {Z : Hp} {σ : St} {H : Hp} {ρ : Nv}
theorem LkOk.rd {lk : Option Lk} {Fr : Hp} {a : Addr} {vs : List (Key × V)} (h : LkOk lk Fr a vs) : ∃ u, Fr a = some u ∧ (∀ xs, u ≠ .tup xs) ∧ (∀ xs, u ≠ .lst xs) ∧ ∀ H : Hp, H a = some u → Rd H a (.dK vs) := by
  cases lk with
  | none => exact ⟨_, h, (fun _ e => by cases e), (fun _ e => by cases e), (fun H e => .inl e)⟩
  | some l =>
    obtain ⟨o, a', vs'⟩ := l
    obtain ⟨rfl, rfl, h⟩ := h
    exact ⟨_, h, (fun _ e => by cases e), (fun _ e => by cases e), (fun H e => .inr ⟨_, e⟩)⟩
theorem LkOk.other {lk : Option Lk} {Fr : Hp} {a b : Addr} {vs : List (Key × V)} {u : HO} (h : LkOk lk Fr a vs) (hb : a ≠ b) : LkOk lk (upd Fr b u) a vs := by
  cases lk with
  | none => exact (upd_ne hb).trans h
  | some l =>
    obtain ⟨o, a', vs'⟩ := l
    obtain ⟨h1, h2, h⟩ := h
    exact ⟨h1, h2, (upd_ne hb).trans h⟩
end
end DL
set_option maxRecDepth 100000
set_option maxHeartbeats 4000000
namespace DL
open PySem L2

def NT (K : PySem.W.Frag) (j : Nat) (lk : Option Lk) (t : TT) (f : XT) : Prop := ∀ (Φ : Fx) (Z : Hp) (σ : St) (H : Hp) (ρ : Nv) (d : Bool) (ρ' : Nv), NR K j lk Φ Z σ H ρ → f ρ = some (d, ρ') →
  ∀ Q : Bool → Hp → Prop, (∀ H' Z', Same Z Z' → NR K j lk Φ Z' σ H' ρ' → Q d H') → t σ H Q
def NFlE (K : PySem.W.Frag) (j : Nat) (lk : Option Lk) (Φ : Fx) (Z : Hp) (D : Ends) : Fl → Prop
  | .nx ρ' => ∀ σ' H' Z', Same Z Z' → NR K j lk Φ Z' σ' H' ρ' → D.nx σ' H'
  | .rt d ρ' => ∀ v σ' H' Z', Same Z Z' → Rl K Φ Z' σ' H' ρ' → Rp K Z' v d → D.rt v H'
  | .rn o ρ' => ∀ a σ' H' Z', Same Z Z' → Rl K Φ Z' σ' H' ρ' → New K Φ Z' σ' H' ρ' a o → D.rt (.ref a) H'
  | .bk ρ' => ∀ σ' H' Z', Same Z Z' → NR K j lk Φ Z' σ' H' ρ' → D.bk σ' H'
  | .ct ρ' => ∀ σ' H' Z', Same Z Z' → NR K j lk Φ Z' σ' H' ρ' → D.ct σ' H'
theorem NFlE.mono {K : PySem.W.Frag} {j : Nat} {lk : Option Lk} {Φ : Fx} {Z Z' : Hp} {D : Ends} {f : Fl} (z : Same Z Z') (h : NFlE K j lk Φ Z D f) : NFlE K j lk Φ Z' D f := by
  cases f with
  | nx ρ => exact fun σ' H' Z2 z2 => h σ' H' Z2 (z.trans z2)
  | rt d ρ => exact fun v σ' H' Z2 z2 => h v σ' H' Z2 (z.trans z2)
  | rn o ρ => exact fun v σ' H' Z2 z2 => h v σ' H' Z2 (z.trans z2)
  | bk ρ => exact fun σ' H' Z2 z2 => h σ' H' Z2 (z.trans z2)
  | ct ρ => exact fun σ' H' Z2 z2 => h σ' H' Z2 (z.trans z2)
def NTD (X : Cx) (j : Nat) (lk : Option Lk) (e : Expr) (f : XT) : Prop := ∃ t, PT X e t ∧ NT X.K j lk t f
def NWD (X : Cx) (j : Nat) (lk : Option Lk) (e : Expr) (f : XT) : Prop := ∃ t, PW X e t ∧ NT X.K j lk t f

section
variable {K : PySem.W.Frag} {j : Nat} {lk : Option Lk}
end

section
variable {X : Cx} {j : Nat} {lk : Option Lk} {e c : Expr} {st : Stmt} {rest a b : List Stmt} {f : XE} {g h : XS} {t : XT} {pos : Pos}
theorem NWD.td (h : NWD X j lk c t) : NTD X j lk c t := by obtain ⟨t, p, m⟩ := h; exact ⟨t, p.pt, m⟩
end
end DL
set_option maxRecDepth 100000
set_option maxHeartbeats 4000000
namespace DL
open PySem L2

section
variable {X : Cx} {j : Nat} {lk : Option Lk} {e ek : Expr} {f fe fk : XE} {pos vpos spos apos cpos : Pos}
end
end DL
set_option maxRecDepth 100000
set_option maxHeartbeats 4000000
namespace DL
open PySem L2

section
variable {X : Cx} {j : Nat}
end

/-- made, held by no slot -/
def NC (K : PySem.W.Frag) (Φ : Fx) (Z : Hp) (σ : St) (H : Hp) (ρ : Nv) (a : Addr) (kvs : List (Key × PyData)) : Prop := ∃ (Fr : Hp) (vs : List (Key × V)) (bs : List Addr),
  Fr a = some (.dK vs) ∧ InL K Z Fr vs kvs bs ∧ (kvs.map (·.1)).Nodup ∧ a ∉ bs ∧ (∀ c, c ∈ a :: bs → Φ.Fr c = none ∧ Φ.H0 c = none) ∧ Same Φ.Fr Fr ∧ Rl K { Φ with Fr := Fr } Z σ H ρ
end DL
set_option maxRecDepth 100000
set_option maxHeartbeats 4000000
namespace DL
open PySem L2

section
variable {K : PySem.W.Frag} {Z Fr : Hp}
theorem InL.snoc {k : Key} {b : Addr} {ws : List V} {xs : List PyData} (hb : Fr b = some (.lst ws)) (r : RpA K Z ws xs) : ∀ {vs : List (Key × V)} {kvs : List (Key × PyData)} {bs : List Addr}, InL K Z Fr vs kvs bs → b ∉ bs → InL K Z Fr (vs ++ [(k, .ref b)]) (kvs ++ [(k, .list xs)]) (bs ++ [b])
  | _, _, _, .nil, _ => .cons hb r (by simp) .nil
  | _, _, _, .cons h r' n t, hn => by
    rw [List.mem_cons, not_or] at hn
    refine .cons h r' ?_ (t.snoc hb r hn.2)
    intro hm
    rcases List.mem_append.mp hm with hm | hm
    · exact n hm
    · exact hn.1 (by simpa using hm : _ = b).symm
end
theorem nodup_snoc {kvs : List (Key × PyData)} {k : Key} {d : PyData} (h : (kvs.map (·.1)).Nodup) (hk : getD' kvs k = none) : ((kvs ++ [(k, d)]).map (·.1)).Nodup := by
  rw [List.map_append, List.nodup_append]
  refine ⟨h, by simp, fun a ha b hb => ?_⟩
  have hb : b = k := by simpa using hb
  subst hb
  rintro rfl
  obtain ⟨p, hp, rfl⟩ := List.mem_map.mp ha
  unfold getD' at hk
  rw [Option.map_eq_none_iff, List.find?_eq_none] at hk
  exact hk p hp (by simp)
theorem putK_new {vs : List (Key × V)} {k : Key} {v : V} (h : k ∉ vs.map (·.1)) : putK vs k v = vs ++ [(k, v)] := by
  unfold putK
  rw [if_neg]
  rw [List.any_eq_true]
  rintro ⟨p, hp, e⟩
  exact h (by have : p.1 = k := by simpa using e
              rw [← this]; exact List.mem_map_of_mem hp)
theorem notin_of {kvs : List (Key × PyData)} {k : Key} (hk : getD' kvs k = none) : k ∉ kvs.map (·.1) := by
  intro h
  obtain ⟨p, hp, e⟩ := List.mem_map.mp h
  unfold getD' at hk
  rw [Option.map_eq_none_iff, List.find?_eq_none] at hk
  exact hk p hp (by simpa using e)
/-- the list of pairs under way -/
def CI (K : PySem.W.Frag) (Φ : Fx) (Z : Hp) (σ : St) (H : Hp) (ρ : Nv) (D : Addr) (ts : List Addr) (acc : List (Key × PyData)) : Prop := ∃ (Fr : Hp) (vs : List (Key × V)) (bs : List Addr),
  Fr D = some (.lst (ts.map V.ref)) ∧ Paired (fun t kv => Fr t = some (.tup [kV kv.1, kv.2])) ts vs ∧ InL K Z Fr vs acc bs ∧ (acc.map (·.1)).Nodup ∧ D ∉ bs ∧ (∀ c, c ∈ D :: bs → Φ.Fr c = none ∧ Φ.H0 c = none) ∧ Same Φ.Fr Fr ∧ Rl K { Φ with Fr := Fr } Z σ H ρ
theorem len_inl {K : PySem.W.Frag} {Z Fr : Hp} : ∀ {vs : List (Key × V)} {kvs : List (Key × PyData)} {bs : List Addr}, InL K Z Fr vs kvs bs → vs.length = kvs.length
  | _, _, _, .nil => rfl
  | _, _, _, .cons _ _ _ t => by simp [len_inl t]
theorem CI.add {K : PySem.W.Frag} {Φ : Fx} {Z : Hp} {σ : St} {H : Hp} {ρ : Nv} {D : Addr} {ts : List Addr} {acc : List (Key × PyData)} (C : CI K Φ Z σ H ρ D ts acc) {k : Key} (hk : getD' acc k = none) {p t : Addr} (hp : H p = none) (ht : upd H p (.lst []) t = none) :
    CI K Φ Z σ (upd (upd (upd H p (.lst [])) t (.tup [kV k, .ref p])) D (.lst (ts.map V.ref ++ [.ref t]))) ρ D (ts ++ [t]) (acc ++ [(k, .list [])]) := by
  obtain ⟨Fr, vs, bs, h1, h2, h3, h4, h5, h6, h7, R⟩ := C
  have hD0 := h6 D (by simp)
  have hDH : H D = some (.lst (ts.map V.ref)) := R.fr D _ h1
  have tp : t ≠ p := by rintro rfl; rw [upd_same] at ht; cases ht
  have ht0 : H t = none := by rw [upd_ne tp] at ht; exact ht
  have pD : p ≠ D := ne_of_none hDH hp |>.symm
  have tD : t ≠ D := ne_of_none hDH ht0 |>.symm
  have frp : Fr p = none := R.fr.free hp
  have frt : Fr t = none := R.fr.free ht0
  let Fr2 := upd (upd (upd Fr p (.lst [])) t (.tup [kV k, .ref p])) D (.lst (ts.map V.ref ++ [.ref t]))
  have keep : ∀ c u, Fr c = some u → c ≠ D → Fr2 c = some u := fun c u hc hcD => by
    show upd _ _ _ c = _
    rw [upd_ne hcD, upd_ne (ne_of_none hc frt), upd_ne (ne_of_none hc frp)]
    exact hc
  have keepS : ∀ c, c ≠ D → c ≠ t → c ≠ p → Fr2 c = Fr c ∧ (upd (upd (upd H p (.lst [])) t (.tup [kV k, .ref p])) D (.lst (ts.map V.ref ++ [.ref t]))) c = H c := fun c c1 c2 c3 => by
    constructor
    · show upd _ _ _ c = _
      rw [upd_ne c1, upd_ne c2, upd_ne c3]
    · rw [upd_ne c1, upd_ne c2, upd_ne c3]
  have bsfr : ∀ b ∈ bs, Fr2 b = Fr b := fun b hb => by
    obtain ⟨ws, hw⟩ := h3.fr b hb
    rw [keep b _ hw (by rintro rfl; exact h5 hb), hw]
  have e2 : Fr2 p = some (.lst []) := by
    show upd _ _ _ p = _
    rw [upd_ne pD, upd_ne (Ne.symm tp), upd_same]
  have e3 : Fr2 t = some (.tup [kV k, .ref p]) := by
    show upd _ _ _ t = _
    rw [upd_ne tD, upd_same]
  have pbs : p ∉ bs := fun hb => by
    obtain ⟨ws, hw⟩ := h3.fr p hb
    rw [frp] at hw
    cases hw
  refine ⟨Fr2, vs ++ [(k, .ref p)], bs ++ [p], ?_, ?_, (h3.mono (Same.refl Z) bsfr).snoc e2 .nil pbs, nodup_snoc h4 hk, ?_, ?_, ?_, ?_⟩
  · show upd _ _ _ D = _
    rw [upd_same, List.map_append]
    rfl
  · exact Paired.snoc (Paired.mono (fun t' kv hh => keep t' _ hh (by rintro rfl; rw [h1] at hh; cases hh)) h2) e3
  · rw [List.mem_append, not_or]
    exact ⟨h5, by simpa using Ne.symm pD⟩
  · intro c hc
    rcases List.mem_cons.mp hc with rfl | hc
    · exact hD0
    · rcases List.mem_append.mp hc with hc | hc
      · exact h6 c (by simp [hc])
      · have : c = p := by simpa using hc
        subst this
        exact ⟨h7.free frp, R.dom _ hp⟩
  · intro c u hc
    have : Fr c = some u := h7 c u hc
    exact keep c u this (by rintro rfl; rw [hD0.1] at hc; cases hc)
  · refine R.reframe (Fr2 := Fr2) (fun c => c = D ∨ c = t ∨ c = p) (fun c hc => ?_) (fun c hc => ?_) (fun c hc => ?_) fun i c hi hc => ?_
    · rw [not_or, not_or] at hc
      obtain ⟨q1, q2⟩ := keepS c hc.1 hc.2.1 hc.2.2
      exact ⟨q2, q1⟩
    · rcases hc with rfl | rfl | rfl
      · exact R.frZ (u := .lst (ts.map V.ref)) h1 (fun _ e => by cases e) hD0.2
      · exact R.zH.free ht0
      · exact R.zH.free hp
    · rcases hc with rfl | rfl | rfl
      · exact ⟨_, upd_same, .inr upd_same⟩
      · exact ⟨_, by rw [upd_ne tD, upd_same], .inr e3⟩
      · exact ⟨_, by rw [upd_ne pD, upd_ne (Ne.symm tp), upd_same], .inr e2⟩
    · rcases hc with rfl | rfl | rfl
      · exact R.frN (u := .lst (ts.map V.ref)) h1 i hi
      · obtain ⟨u, hu, _⟩ := R.at_some hi
        rw [ht0] at hu; cases hu
      · obtain ⟨u, hu, _⟩ := R.at_some hi
        rw [hp] at hu; cases hu
theorem CI.rl {K : PySem.W.Frag} {Φ : Fx} {Z : Hp} {σ : St} {H : Hp} {ρ : Nv} {D : Addr} {ts : List Addr} {acc : List (Key × PyData)} (C : CI K Φ Z σ H ρ D ts acc) : ∃ Φ' : Fx, Rl K Φ' Z σ H ρ ∧ ∀ Z' σ' H' ρ', Same Z Z' → Rl K Φ' Z' σ' H' ρ' → CI K Φ Z' σ' H' ρ' D ts acc := by
  obtain ⟨Fr, vs, bs, h1, h2, h3, h4, h5, h6, h7, R⟩ := C
  exact ⟨_, R, fun Z' σ' H' ρ' z R' => ⟨Fr, vs, bs, h1, h2, h3.mono z (fun _ _ => rfl), h4, h5, h6, h7, R'⟩⟩
end DL
set_option maxRecDepth 100000
set_option maxHeartbeats 4000000
namespace DL
open PySem L2

section
variable {X : Cx} {tg iter ke : Expr} {scope : Scope} {it : XI} {g : XG} {fk : XE} {rest : List Stmt} {b : XS} {pos pos' pos2 p cpos tpos lpos : Pos} {kk : Nat}
end

end DL
namespace DL
open PySem L2
section
variable {X : Cx} {pos vpos lpos : Pos}
end
end DL
namespace DL
open PySem L2
end DL
set_option maxRecDepth 100000
set_option maxHeartbeats 4000000
namespace DL
open PySem L2

theorem NC.rl {K : PySem.W.Frag} {Φ : Fx} {Z : Hp} {σ : St} {H : Hp} {ρ : Nv} {D : Addr} {acc : List (Key × PyData)} (C : NC K Φ Z σ H ρ D acc) : ∃ Φ' : Fx, Rl K Φ' Z σ H ρ ∧ ∀ Z' σ' H' ρ', Same Z Z' → Rl K Φ' Z' σ' H' ρ' → NC K Φ Z' σ' H' ρ' D acc := by
  obtain ⟨Fr, vs, bs, h1, h3, h4, h5, h6, h7, R⟩ := C
  exact ⟨_, R, fun Z' σ' H' ρ' z R' => ⟨Fr, vs, bs, h1, h3.mono z (fun _ _ => rfl), h4, h5, h6, h7, R'⟩⟩
theorem NC.add {K : PySem.W.Frag} {Φ : Fx} {Z : Hp} {σ : St} {H : Hp} {ρ : Nv} {D : Addr} {acc : List (Key × PyData)} (C : NC K Φ Z σ H ρ D acc) {k : Key} (hk : getD' acc k = none) {p : Addr} (hp : H p = none) :
    ∃ vs : List (Key × V), upd H p (.lst []) D = some (.dK vs) ∧ vs.length = acc.length ∧ NC K Φ Z σ (upd (upd H p (.lst [])) D (.dK (putK vs k (.ref p)))) ρ D (acc ++ [(k, .list [])]) := by
  obtain ⟨Fr, vs, bs, h1, h3, h4, h5, h6, h7, R⟩ := C
  have hD0 := h6 D (by simp)
  have hDH : H D = some (.dK vs) := R.fr D _ h1
  have pD : p ≠ D := ne_of_none hDH hp |>.symm
  have frp : Fr p = none := R.fr.free hp
  have hpk : putK vs k (.ref p) = vs ++ [(k, .ref p)] := putK_new (by rw [h3.keys]; exact notin_of hk)
  refine ⟨vs, by rw [upd_ne (Ne.symm pD)]; exact hDH, len_inl h3, ?_⟩
  rw [hpk]
  let Fr2 := upd (upd Fr p (.lst [])) D (.dK (vs ++ [(k, .ref p)]))
  have keep : ∀ c u, Fr c = some u → c ≠ D → Fr2 c = some u := fun c u hc hcD => by
    show upd _ _ _ c = _
    rw [upd_ne hcD, upd_ne (ne_of_none hc frp)]
    exact hc
  have keepS : ∀ c, c ≠ D → c ≠ p → Fr2 c = Fr c ∧ (upd (upd H p (.lst [])) D (.dK (vs ++ [(k, .ref p)]))) c = H c := fun c c1 c3 => by
    constructor
    · show upd _ _ _ c = _
      rw [upd_ne c1, upd_ne c3]
    · rw [upd_ne c1, upd_ne c3]
  have bsfr : ∀ b ∈ bs, Fr2 b = Fr b := fun b hb => by
    obtain ⟨ws, hw⟩ := h3.fr b hb
    rw [keep b _ hw (by rintro rfl; exact h5 hb), hw]
  have e2 : Fr2 p = some (.lst []) := by
    show upd _ _ _ p = _
    rw [upd_ne pD, upd_same]
  have pbs : p ∉ bs := fun hb => by
    obtain ⟨ws, hw⟩ := h3.fr p hb
    rw [frp] at hw
    cases hw
  refine ⟨Fr2, vs ++ [(k, .ref p)], bs ++ [p], upd_same, (h3.mono (Same.refl Z) bsfr).snoc e2 .nil pbs, nodup_snoc h4 hk, ?_, ?_, ?_, ?_⟩
  · rw [List.mem_append, not_or]
    exact ⟨h5, by simpa using Ne.symm pD⟩
  · intro c hc
    rcases List.mem_cons.mp hc with rfl | hc
    · exact hD0
    · rcases List.mem_append.mp hc with hc | hc
      · exact h6 c (by simp [hc])
      · have : c = p := by simpa using hc
        subst this
        exact ⟨h7.free frp, R.dom _ hp⟩
  · intro c u hc
    exact keep c u (h7 c u hc) (by rintro rfl; rw [hD0.1] at hc; cases hc)
  · refine R.reframe (Fr2 := Fr2) (fun c => c = D ∨ c = p) (fun c hc => ?_) (fun c hc => ?_) (fun c hc => ?_) fun i c hi hc => ?_
    · rw [not_or] at hc
      obtain ⟨q1, q2⟩ := keepS c hc.1 hc.2
      exact ⟨q2, q1⟩
    · rcases hc with rfl | rfl
      · exact R.frZ (u := .dK vs) h1 (fun _ e => by cases e) hD0.2
      · exact R.zH.free hp
    · rcases hc with rfl | rfl
      · exact ⟨_, upd_same, .inr upd_same⟩
      · exact ⟨_, by rw [upd_ne pD, upd_same], .inr e2⟩
    · rcases hc with rfl | rfl
      · exact R.frN (u := .dK vs) h1 i hi
      · obtain ⟨u, hu, _⟩ := R.at_some hi
        rw [hp] at hu; cases hu
section
variable {X : Cx} {tg iter ke : Expr} {scope : Scope} {it : XI} {g : XG} {fk : XE} {rest : List Stmt} {b : XS} {pos pos' cpos lpos : Pos}
end
end DL
namespace DL
open PySem L2
end DL
set_option maxRecDepth 100000
set_option maxHeartbeats 4000000
namespace DL
open PySem L2
section
variable {X : Cx} {ke ve tg iter : Expr} {ifs : List Expr} {scope : Scope} {pos : Pos} {it : XI} {g : XG} {c : XT} {fk fv : XE}
end
end DL
namespace DL
open PySem L2
end DL
set_option maxRecDepth 100000
set_option maxHeartbeats 4000000
namespace DL
open PySem L2
theorem RvOk.laid {K : PySem.W.Frag} {Φ : Fx} {Z : Hp} {σ : L2.St} {H : Hp} {ρ : Nv} {v : V} {r : Rv} {t : Addr} {u : HO} (W : RvOk K Φ Z σ H ρ v r) (ht : H t = none) : RvOk K Φ Z σ (upd H t u) ρ v r := by
  cases r with
  | d x => exact W
  | n o =>
    obtain ⟨a, rfl, V⟩ := W
    obtain ⟨w, hw, _⟩ := V.ob.some
    exact ⟨a, rfl, V.ob.move (Same.refl Z) (upd_ne (ne_of_none hw ht)), V.z, V.fr, V.h0, V.no⟩
end DL
namespace DL
open PySem L2
end DL
set_option maxRecDepth 100000
set_option maxHeartbeats 4000000
namespace DL
open PySem PySem.Spec PyProof.Rows L2
end DL
set_option maxRecDepth 100000
set_option maxHeartbeats 4000000
namespace DL
open PySem L2
end DL
namespace DL
open PySem L2
end DL
set_option maxRecDepth 100000
set_option maxHeartbeats 4000000
namespace DL
open PySem L2
end DL
namespace DL
open PySem L2
section
variable {X : Cx} {pos vpos lpos : Pos}
end
end DL
set_option maxRecDepth 100000
set_option maxHeartbeats 2000000
namespace DL
open PySem PySem.Spec PyProof.Rows L2
def sortedY (d : PyData) : Option PyData := match sortedKX d with
  | some z => some z
  | none => sortedX d
end DL
set_option maxRecDepth 100000
set_option maxHeartbeats 2000000
namespace DL
open PySem PySem.Spec PyProof.Rows L2
def dgK (ps : List (PyData × PyData)) (k : Key) : Option PyData := (ps.find? fun p => decide (keyD p.1 = some k)).map (·.2)
def dgT (ps : List (PyData × PyData)) (k : List Key) : Option PyData := (ps.find? fun p => decide (keyT p.1 = some k)).map (·.2)
def isTup1 : List (PyData × PyData) → Bool
  | (.tuple _, _) :: _ => true
  | _ => false
def isKey1 : List (PyData × PyData) → Bool
  | p :: _ => (keyD p.1).isSome
  | _ => false
/-- what stands under k: none if this is not covered -/
def dgD : PyData → PyData → Option (Option PyData)
  | .dict ps, k => match keyD k with
    | some kk => if isKey1 ps = true then some (dgK ps kk) else none
    | none => match keyT k with
      | some kk => if isTup1 ps = true then some (dgT ps kk) else none
      | none => none
  | _, _ => none
theorem keyD_kD (k : Key) : keyD (kD k) = some k := by cases k <;> rfl
theorem strKs_kD : ∀ {k kk : List Key}, strKs (k.map kD) = some kk → k = kk
  | [], kk, e => by cases e; rfl
  | .inl i :: k, kk, e => by simp [strKs, kD] at e
  | .inr x :: k, kk, e => by
    simp only [List.map_cons, kD, strKs] at e
    cases e2 : strKs (k.map kD) with
    | none => rw [e2] at e; cases e
    | some l =>
      rw [e2] at e
      cases e
      rw [strKs_kD e2]
theorem keyT_map {k kk : List Key} (e : keyT (.tuple (k.map kD)) = some kk) : k = kk := by
  rw [show keyT (.tuple (k.map kD)) = if 4 ≤ (k.map kD).length ∧ facB (k.map kD) = true then none else strKs (k.map kD) from rfl] at e
  split at e
  · cases e
  · exact strKs_kD e
/-- a key that is one: the same tuple of data -/
theorem keyT_back {d : PyData} {kk : List Key} (e : keyT d = some kk) : d = .tuple (kk.map kD) := by
  cases d with
  | tuple ds =>
    have : ∀ (ds : List PyData) (kk : List Key), strKs ds = some kk → ds = kk.map kD := by
      intro ds
      induction ds with
      | nil => intro kk e; cases e; rfl
      | cons x xs ih =>
        intro kk e
        cases x with
        | str s =>
          simp only [strKs] at e
          cases e2 : strKs xs with
          | none => rw [e2] at e; cases e
          | some l =>
            rw [e2] at e
            cases e
            rw [ih l e2]
            rfl
        | _ => simp [strKs] at e
    rw [show keyT (.tuple ds) = if 4 ≤ ds.length ∧ facB ds = true then none else strKs ds from rfl] at e
    split at e
    · cases e
    · rw [this ds kk e]
  | _ => cases e
theorem dgK_of {K : PySem.W.Frag} {Z : Hp} {k : Key} : ∀ {vs : List (Key × V)} {ds : List PyData}, RpA K Z (vs.map (·.2)) ds →
    (∀ d, dgK ((vs.map fun p => kD p.1).zip ds) k = some d → ∃ v, valV vs k = some v ∧ Rp K Z v d) ∧ (valV vs k).isSome = (dgK ((vs.map fun p => kD p.1).zip ds) k).isSome
  | [], _, r => by cases r; exact ⟨fun d e => (by cases e), rfl⟩
  | (a, v) :: vs, _, r => by
    cases r with
    | cons r1 r2 =>
      obtain ⟨h1, h2⟩ := dgK_of (k := k) r2
      by_cases h : a = k
      · subst h
        refine ⟨fun d e => ⟨v, by simp [valV], ?_⟩, by simp [valV, dgK, keyD_kD]⟩
        simp [dgK, keyD_kD] at e
        rw [← e]; exact r1
      · have e1 : ∀ y ds, dgK (((a, v) :: vs).map (fun p => kD p.1) |>.zip (y :: ds)) k = dgK ((vs.map fun p => kD p.1).zip ds) k := fun y ds => by simp [dgK, keyD_kD, h]
        have e2 : valV ((a, v) :: vs) k = valV vs k := by simp [valV, List.find?_cons, h]
        rw [e1, e2]
        exact ⟨h1, h2⟩
theorem dgT_of {K : PySem.W.Frag} {Z : Hp} {k : List Key} (hk : keyT (.tuple (k.map kD)) = some k) : ∀ {vs : List (List Key × V)} {ds : List PyData}, RpA K Z (vs.map (·.2)) ds →
    (∀ d, dgT ((vs.map fun p => PyData.tuple (p.1.map kD)).zip ds) k = some d → ∃ v, valV vs k = some v ∧ Rp K Z v d) ∧ (valV vs k).isSome = (dgT ((vs.map fun p => PyData.tuple (p.1.map kD)).zip ds) k).isSome
  | [], _, r => by cases r; exact ⟨fun d e => (by cases e), rfl⟩
  | (a, v) :: vs, _, r => by
    cases r with
    | cons r1 r2 =>
      obtain ⟨h1, h2⟩ := dgT_of hk r2
      by_cases h : a = k
      · subst h
        refine ⟨fun d e => ⟨v, by simp [valV], ?_⟩, by simp [valV, dgT, hk]⟩
        simp [dgT, hk] at e
        rw [← e]; exact r1
      · have hn : ¬ keyT (.tuple (a.map kD)) = some k := fun q => h (keyT_map q)
        have e1 : ∀ y ds, dgT (((a, v) :: vs).map (fun p => PyData.tuple (p.1.map kD)) |>.zip (y :: ds)) k = dgT ((vs.map fun p => PyData.tuple (p.1.map kD)).zip ds) k := fun y ds => by simp [dgT, hn]
        have e2 : valV ((a, v) :: vs) k = valV vs k := by simp [valV, List.find?_cons, h]
        rw [e1, e2]
        exact ⟨h1, h2⟩
theorem keyT_some {d : PyData} {kk : List Key} (e : keyT d = some kk) : keyT (.tuple (kk.map kD)) = some kk := by rw [← keyT_back e]; exact e
theorem dg_ins {n : Str} {fs : List (Str × PyData)} {k : PyData} {o : Option PyData} (e : dgD (insD n fs) k = some o) : False := by
  have h1 : isKey1 ((PyData.none, PyData.str n) :: fs.map fun p => (PyData.str p.1, p.2)) = false := rfl
  have h2 : isTup1 ((PyData.none, PyData.str n) :: fs.map fun p => (PyData.str p.1, p.2)) = false := rfl
  unfold dgD at e
  simp only [h1, h2] at e
  split at e
  · cases e
  · split at e <;> cases e
theorem dg_rp {K : PySem.W.Frag} {Z H : Hp} (zH : Same Z H) {x y : V} {d k : PyData} {o : Option PyData} (rx : Rp K Z x d) (ry : Rp K Z y k) (e : dgD d k = some o) :
    ∃ a w, x = .ref a ∧ DGet H a y w ∧ w.isSome = o.isSome ∧ ∀ z, o = some z → ∃ v, w = some v ∧ Rp K Z v z := by
  cases rx with
  | dic h r =>
    rename_i a ws ds
    cases e1 : keyD k with
    | some kk =>
      simp only [dgD, e1] at e
      split at e
      · cases e
        obtain ⟨h1, h2⟩ := dgK_of (k := kk) r
        rw [keyD_rp ry e1]
        exact ⟨a, _, rfl, DGet.k (zH _ _ h), h2, h1⟩
      · cases e
    | none =>
      simp only [dgD, e1] at e
      cases e2 : keyT k with
      | none => rw [e2] at e; cases e
      | some kk =>
        rw [e2] at e
        simp only at e
        split at e
        · rename_i h1
          exfalso
          cases ws with
          | nil => simp [isTup1] at h1
          | cons w ws =>
            cases r with
            | cons r1 r2 =>
              obtain ⟨w1, w2⟩ := w
              cases w1 <;> simp [isTup1, kD] at h1
        · cases e
  | dit h r =>
    rename_i a ws ds
    cases e1 : keyD k with
    | some kk =>
      simp only [dgD, e1] at e
      split at e
      · rename_i h1
        exfalso
        cases ws with
        | nil => simp [isKey1] at h1
        | cons w ws =>
          cases r with
          | cons r1 r2 => simp [isKey1, keyD] at h1
      · cases e
    | none =>
      simp only [dgD, e1] at e
      cases e2 : keyT k with
      | none => rw [e2] at e; cases e
      | some kk =>
        rw [e2] at e
        simp only at e
        split at e
        · cases e
          obtain ⟨h1, h2⟩ := dgT_of (keyT_some e2) r
          obtain ⟨b, rfl, hb⟩ := keyT_rp ry e2
          exact ⟨a, _, rfl, DGet.t (zH _ _ h) (zH _ _ hb), h2, h1⟩
        · cases e
  | ins c h h1 r => exact (dg_ins e).elim
  | _ => cases e
theorem rb_dict {K : PySem.W.Frag} {Z H : Hp} {v : V} {d k : PyData} {o : Option PyData} (h : Rb K Z H v k) (e : dgD d k = some o) : Rp K Z v k := by
  rcases h with h | ⟨a, o, rfl, ob, rfl⟩
  · exact h
  · exfalso
    unfold dgD at e
    split at e
    · cases o <;> simp [odD, keyD, keyT] at e
    · cases e
/-- x[k] -/
def dixD (d k : PyData) : Option PyData := (dgD d k).bind id
def rDg : R2 := fun x y H Q => ∃ a v, x = .ref a ∧ DGet H a y (some v) ∧ Q v H
theorem ob_dg {K : PySem.W.Frag} {Z H : Hp} (zH : Same Z H) {a : Addr} {ob : OD} {y : V} {k : PyData} {o : Option PyData} (hx : ObAt K Z H a ob) (ry : Rp K Z y k) (e : dgD (odD ob) k = some o) :
    ∃ w, DGet H a y w ∧ w.isSome = o.isSome ∧ ∀ z, o = some z → ∃ v, w = some v ∧ Rp K Z v z := by
  cases ob with
  | ol xs => cases e
  | oi n fs => exact (dg_ins e).elim
  | od kvs =>
    obtain ⟨vs, h, h1, r⟩ := hx
    have ed : odD (.od kvs) = .dict ((vs.map fun p => kD p.1).zip (kvs.map (·.2))) := by
      have e2 : (vs.map fun p => kD p.1) = (kvs.map (·.1)).map kD := by rw [← h1, List.map_map]; rfl
      rw [e2]
      show PyData.dict ((kvs.map fun p => kD p.1).zip (kvs.map (·.2))) = _
      rw [List.map_map]
      rfl
    rw [ed] at e
    cases e1 : keyD k with
    | some kk =>
      simp only [dgD, e1] at e
      split at e
      · cases e
        obtain ⟨g1, g2⟩ := dgK_of (k := kk) r
        rw [keyD_rp ry e1]
        exact ⟨_, DGet.k h, g2, g1⟩
      · cases e
    | none =>
      simp only [dgD, e1] at e
      cases e2 : keyT k with
      | none => rw [e2] at e; cases e
      | some kk =>
        rw [e2] at e
        simp only at e
        split at e
        · rename_i h1
          exfalso
          cases vs with
          | nil => simp [isTup1] at h1
          | cons w ws =>
            cases kvs with
            | nil => simp [isTup1] at h1
            | cons q qs =>
              obtain ⟨w1, w2⟩ := w
              cases w1 <;> simp [isTup1, kD] at h1
        · cases e
  | ot kvs =>
    obtain ⟨vs, h, h1, r⟩ := hx
    have ed : odD (.ot kvs) = .dict ((vs.map fun p => PyData.tuple (p.1.map kD)).zip (kvs.map (·.2))) := by
      have e2 : (vs.map fun p => PyData.tuple (p.1.map kD)) = (kvs.map (·.1)).map fun k => PyData.tuple (k.map kD) := by rw [← h1, List.map_map]; rfl
      rw [e2]
      show PyData.dict ((kvs.map fun p => PyData.tuple (p.1.map kD)).zip (kvs.map (·.2))) = _
      rw [List.map_map]
      rfl
    rw [ed] at e
    cases e1 : keyD k with
    | some kk =>
      simp only [dgD, e1] at e
      split at e
      · rename_i h1
        exfalso
        cases vs with
        | nil => simp [isKey1] at h1
        | cons w ws =>
          cases kvs with
          | nil => simp [isKey1] at h1
          | cons q qs => simp [isKey1, keyD] at h1
      · cases e
    | none =>
      simp only [dgD, e1] at e
      cases e2 : keyT k with
      | none => rw [e2] at e; cases e
      | some kk =>
        rw [e2] at e
        simp only at e
        split at e
        · cases e
          obtain ⟨g1, g2⟩ := dgT_of (keyT_some e2) r
          obtain ⟨b, rfl, hb⟩ := keyT_rp ry e2
          exact ⟨_, DGet.t h (zH _ _ hb), g2, g1⟩
        · cases e
theorem dg_rb {K : PySem.W.Frag} {Z H : Hp} (zH : Same Z H) {x y : V} {d k : PyData} {o : Option PyData} (rx : Rb K Z H x d) (ry : Rb K Z H y k) (e : dgD d k = some o) :
    ∃ a w, x = .ref a ∧ DGet H a y w ∧ w.isSome = o.isSome ∧ ∀ z, o = some z → ∃ v, w = some v ∧ Rp K Z v z := by
  have ry' := rb_dict ry e
  rcases rx with rx | ⟨a, ob, rfl, hx, rfl⟩
  · exact dg_rp zH rx ry' e
  · obtain ⟨w, h⟩ := ob_dg zH hx ry' e
    exact ⟨a, w, rfl, h⟩
theorem r2_dix {K : PySem.W.Frag} : R2M K rDg dixD := by
  intro Φ Z σ H ρ x y d1 d2 z R rx ry e Q k
  unfold dixD at e
  cases e1 : dgD d1 d2 with
  | none => rw [e1] at e; cases e
  | some o =>
    rw [e1] at e
    have e : o = some z := e
    obtain ⟨a, w, rfl, g, _, h⟩ := dg_rb R.zH rx ry e1
    obtain ⟨v, rfl, rv⟩ := h z e
    exact ⟨a, v, rfl, g, k _ H Z (Same.refl Z) R rv⟩
/-- k in x -/
def dinD (k d : PyData) : Option PyData := (dgD d k).map fun o => .bool o.isSome
def rDin : R2 := fun y x H Q => ∃ a o, x = .ref a ∧ DGet H a y o ∧ Q (.bl o.isSome) H
theorem op_din {X : Cx} (hu : X.A.units + 1 < cLine) : OpR X (compareOp .In) rDin := by
  intro pins s σ H y x u v Q I ry rx h
  obtain ⟨a, o, rfl, g, q⟩ := h
  cases rx
  exact d_in hu I g ry fun s3 I3 => ⟨.bl o.isSome, H, I3, rfl, q⟩
theorem r2_din {K : PySem.W.Frag} : R2M K rDin dinD := by
  intro Φ Z σ H ρ y x d1 d2 z R ry rx e Q k
  unfold dinD at e
  cases e1 : dgD d2 d1 with
  | none => rw [e1] at e; cases e
  | some o =>
    rw [e1] at e
    cases e
    obtain ⟨a, w, rfl, g, hb, _⟩ := dg_rb R.zH rx ry e1
    exact ⟨a, w, rfl, g, by rw [hb]; exact k _ H Z (Same.refl Z) R (.bl _)⟩
def orD (h g : PyData → PyData → Option PyData) (x y : PyData) : Option PyData := match h x y with
  | some z => some z
  | none => g x y
abbrev idxY := orD idxD dixD
abbrev inY := orD inD dinD
theorem R2M.both {K : PySem.W.Frag} {r r' : R2} {g g' : PyData → PyData → Option PyData} (h : R2M K r g) (h' : R2M K r' g') : R2M K (fun x y H Q => r x y H Q ∨ r' x y H Q) (orD g g') := by
  intro Φ Z σ H ρ x y d1 d2 z R rx ry e Q k
  unfold orD at e
  cases e1 : g d1 d2 with
  | some w =>
    rw [e1] at e
    cases e
    exact .inl (h Φ Z σ H ρ x y d1 d2 z R rx ry e1 Q k)
  | none =>
    rw [e1] at e
    exact .inr (h' Φ Z σ H ρ x y d1 d2 z R rx ry e Q k)
theorem op_inY {X : Cx} (hu : X.A.units + 65 < cLine) : OpR X (compareOp .In) (fun x y H Q => rInA X.K x y H Q ∨ rDin x y H Q) := (op_inA hu).or (op_din (by omega))
theorem r2_inY {K : PySem.W.Frag} : R2M K (fun x y H Q => rInA K x y H Q ∨ rDin x y H Q) inY := r2_in.both r2_din
theorem ed_or2 {X : Cx} {e : Expr} {g g' : PyData → PyData → Option PyData} {a b : XE} (h : ED X e (x2 g a b)) (h' : ED X e (x2 g' a b)) : ED X e (x2 (orD g g') a b) := by
  obtain ⟨t, p, m⟩ := h
  obtain ⟨t', p', m'⟩ := h'
  refine ⟨fun σ H Q => t σ H Q ∨ t' σ H Q, ⟨fun pins s σ H Q I q => q.elim (p.run pins s σ H Q I) (p'.run pins s σ H Q I)⟩, fun Φ Z σ H ρ d ρ' R q Q k => ?_⟩
  unfold x2 at q
  cases e1 : a ρ with
  | none => rw [e1] at q; cases q
  | some u =>
    rw [e1, Option.bind_some] at q
    cases e2 : b u.2 with
    | none => rw [e2] at q; cases q
    | some w =>
      rw [e2, Option.bind_some] at q
      unfold orD at q
      cases e3 : g u.1 w.1 with
      | some z =>
        rw [e3] at q
        cases q
        exact .inl (m Φ Z σ H ρ _ _ R (by unfold x2; rw [e1, Option.bind_some, e2, Option.bind_some, e3]; rfl) Q k)
      | none =>
        rw [e3] at q
        exact .inr (m' Φ Z σ H ρ _ _ R (by unfold x2; rw [e1, Option.bind_some, e2, Option.bind_some]; exact q) Q k)
theorem ed_ixY {X : Cx} {a b : Expr} {fa fb : XE} {pos : Pos} (hu : X.A.units + 1 < cLine) (ha : ED X a fa) (hb : OD' X b fb) (hs : PlainIx b := by intro _ _; rfl) (hn : NoSl b := by intro _ _; rfl) : ED X (.Subscript a b pos) (x2 idxY fa fb) := by
  refine ed_or2 (ed_ix ha hb hs) ?_
  obtain ⟨ta, pa, ma⟩ := ha
  obtain ⟨tb, pb, mb⟩ := hb
  exact ⟨_, pe_dget hu pa pb hn, me_op (r := rDg) r2_dix ma mb⟩
theorem C1M.both {K : PySem.W.Frag} {r r' : List V → Hp → VK → Prop} {g g' : PyData → Option PyData} (h : C1M K r g) (h' : C1M K r' g') : C1M K (fun v H Q => r v H Q ∨ r' v H Q) (fun d => match g d with | some z => some z | none => g' d) := by
  intro Φ Z σ H ρ x d z R rx e Q k
  cases e1 : g d with
  | some w =>
    simp only [e1] at e
    cases e
    exact .inl (h _ _ _ _ _ _ _ _ R rx e1 _ k)
  | none =>
    simp only [e1] at e
    exact .inr (h' _ _ _ _ _ _ _ _ R rx e _ k)
section
variable {X : Cx} {e f2 : Expr} {g h : XE} {p apos cpos vpos pos : Pos}
end
end DL
set_option maxRecDepth 100000
set_option maxHeartbeats 2000000
namespace DL
open PySem PySem.Spec PyProof.Rows L2
def txt (e : Int × Value) : Str := match e.2 with
  | .str x _ => x
  | _ => Str.empty
/-- the set at a has the texts L; its table can be walked -/
def Txs (P : Program) (w : World) (h : Heap) (a : Addr) (L : List Str) : Prop :=
  ∃ o es c t, h.get? a = some o ∧ o.ExactSet ∧ o.data = .set es c t ∧ ElemsOf (PySem.strKind P w) es.toList ∧ (es.toList.map txt).Perm L ∧ L.Nodup ∧ L.length < scanBound ∧ t.fits es.size = true ∧ Ris t.place.toList ∧ (w.params.followText "set-order" = true ∨ t.led = true)
section
variable {P : Program} {w : World} {h h' : Heap} {a : Addr} {L : List Str}
theorem Txs.keep (R : Txs P w h a L) (k : ∀ o, h.get? a = some o → h'.get? a = some o) : Txs P w h' a L := by
  obtain ⟨o, es, c, t, g, r⟩ := R
  exact ⟨o, es, c, t, k o g, r⟩
end
section
variable {P : Program} {w : World} {A : Around} {E : Value → Shared → Prop} {s : Shared} {a : Addr} {L : List Str}
end
end DL
set_option maxRecDepth 100000
set_option maxHeartbeats 3200000
namespace DL
open PySem PySem.Spec PyProof.Rows L2
section
variable {P : Program} {w : World} {A : Around} {R : Result → Shared → Prop} {I : Addr} {fp wr : List Addr} {G : Array GenState → Array GenState → Prop} {n : Nat} {Pv : Nat → Value → Prop} {St : Nat → Shared → Prop}
end
section
variable {P : Program} {w : World} {A : Around} {E : Value → Shared → Prop} {s : Shared}
end
end DL
set_option maxRecDepth 100000
set_option maxHeartbeats 3200000
namespace DL
open PySem PySem.Spec PyProof.Rows L2
section
variable {X : Cx}
end
def strsD : List PyData → Option (List Str)
  | [] => some []
  | .str x :: r => (strsD r).map (x :: ·)
  | _ => none
end DL
set_option maxRecDepth 100000
set_option maxHeartbeats 3200000
namespace DL
open PySem PySem.Spec PyProof.Rows L2
section
variable {X : Cx}
end
def sortTuD : PyData → Option PyData
  | .tuple ds => (strsD ds).bind fun xs => if xs.length ≤ 1000 then some (.list ((srtS xs).map PyData.str)) else none
  | _ => none
def sortedZ (d : PyData) : Option PyData := match sortTuD d with
  | some z => some z
  | none => sortedY d
@[simp] theorem sortedZ_list (l : List PyData) : sortedZ (.list l) = sortedY (.list l) := rfl
end DL
set_option maxRecDepth 100000
set_option maxHeartbeats 2000000
namespace DL
open PySem PySem.Spec PyProof.Rows L2
end DL
set_option maxRecDepth 100000
set_option maxHeartbeats 2000000
namespace DL
open PySem PySem.Spec PyProof.Rows L2
end DL
set_option maxRecDepth 100000
set_option maxHeartbeats 2000000
namespace DL
open PySem PySem.Spec PyProof.Rows L2
end DL
set_option maxRecDepth 100000
set_option maxHeartbeats 4000000
namespace DL
open PySem PySem.Spec PyProof.Rows L2 RZ
section
variable {prog : Program} {w : World} {A : Around} {z TI TO i1 i2 l1 l2 S : Addr} {xs ys : Array Value} {h0 : Heap} {res : Value} {R : Result → Shared → Prop} {s : Shared}
end
section
variable {K : PySem.W.Frag} {Φ : Fx} {σ : L2.St} {ρ : Nv}
end
end DL
set_option maxRecDepth 100000
set_option maxHeartbeats 4000000
namespace DL
open PySem PySem.Spec PyProof.Rows L2
end DL
set_option maxRecDepth 100000
set_option maxHeartbeats 4000000
namespace NK
open PySem PySem.Spec PyProof.Rows L2
mutual
def intK : NestedKey → Bool
  | .num _ => true
  | .tup ks => intKs ks
  | .none => false
  | .text _ => true
def intKs : List NestedKey → Bool
  | [] => true
  | k :: ks => intK k && intKs ks
end
section
variable {P : Program} {w : World}
/-- at x stands the tuple k -/
structure Kat (h : Heap) (k : NestedKey) (x : Addr) : Prop where
  is : NestedIs h k (.ref x)
  d : k.depth ≤ 8
  i : intK k = true
theorem Kat.nk {h : Heap} {k : NestedKey} {x : Addr} (q : Kat h k x) : (nestedKind P w).is h k x := ⟨q.is, q.d⟩
/-- tuples stay, whatever becomes of another object -/
theorem Kat.stay {h h' : Heap} {k : NestedKey} {x : Addr} (q : Kat h k x) (e : ∀ b o vs n, h.get? b = some o → o.data = .seq vs n → h'.get? b = some o) : Kat h' k x := ⟨q.is.at e, q.d, q.i⟩
theorem Kat.kept {h h' : Heap} {k : NestedKey} {x : Addr} (q : Kat h k x) (e : ∀ b o, h.get? b = some o → h'.get? b = some o) : Kat h' k x := q.stay fun b o _ _ g _ => e b o g
end
end NK
set_option maxRecDepth 100000
set_option maxHeartbeats 4000000
namespace NK
open PySem PySem.Spec PyProof.Rows L2
abbrev Row := Addr × NestedKey
def hsOf (w : World) (L : List Row) : List Int := L.map fun r => r.2.hash w
def entries (w : World) (L : List Row) : List (Int × Value) := L.map fun r => (r.2.hash w, .ref r.1)
structure Sn (w : World) (h : Heap) (a : Addr) (L : List Row) (es : Array (Int × Value)) (ep : Nat) (t : SetTable) : Prop where
  o : ∃ o, h.get? a = some o ∧ o.ExactSet ∧ o.data = .set es ep t
  e : es.toList = entries w L
  tb : TabOk t (hsOf w L)
  nd : (L.map (·.2)).Nodup
  tp : ∀ r ∈ L, Kat h r.2 r.1
  ld : w.params.followText "set-order" = true ∨ t.led = true
  rm : L.length * 5 < t.mask * 3
  fw : L.length < 64
theorem es_len {w : World} {L : List Row} {es : Array (Int × Value)} (e : es.toList = entries w L) : es.size = L.length := by
  have := congrArg List.length e
  simpa [entries] using this
section
variable {P : Program} {w : World} {A : Around} {E : Value → Shared → Prop} {s : Shared} {a : Addr} {L : List Row} {es : Array (Int × Value)} {ep : Nat} {t : SetTable}
theorem Sn.fits (R : Sn w s.heap a L es ep t) : t.fits es.size = true := by
  have h1 := R.tb.sz
  have h2 := es_len R.e
  have h3 := R.rm
  rw [hsOf, List.length_map] at h1
  unfold SetTable.fits SetTable.fill
  rw [R.tb.dm, Bool.and_eq_true, beq_iff_eq, decide_eq_true_eq]
  refine ⟨h1.trans h2.symm, ?_⟩
  show t.place.size + 0 ≤ t.mask
  omega
end
end NK
set_option maxRecDepth 100000
set_option maxHeartbeats 4000000
namespace NK
open PySem PySem.Spec PyProof.Rows L2
section
variable {P : Program} {w : World} {A : Around} {E : Value → Shared → Prop} {s : Shared} {a : Addr} {L : List Row} {es : Array (Int × Value)} {ep : Nat} {t : SetTable}
end
end NK
set_option maxRecDepth 100000
set_option maxHeartbeats 4000000
namespace NK
open PySem PySem.Spec PyProof.Rows L2 DL
/-- what the set has of the first items -/
structure Had (ks : List Row) (i : Nat) (L : List Row) : Prop where
  s : ∀ r ∈ L, r ∈ ks.take i
  a : ∀ r ∈ ks.take i, r.2 ∈ L.map (·.2)
  l : L.length ≤ i
theorem Had.next {ks L L' : List Row} {i : Nat} {r : Row} (h : Had ks i L) (e : ks[i]? = some r) (c1 : r.2 ∈ L.map (·.2) → L' = L) (c2 : r.2 ∉ L.map (·.2) → L'.Perm (r :: L)) : Had ks (i + 1) L' := by
  have et : ks.take (i + 1) = ks.take i ++ [r] := by rw [List.take_add_one, e]; rfl
  by_cases m : r.2 ∈ L.map (·.2)
  · rw [c1 m]
    refine ⟨fun q hq => by rw [et]; exact List.mem_append_left _ (h.s q hq), fun q hq => ?_, Nat.le_succ_of_le h.l⟩
    rw [et] at hq
    rcases List.mem_append.mp hq with hq | hq
    · exact h.a q hq
    · rw [List.mem_singleton.mp hq]; exact m
  · have p := c2 m
    refine ⟨fun q hq => ?_, fun q hq => ?_, by rw [p.length_eq]; exact Nat.succ_le_succ h.l⟩
    · rw [et]
      rcases List.mem_cons.mp (p.mem_iff.mp hq) with rfl | hq
      · simp
      · exact List.mem_append_left _ (h.s q hq)
    · rw [et] at hq
      refine (p.map _).mem_iff.mpr ?_
      rcases List.mem_append.mp hq with hq | hq
      · exact List.mem_cons_of_mem _ (h.a q hq)
      · rw [List.mem_singleton.mp hq]; exact List.mem_cons_self
section
variable {P : Program} {w : World} {A : Around} {R : Result → Shared → Prop} {I : Addr} {fp wr : List Addr} {G : Array GenState → Array GenState → Prop} {n : Nat} {Pv : Nat → Value → Prop} {St : Nat → Shared → Prop}
theorem Sn.move {h h' : Heap} {a : Addr} {L : List Row} {es : Array (Int × Value)} {ep : Nat} {t : SetTable} (x : Sn w h a L es ep t) (e : ∀ o, h.get? a = some o → h'.get? a = some o) (k : ∀ r ∈ L, Kat h' r.2 r.1) : Sn w h' a L es ep t :=
  let ⟨o, ho, z⟩ := x.o
  ⟨⟨o, e o ho, z⟩, x.e, x.tb, x.nd, k, x.ld, x.rm, x.fw⟩
end
section
variable {P : Program} {w : World} {A : Around} {E : Value → Shared → Prop} {s : Shared}
end
end NK
set_option maxRecDepth 100000
set_option maxHeartbeats 4000000
namespace NK
open PySem PySem.Spec PyProof.Rows L2 DL
mutual
def intD : PyData → Bool
  | .int _ => true
  | .str _ => true
  | .tuple ds => intDs ds
  | _ => false
def intDs : List PyData → Bool
  | [] => true
  | d :: ds => intD d && intDs ds
end
section
variable {X : Cx} {pins : List (Addr × Obj)} {σ : L2.St} {H : Hp} {s : Shared}
end
end NK
set_option maxRecDepth 100000
set_option maxHeartbeats 4000000
namespace NK
open PySem PySem.Spec PyProof.Rows L2 DL
section
variable {X : Cx} {pins : List (Addr × Obj)} {σ : L2.St} {H : Hp} {s : Shared}
end
/-- a tuple of ints and such tuples, not empty -/
def tupI : PyData → Bool
  | .tuple (d :: ds) => intDs (d :: ds)
  | _ => false
/-- alike, so that they can be sorted -/
def okS (ds : List PyData) : Bool := ds.all tupI && alikesB ds && allAlikeB ds
end NK
set_option maxRecDepth 100000
set_option maxHeartbeats 4000000
namespace NK
open PySem PySem.Spec PyProof.Rows L2 DL
/-- the set as an object: its members in the order of their places -/
def Nkx (w : World) (h : Heap) (a : Addr) (L : List Row) : Prop :=
  ∃ o es ep t, h.get? a = some o ∧ o.ExactSet ∧ o.data = .set es ep t ∧ es.toList.map (·.2) = L.map (fun r => Value.ref r.1) ∧ t.fits es.size = true ∧ es.size < 64 ∧ Ris t.place.toList ∧ (w.params.followText "set-order" = true ∨ t.led = true)
theorem Sn.x {w : World} {h : Heap} {a : Addr} {L : List Row} {es : Array (Int × Value)} {ep : Nat} {t : SetTable} (R : Sn w h a L es ep t) : Nkx w h a L := by
  obtain ⟨o, ho, hex, hd⟩ := R.o
  have hf := R.fw
  have hl := es_len R.e
  refine ⟨o, es, ep, t, ho, hex, hd, ?_, Sn.fits (s := { heap := h }) R, by omega, R.tb.ris, R.ld⟩
  rw [R.e, entries, List.map_map]
  rfl
section
variable {X : Cx}
end
end NK
set_option maxRecDepth 100000
set_option maxHeartbeats 4000000
namespace NK
open PySem PySem.Spec PyProof.Rows L2 DL
end NK
namespace DL
open PySem PySem.Spec PyProof.Rows L2
end DL
set_option maxRecDepth 100000
set_option maxHeartbeats 2000000
namespace DL
open PySem PySem.Spec PySem.W PySem.Calls PyProof.Rows L2
section
variable {P : Program} {w : World} {A : Around} {E : Value → Shared → Prop} {s : Shared}
end
section
variable {X : Cx} {e : Expr} {f : XE} {pos : Pos}
end
end DL
set_option maxRecDepth 100000
set_option maxHeartbeats 2000000
namespace DL
open PySem PySem.Spec PySem.W PySem.Calls PyProof.Rows L2
def gTpL (n : Nat) (f : XGs) : XG := fun d ρ => match d with
  | .list ds => if ds.length = n then f ds ρ else none
  | _ => none
section
variable {X : Cx} {es : List Expr} {r : XGs} {vs : List Nat} {pos : Pos}
end
@[simp] theorem e_gTpL (n : Nat) (f : XGs) (ds : List PyData) (ρ : Nv) : gTpL n f (.list ds) ρ = if ds.length = n then f ds ρ else none := rfl
end DL
set_option maxRecDepth 100000
set_option maxHeartbeats 4000000
namespace NK
open PySem PySem.Spec PyProof.Rows L2 DL
section
variable {P : Program} {w : World} {A : Around} {E : Value → Shared → Prop} {s : Shared}
end
section
variable {X : Cx}
end
end NK
namespace DL
open PySem PySem.Spec PyProof.Rows L2
end DL
set_option maxRecDepth 100000
set_option maxHeartbeats 2000000
namespace DL
open PySem PySem.Spec PyProof.Rows L2
end DL
set_option maxRecDepth 100000
set_option maxHeartbeats 2000000
namespace DL
open PySem PySem.Spec PySem.W PySem.Calls PyProof.Rows L2
def M1M (K : PySem.W.Frag) (r : V → List V → Hp → VK → Prop) (g : Str → PyData → Option PyData) : Prop := ∀ (Φ : Fx) (Z : Hp) (σ : L2.St) (H : Hp) (ρ : Nv) (a : Str) (y : V) (d z : PyData), Rl K Φ Z σ H ρ → Rp K Z y d → g a d = some z →
  ∀ Q : VK, (∀ v H' Z', Same Z Z' → Rl K Φ Z' σ H' ρ → Rp K Z' v z → Q v H') → r (.str a) [y] H Q
def ofS2 (g : Str → PyData → Option PyData) : PyData → PyData → Option PyData := fun x y => match x with
  | .str a => g a y
  | _ => none
def ofS1 (g : Str → Option PyData) : PyData → Option PyData
  | .str a => g a
  | _ => none
theorem me_m1 {K : PySem.W.Frag} {r : V → List V → Hp → VK → Prop} {g : Str → PyData → Option PyData} {ta tb : TE} {a b : XE} (hr : M1M K r g) (ha : ME K ta a) (hb : ME K tb b) : ME K (tM1 r ta tb) (x2 (ofS2 g) a b) := by
  intro Φ Z σ H ρ d ρ' R q Q k
  unfold x2 at q
  cases e1 : a ρ with
  | none => rw [e1] at q; cases q
  | some p =>
    rw [e1] at q
    cases e2 : b p.2 with
    | none => rw [Option.bind_some, e2] at q; cases q
    | some s =>
      rw [Option.bind_some, e2, Option.bind_some] at q
      cases e3 : ofS2 g p.1 s.1 with
      | none => rw [e3] at q; cases q
      | some z =>
        rw [e3] at q
        cases q
        unfold ofS2 at e3
        split at e3
        · rename_i t ht
          refine ha Φ Z σ H ρ p.1 p.2 R e1 _ fun x H1 Z1 z1 R1 r1 => ?_
          rw [ht] at r1
          cases r1
          refine ⟨⟨_, rfl⟩, hb Φ Z1 σ H1 p.2 s.1 s.2 R1 e2 _ fun y H2 Z2 z2 R2 r2 => ?_⟩
          exact hr Φ Z2 σ H2 s.2 _ y s.1 _ R2 r2 e3 Q fun v H' Z' z' R' r' => k v H' Z' ((z1.trans z2).trans z') R' r'
        · cases e3
section
variable {X : Cx} {o e : Expr} {f g : XE} {apos pos : Pos}
theorem ed_m1 {id : String} {name : Str} {r : V → List V → Hp → VK → Prop} {h : Str → PyData → Option PyData} (slot : Slot "str" name id) (ty : typeOf (.builtin id) = pure (.type "method_descriptor")) (rule : MtR X id r) (hr : M1M X.K r h) (ho : ED X o f) (he : ED X e g)
    (hs : starEach [e] X.env = [(false, eval e X.env)] := by rfl) (hbase : attributeBase o name X.env (eval o X.env) = eval o X.env := by rfl) (hline : (apos.endLine == pos.line) = true := by rfl) :
    ED X (.Call (.Attribute o name apos) [e] [] pos) (x2 (ofS2 h) f g) := by
  obtain ⟨t, p, m⟩ := ho
  obtain ⟨t2, p2, m2⟩ := he
  exact ⟨_, pe_m1 slot ty rule p p2 hs hbase hline, me_m1 hr m m2⟩
end
def strsJ : List PyData → Option (List Str)
  | [] => some []
  | .str y :: ds => (strsJ ds).map (y :: ·)
  | _ :: _ => none
theorem strsJ_eq : ∀ {ds : List PyData} {ys : List Str}, strsJ ds = some ys → ds = ys.map .str
  | [], ys, h => by cases h; rfl
  | .str y :: ds, ys, h => by
    simp only [strsJ] at h
    cases e : strsJ ds with
    | none => rw [e] at h; cases h
    | some zs => rw [e] at h; cases h; rw [List.map_cons, strsJ_eq e]
  | .none :: _, _, h => by cases h
  | .bool _ :: _, _, h => by cases h
  | .int _ :: _, _, h => by cases h
  | .tuple _ :: _, _, h => by cases h
  | .list _ :: _, _, h => by cases h
  | .dict _ :: _, _, h => by cases h
theorem strsJ_map : ∀ ys : List Str, strsJ (ys.map .str) = some ys
  | [] => rfl
  | y :: ys => by simp [strsJ, strsJ_map ys]
def joinO (a : Str) (ds : List PyData) : Option PyData := (strsJ ds).bind fun ys => if (ys.map (·.length)).sum + ys.length * a.length ≤ 16777216 then some (.str (Txt.join a ys)) else none
/-- sep.join(a list, a tuple) -/
def joinS (a : Str) : PyData → Option PyData
  | .list ds => joinO a ds
  | .tuple ds => joinO a ds
  | _ => none
section
variable {K : PySem.W.Frag}
theorem rp_strs {Z : Hp} : ∀ {xs : List V} {ys : List Str}, RpA K Z xs (ys.map .str) → xs = ys.map V.str
  | _, [], h => by cases h; rfl
  | _, y :: ys, h => by
    cases h with
    | cons h1 h2 => cases h1; rw [rp_strs h2]; rfl
theorem m1_join : M1M K (fun x xs H Q => ∃ a p, ∃ ys : List Str, x = .str a ∧ xs = [.ref p] ∧ (SqL K H p (ys.map V.str) ∨ SqT K H p (ys.map V.str)) ∧
    (ys.map (·.length)).sum + ys.length * a.length ≤ 16777216 ∧ Q (.str (Txt.join a ys)) H) joinS := by
  intro Φ Z σ H ρ a y d z R r e Q k
  unfold joinS at e
  split at e
  · rename_i ds
    unfold joinO at e
    cases e1 : strsJ ds with
    | none => rw [e1] at e; cases e
    | some ys =>
      rw [e1, Option.bind_some] at e
      split at e
      · rename_i h
        cases e
        obtain ⟨p, xs, rfl, hp, rx⟩ := Rb.lst R.zH (.inl r)
        rw [strsJ_eq e1] at rx
        rw [rp_strs rx] at hp
        exact ⟨_, p, ys, rfl, rfl, .inl (SqL.of hp), h, ends_flat R (.str _) k⟩
      · cases e
  · rename_i ds
    unfold joinO at e
    cases e1 : strsJ ds with
    | none => rw [e1] at e; cases e
    | some ys =>
      rw [e1, Option.bind_some] at e
      split at e
      · rename_i h
        cases e
        obtain ⟨p, xs, rfl, hp, rx⟩ := Rb.tup R.zH (.inl r)
        rw [strsJ_eq e1] at rx
        rw [rp_strs rx] at hp
        exact ⟨_, p, ys, rfl, rfl, .inr hp, h, ends_flat R (.str _) k⟩
      · cases e
  · cases e
end
def fmtD : PyData → Option PyData
  | .str y => if y.length ≤ sizeLine then some (.str y) else none
  | .int i => if i.natAbs.log2 < 1920 then some (.str (toString i)) else none
  | _ => none
theorem me_fmt {K : PySem.W.Frag} {t : TE} {f : XE} (h : ME K t f) : ME K (tFmt t) (x1 fmtD f) := by
  intro Φ Z σ H ρ d ρ' R q Q k
  unfold x1 at q
  cases e1 : f ρ with
  | none => rw [e1] at q; cases q
  | some p =>
    rw [e1, Option.bind_some] at q
    cases e3 : fmtD p.1 with
    | none => rw [e3] at q; cases q
    | some z =>
      rw [e3] at q
      cases q
      refine h Φ Z σ H ρ p.1 p.2 R e1 _ fun x H1 Z1 z1 R1 r1 => ?_
      unfold fmtD at e3
      split at e3
      · rename_i y hy
        split at e3
        · rename_i hz
          cases e3
          rw [hy] at r1
          cases r1
          exact .inl ⟨y, rfl, hz, k _ H1 Z1 z1 R1 (.str _)⟩
        · cases e3
      · rename_i i hy
        split at e3
        · rename_i hz
          cases e3
          rw [hy] at r1
          cases r1
          exact .inr ⟨i, rfl, hz, k _ H1 Z1 z1 R1 (.str _)⟩
        · cases e3
      · cases e3
abbrev XJ := Str → Nv → Option (Str × Nv)
def jNil : XJ := fun acc ρ => some (acc, ρ)
def jCons (f : XE) (r : XJ) : XJ := fun acc ρ => (f ρ).bind fun p => match p.1 with
  | .str y => if (acc ++ y).length ≤ sizeLine then r (acc ++ y) p.2 else none
  | _ => none
def xJ (r : XJ) : XE := fun ρ => (r Str.empty ρ).map fun p => (.str p.1, p.2)
def MJ (K : PySem.W.Frag) (ts : List TE) (f : XJ) : Prop := ∀ (Φ : Fx) (Z : Hp) (σ : L2.St) (H : Hp) (ρ : Nv) (acc out : Str) (ρ' : Nv), Rl K Φ Z σ H ρ → f acc ρ = some (out, ρ') →
  ∀ Q : Str → Hp → Prop, (∀ H' Z', Same Z Z' → Rl K Φ Z' σ H' ρ' → Q out H') → tJs ts acc σ H Q
def JoD (X : Cx) (es : List Expr) (f : XJ) : Prop := ∃ ts, PJ X es ts ∧ MJ X.K ts f
section
variable {X : Cx} {e e2 : Expr} {es : List Expr} {f : XE} {r : XJ} {pos fpos : Pos}
theorem ed_fmt (h : ED X e f) : ED X (.FormattedValue e (-1) none pos) (x1 fmtD f) := by
  obtain ⟨t, p, m⟩ := h
  exact ⟨_, pe_fmt p, me_fmt m⟩
theorem ed_j1 (h : ED X e f) : ED X (.JoinedStr [e] pos) f := by
  obtain ⟨t, p, m⟩ := h
  exact ⟨_, pe_joined1 p, m⟩
theorem jd_nil : JoD X [] jNil := ⟨[], .nil, fun Φ Z σ H ρ acc out ρ' R q Q k => by
  cases q
  exact k H Z (Same.refl Z) R⟩
theorem jd_cons (h : ED X e f) (hr : JoD X es r) : JoD X (e :: es) (jCons f r) := by
  obtain ⟨t, p, m⟩ := h
  obtain ⟨ts, ps, ms⟩ := hr
  refine ⟨t :: ts, .cons p ps, fun Φ Z σ H ρ acc out ρ' R q Q k => ?_⟩
  unfold jCons at q
  cases e1 : f ρ with
  | none => rw [e1] at q; cases q
  | some w =>
    rw [e1, Option.bind_some] at q
    split at q
    · rename_i y hy
      split at q
      · rename_i hz
        refine m Φ Z σ H ρ w.1 w.2 R e1 _ fun v H1 Z1 z1 R1 r1 => ?_
        rw [hy] at r1
        cases r1
        exact ⟨y, rfl, hz, ms Φ Z1 σ H1 w.2 _ out ρ' R1 q Q fun H' Z' z' R' => k H' Z' (z1.trans z') R'⟩
      · cases q
    · cases q
theorem ed_joined (h : JoD X (e :: e2 :: es) r) : ED X (.JoinedStr (e :: e2 :: es) pos) (xJ r) := by
  obtain ⟨ts, ps, ms⟩ := h
  refine ⟨_, pe_joined ps, fun Φ Z σ H ρ d ρ' R q Q k => ?_⟩
  unfold xJ at q
  cases e1 : r Str.empty ρ with
  | none => rw [e1] at q; cases q
  | some w =>
    rw [e1] at q
    cases q
    exact ms Φ Z σ H ρ _ w.1 w.2 R e1 _ fun H' Z' z' R' => k _ H' Z' z' R' (.str _)
end
def aSpl (f : XE) (r : XA) : XA := fun ρ => (f ρ).bind fun p => match p.1 with
  | .list ds => (r p.2).map fun q => (ds.map AV.v ++ q.1, q.2)
  | .tuple ds => (r p.2).map fun q => (ds.map AV.v ++ q.1, q.2)
  | _ => none
theorem avA_app {K : PySem.W.Frag} {Z : Hp} {σ : L2.St} : ∀ {xs : List V} {ds : List PyData} {ys : List V} {as : List AV}, RpA K Z xs ds → AvA K Z σ ys as → AvA K Z σ (xs ++ ys) (ds.map AV.v ++ as)
  | _, _, _, _, .nil, h => h
  | _, _, _, _, .cons r t, h => .v r (avA_app t h)
theorem ad_spl {X : Cx} {e : Expr} {es : List Expr} {f : XE} {r : XA} {pos : Pos} (he : ED X e f) (hr : AD X es r) (hs : starEach (.Starred e pos :: es) X.env = (true, eval e X.env) :: starEach es X.env := by rfl) : AD X (.Starred e pos :: es) (aSpl f r) := by
  obtain ⟨t, p, m⟩ := he
  obtain ⟨u, q, n⟩ := hr
  refine ⟨_, StX.pa_star p q hs, fun Φ Z σ H ρ as ρ' R q Q k => ?_⟩
  unfold aSpl at q
  cases e1 : f ρ with
  | none => rw [e1] at q; cases q
  | some w =>
    rw [e1, Option.bind_some] at q
    split at q
    · rename_i ds hd
      cases e2 : r w.2 with
      | none => rw [e2] at q; cases q
      | some s =>
        rw [e2] at q
        cases q
        refine m Φ Z σ H ρ w.1 w.2 R e1 _ fun v H1 Z1 z1 R1 r1 => ?_
        rw [hd] at r1
        obtain ⟨a, xs, rfl, hp, rx⟩ := Rb.lst R1.zH (.inl r1)
        exact ⟨a, xs, rfl, .inr (SqL.of hp), n Φ Z1 σ H1 w.2 s.1 s.2 R1 e2 _ fun vs H2 Z2 z2 R2 r2 => k _ H2 Z2 (z1.trans z2) R2 (avA_app (rx.mono z2) r2)⟩
    · rename_i ds hd
      cases e2 : r w.2 with
      | none => rw [e2] at q; cases q
      | some s =>
        rw [e2] at q
        cases q
        refine m Φ Z σ H ρ w.1 w.2 R e1 _ fun v H1 Z1 z1 R1 r1 => ?_
        rw [hd] at r1
        obtain ⟨a, xs, rfl, hp, rx⟩ := Rb.tup R1.zH (.inl r1)
        exact ⟨a, xs, rfl, .inl hp, n Φ Z1 σ H1 w.2 s.1 s.2 R1 e2 _ fun vs H2 Z2 z2 R2 r2 => k _ H2 Z2 (z1.trans z2) R2 (avA_app (rx.mono z2) r2)⟩
    · cases q
/-- t[::-1], t an own list -/
theorem ed_revO {X : Cx} {e : Expr} {f : XE} {k : Nat} {p1 p2 p3 pos : Pos} (he : OD' X e f) : ED X (.Subscript e (.Slice none none (some (.UnaryOp .USub (.Constant (.int 1) k p1) p2)) p3) pos) (x1 revD f) := by
  obtain ⟨t, p, m⟩ := he
  refine ⟨_, pe_orr (pe_revL p) (pe_revT p), fun Φ Z σ H ρ d ρ' R q Q k => ?_⟩
  unfold x1 at q
  cases e1 : f ρ with
  | none => rw [e1] at q; cases q
  | some w =>
    rw [e1, Option.bind_some] at q
    cases e2 : revD w.1 with
    | none => rw [e2] at q; cases q
    | some z =>
      rw [e2] at q
      cases q
      unfold revD at e2
      split at e2
      · rename_i xs ex
        cases e2
        refine .inl (m Φ Z σ H ρ w.1 w.2 R e1 _ fun v H1 Z1 z1 R1 r1 => ?_)
        rw [ex] at r1
        obtain ⟨a, vs, rfl, h, rr⟩ := Rb.lst R1.zH r1
        exact ⟨a, vs, rfl, SqL.of h, fun p hp => ends_lst R1 rr.reverse (fun v H' Z' z' R' r' => k v H' Z' (z1.trans z') R' r') hp⟩
      · rename_i xs ex
        cases e2
        refine .inr (m Φ Z σ H ρ w.1 w.2 R e1 _ fun v H1 Z1 z1 R1 r1 => ?_)
        rw [ex] at r1
        obtain ⟨a, vs, rfl, h, rr⟩ := Rb.tup R1.zH r1
        exact ⟨a, vs, rfl, h, fun p hp => ends_tup R1 rr.reverse (fun v H' Z' z' R' r' => k v H' Z' (z1.trans z') R' r') hp⟩
      · cases e2
def sMatch (f : XE) (m : PyData → XS) : XS := fun ρ => (f ρ).bind fun p => m p.1 p.2
def mNil : PyData → XS := fun _ => sNil
def mWild (b : XS) : PyData → XS := fun _ => b
def mSeq (n : Nat) (g : XGs) (b : XS) (r : PyData → XS) : PyData → XS := fun d ρ => match d with
  | .list ds => if ds.length = n then (g ds ρ).bind b else r d ρ
  | _ => none
inductive Cap : List Pattern → List Str → Prop
  | nil : Cap [] []
  | cons {x : Str} {pos : Pos} {ps : List Pattern} {xs : List Str} : Cap ps xs → Cap (.MatchAs none (some x) pos :: ps) (x :: xs)
section
variable {X : Cx} {e : Expr} {f : XE} {pos : Pos}
end
end DL
set_option maxRecDepth 100000
set_option maxHeartbeats 2000000
namespace DL
open PySem PySem.Spec PySem.W PySem.Calls PyProof.Rows L2
section
variable {X : Cx} {a b c o : Expr} {f g : XE} {pos apos : Pos}
end
end DL
set_option maxRecDepth 100000
set_option maxHeartbeats 2000000
namespace DL
open PySem PySem.Spec PyProof.Rows L2

inductive FlX where
  | fl (f : Fl)
  | ex (c : Nat) (fs : List (Str × PyData)) (ρ : Nv)
abbrev XSX := Nv → Option FlX
/-- the exception's fields -/
def FldOk (K : PySem.W.Frag) (Z : Hp) (fv : List (Str × V)) (fs : List (Str × PyData)) : Prop := fv.map (·.1) = fs.map (·.1) ∧ RpA K Z (fv.map (·.2)) (fs.map (·.2))
theorem FldOk.mono {K : PySem.W.Frag} {Z Z' : Hp} {fv : List (Str × V)} {fs : List (Str × PyData)} (z : Same Z Z') (h : FldOk K Z fv fs) : FldOk K Z' fv fs := ⟨h.1, h.2.mono z⟩
def FlEX (K : PySem.W.Frag) (AA : Nat → Addr) (W : WX) (Φ : Fx) (Z : Hp) (D : Ends) : FlX → Prop
  | .fl f => FlE K Φ Z D f
  | .ex c fs ρ' => ∀ σ' H' Z' d fv, Same Z Z' → Rl K Φ Z' σ' H' ρ' → H' d = some (.xd fv) → FldOk K Z' fv fs → W (.ref (AA c)) (some d) σ' H'
theorem FlEX.mono {K : PySem.W.Frag} {AA : Nat → Addr} {W : WX} {Φ : Fx} {Z Z' : Hp} {D : Ends} {f : FlX} (z : Same Z Z') (h : FlEX K AA W Φ Z D f) : FlEX K AA W Φ Z' D f := by
  cases f with
  | fl f => exact FlE.mono z h
  | ex c fs ρ => exact fun σ' H' Z2 d fv z2 => h σ' H' Z2 d fv (z.trans z2)
def MSX (K : PySem.W.Frag) (AA : Nat → Addr) (W : WX) (t : TS) (f : XSX) : Prop := ∀ (Φ : Fx) (Z : Hp) (σ : L2.St) (H : Hp) (ρ : Nv) (r : FlX), Rl K Φ Z σ H ρ → f ρ = some r → ∀ D : Ends, FlEX K AA W Φ Z D r → t D σ H
def SDX (X : Cx) (AA : Nat → Addr) (W : WX) (st : Stmt) (f : XSX) : Prop := ∃ t, PS X st t ∧ MSX X.K AA W t f
def SSDX (X : Cx) (AA : Nat → Addr) (W : WX) (st : List Stmt) (f : XSX) : Prop := ∃ t, PSs X st t ∧ MSX X.K AA W t f
/-- one that does not raise -/
def xLf (f : XS) : XSX := fun ρ => (f ρ).map .fl
def xSeq (a b : XSX) : XSX := fun ρ => (a ρ).bind fun r => match r with
  | .fl (.nx ρ') => b ρ'
  | r => some r
def xSIf (t : XT) (a b : XSX) : XSX := fun ρ => (t ρ).bind fun p => if p.1 = true then a p.2 else b p.2
theorem msx_lf {K : PySem.W.Frag} {AA : Nat → Addr} {W : WX} {t : TS} {f : XS} (m : MS K t f) : MSX K AA W t (xLf f) := by
  intro Φ Z σ H ρ r R q D k
  unfold xLf at q
  cases e1 : f ρ with
  | none => rw [e1] at q; cases q
  | some s =>
    rw [e1] at q
    cases q
    exact m Φ Z σ H ρ s R e1 D k
section
variable {X : Cx} {AA : Nat → Addr} {W : WX} {e c : Expr} {st : Stmt} {rest a b : List Stmt} {f : XE} {g h : XSX} {t : XT} {pos : Pos}
theorem SD.x {f : XS} (h : SD X st f) : SDX X AA W st (xLf f) := by
  obtain ⟨t, p, m⟩ := h
  exact ⟨t, p, msx_lf m⟩
theorem SSD.x {st : List Stmt} {f : XS} (h : SSD X st f) : SSDX X AA W st (xLf f) := by
  obtain ⟨t, p, m⟩ := h
  exact ⟨t, p, msx_lf m⟩
end

def forLX (g : XG) (b : XSX) : List PyData → Nv → Option FlX
  | [], ρ => some (.fl (.nx ρ))
  | d :: ds, ρ => (g d ρ).bind fun ρ1 => (b ρ1).bind fun r => match r with
    | .fl (.nx ρ2) => forLX g b ds ρ2
    | .fl (.ct ρ2) => forLX g b ds ρ2
    | .fl (.bk ρ2) => some (.fl (.nx ρ2))
    | .fl (.rt x ρ2) => some (.fl (.rt x ρ2))
    | .fl (.rn x ρ2) => some (.fl (.rn x ρ2))
    | .ex c fs ρ2 => some (.ex c fs ρ2)
inductive Ox where
  | ok (v : Rv) (es : List EV)
  | ex (c : Nat) (fs : List (Str × PyData)) (es : List EV)
abbrev XFX := List EV → Option Ox
def OxE (K : PySem.W.Frag) (AA : Nat → Addr) (Φ : Fx) (Z : Hp) (vs : List V) (Q : VK) (E : XK) : Ox → Prop
  | .ok d ρ' => ∀ v H' Z', Same Z Z' → Rl K Φ Z' (vs.map some) H' ρ' → RvOk K Φ Z' (vs.map some) H' ρ' v d → Q v H'
  | .ex c fs ρ' => ∀ H' Z' d fv, Same Z Z' → Rl K Φ Z' (vs.map some) H' ρ' → H' d = some (.xd fv) → FldOk K Z' fv fs → E (.ref (AA c)) (some d) H'
def spX (K : PySem.W.Frag) (AA : Nat → Addr) (m : XFX) (vs : List V) (H : Hp) (Q : VK) (E : XK) : Prop := ∃ (Z Fr : Hp) (ino : Nat → Option Addr) (ρ : Nv) (r : Ox), m ρ = some r ∧ (∀ (i : Nat) o, ρ[i]? ≠ some (EV.own o false)) ∧ Rl K ⟨Z, H, Fr, ino⟩ Z (vs.map some) H ρ ∧ OxE K AA ⟨Z, H, Fr, ino⟩ Z vs Q E r
structure FnX (P : Program) (w : World) (K : PySem.W.Frag) (mg : Str → Option Value) (base : Heap) (AA : Nat → Addr) (k : Nat) (f : Addr) (fd : FuncData) (ps : List Str) (m : XFX) : Prop where
  run : ∀ (A : Around) (outer : List Env) (s : Shared) (H : Hp) (args : Args) (us : List Value) (vs : List V) (Q : VK) (E : XK), Room k A → A.guards = some [] → Env0 P w K mg base A outer s H → BindsTo s fd args (ps.zip us) → Vals vs us →
    vs.length = ps.length → spX K AA m vs H Q E → codeAny (model P w) A (.call (.ref f) args) (CR (L2.CX P w) outer P w H s Q E) s
theorem FnX.mono {P : Program} {w : World} {K : PySem.W.Frag} {mg : Str → Option Value} {base : Heap} {AA : Nat → Addr} {j k : Nat} {f : Addr} {fd : FuncData} {ps : List Str} {m : XFX} (F : FnX P w K mg base AA j f fd ps m) (h : j ≤ k) : FnX P w K mg base AA k f fd ps m :=
  ⟨fun A outer s H args us vs Q E hr => F.run A outer s H args us vs Q E (hr.mono h)⟩
section
variable {P : Program} {w : World} {K : PySem.W.Frag} {mg : Str → Option Value} {base : Heap} {AA : Nat → Addr}
end

inductive CxR where
  | ok (v : Rv) (ρ : Nv)
  | ex (c : Nat) (fs : List (Str × PyData)) (ρ : Nv)
def gCallX (m : XFX) (r : XA) : Nv → Option CxR := fun ρ => (r ρ).bind fun p => if (slotsOf p.1).Nodup then (entN p.1 p.2).bind fun es => (m es).bind fun q => match q with
    | .ok v es' => (back p.1 es' p.2).map fun ρ' => .ok v ρ'
    | .ex c fs es' => (back p.1 es' p.2).map fun ρ' => .ex c fs ρ'
  else none
def MCX (K : PySem.W.Frag) (AA : Nat → Addr) (W : WX) (t : TE) (f : Nv → Option CxR) : Prop := ∀ (Φ : Fx) (Z : Hp) (σ : L2.St) (H : Hp) (ρ : Nv) (r : CxR), Rl K Φ Z σ H ρ → f ρ = some r →
  ∀ Q : VK, (match r with
    | .ok d ρ' => ∀ v H' Z', Same Z Z' → Rl K Φ Z' σ H' ρ' → RvOk K Φ Z' σ H' ρ' v d → Q v H'
    | .ex c fs ρ' => ∀ H' Z' d fv, Same Z Z' → Rl K Φ Z' σ H' ρ' → H' d = some (.xd fv) → FldOk K Z' fv fs → W (.ref (AA c)) (some d) σ H') → t σ H Q
def CDX (X : Cx) (AA : Nat → Addr) (W : WX) (e : Expr) (m : XFX) (r : XA) : Prop := ∃ t, PE X e t ∧ MCX X.K AA W t (gCallX m r)
section
variable {X : Cx} {AA : Nat → Addr} {W : WX} {k : Nat} {f : Addr} {fd : FuncData} {ps : List Str} {m : XFX} {x : Str} {p pos : Pos} {e : Expr} {es : List Expr} {r : XA}
def arityX (n : Nat) (m : XFX) : XFX := fun es => if es.length = n then m es else none
def xDo (m : XFX) (r : XA) : XSX := fun ρ => (gCallX m r ρ).bind fun q => match q with
  | .ok (.d _) ρ' => some (.fl (.nx ρ'))
  | .ok (.n _) _ => none
  | .ex c fs ρ' => some (.ex c fs ρ')
def xRetC (m : XFX) (r : XA) : XSX := fun ρ => (gCallX m r ρ).bind fun q => match q with
  | .ok (.d d) ρ' => some (.fl (.rt d ρ'))
  | .ok (.n _) _ => none
  | .ex c fs ρ' => some (.ex c fs ρ')
def xSetC (i : Nat) (m : XFX) (r : XA) : XSX := fun ρ => (gCallX m r ρ).bind fun q => match q with
  | .ok (.d d) ρ' => (put ρ' i d).map fun ρ2 => .fl (.nx ρ2)
  | .ok (.n _) _ => none
  | .ex c fs ρ' => some (.ex c fs ρ')
end
end DL
set_option maxRecDepth 100000
set_option maxHeartbeats 4000000
namespace DL
open PySem PySem.Spec PyProof.Rows L2

def clsBody : Stmt → List Stmt
  | .ClassDef _ _ _ b _ _ _ _ _ _ _ => b
  | _ => []
def inCls (st : Stmt) (j : Nat) : Stmt := (clsBody st).getD j (.Pass ⟨0, 0, 0, 0⟩)
section
variable {X : Cx} {e : Expr} {es : List Expr} {ta : TA} {p1 p2 pos : Pos} {c0 : Str} {C0 : Addr}
end

section
variable {P : Program} {w : World} {K : PySem.W.Frag} {mg : Str → Option Value} {base : Heap}
end

def datA : List AV → Option (List PyData)
  | [] => some []
  | .v d :: as => (datA as).map (d :: ·)
  | .s _ :: _ => none
def xRaise (c : Nat) (names : List Str) (r : XA) : XSX := fun ρ => (r ρ).bind fun p => (datA p.1).bind fun ds => if ds.length = names.length then some (.ex c (names.zip ds).reverse p.2) else none
end DL
set_option maxRecDepth 100000
set_option maxHeartbeats 4000000
namespace DL
open PySem PySem.Spec PySem.Calls PyProof.Rows L2 PySem.W

section
variable {prog : Program} {w : World} {A : Around} {E : Value → Shared → Prop} {s : Shared} {K : Frag} {x D : Addr} {ox : Obj} {od : Option Obj}
end

end DL
set_option maxRecDepth 100000
set_option maxHeartbeats 4000000
namespace DL
open PySem PySem.Spec PyProof.Rows L2 LamX

section
variable {X : Cx} {pins : List (Addr × Obj)} {σ : L2.St} {H : Hp} {s : Shared}
end
end DL
set_option maxRecDepth 100000
set_option maxHeartbeats 4000000
namespace DL
open PySem PySem.Spec PyProof.Rows L2 LamX

abbrev TabL := List (Addr × Str)
structure LTab (T : TabL) (Φ : Fx) (Fr : Hp) : Prop where
  tab : ∀ p ∈ T, TabS Fr p.1 p.2
  old : ∀ b u, Φ.Fr b = some u → (∀ p ∈ T, p.1 ≠ b) → Fr b = some u
  new : ∀ b, Φ.Fr b = none → Fr b ≠ none → Φ.H0 b = none ∧ ∃ q, Fr b = some (CodeO b q)
  fix : ∀ p ∈ T, Φ.F0 p.1 = none ∧ Φ.Fr p.1 ≠ none
  inj : ∀ p ∈ T, ∀ r ∈ T, p.1 = r.1 → p = r
  ent : ∀ p ∈ T, ∃ ps0 ps : Array Value, Φ.Fr p.1 = some (.tbl ps0) ∧ Fr p.1 = some (.tbl ps) ∧ ∀ pos cv, codeAmong pos ps.toList = some cv → codeAmong pos ps0.toList = some cv ∨ ∃ c, cv = .ref c ∧ Φ.Fr c = none ∧ Fr c = some (CodeO c p.2)
def Fx.fr (Φ : Fx) (Fr : Hp) : Fx := { Φ with Fr := Fr }
def LR (K : PySem.W.Frag) (T : TabL) (Φ : Fx) (Z : Hp) (σ : L2.St) (H : Hp) (ρ : Nv) : Prop := ∃ Fr : Hp, LTab T Φ Fr ∧ Rl K (Φ.fr Fr) Z σ H ρ
section
variable {K : PySem.W.Frag} {T : TabL} {Φ : Fx} {Z : Hp} {σ : L2.St} {H : Hp} {ρ : Nv}
end

def LME (K : PySem.W.Frag) (T : TabL) (t : TE) (f : XE) : Prop := ∀ (Φ : Fx) (Z : Hp) (σ : L2.St) (H : Hp) (ρ : Nv) (d : PyData) (ρ' : Nv), LR K T Φ Z σ H ρ → f ρ = some (d, ρ') →
  ∀ Q : VK, (∀ v H' Z', Same Z Z' → LR K T Φ Z' σ H' ρ' → Rp K Z' v d → Q v H') → t σ H Q
def LMT (K : PySem.W.Frag) (T : TabL) (t : TT) (f : XT) : Prop := ∀ (Φ : Fx) (Z : Hp) (σ : L2.St) (H : Hp) (ρ : Nv) (d : Bool) (ρ' : Nv), LR K T Φ Z σ H ρ → f ρ = some (d, ρ') →
  ∀ Q : Bool → Hp → Prop, (∀ H' Z', Same Z Z' → LR K T Φ Z' σ H' ρ' → Q d H') → t σ H Q
def LED (X : Cx) (T : TabL) (e : Expr) (f : XE) : Prop := ∃ t, PE X e t ∧ LME X.K T t f
def LTD (X : Cx) (T : TabL) (e : Expr) (f : XT) : Prop := ∃ t, PT X e t ∧ LMT X.K T t f
def LWD (X : Cx) (T : TabL) (e : Expr) (f : XT) : Prop := ∃ t, PW X e t ∧ LMT X.K T t f
section
variable {X : Cx} {T : TabL} {e a b : Expr} {es rest : List Expr} {f fa fb : XE} {ta tb : XT} {pos : Pos} {r : R2} {g : PyData → PyData → Option PyData}
theorem lme_of {K : PySem.W.Frag} {t : TE} (m : ME K t f) : LME K T t f := fun Φ Z σ H ρ d ρ' ⟨Fr, L, R⟩ q Q k => m _ Z σ H ρ d ρ' R q Q fun v H' Z' z R' r => k v H' Z' z ⟨Fr, L, R'⟩ r
theorem lmt_of {K : PySem.W.Frag} {t : TT} {f : XT} (m : MT K t f) : LMT K T t f := fun Φ Z σ H ρ d ρ' ⟨Fr, L, R⟩ q Q k => m _ Z σ H ρ d ρ' R q Q fun H' Z' z R' => k H' Z' z ⟨Fr, L, R'⟩
theorem ED.l (h : ED X e f) : LED X T e f := by
  obtain ⟨t, p, m⟩ := h
  exact ⟨t, p, lme_of m⟩
theorem TD.l {f : XT} (h : TD X e f) : LTD X T e f := by
  obtain ⟨t, p, m⟩ := h
  exact ⟨t, p, lmt_of m⟩
theorem LWD.td (h : LWD X T a ta) : LTD X T a ta := by obtain ⟨t, p, m⟩ := h; exact ⟨t, p.pt, m⟩
end

def CxR.env : CxR → Nv
  | .ok _ ρ => ρ
  | .ex _ _ ρ => ρ
/-- what is known of such a call's end -/
def CxE (K : PySem.W.Frag) (AA : Nat → Addr) (Φ : Fx) (Z : Hp) (σ : L2.St) (Q : VK) (E : XK) : CxR → Prop
  | .ok d ρ' => ∀ v H' Z', Same Z Z' → Rl K Φ Z' σ H' ρ' → RvOk K Φ Z' σ H' ρ' v d → Q v H'
  | .ex c fs ρ' => ∀ H' Z' d fv, Same Z Z' → Rl K Φ Z' σ H' ρ' → H' d = some (.xd fv) → FldOk K Z' fv fs → E (.ref (AA c)) (some d) H'
def tOfX (K : PySem.W.Frag) (AA : Nat → Addr) (E : XK) (f : Nv → Option CxR) : TE := fun σ H Q => ∃ (Φ : Fx) (Z : Hp) (ρ : Nv) (r : CxR), Rl K Φ Z σ H ρ ∧ f ρ = some r ∧ CxE K AA Φ Z σ Q E r
theorem CDX.pe {X : Cx} {AA : Nat → Addr} {E : XK} {e : Expr} {m : XFX} {r : XA} (h : CDX X AA (fun cls d _ H => E cls d H) e m r) : PE X e (tOfX X.K AA E (gCallX m r)) := by
  obtain ⟨t, p, mc⟩ := h
  refine ⟨fun pins s σ H Q I ⟨Φ, Z, ρ, rr, R, e, k⟩ => p.run pins s σ H Q I (mc Φ Z σ H ρ rr R e Q ?_)⟩
  cases rr <;> exact k
def xSaid (sd : CxR → Option PyData) (f : Nv → Option CxR) : XE := fun ρ => (f ρ).bind fun r => (sd r).map fun d => (d, r.env)
def FlL (K : PySem.W.Frag) (T : TabL) (Φ : Fx) (Z : Hp) (D : Ends) : Fl → Prop
  | .nx ρ' => ∀ σ' H' Z', Same Z Z' → LR K T Φ Z' σ' H' ρ' → D.nx σ' H'
  | .rt d ρ' => ∀ v σ' H' Z', Same Z Z' → LR K T Φ Z' σ' H' ρ' → Rp K Z' v d → D.rt v H'
  | .rn _ _ => False
  | .bk ρ' => ∀ σ' H' Z', Same Z Z' → LR K T Φ Z' σ' H' ρ' → D.bk σ' H'
  | .ct ρ' => ∀ σ' H' Z', Same Z Z' → LR K T Φ Z' σ' H' ρ' → D.ct σ' H'
theorem FlL.mono {K : PySem.W.Frag} {T : TabL} {Φ : Fx} {Z Z' : Hp} {D : Ends} {f : Fl} (z : Same Z Z') (h : FlL K T Φ Z D f) : FlL K T Φ Z' D f := by
  cases f with
  | nx ρ => exact fun σ' H' Z2 z2 => h σ' H' Z2 (z.trans z2)
  | rt d ρ => exact fun v σ' H' Z2 z2 => h v σ' H' Z2 (z.trans z2)
  | rn o ρ => exact h
  | bk ρ => exact fun σ' H' Z2 z2 => h σ' H' Z2 (z.trans z2)
  | ct ρ => exact fun σ' H' Z2 z2 => h σ' H' Z2 (z.trans z2)
def LMS (K : PySem.W.Frag) (T : TabL) (t : TS) (f : XS) : Prop := ∀ (Φ : Fx) (Z : Hp) (σ : L2.St) (H : Hp) (ρ : Nv) (r : Fl), LR K T Φ Z σ H ρ → f ρ = some r → ∀ D : Ends, FlL K T Φ Z D r → t D σ H
def LSD (X : Cx) (T : TabL) (st : Stmt) (f : XS) : Prop := ∃ t, PS X st t ∧ LMS X.K T t f
def LSSD (X : Cx) (T : TabL) (st : List Stmt) (f : XS) : Prop := ∃ t, PSs X st t ∧ LMS X.K T t f
theorem lms_of {K : PySem.W.Frag} {T : TabL} {t : TS} {f : XS} (m : MS K t f) : LMS K T t f := by
  intro Φ Z σ H ρ r ⟨Fr, L, R⟩ q D k
  refine m _ Z σ H ρ r R q D ?_
  cases r with
  | nx ρ => exact fun σ' H' Z' z R' => k σ' H' Z' z ⟨Fr, L, R'⟩
  | rt d ρ => exact fun v σ' H' Z' z R' r => k v σ' H' Z' z ⟨Fr, L, R'⟩ r
  | rn o ρ => exact False.elim k
  | bk ρ => exact fun σ' H' Z' z R' => k σ' H' Z' z ⟨Fr, L, R'⟩
  | ct ρ => exact fun σ' H' Z' z R' => k σ' H' Z' z ⟨Fr, L, R'⟩
section
variable {X : Cx} {T : TabL} {e c : Expr} {st : Stmt} {rest a b : List Stmt} {f : XE} {g h : XS} {t : XT} {pos : Pos}
theorem SD.l (h : SD X st g) : LSD X T st g := by
  obtain ⟨t, p, m⟩ := h
  exact ⟨t, p, lms_of m⟩
theorem SSD.l {st : List Stmt} (h : SSD X st g) : LSSD X T st g := by
  obtain ⟨t, p, m⟩ := h
  exact ⟨t, p, lms_of m⟩
/-- x = [e], held -/
def nOne (f : XE) : XN := fun ρ => (f ρ).map fun p => (.ol [p.1], p.2)
end
end DL
set_option maxRecDepth 100000
set_option maxHeartbeats 4000000
namespace DL
open PySem PySem.Spec PyProof.Rows L2 LamX

def spL (K : PySem.W.Frag) (T : TabL) (m : XF) (vs : List V) (H : Hp) (Q : VK) : Prop := ∃ (Z Fr : Hp) (ino : Nat → Option Addr) (ρ : Nv) (d : PyData) (ρ' : Nv), m ρ = some (.d d, ρ') ∧ (∀ (i : Nat) o, ρ[i]? ≠ some (EV.own o false)) ∧ Rl K ⟨Z, H, Fr, ino⟩ Z (vs.map some) H ρ ∧ LTab T ⟨Z, H, Fr, ino⟩ Fr ∧
  ∀ v H' Z', Same Z Z' → LR K T ⟨Z, H, Fr, ino⟩ Z' (vs.map some) H' ρ' → Rp K Z' v d → Q v H'
structure FnL (P : Program) (w : World) (K : PySem.W.Frag) (mg : Str → Option Value) (base : Heap) (T : TabL) (k : Nat) (f : Addr) (fd : FuncData) (ps : List Str) (m : XF) : Prop where
  run : ∀ (A : Around) (outer : List Env) (s : Shared) (H : Hp) (args : Args) (us : List Value) (vs : List V) (Q : VK), Room k A → A.guards = some [] → Env0 P w K mg base A outer s H → BindsTo s fd args (ps.zip us) → Vals vs us →
    vs.length = ps.length → spL K T m vs H Q → codeAny (model P w) A (.call (.ref f) args) (CR CX0 outer P w H s Q E0) s
theorem Rl.other {K : PySem.W.Frag} {Φ : Fx} {F1 F2 Z : Hp} {σ1 σ2 : L2.St} {H : Hp} {ρ1 ρ2 : Nv} (R1 : Rl K (Φ.fr F1) Z σ1 H ρ1) (R2 : Rl K (Φ.fr F2) Z σ2 H ρ2) (at_ : ∀ i a, AtS ρ1 σ1 i a → AtS ρ2 σ2 i a) : Rl K (Φ.fr F2) Z σ1 H ρ1 :=
  ⟨R1.len, R1.zH, R2.zN, R1.f0, R2.fr, R1.dom, R1.inj, fun i a h => R2.sep i a (at_ i a h), R1.dat, R1.scr, R1.own, R1.loc, R1.ino, R1.io⟩
open Classical in
/-- what both frames tell -/
noncomputable def both (F1 F2 : Hp) : Hp := fun b => if F1 b = F2 b then F1 b else none
section
variable {P : Program} {w : World} {K : PySem.W.Frag} {mg : Str → Option Value} {base : Heap} {T : TabL}
end
theorem FnL.mono {P : Program} {w : World} {K : PySem.W.Frag} {mg : Str → Option Value} {base : Heap} {T : TabL} {j k : Nat} {f : Addr} {fd : FuncData} {ps : List Str} {m : XF} (F : FnL P w K mg base T j f fd ps m) (h : j ≤ k) : FnL P w K mg base T k f fd ps m :=
  ⟨fun A outer s H args us vs Q hr => F.run A outer s H args us vs Q (hr.mono h)⟩

section
variable {K : PySem.W.Frag} {T : TabL} {Φ : Fx} {Z : Hp} {σ : L2.St} {H : Hp} {ρ : Nv} {vs : List V} {as : List AV} {es : List EV}
theorem LTab.z {Fr : Hp} (L : LTab T Φ Fr) (R : Rl K (Φ.fr Fr) Z σ H ρ) {p : Addr × Str} (hp : p ∈ T) : Z p.1 = none := by
  obtain ⟨ps, e, _⟩ := L.tab p hp
  cases hz : Z p.1 with
  | none => rfl
  | some u =>
    have e2 := R.zH _ u hz
    have e3 := R.fr _ _ e
    rw [e2] at e3
    cases e3
    rcases R.zN _ _ hz (fun xs z => nomatch z) with z | ⟨_, z⟩
    · have z : Φ.F0 p.1 = _ := z
      rw [(L.fix _ hp).1] at z
      cases z
    · have z : Fr p.1 = none := z
      rw [e] at z
      cases z
end
section
variable {X : Cx} {T : TabL} {k : Nat} {f : Addr} {fd : FuncData} {ps : List Str} {m : XF} {x : Str} {p pos : Pos} {e : Expr} {es : List Expr} {r : XA}
end
end DL
set_option maxRecDepth 100000
set_option maxHeartbeats 4000000
namespace DL
open PySem PySem.Spec PyProof.Rows L2 LamX

/-- the lambdas' makers: code object, table, name -/
abbrev Mks := List (Addr × Addr × Str)
def Mks.T (M : Mks) : TabL := M.map fun m => (m.2.1, m.2.2)
section
variable {P : Program} {w : World} {K : PySem.W.Frag} {mg mb : Str → Option Value} {k : Nat} {fa a : Addr} {fd : FuncData} {x : Str} {m : XF} {s1 : Shared} {vs : List Value} {ns : List Int} {M : Mks}
end
end DL
set_option maxRecDepth 100000
set_option maxHeartbeats 4000000
namespace DL
open PySem PySem.Spec PyProof.Rows L2

section
variable {P : Program} {w : World} {K : PySem.W.Frag} {mg : Str → Option Value} {base : Heap} {AA : Nat → Addr}
end
section
variable {X : Cx} {AA : Nat → Addr} {W : WX} {k : Nat} {f : Addr} {fd : FuncData} {pv : Str} {m : XFX} {x : Str} {p pos : Pos} {ks : List Str} {kws : List Keyword} {rk : XA}
end
end DL
set_option maxRecDepth 100000
set_option maxHeartbeats 4000000
namespace DL
open PySem PySem.Spec PyProof.Rows L2 LamX

/-- classes -/
theorem kit_same {K : PySem.W.Frag} {C : Addr} : PySem.W.kitOne K (.ref C) (.ref C) = some true := by
  unfold PySem.W.kitOne
  rw [if_pos (by simp)]
theorem kit_ref {K : PySem.W.Frag} {C D : Addr} {b : Bool} (ne : D ≠ C) (h0 : ∃ cd, PySem.W.clsIn K C = some cd) (h1 : PySem.W.typeIn K (.ref C) = some (.type "type")) (h2 : PySem.W.subIn K (.ref D) (.ref C) = some b) : PySem.W.kitOne K (.ref D) (.ref C) = some b := by
  obtain ⟨cd, h0⟩ := h0
  unfold PySem.W.kitOne
  rw [if_neg (by simpa using ne)]
  unfold PySem.W.kitCls
  dsimp only
  rw [if_pos (by rw [h0, h1]; rfl), h2]
theorem kit_builtin {K : PySem.W.Frag} {D : Addr} {T : String} {b : Bool} (hm : PySem.W.kitMeta T = true) (h2 : PySem.W.subIn K (.ref D) (.type T) = some b) : PySem.W.kitOne K (.ref D) (.type T) = some b := by
  unfold PySem.W.kitOne
  rw [if_neg (by simp)]
  unfold PySem.W.kitCls
  dsimp only
  rw [if_pos hm, h2]
/-- where a lambda's maker keeps its table -/
theorem tab_in {K : PySem.W.Frag} {x : Str} {f c P : Addr} {oc oc2 : Value} {od od2 : Option Addr} {fd : FuncData} {osl osl2 : Array (Option Value)} {vs : Array Value} (h1 : PySem.W.nsIn K mainGlobals x = some (some (.ref f))) (h2 : K.lookup f = some ⟨oc, od, .func fd, osl⟩) (h3 : fd.code = .ref c)
    (h4 : K.lookup c = some ⟨oc2, od2, .fields vs, osl2⟩) (h5 : vs[11]? = some (.ref P)) : PySem.W.tabIn K x = some (c, P) := by
  unfold PySem.W.tabIn
  rw [h1]
  dsimp only
  rw [h2]
  dsimp only
  rw [h3]
  dsimp only
  rw [h4]
  dsimp only
  rw [h5]
/-- a def whose body makes lambdas, as it stands in the text -/
def DefExT (K : PySem.W.Frag) (x : Str) (st : Stmt) (c P : Addr) : Prop := ∃ (f : Addr) (oc : Value) (od an : Option Addr) (osl : Array (Option Value)) (kV doc pm ct : Value) (oc2 : Value) (od2 : Option Addr) (osl2 : Array (Option Value)) (vs : Array Value),
  PySem.W.nsIn K mainGlobals x = some (some (.ref f)) ∧ K.lookup f = some ⟨oc, od, .func (PySem.W.fnOf x x (defArgs st) (defBody st) (defScope st) .none kV doc pm an (.ref c) ct), osl⟩ ∧ PySem.W.codeIn K (.ref c) x = true ∧ PySem.W.keepIn K (.ref f) = true ∧
    K.lookup c = some ⟨oc2, od2, .fields vs, osl2⟩ ∧ vs[11]? = some (.ref P)
theorem DefExT.ex {K : PySem.W.Frag} {x : Str} {st : Stmt} {c P : Addr} (h : DefExT K x st c P) : DefEx K x st := by
  obtain ⟨f, oc, od, an, osl, kV, doc, pm, ct, _, _, _, _, h1, h2, h3, h4, _, _⟩ := h
  exact ⟨f, oc, od, an, osl, kV, doc, pm, .ref c, ct, h1, h2, h3, h4⟩
theorem DefExT.tab {K : PySem.W.Frag} {x : Str} {st : Stmt} {c P : Addr} (h : DefExT K x st c P) : PySem.W.tabIn K x = some (c, P) := by
  obtain ⟨f, oc, od, an, osl, kV, doc, pm, ct, _, _, _, _, h1, h2, h3, h4, h5, h6⟩ := h
  exact tab_in h1 h2 rfl h5 h6
/-- the code object and the table of a def of the text -/
def cT (K : PySem.W.Frag) (x : Str) : Addr := ((PySem.W.tabIn K x).getD (0, 0)).1
def pT (K : PySem.W.Frag) (x : Str) : Addr := ((PySem.W.tabIn K x).getD (0, 0)).2
theorem DefExT.at {K : PySem.W.Frag} {x : Str} {st : Stmt} (h : ∃ c P, DefExT K x st c P) : DefExT K x st (cT K x) (pT K x) := by
  obtain ⟨c, P, e⟩ := h
  have t := e.tab
  unfold cT pT
  rw [t]
  exact e
def ExcCx (K : PySem.W.Frag) (D : Addr) : Prop := PySem.W.findIn K (.ref D) "__getattribute__" = some (some (.builtin "BaseException.__getattribute__")) ∧ PySem.W.findIn K (.ref D) "__getattr__" = some none ∧ PySem.W.subIn K (.ref D) (.type "BaseException") = some true ∧ PySem.W.hasDictIn K D = true ∧
  PySem.W.findIn K (.ref D) "__class__" = some (some (.builtin "object.__class__")) ∧ PySem.W.specialIn K (.builtin "object.__class__") "__get__" = some (some (.builtin "getset_descriptor.__get__")) ∧ PySem.W.takesIn K (.builtin "object.__class__") = some true ∧ PySem.W.mroIn K D (.type "object") = some true
theorem ExcCx.c {K : PySem.W.Frag} {D : Addr} (h : ExcCx K D) : ExcC K D := ⟨h.1, h.2.1, h.2.2.1, h.2.2.2.1, h.2.2.2.2.1, h.2.2.2.2.2.1, h.2.2.2.2.2.2.1, h.2.2.2.2.2.2.2⟩
end DL
set_option maxRecDepth 100000
set_option maxHeartbeats 4000000
namespace DL
open PySem PySem.Spec PyProof.Rows L2 LamX

def clsA (K : PySem.W.Frag) (x : Str) : Addr := match PySem.W.nsIn K mainGlobals x with
  | some (some (.ref C)) => C
  | _ => 0
theorem clsA_eq {K : PySem.W.Frag} {x : Str} {C : Addr} (h : PySem.W.nsIn K mainGlobals x = some (some (.ref C))) : C = clsA K x := by
  unfold clsA
  rw [h]
/-- isinstance of a class of the text: a's instance, asked for b -/
def KitER (K : PySem.W.Frag) (a b : Str) (r : Bool) : Prop := ∃ A B, PySem.W.nsIn K mainGlobals a = some (some (.ref A)) ∧ PySem.W.nsIn K mainGlobals b = some (some (.ref B)) ∧ (∃ cd, PySem.W.clsIn K B = some cd) ∧ PySem.W.typeIn K (.ref B) = some (.type "type") ∧
  PySem.W.subIn K (.ref A) (.ref B) = some r ∧ (r = true ∨ PySem.W.subIn K (.ref B) (.ref B) = some true)
theorem KitER.k {K : PySem.W.Frag} {a b : Str} {r : Bool} (h : KitER K a b r) : PySem.W.kitOne K (.ref (clsA K a)) (.ref (clsA K b)) = some r := by
  obtain ⟨A, B, h1, h2, h3, h4, h5, h6⟩ := h
  rw [← clsA_eq h1, ← clsA_eq h2]
  by_cases e : A = B
  · subst e
    rcases h6 with rfl | h6
    · exact kit_same
    · rw [h5] at h6
      cases h6
      exact kit_same
  · exact kit_ref e h3 h4 h5
def KitEB (K : PySem.W.Frag) (a : Str) (T : String) (r : Bool) : Prop := ∃ A, PySem.W.nsIn K mainGlobals a = some (some (.ref A)) ∧ PySem.W.kitMeta T = true ∧ PySem.W.subIn K (.ref A) (.type T) = some r
theorem KitEB.k {K : PySem.W.Frag} {a : Str} {T : String} {r : Bool} (h : KitEB K a T r) : PySem.W.kitOne K (.ref (clsA K a)) (.type T) = some r := by
  obtain ⟨A, h1, h2, h3⟩ := h
  rw [← clsA_eq h1]
  exact kit_builtin h2 h3
def ExmER (K : PySem.W.Frag) (a b : Str) (r : Bool) : Prop := ∃ A B, PySem.W.nsIn K mainGlobals a = some (some (.ref A)) ∧ PySem.W.nsIn K mainGlobals b = some (some (.ref B)) ∧ (∃ cd, PySem.W.clsIn K B = some cd) ∧ PySem.W.typeIn K (.ref B) = some (.type "type") ∧
  PySem.W.subIn K (.ref A) (.ref B) = some r ∧ PySem.W.subIn K (.ref B) (.type "BaseException") = some true ∧ (r = true ∨ PySem.W.subIn K (.ref B) (.ref B) = some true)
theorem ExmER.k {K : PySem.W.Frag} {a b : Str} {r : Bool} (h : ExmER K a b r) : PySem.W.exmOne K (.ref (clsA K a)) (.ref (clsA K b)) = some r := by
  obtain ⟨A, B, h1, h2, ⟨cd, h3⟩, h4, h5, h6, _⟩ := h
  rw [← clsA_eq h1, ← clsA_eq h2]
  unfold PySem.W.exmOne
  rw [if_pos (by rw [h6]; rfl)]
  unfold PySem.W.kitCls
  dsimp only
  rw [if_pos (by rw [h3, h4]; rfl), h5]
end DL
set_option maxRecDepth 100000
set_option maxHeartbeats 4000000
namespace DL
open PySem PySem.Spec PyProof.Rows L2 LamX

def TabX (K : PySem.W.Frag) (x : Str) (q : Addr × Addr) : Prop := ∃ (f : Addr) (oc : Value) (od : Option Addr) (fd : FuncData) (osl : Array (Option Value)) (oc2 : Value) (od2 : Option Addr) (osl2 : Array (Option Value)) (vs : Array Value),
  PySem.W.nsIn K mainGlobals x = some (some (.ref f)) ∧ K.lookup f = some ⟨oc, od, .func fd, osl⟩ ∧ fd.code = .ref q.1 ∧ K.lookup q.1 = some ⟨oc2, od2, .fields vs, osl2⟩ ∧ vs[11]? = some (.ref q.2)
theorem TabX.p {K : PySem.W.Frag} {x : Str} {q : Addr × Addr} (h : TabX K x q) : pT K x = q.2 := by
  obtain ⟨f, oc, od, fd, osl, oc2, od2, osl2, vs, h1, h2, h3, h4, h5⟩ := h
  unfold pT
  rw [tab_in h1 h2 h3 h4 h5]
  rfl
def TabsX (K : PySem.W.Frag) : List Str → List (Addr × Addr) → Prop
  | [], [] => True
  | x :: xs, q :: qs => TabX K x q ∧ TabsX K xs qs
  | _, _ => False
theorem TabsX.p {K : PySem.W.Frag} : ∀ {xs : List Str} {qs : List (Addr × Addr)}, TabsX K xs qs → xs.map (pT K) = qs.map (·.2)
  | [], [], _ => rfl
  | x :: xs, q :: qs, h => by
    rw [List.map_cons, List.map_cons, h.1.p, TabsX.p h.2]
  | [], _ :: _, h => h.elim
  | _ :: _, [], h => h.elim
def PtNd (K : PySem.W.Frag) (xs : List Str) : Prop := ∃ qs : List (Addr × Addr), TabsX K xs qs ∧ (qs.map (·.2)).Nodup
theorem PtNd.nd {K : PySem.W.Frag} {xs : List Str} (h : PtNd K xs) : (xs.map (pT K)).Nodup := by
  obtain ⟨qs, h1, h2⟩ := h
  rw [h1.p]
  exact h2
end DL
set_option maxRecDepth 100000
set_option maxHeartbeats 4000000
namespace DL
open PySem PySem.Spec PyProof.Rows L2
section
variable {P : Program} {w : World} {K : PySem.W.Frag} {mg : Str → Option Value} {base : Heap} {AA : Nat → Addr}
end


section
variable {X : Cx} {AA : Nat → Addr} {W : WX} {k n : Nat} {f : Addr} {fd : FuncData} {ps ks : List Str} {m : XFX} {x : Str} {p pos : Pos} {e : Expr} {es : List Expr} {kws : List Keyword} {r rk : XA} {s : Sel}
end
end DL
set_option maxRecDepth 100000
set_option maxHeartbeats 4000000
namespace DL
open PySem PySem.Spec PyProof.Rows L2 LamX
section
variable {T : TabL} {Φ : Fx} {Fr : Hp} {D : Addr} {o : HO}
end
def lOfT (K : PySem.W.Frag) (T : TabL) (f : XT) : TT := fun σ H Q => ∃ (Φ : Fx) (Z : Hp) (ρ : Nv) (d : Bool) (ρ' : Nv), LR K T Φ Z σ H ρ ∧ f ρ = some (d, ρ') ∧ ∀ H' Z', Same Z Z' → LR K T Φ Z' σ H' ρ' → Q d H'
def LTsD (X : Cx) (T : TabL) (ifs : List Expr) (f : XT) : Prop := ∃ t, PTs X ifs t ∧ LMT X.K T t f
theorem LTsD.pts {X : Cx} {T : TabL} {e : List Expr} {f : XT} (h : LTsD X T e f) : PTs X e (lOfT X.K T f) := by
  obtain ⟨t, p, m⟩ := h
  exact ⟨fun pins s σ H Q I q => p.run pins s σ H Q I (by
    obtain ⟨Φ, Z, ρ, d, ρ', R, e, k⟩ := q
    exact m Φ Z σ H ρ d ρ' R e Q k)⟩
end DL
set_option maxRecDepth 100000
set_option maxHeartbeats 2000000
namespace DL
open PySem PySem.Spec PyProof.Rows L2

section
variable {K : PySem.W.Frag} {Z H : Hp} {v : V}
theorem ins_inj {n n' : Str} {fs : List (Str × PyData)} {r : List (PyData × PyData)} (h : PyData.dict ((.none, .str n) :: fs.map fun p => (.str p.1, p.2)) = .dict ((.none, .str n') :: r)) : n = n' ∧ r = fs.map fun p => (.str p.1, p.2) := by
  injection h with h
  injection h with h1 h2
  injection h1 with _ h3
  injection h3 with h3
  exact ⟨h3, h2.symm⟩
theorem Rp.ins_inv {n : Str} {r : List (PyData × PyData)} (h : Rp K H v (.dict ((.none, .str n) :: r))) :
    ∃ (a C dx : Addr) (vs : List (Str × V)) (fs : List (Str × PyData)), v = .ref a ∧ IsC K n C ∧ H a = some (.ins C dx vs) ∧ vs.map (·.1) = fs.map (·.1) ∧ RpA K H (vs.map (·.2)) (fs.map (·.2)) ∧ r = fs.map fun p => (.str p.1, p.2) := by
  generalize ed : PyData.dict ((.none, .str n) :: r) = dd at h
  cases h with
  | dic h r' =>
    rename_i a kvs ds
    injection ed with ed
    cases kvs with
    | nil => simp at ed
    | cons k ks =>
      cases ds with
      | nil => simp at ed
      | cons d ds =>
        simp only [List.map_cons, List.zip_cons_cons] at ed
        injection ed with e1 _
        injection e1 with e1 _
        obtain ⟨k1, k2⟩ := k
        cases k1 <;> cases e1
  | dit h r' =>
    rename_i a kvs ds
    injection ed with ed
    cases kvs with
    | nil => simp at ed
    | cons k ks =>
      cases ds with
      | nil => simp at ed
      | cons d ds =>
        simp only [List.map_cons, List.zip_cons_cons] at ed
        injection ed with e1 _
        injection e1 with e1 _
        cases e1
  | ins c h k r' =>
    obtain ⟨rfl, e⟩ := ins_inj ed.symm
    exact ⟨_, _, _, _, _, rfl, c, h, k, r', e⟩
  | _ => cases ed
theorem Rb.ins_inv {n : Str} {r : List (PyData × PyData)} (zH : Same Z H) (h : Rb K Z H v (.dict ((.none, .str n) :: r))) :
    ∃ (a C dx : Addr) (vs : List (Str × V)) (fs : List (Str × PyData)), v = .ref a ∧ IsC K n C ∧ H a = some (.ins C dx vs) ∧ vs.map (·.1) = fs.map (·.1) ∧ RpA K Z (vs.map (·.2)) (fs.map (·.2)) ∧ r = fs.map fun p => (.str p.1, p.2) := by
  rcases h with h | ⟨a, o, rfl, ob, e⟩
  · obtain ⟨a, C, dx, vs, fs, h1, h2, h3, h4⟩ := h.ins_inv
    exact ⟨a, C, dx, vs, fs, h1, h2, zH _ _ h3, h4⟩
  · cases o with
    | ol xs => cases e
    | od kvs =>
      cases kvs with
      | nil => cases e
      | cons k ks =>
        exfalso
        simp only [odD, List.map_cons, List.zip_cons_cons] at e
        injection e with e
        injection e with e1 _
        injection e1 with e1 _
        obtain ⟨k1, k2⟩ := k
        cases k1 <;> cases e1
    | ot kvs =>
      cases kvs with
      | nil => cases e
      | cons k ks =>
        exfalso
        simp only [odD, List.map_cons, List.zip_cons_cons] at e
        injection e with e
        injection e with e1 _
        injection e1 with e1 _
        cases e1
    | oi n' fs =>
      obtain ⟨C, dx, vs, c, q, k, r'⟩ := ob
      obtain ⟨e1, e2⟩ := ins_inj e.symm
      subst e1
      exact ⟨a, C, dx, vs, fs, rfl, c, q, k, r', e2⟩
end
/-- the attribute f in the attributes of a datum -/
def lookF (f : Str) : List (PyData × PyData) → Option PyData
  | [] => none
  | (.str g, d) :: r => if g = f then some d else lookF f r
  | _ :: r => lookF f r
theorem lookF_rp {K : PySem.W.Frag} {Z : Hp} {f : Str} : ∀ {vs : List (Str × V)} {fs : List (Str × PyData)}, vs.map (·.1) = fs.map (·.1) → RpA K Z (vs.map (·.2)) (fs.map (·.2)) → ∀ {d : PyData}, lookF f (fs.map fun p => (.str p.1, p.2)) = some d → ∃ v, vs.lookup f = some v ∧ Rp K Z v d
  | [], [], _, _, d, h => by cases h
  | [], _ :: _, h, _, _, _ => by cases h
  | _ :: _, [], h, _, _, _ => by cases h
  | (g, x) :: vs, (g', y) :: fs, hk, hr, d, h => by
    simp only [List.map_cons] at hk hr
    injection hk with h1 h2
    subst h1
    cases hr with
    | cons r1 r2 =>
      simp only [List.map_cons, lookF] at h
      by_cases e : g = f
      · rw [if_pos e] at h
        cases h
        subst e
        exact ⟨x, by simp [List.lookup], r1⟩
      · rw [if_neg e] at h
        obtain ⟨v, q1, q2⟩ := lookF_rp h2 r2 h
        refine ⟨v, ?_, q2⟩
        have hb : (f == g) = false := beq_eq_false_iff_ne.mpr (Ne.symm e)
        simp only [List.lookup, hb, q1]
theorem lookF_none {f : Str} : ∀ {vs : List (Str × V)} {fs : List (Str × PyData)}, vs.map (·.1) = fs.map (·.1) → lookF f (fs.map fun p => (.str p.1, p.2)) = none → vs.lookup f = none
  | [], _, _, _ => rfl
  | _ :: _, [], h, _ => by cases h
  | (g, x) :: vs, (g', y) :: fs, hk, h => by
    simp only [List.map_cons] at hk
    injection hk with h1 h2
    subst h1
    simp only [List.map_cons, lookF] at h
    by_cases e : g = f
    · rw [if_pos e] at h; cases h
    · rw [if_neg e] at h
      have hb : (f == g) = false := beq_eq_false_iff_ne.mpr (Ne.symm e)
      simp only [List.lookup, hb, lookF_none h2 h]
/-- x.f, x an instance of one of the classes ns -/
def fldD (ns : List Str) (f : Str) : PyData → Option PyData
  | .dict ((.none, .str n) :: r) => if ns.contains n = true then lookF f r else none
  | _ => none
/-- none of these classes has the name -/
def NoAt (K : PySem.W.Frag) (ns : List Str) (f : Str) : Prop := ∀ n, ns.contains n = true → ∀ C, IsC K n C → NoAttr K C f
theorem fldD_shape {ns : List Str} {f : Str} {d z : PyData} (h : fldD ns f d = some z) : ∃ n r, d = .dict ((.none, .str n) :: r) ∧ ns.contains n = true ∧ lookF f r = some z := by
  unfold fldD at h
  split at h
  · rename_i n r
    split at h
    · rename_i hn
      exact ⟨n, r, rfl, hn, h⟩
    · cases h
  · cases h
section
variable {X : Cx} {e : Expr} {f : Str} {g : XE} {ns : List Str} {pos : Pos}
theorem ed_fld (ha : NoAt X.K ns f) (he : OD' X e g) (hb : attributeBase e f X.env (eval e X.env) = eval e X.env := by rfl) : ED X (.Attribute e f pos) (x1 (fldD ns f) g) := by
  obtain ⟨t, p, m⟩ := he
  refine ⟨tFld X.K t f, pe_fld p hb, fun Φ Z σ H ρ d ρ' R q Q k => ?_⟩
  unfold x1 at q
  cases e1 : g ρ with
  | none => rw [e1] at q; cases q
  | some w =>
    rw [e1, Option.bind_some] at q
    cases e2 : fldD ns f w.1 with
    | none => rw [e2] at q; cases q
    | some z =>
      rw [e2] at q
      cases q
      refine m Φ Z σ H ρ w.1 w.2 R e1 _ fun v H1 Z1 z1 R1 r1 => ?_
      obtain ⟨n, r, ed, hn, hl⟩ := fldD_shape e2
      rw [ed] at r1
      obtain ⟨a, C, dx, vs, fs, rfl, c, h1, hk, hr, rfl⟩ := r1.ins_inv R1.zH
      obtain ⟨y, hy, ry⟩ := lookF_rp hk hr hl
      exact ⟨a, C, dx, vs, y, rfl, h1, c.cls, ha n hn C c, hy, k y H1 Z1 z1 R1 ry⟩
end
def putA {α : Type} (f : Str) (v : α) : List (Str × α) → List (Str × α)
  | [] => [(f, v)]
  | (g, x) :: r => if g = f then (g, v) :: r else (g, x) :: putA f v r
theorem putF_A (f : Str) (v : V) : ∀ fs, putF f v fs = putA f v fs
  | [] => rfl
  | (g, x) :: r => by
    unfold putF putA
    split
    · rfl
    · rw [putF_A f v r]
theorem putA_fst {α β : Type} (f : Str) (v : α) (w : β) : ∀ {vs : List (Str × α)} {fs : List (Str × β)}, vs.map (·.1) = fs.map (·.1) → (putA f v vs).map (·.1) = (putA f w fs).map (·.1)
  | [], [], _ => rfl
  | [], _ :: _, h => by cases h
  | _ :: _, [], h => by cases h
  | (g, x) :: vs, (g', y) :: fs, hk => by
    simp only [List.map_cons] at hk
    injection hk with h1 h2
    subst h1
    unfold putA
    split
    · simp [h2]
    · simp [putA_fst f v w h2]
theorem putA_rp {K : PySem.W.Frag} {Z : Hp} {f : Str} {v : V} {d : PyData} (rv : Rp K Z v d) : ∀ {vs : List (Str × V)} {fs : List (Str × PyData)}, vs.map (·.1) = fs.map (·.1) → RpA K Z (vs.map (·.2)) (fs.map (·.2)) → RpA K Z ((putA f v vs).map (·.2)) ((putA f d fs).map (·.2))
  | [], [], _, _ => .cons rv .nil
  | [], _ :: _, h, _ => by cases h
  | _ :: _, [], h, _ => by cases h
  | (g, x) :: vs, (g', y) :: fs, hk, hr => by
    simp only [List.map_cons] at hk hr
    injection hk with h1 h2
    subst h1
    cases hr with
    | cons r1 r2 =>
      unfold putA
      split
      · exact .cons rv r2
      · exact .cons r1 (putA_rp rv h2 r2)
/-- x.f = e, x an object of one's own in slot i -/
def sPutF (ns : List Str) (i : Nat) (f : Str) (g : XE) : XS := fun ρ => (g ρ).bind fun p => match p.2[i]? with
  | some (.own (.oi n fs) io) => if ns.contains n = true ∧ fs.length < 900 then some (.nx (p.2.set i (.own (.oi n (putA f p.1 fs)) io))) else none
  | _ => none
section
variable {X : Cx} {e : Expr} {f : Str} {g : XE} {ns : List Str} {pos pos' vpos : Pos}
theorem sd_putF (i : Nat) {x : Str} (ha : NoAt X.K ns f) (he : ED X e g) (hN : X.N[i]? = some x := by rfl) (hv : Vis X.env.scope x := by first | exact Or.inl rfl | exact Or.inr (Or.inl rfl) | exact Or.inr (Or.inr rfl)) (hd : (x == ("__debug__" : Str)) = false := by decide)
    (hcd : (x == ("__classdict__" : Str)) = false := by decide) (hs : swapsWith e (some (.Attribute (.Name x vpos) f pos')) pos.line X.env = pure false := by rfl) : SD X (.Assign [.Attribute (.Name x vpos) f pos'] e pos) (sPutF ns i f g) := by
  obtain ⟨t, p, m⟩ := he
  refine ⟨_, ps_fld (pe_var hN hv hd hcd) p hs, fun Φ Z σ H ρ fl R q D k => ?_⟩
  unfold sPutF at q
  cases e1 : g ρ with
  | none => rw [e1] at q; cases q
  | some w =>
    rw [e1, Option.bind_some] at q
    split at q
    · rename_i n fs io e2
      split at q
      · rename_i hc
        cases q
        refine m Φ Z σ H ρ w.1 w.2 R e1 _ fun v H1 Z1 z1 R1 r1 => ?_
        obtain ⟨a, s, C, dx, vs, c, q1, hk, hr⟩ := R1.own i _ _ e2
        have hl : vs.length = fs.length := by simpa using congrArg List.length hk
        refine ⟨_, s, a, C, dx, vs, rfl, q1, c.cls, ha n hc.1 C c, by omega, ?_⟩
        rw [putF_A]
        exact k σ _ Z1 z1 (R1.mutate e2 s ⟨C, dx, _, c, upd_same, putA_fst f v w.1 hk, putA_rp r1 hk hr⟩)
      · cases q
    · cases q
end
end DL
set_option maxRecDepth 100000
set_option maxHeartbeats 2000000
namespace DL
open PySem PySem.Spec PyProof.Rows L2
section
variable {prog : Program} {w : World} {A : Around} {E : Value → Shared → Prop} {s : Shared}
theorem dict_put {d : Addr} {kvs : List (Key × Value)} {k : Key} {key v : Value} {Q : Unit → Shared → Prop} (hkey : (mixKind prog w).is k key = true) (hm : s.heap.DictOf (mixKind prog w) d kvs) (hnot : k ∉ kvs.map (·.1))
    (hQ : ∀ h', h'.DictOf (mixKind prog w) d (kvs ++ [(k, v)]) → Heap.SameBut d s.heap h' → Q () { s with heap := h' }) (hsz : kvs.length ≤ sizeLine) :
    wpAny (model prog w) A (dictPut d ((mixKind prog w).hash k) key v) Q E s := by
  obtain ⟨o, es, ep, ho, hc, hd, hk, hp, hn⟩ := hm
  have hes : es.size ≤ sizeLine := by
    have e1 := hp.length
    have e2 : es.toList.length = es.size := by simp
    omega
  unfold dictPut
  refine wpAny_bind (wpAny_dictFind_of hkey ho hd hk ?_)
  have hidx : (es.findIdx? fun e => (mixKind prog w).is k e.key) = kvs.findIdx? fun kv => decide (kv.1 = k) := by
    rw [← hp.findIdx k]; obtain ⟨l⟩ := es; simp
  have hnone : (es.findIdx? fun e => (mixKind prog w).is k e.key) = none := by
    rw [hidx, List.findIdx?_eq_none_iff]
    intro x hx
    rw [decide_eq_false_iff_not]
    intro e
    exact hnot (e ▸ List.mem_map_of_mem hx)
  rw [hnone]
  refine wpAny_updateDictKeys (hz := hes) ho hd (hQ _ ⟨_, _, ep + 1, Heap.get?_update_self _ ho (Obj.isFreed_of_dict (Obj.data_mapDictKeys hd _)), hc.mapDictKeys _, Obj.data_mapDictKeys hd _, hk.push hkey _, ?_, ?_⟩ (Heap.SameBut.update ..))
  · have := hp.append hkey ((mixKind prog w).hash k) v
    obtain ⟨l⟩ := es
    simpa using this
  · rw [List.map_append, List.nodup_append]
    refine ⟨hn, by simp, ?_⟩
    intro a ha b hb
    simp only [List.map_cons, List.map_nil, List.mem_singleton] at hb
    subst hb
    exact fun e => hnot (e ▸ ha)
theorem find_none {d : Addr} {kvs : List (Key × Value)} {k : Key} {key : Value} {Q : Option Nat → Shared → Prop} (hkey : (mixKind prog w).is k key = true) (hm : s.heap.DictOf (mixKind prog w) d kvs) (hnot : k ∉ kvs.map (·.1)) (hQ : Q none s) :
    wpAny (model prog w) A (dictFind d key ((mixKind prog w).hash k)) Q E s := by
  obtain ⟨o, es, ep, ho, hc, hd, hk, hp, hn⟩ := hm
  refine wpAny_dictFind_of hkey ho hd hk ?_
  have hidx : (es.findIdx? fun e => (mixKind prog w).is k e.key) = kvs.findIdx? fun kv => decide (kv.1 = k) := by
    rw [← hp.findIdx k]; obtain ⟨l⟩ := es; simp
  have hnone : (es.findIdx? fun e => (mixKind prog w).is k e.key) = none := by
    rw [hidx, List.findIdx?_eq_none_iff]
    intro x hx
    rw [decide_eq_false_iff_not]
    intro e
    exact hnot (e ▸ List.mem_map_of_mem hx)
  rw [hnone]
  exact hQ
theorem merge_map {d a : Addr} {more : List (Str × Value)} {Q : Unit → Shared → Prop} (hne : d ≠ a) (haS : (a == sysModules) = false) (hd : s.heap.DictOf (mixKind prog w) d []) (ha : s.heap.DictOf (mixKind prog w) a (more.map fun p => (.inr p.1, p.2)))
    (hsz : more.length ≤ sizeLine) (hQ : ∀ h', h'.DictOf (mixKind prog w) d (more.map fun p => (.inr p.1, p.2)) → Heap.SameBut d s.heap h' → Q () { s with heap := h' }) :
    wpAny (model prog w) A (mergeMapping d (.ref a) true) Q E s := by
  obtain ⟨od, esd, epd, hod, hcd, hdd, hkd, hpd, hnd⟩ := id hd
  obtain ⟨oo, eso, epo, hoo, hco, hdo', hko, hpo, hno⟩ := id ha
  have hlen : more.length = eso.size := by rw [← Array.length_toList, hpo.length]; simp
  have hemp : esd.isEmpty = true := by
    have := hpd.length
    simp at this
    simp [this]
  have T : s.TypeIs (.ref a) "dict" := ha.typeIs
  unfold mergeMapping
  refine wpAny_bind (wpAny_bind (wpAny_typeOf T (wpAny_of_eq (show isSubtype (.type "dict") (.type "dict") = pure true by rw [isSubtype_type]; kernel_rfl) ?_)))
  simp only [if_true]
  refine wpAny_bind (wpAny_specialOf T F.slot_dict_iter.lookup (wpAny_bind (wpAny_pure ?_)))
  have ht : ((some (Value.builtin "dict.__iter__") : Option Value) == some (.builtin "dict.__iter__")) = true := by simp
  simp only [ht]
  rw [if_neg (by rw [haS]; exact Bool.false_ne_true)]
  refine wpAny_bind (wpAny_dictEntries hod hdd ?_)
  rw [if_pos hemp]
  refine wpAny_bind (wpAny_dictEntries hoo hdo' ?_)
  have hkey_at : ∀ i (hi : i < eso.size), ∃ k v, more[i]? = some (k, v) ∧ (mixKind prog w).is (.inr k) eso[i].key = true ∧ eso[i].hash = (mixKind prog w).hash (.inr k) ∧ eso[i].val = v := fun i hi => by
    obtain ⟨⟨k, v⟩, hkv⟩ : ∃ kv, more[i]? = some kv := ⟨more[i]'(by rw [hlen]; exact hi), List.getElem?_eq_getElem _⟩
    have hkv' : (more.map fun p => ((Sum.inr p.1 : Key), p.2))[i]? = some (.inr k, v) := by rw [List.getElem?_map, hkv]; rfl
    obtain ⟨hkey, hval⟩ := hpo.get? (e := eso[i]) (by simp [hi]) hkv'
    obtain ⟨k', hkey', hhash⟩ := hko eso[i] (Array.getElem_mem hi)
    obtain rfl : k' = .inr k := (mixKind prog w).inj _ _ _ hkey' hkey
    exact ⟨k, v, hkv, hkey, hhash, hval⟩
  have noref : ∀ e ∈ eso.toList, ∀ b, e.key ≠ .ref b := fun e he b q => by
    obtain ⟨i, hi, rfl⟩ := List.mem_iff_getElem.mp he
    obtain ⟨k, v, _, h2, _⟩ := hkey_at i (by simpa using hi)
    rw [Array.getElem_toList] at q
    rcases keyIs_shape (show keyIs (.inr k) eso[i].key = true from h2) with ⟨j, t, _, e1⟩ | ⟨x, t, _, e1⟩
    · rw [q] at e1; cases e1
    · rw [q] at e1; cases e1
  have tail : wpAny (model prog w) A (do
      let size := (← dictEntries a).size
      let epoch ← dictEpoch a
      for i in List.range size do
        let some e := (← dictEntries a)[i]? | unsupported "dict.changed-during-merge"
        holding [e.key, e.val] do
          if (← dictFind d e.key e.hash).isSome then rule "dict.merge.duplicate-key"; raiseNew (← newExc (.type "KeyError") [e.key])
          dictPut d e.hash e.key e.val
        if (← dictEpoch a) != epoch then unsupported "dict.changed-during-merge" : Sem Unit) Q E s := by
    refine wpAny_bind (wpAny_dictEntries hoo hdo' ?_)
    refine wpAny_bind (wpAny_dictEpoch hoo hdo' ?_)
    refine wpAny_bind ?_
    refine wpAny_forIn_list _
      (fun rest _ s' => ∃ h' i, s' = { s with heap := h' } ∧ rest = List.range' i (eso.size - i) ∧ i ≤ eso.size ∧ h'.DictOf (mixKind prog w) d ((more.take i).map fun p => (.inr p.1, p.2)) ∧ h'.get? a = some oo ∧ Heap.SameBut d s.heap h')
      _ ?_ ?_ _ _ ⟨s.heap, 0, rfl, by simp [List.range_eq_range'], Nat.zero_le _, by simpa using hd, hoo, Heap.SameBut.refl _ _⟩
    · rintro x rest b s' ⟨h', i, rfl, hr, hi, hd', hoo', hs'⟩
      have hlt : i < eso.size := by
        rcases Nat.lt_or_ge i eso.size with h | h
        · exact h
        · rw [Nat.sub_eq_zero_of_le h] at hr; simp at hr
      obtain ⟨rfl, hrest⟩ : x = i ∧ rest = List.range' (i + 1) (eso.size - (i + 1)) := by
        have e : eso.size - i = (eso.size - (i + 1)) + 1 := by omega
        rw [e, List.range'_succ] at hr
        injection hr with h1 h2
        exact ⟨h1, h2⟩
      obtain ⟨k, v, hkv, hkey, hhash, hval⟩ := hkey_at x hlt
      have hnot : (Sum.inr k : Key) ∉ ((more.take x).map fun p => ((Sum.inr p.1 : Key), p.2)).map (·.1) := by
        intro hm
        rw [List.map_map] at hno hm
        obtain ⟨p, hp, e⟩ := List.mem_map.mp hm
        obtain ⟨j, hj, rfl⟩ := List.mem_iff_getElem.mp hp
        rw [List.length_take] at hj
        have e2 : (more.take x)[j]? = more[j]? := List.getElem?_take_of_lt (by omega)
        have hjx : j < more.length := by omega
        have h1 : (more.map (Prod.fst ∘ fun p => ((Sum.inr p.1 : Key), p.2)))[j]? = some (.inr k) := by
          rw [List.getElem?_map]
          rw [← e2, List.getElem?_eq_getElem (by rw [List.length_take]; omega)]
          simpa using e
        have h2 : (more.map (Prod.fst ∘ fun p => ((Sum.inr p.1 : Key), p.2)))[x]? = some (.inr k) := by
          rw [List.getElem?_map, hkv]; rfl
        have l1 : j < (more.map (Prod.fst ∘ fun p => ((Sum.inr p.1 : Key), p.2))).length := by rw [List.length_map]; omega
        have l2 : x < (more.map (Prod.fst ∘ fun p => ((Sum.inr p.1 : Key), p.2))).length := by rw [List.length_map]; omega
        rw [List.getElem?_eq_getElem l1] at h1
        rw [List.getElem?_eq_getElem l2] at h2
        exact (List.pairwise_iff_getElem.mp hno) j x l1 l2 (by omega) ((Option.some.inj h1).trans (Option.some.inj h2).symm)
      refine wpAny_bind (wpAny_dictEntries hoo' hdo' ?_)
      rw [Array.getElem?_eq_getElem hlt]
      refine wpAny_bind (wpAny_holding ?_)
      rw [hhash, hval]
      refine wpAny_bind (find_none hkey hd' hnot ?_)
      simp only [Option.isSome_none, Bool.false_eq_true, if_false]
      refine dict_put hkey hd' hnot (fun h'' hd'' hs'' => ?_) (by rw [List.length_map, List.length_take]; omega)
      have hoo'' : h''.get? a = some oo := (hs''.2 a (Ne.symm hne)).trans hoo'
      refine wpAny_bind (wpAny_dictEpoch hoo'' hdo' ?_)
      rw [if_neg (by simp)]
      refine wpAny_pure ⟨h'', x + 1, rfl, hrest, hlt, ?_, hoo'', hs'.trans hs''⟩
      rw [List.take_add_one, hkv, List.map_append]
      exact hd''
    · rintro b s' ⟨h', i, rfl, hr, hi, hd', hoo', hs'⟩
      have hin : i = eso.size := by
        rcases Nat.lt_or_ge i eso.size with h | h
        · have e : eso.size - i = (eso.size - (i + 1)) + 1 := by omega
          rw [e, List.range'_succ] at hr; exact nomatch hr
        · exact Nat.le_antisymm hi h
      refine wpAny_pure (hQ h' ?_ hs')
      rw [hin, ← hlen, List.take_length] at hd'; exact hd'
  refine wpAny_bind ?_
  rw [← Array.forIn_toList]
  refine wpAny_forIn_list _ (fun rest _ s' => s' = s ∧ ∀ e ∈ rest, e ∈ eso.toList) _ ?_ ?_ _ _ ⟨rfl, fun e h => h⟩
  · rintro x rest b s' ⟨rfl, hx⟩
    have nx := noref x (hx x List.mem_cons_self)
    have hrest : ∀ e ∈ rest, e ∈ eso.toList := fun e h => hx e (List.mem_cons_of_mem _ h)
    split
    · rename_i b' hb
      exact absurd hb (nx b')
    · exact wpAny_pure ⟨rfl, hrest⟩
  · rintro b s' ⟨rfl, _⟩
    exact tail
theorem keywords_in {d : Addr} {f : Value} {more : List (Str × Value)} {Q : List (Str × Value) → Shared → Prop} (hd : s.heap.DictOf (mixKind prog w) d (more.map fun p => (.inr p.1, p.2))) (hQ : Q more s) : wpAny (model prog w) A (keywordsIn f d) Q E s := by
  obtain ⟨oo, eso, epo, hoo, hco, hdo', hko, hpo, hno⟩ := id hd
  have hlen : eso.toList.length = more.length := by rw [hpo.length]; simp
  unfold keywordsIn
  refine wpAny_bind (wpAny_dictEntries hoo hdo' ?_)
  refine wpAny_bind ?_
  rw [← Array.forIn_toList]
  refine wpAny_forIn_list _ (fun rest (b : List (Str × Value)) s' => s' = s ∧ ∃ i, rest = eso.toList.drop i ∧ b = more.take i ∧ i ≤ eso.toList.length) _ ?_ ?_ _ _ ⟨rfl, 0, by simp, by simp, Nat.zero_le _⟩
  · rintro x rest b s' ⟨rfl, i, hr, rfl, hi⟩
    have hlt : i < eso.toList.length := by
      rcases Nat.lt_or_ge i eso.toList.length with h | h
      · exact h
      · rw [List.drop_eq_nil_of_le h] at hr; cases hr
    rw [List.drop_eq_getElem_cons hlt] at hr
    injection hr with h1 h2
    subst h1
    have hlt2 : i < more.length := by omega
    obtain ⟨⟨k, v⟩, hkv⟩ : ∃ kv, more[i]? = some kv := ⟨more[i]'hlt2, List.getElem?_eq_getElem _⟩
    have hkv' : (more.map fun p => ((Sum.inr p.1 : Key), p.2))[i]? = some (.inr k, v) := by rw [List.getElem?_map, hkv]; rfl
    obtain ⟨hkey, hval⟩ := hpo.get? (e := eso.toList[i]) (by simp [hlt]) hkv'
    rcases keyIs_shape (show keyIs (.inr k) eso.toList[i].key = true from hkey) with ⟨j, t, e0, e1⟩ | ⟨y, t, e0, e1⟩
    · cases e0
    · injection e0 with e0
      subst e0
      rw [e1]
      refine wpAny_pure ⟨rfl, i + 1, h2, ?_, hlt⟩
      rw [hval, List.take_add_one, hkv]
      rfl
  · rintro b s' ⟨rfl, i, hr, rfl, hi⟩
    have : i = eso.toList.length := by
      rcases Nat.lt_or_ge i eso.toList.length with h | h
      · rw [List.drop_eq_getElem_cons h] at hr; cases hr
      · exact Nat.le_antisymm hi h
    refine wpAny_pure ?_
    rw [this, hlen, List.take_length]
    exact hQ
theorem args_star {f : Value} {t : Sem Value} {Q : Args → Shared → Prop}
    (h : wpAny (model prog w) A t (fun v s1 => ∃ (a : Addr) (more : List (Str × Value)), v = .ref a ∧ s.heap.objs.size ≠ a ∧ (a == sysModules) = false ∧ s1.heap.DictOf (mixKind prog w) a (more.map fun p => (.inr p.1, p.2)) ∧ s1.heap.DictOf (mixKind prog w) s.heap.objs.size [] ∧ more.length ≤ sizeLine ∧
      ∀ h', Heap.SameBut s.heap.objs.size s1.heap h' → Q ⟨[], more⟩ { s1 with heap := h' }) E { s with heap := s.heap.push ({ cls := .type "dict", data := .dict #[] } : Obj) }) :
    wpAny (model prog w) A (evalArgs f true [] [(none, t)]) Q E s := by
  unfold evalArgs
  refine wpAny_bind ?_
  refine wpAny_bind (wpAny_of_eq (show spliced [] = pure [] from rfl) (wpAny_pure ?_))
  refine wpAny_bind (wpAny_pure ?_)
  refine wpAny_holding ?_
  dsimp only
  rw [if_neg (by simp)]
  unfold mergedKeywords
  refine wpAny_bind (wpAny_bind (wpAny_alloc (wpAny_bind (wpAny_holding ?_))))
  dsimp only
  refine wpAny_bind ?_
  rw [List.forIn_cons]
  refine wpAny_bind ?_
  dsimp only
  rw [if_pos (show (List.isEmpty ([] : List (Str × Sem Value))) = true from rfl)]
  refine wpAny_bind (wpAny_pure ?_)
  refine wpAny_bind (wpAny_mono h (fun v s1 hv => ?_) fun _ _ z => z)
  obtain ⟨a, more, rfl, hne, haS, ha, hd, hl, hq⟩ := hv
  refine wpAny_bind (wpAny_onRaise (wpAny_holding (wpAny_tryCatch (wpAny_onRaise (merge_map hne haS hd ha hl fun h' hd' sb => ?_)))))
  refine wpAny_pure ?_
  dsimp only
  rw [List.forIn_nil]
  refine wpAny_pure ?_
  rw [if_pos (show (List.isEmpty ([] : List (Str × Sem Value))) = true from rfl)]
  refine wpAny_pure ?_
  refine wpAny_pure ?_
  refine wpAny_bind (wpAny_pure ?_)
  refine wpAny_bind (wpAny_holding (keywords_in hd' ?_))
  exact wpAny_pure (hq h' sb)
/-- the call: callWith with ** alone -/
theorem call_star {f : Value} {first : List Value} {pos : Pos} {t : Sem Value} {Q : Value → Shared → Prop} {P : Heap → Prop} (hk : ∀ h, P h → ∃ k, (k = Keeper.frame ∨ k = Keeper.machine ∨ k = Keeper.boundFrame) ∧ PySem.W.Looks (model prog w) h (keeperOf f) k)
    (h : wpAny (model prog w) A (evalArgs f true [] [(none, t)]) (fun a s₁ => P s₁.heap ∧ wpAny (model prog w) A (call f (first ++ a.pos) a.kw) Q E s₁) E s) : wpAny (model prog w) A (callWith pos f first [] [(none, t)]) Q E s := by
  unfold callWith
  refine wpAny_bind (wpAny_holding (wpAny_mono h (fun a s₁ h₁ => wpAny_bind (wpAny_standAt ?_)) fun _ _ x => x))
  obtain ⟨k, hk', L⟩ := hk _ h₁.1
  simp only [List.any_nil, List.any_cons, Option.isNone_none, Bool.true_or, Bool.or_true, Bool.false_or]
  refine wpAny_bind (L.here ?_)
  have tail : ∀ {t : Sem Value}, wpAny (model prog w) A t Q E s₁ → wpAny (model prog w) A (t >>= fun r => holding [r] point >>= fun _ => pure r) Q E s₁ :=
    fun ht => wpAny_bind (wpAny_mono ht (fun r s₂ hr => wpAny_bind (wpAny_holding (wpAny_point (wpAny_pure hr)))) fun _ _ x => x)
  have marked (mk : Value) : wpAny (model prog w) A (callMarked mk f (first ++ a.pos) a.kw) Q E s₁ := by unfold callMarked; exact Calls.wpAny_keep h₁.2
  rcases hk' with rfl | rfl | rfl <;> dsimp only <;> first | exact tail (marked _) | exact tail (wpAny_operating h₁.2)
end
end DL
set_option maxRecDepth 100000
set_option maxHeartbeats 2000000
namespace DL
open PySem PySem.Spec PyProof.Rows L2 NdefX

/-- the words of a def that says super(): its class's cell stands at cc, its code object at cda -/
abbrev nfS (x qual : Str) (st : Stmt) (cc cda : Addr) : NF := ⟨x, qual, defArgs st, defBody st, defScope st, [("__class__", cc)], cda⟩
/-- the def at f of the class at D -/
structure SupF (P : Program) (K : PySem.W.Frag) (x qual slf : Str) (st : Stmt) (D cc cda f : Addr) (fd : FuncData) : Prop where
  ex : ∃ (oc : Value) (od : Option Addr) (dV kV doc pm : Value) (an : Option Addr) (ct : Value) (osl : Array (Option Value)),
    fd = PySem.W.fnX x qual (defArgs st) (defBody st) (defScope st) [("__class__", cc)] dV kV doc pm an (.ref cda) ct ∧ K.lookup f = some ⟨oc, od, .func fd, osl⟩
  cd : PySem.W.codeIn K (.ref cda) qual = true
  cell : ∃ cl cld csl, K.lookup cc = some ⟨cl, cld, .cell (some (.ref D)), csl⟩
  cls : ∃ cd, PySem.W.clsIn K D = some cd
  code : ∃ (ccl : Value) (cdd : Option Addr) (vs : Array Value) (ccs : Array (Option Value)) (file : Str) (tf : Tok), K.lookup cda = some ⟨ccl, cdd, .fields vs, ccs⟩ ∧ vs[2]? = some (.str file tf) ∧ ((P.main.file : Str) == file) = true
  sup : PySem.W.nsIn K mainGlobals "super" = some none
  top : (P.main.scope.names.lookup ("super" : Str)).isSome = false
  opq : PySem.W.nsIn K cStatics "thirdparty.any" = some none
  par : ∃ ar : Arg, ((defArgs st).posonlyargs ++ (defArgs st).args).head? = some ar ∧ ar.arg = slf
  ks : (defScope st).names.lookup ("super" : Str) = some .globalImplicit
  kc : (defScope st).names.lookup ("__class__" : Str) = some .free
  kf : (defScope st).names.lookup slf = some .local
/-- behind D in the order of C's classes stands the def at g under the name m -/
structure NextF (K : PySem.W.Frag) (C D : Addr) (m : Str) (g : Addr) : Prop where
  sub : PySem.W.mroIn K C (.ref D) = some true
  at_ : PySem.W.ks_superIn K C D m = some (some (.ref g))
  ty : PySem.W.typeIn K (.ref g) = some (.type "function")
  fi : PySem.W.fnIn K g = true
  nm : (m == ("__class__" : Str)) = false
section
variable {P : Program} {w : World} {K : PySem.W.Frag} {mg : Str → Option Value} {base : Heap} {N : List Str} {x qual slf : Str} {st : Stmt} {D cc cda f g : Addr} {fd : FuncData} {A : Around} {outer : List Env} {s0 : Shared} {H0 : Hp} {E : XK}
/-- the context of its body -/
abbrev cxS (P : Program) (w : World) (K : PySem.W.Frag) (mg : Str → Option Value) (base : Heap) (N : List Str) (x qual : Str) (st : Stmt) (cc cda f : Addr) (A : Around) (outer : List Env) (s : Shared) (H : Hp) : Cx :=
  (ncx CX0 P w K mg base N (nfS x qual st cc cda) f A outer s H E0).nox
/-- an attribute of super(), read (a call with **more reads it so) -/
theorem getAttr_super {prog : Program} {w : World} {A : Around} {E : Value → Shared → Prop} {h : Heap} {g0 : Array GenState} {d : Drawn} {t : Nat} {os : OsState} {so D x C f : Addr} {of : Obj} {l₀ l : List Value} {K : PySem.W.Frag} {name : Str} {ex : Bool} {Q : Value → Shared → Prop}
    (hso : h.get? so = some { cls := .type "super", dict := none, data := .fields #[.ref D, .ref x, .ref C], slots := #[] }) (hno : PySem.W.Looks (model prog w) h (opaqueClassAbove (.ref C)) none)
    (hC : PySem.W.Looks (model prog w) h (mroOf (.ref C)) l₀) (hl : (l₀.dropWhile (· != .ref D)).drop 1 = l) (X : K.In h)
    (hf : PySem.W.alongIn K name l = some (some (.ref f))) (hfo : h.get? f = some of) (hfc : of.cls = .type "function") (hxC : x ≠ C) (hn : (name == ("__class__" : Str)) = false)
    (hq : Q (.ref h.objs.size) ⟨h.push { cls := .type "method", data := .fields #[.ref f, .ref x] }, g0, d, t + 1, os⟩) :
    wpAny (model prog w) A (getAttr (.ref so) name ex) Q E ⟨h, g0, d, t, os⟩ := by
  have hlk := F.ks_slot_super_ga.lookup
  have hT : ∀ t', (⟨h, g0, d, t', os⟩ : Shared).TypeIs (.ref so) "super" := fun _ => ⟨_, hso, rfl⟩
  unfold getAttr getAttrBy
  refine wpAny_bind (wpAny_mkText (wpAny_holding (wpAny_bind (wpAny_typeOf (hT _) (wpAny_bind (wpAny_of_eq hlk ?_))))))
  show wpAny _ _ (getAttrByItsOwn (.ref so) (.str name t) (.type "super") (.builtin "super.__getattribute__") true ex) _ _ _
  unfold getAttrByItsOwn hookBefore callGetattribute boundAndCalled
  refine wpAny_bind (wpAny_of_eq (show (if onTheHeap (.type "super") then typeLookup (.type "super") "__getattr__" else pure none) = pure none from rfl) ?_)
  refine wpAny_bind (wpAny_attempt (wpAny_holding ?_))
  rw [show (ex && onTheHeap (Value.builtin "super.__getattribute__")) = false by cases ex <;> rfl]
  show wpAny _ _ (bindSpecial (.builtin "super.__getattribute__") (.ref so) >>= _) _ _ _
  refine wpAny_bind (wpAny_of_eq (F.ks_slot_super_ga.bind _) ?_)
  refine wpAny_mono (Q := fun v s' => v = .ref h.objs.size ∧ s' = ⟨h.push { cls := .type "method", data := .fields #[.ref f, .ref x] }, g0, d, t + 1, os⟩) (E := fun _ _ => False)
    (wpAny_call_entry F.ks_slot_super_ga (hT _) F.ks_entry_super_ga (ks_wpAny_super_ga hso hno hC hl X hf hfo hfc hxC hn ⟨_, rfl, rfl, rfl⟩) (F.ks_gaArgs_super _ _)) (fun v s' hv => ?_) fun _ _ z => z.elim
  obtain ⟨rfl, rfl⟩ := hv
  exact wpAny_pure hq
theorem sup_get0 {pins : List (Addr × Obj)} {σ : L2.St} {H : Hp} {s : Shared} {a C dx : Addr} {fs : List (Str × V)} {m : Str} {body : List Stmt} {p0 p1 : Pos} {whole : Sem Value} {pl : Sem Bool} {kt : Value → Sem (Value × List Value)} (hkt : (∀ ov, kt ov = getMethod ov m pl) ∨ ∀ ov, kt ov = (do let v ← getAttr ov m true; pure (v, []))) {Q : Value × List Value → Shared → Prop} {E : Value → Shared → Prop}
    (S : SupF P K x qual slf st D cc cda f fd) (I : Inv (cxS P w K mg base N x qual st cc cda f A outer s0 H0) pins σ H s) (hN : N[0]? = some slf) (hσ : σ[0]? = some (some (.ref a))) (hi : H a = some (.ins C dx fs)) (hc : Cls K C) (hx : NextF K C D m g)
    (h : ∀ q s', Inv (cxS P w K mg base N x qual st cc cda f A outer s0 H0) ((q, PySem.W.methodObj (.ref g) (.ref a)) :: pins) σ H s' → Q (.ref q, []) s') :
    _root_.PySem.wpAt (model P w) (cxS P w K mg base N x qual st cc cda f A outer s0 H0).A (.func body (cxS P w K mg base N x qual st cc cda f A outer s0 H0).env)
      (attributeBase (.Call (.Name "super" p0) [] [] p1) m (cxS P w K mg base N x qual st cc cda f A outer s0 H0).env whole)
      (fun ov s1 => wpAny (model P w) (cxS P w K mg base N x qual st cc cda f A outer s0 H0).A (kt ov) Q E s1) E s := by
  obtain ⟨oc, od, dV, kV, doc, pm, an, ct, osl, rfl, lk⟩ := S.ex
  obtain ⟨cl, cld, csl, lc⟩ := S.cell
  obtain ⟨cdD, hD⟩ := S.cls
  obtain ⟨ccl, cdd, vs, ccs, file, tf, lco, hvs, hfile⟩ := S.code
  obtain ⟨ar, har, e0⟩ := S.par
  have kX : K.In s.heap := I.kIn
  obtain ⟨oD, hD1, hD2⟩ : ∃ oD, s.heap.get? D = some oD ∧ oD.data = .cls cdD := by
    unfold PySem.W.clsIn at hD
    split at hD
    · rename_i c d cd' sl ho
      cases hD
      exact ⟨_, kX _ _ ho, rfl⟩
    · cases hD
  have hself : ∃ mm, s.heap.Ns (cxS P w K mg base N x qual st cc cda f A outer s0 H0).env.locals mm ∧ mm slf = some (.ref a) := by
    obtain ⟨mm, hn, hl⟩ := I.loc
    obtain ⟨u, ru, hu⟩ := hl 0 slf (.ref a) hN hσ (.inl S.kf)
    obtain rfl : u = Value.ref a := ru
    rcases hu with ⟨_, hm⟩ | ⟨hk, _⟩
    · exact ⟨mm, hn, hm⟩
    · have hk' : (defScope st).names.lookup slf = some .cell ∨ (defScope st).names.lookup slf = some .free := hk
      rw [S.kf] at hk'
      rcases hk' with q | q <;> cases q
  obtain ⟨mm, hns, hm⟩ := hself
  obtain ⟨mA, O, _⟩ := ins_get I.hok hi
  obtain ⟨odx, J, _⟩ := O.look
  have hcC : (PySem.W.clsIn K C).isSome = true := by
    obtain ⟨cd, hc, _⟩ := PySem.W.any_some hc.hd
    rw [hc]
    rfl
  obtain ⟨cdC, hcC⟩ := Option.isSome_iff_exists.mp hcC
  refine ks_wpAt_super_base (env := (cxS P w K mg base N x qual st cc cda f A outer s0 H0).env) (f := f) (fd := _) (cc := cda) S.ks S.kc hx.nm rfl (kX _ _ lk) rfl har rfl (kX _ _ lco) rfl hvs hfile S.top ?_
  obtain ⟨mb, h1, h2⟩ := I.mod.blt
  refine PySem.W.ks_loadName_global (env := (cxS P w K mg base N x qual st cc cda f A outer s0 H0).env) I.ok.kind S.ks (Calls.loadGlobal_builtin (I.mod.glob.keeps I.bk) (PySem.W.mg_none_of I.mod.kin I.mod.glob S.sup) (h1.keeps I.bk) ((h2 _ (by decide)).trans (show bootBuiltins "super" = some (.type "super") by decide +kernel)) ⟨rfl, ?_⟩)
  refine wpAny_loadName_free (env := (cxS P w K mg base N x qual st cc cda f A outer s0 H0).env) (c := cc) I.ok.kind S.kc rfl ⟨_, kX _ _ lc, rfl⟩ ?_
  rw [e0]
  refine wpAny_loadName_local I.ok.kind S.kf hns hm ?_
  obtain ⟨hh, gg, d, t, os⟩ := s
  refine ks_wpAny_isType_cls hD1 hD2 ⟨rfl, ?_⟩
  refine ks_wpAny_call_super hD1 hD2 J.at_ J.cls (fun c e => ?_) (PySem.W.looks_mroIn kX hx.sub) (fun h' e k => ?_)
  · have := J.no
    unfold PySem.W.notCls at this
    rw [e] at this
    exact Bool.noConfusion this
  · have I2 := ClX.pin_new (t' := t) I k (Nat.le_refl _) e (fun v z => nomatch z)
    have kX2 : K.In h' := I2.kIn
    obtain ⟨of, hof, hofc⟩ : ∃ of, h'.get? g = some of ∧ of.cls = .type "function" := by
      have ht' : (K.lookup g).map (·.cls) = some (.type "function") := hx.ty
      cases z : K.lookup g with
      | none => rw [z] at ht'; cases ht'
      | some of => rw [z] at ht'; exact ⟨of, kX2 _ _ z, Option.some.inj ht'⟩
    have hm' := hx.at_
    unfold PySem.W.ks_superIn at hm'
    rw [hcC] at hm'
    have I3 := ClX.pin_new (t' := t + 1) I2 (fun b o e => Heap.get?_push_of_some (PySem.W.methodObj (.ref g) (.ref a)) e) (Nat.le_refl _) (Heap.get?_push_at rfl rfl) (fun v z => nomatch z)
    have I4 := I3.pins_of (pins' := (_, PySem.W.methodObj (.ref g) (.ref a)) :: pins) fun r hr => by
      refine I3.pin r (List.mem_append_right _ ?_)
      rcases List.mem_cons.mp hr with q | q
      · exact q ▸ List.mem_cons_self
      · exact List.mem_cons_of_mem _ (List.mem_cons_of_mem _ q)
    have hlC : PySem.W.Looks (model P w) h' (mroOf (.ref C)) cdC.mro := fun A Q E s k q => wpAny_bind ((PySem.W.looks_clsIn kX2 hcC) A _ E s k (wpAny_pure q))
    rcases hkt with hkt | hkt
    · rw [hkt]
      exact ks_wpAny_getMethod_super (K := K) (ClX.pin_at I2) (PySem.W.looks_opaque kX2 S.opq) (l₀ := cdC.mro) hlC rfl kX2 hm' hof hofc (PySem.W.ks_ne kX J hcC) hx.nm (h _ _ I4)
    · rw [hkt]
      refine wpAny_bind (getAttr_super (K := K) (ClX.pin_at I2) (PySem.W.looks_opaque kX2 S.opq) (l₀ := cdC.mro) hlC rfl kX2 hm' hof hofc (PySem.W.ks_ne kX J hcC) hx.nm ?_)
      exact wpAny_pure (h _ _ I4)
theorem sup_get {pins : List (Addr × Obj)} {σ : L2.St} {H : Hp} {s : Shared} {a C dx : Addr} {fs : List (Str × V)} {m : Str} {body : List Stmt} {p0 p1 : Pos} {whole : Sem Value} {pl : Sem Bool} {Q : Value × List Value → Shared → Prop} {E : Value → Shared → Prop}
    (S : SupF P K x qual slf st D cc cda f fd) (I : Inv (cxS P w K mg base N x qual st cc cda f A outer s0 H0) pins σ H s) (hN : N[0]? = some slf) (hσ : σ[0]? = some (some (.ref a))) (hi : H a = some (.ins C dx fs)) (hc : Cls K C) (hx : NextF K C D m g)
    (h : ∀ q s', Inv (cxS P w K mg base N x qual st cc cda f A outer s0 H0) ((q, PySem.W.methodObj (.ref g) (.ref a)) :: pins) σ H s' → Q (.ref q, []) s') :
    _root_.PySem.wpAt (model P w) (cxS P w K mg base N x qual st cc cda f A outer s0 H0).A (.func body (cxS P w K mg base N x qual st cc cda f A outer s0 H0).env)
      (attributeBase (.Call (.Name "super" p0) [] [] p1) m (cxS P w K mg base N x qual st cc cda f A outer s0 H0).env whole)
      (fun ov s1 => wpAny (model P w) (cxS P w K mg base N x qual st cc cda f A outer s0 H0).A (getMethod ov m pl) Q E s1) E s := sup_get0 (kt := fun ov => getMethod ov m pl) (.inl fun _ => rfl) S I hN hσ hi hc hx h
end
end DL
set_option maxRecDepth 100000
set_option maxHeartbeats 2000000
namespace DL
open PySem PySem.Spec PyProof.Rows L2 NdefX

/-- the def at f, called with n values by place and the names ks -/
structure FnC (P : Program) (w : World) (K : PySem.W.Frag) (mg : Str → Option Value) (base : Heap) (k : Nat) (f : Addr) (n : Nat) (ks : List Str) (m : XF) : Prop where
  run : ∀ (A : Around) (outer : List Env) (s : Shared) (H : Hp) (us ws : List Value) (vs : List V) (Q : VK), Room k A → A.guards = some [] → Env0 P w K mg base A outer s H → us.length = n → ws.length = ks.length → Vals vs (us ++ ws) → spF K m vs H Q →
    codeAny (model P w) A (.call (.ref f) ⟨us, ks.zip ws⟩) (CR CX0 outer P w H s Q E0) s
/-- a call's reading by its arguments -/
theorem sp_call {K : PySem.W.Frag} {Φ : Fx} {Z : Hp} {σ : L2.St} {H : Hp} {ρ ρ1 : Nv} {vs : List V} {as : List AV} {es : List EV} {m : XF} {w : Rv × List EV} {Q : VK} (R : Rl K Φ Z σ H ρ) (ra : AvA K Z σ vs as) (nd : (slotsOf as).Nodup) (e2 : entN as ρ = some es)
    (e3 : m es = some w) (e4 : back as w.2 ρ = some ρ1) (kk : ∀ v H' Z', Same Z Z' → Rl K Φ Z' σ H' ρ1 → RvOk K Φ Z' σ H' ρ1 v w.1 → Q v H') : spF K m vs H Q :=
  ⟨Z, _, _, es, w.1, w.2, e3, ent_io e2, call_in R ra e2 nd, fun v H2 Z2 z2 Rc rc => kk v H2 Z2 z2 (call_out R e2 nd z2 Rc e4).1 (rv_out R (call_out R e2 nd z2 Rc e4).2 rc)⟩
/-- what the entry holds as arguments -/
def avs : Nat → List EV → Option (List AV)
  | _, [] => some []
  | i, .d x :: es => (avs (i + 1) es).map (.v x :: ·)
  | i, .own _ _ :: es => (avs (i + 1) es).map (.s i :: ·)
  | i, .scr _ :: es => (avs (i + 1) es).map (.s i :: ·)
  | _, .un :: _ => none
theorem avs_ok {K : PySem.W.Frag} {Φ : Fx} {Z : Hp} {σ : L2.St} {H : Hp} {ρ : Nv} (R : Rl K Φ Z σ H ρ) : ∀ (es : List EV) (i : Nat) (vs : List V) {as : List AV}, (∀ j e, es[j]? = some e → ρ[i + j]? = some e) → (∀ (j : Nat) v, vs[j]? = some v → σ[i + j]? = some (some v)) → es.length = vs.length → avs i es = some as → AvA K Z σ vs as
  | [], i, [], as, _, _, _, h => by cases h; exact .nil
  | [], _, _ :: _, _, _, _, hl, _ => by cases hl
  | _ :: _, _, [], _, _, _, hl, _ => by cases hl
  | e :: es, i, v :: vs, as, he, hv, hl, h => by
    have h0 : ρ[i]? = some e := by simpa using he 0 e rfl
    have s0 : σ[i]? = some (some v) := by simpa using hv 0 v rfl
    have go : ∀ {bs : List AV}, avs (i + 1) es = some bs → AvA K Z σ vs bs := fun hb => avs_ok R es (i + 1) vs (fun j e' h' => by have := he (j + 1) e' (by simpa using h'); rwa [show i + (j + 1) = i + 1 + j by omega] at this) (fun j v' h' => by have := hv (j + 1) v' (by simpa using h'); rwa [show i + (j + 1) = i + 1 + j by omega] at this) (by simpa using hl) hb
    cases e with
    | un => cases h
    | d x =>
      unfold avs at h
      cases hb : avs (i + 1) es with
      | none => rw [hb] at h; cases h
      | some bs =>
        rw [hb] at h
        cases h
        obtain ⟨v', s', r⟩ := R.dat i x h0
        rw [s0] at s'
        cases s'
        exact .v r (go hb)
    | own o io =>
      unfold avs at h
      cases hb : avs (i + 1) es with
      | none => rw [hb] at h; cases h
      | some bs => rw [hb] at h; cases h; exact .s s0 (go hb)
    | scr p =>
      unfold avs at h
      cases hb : avs (i + 1) es with
      | none => rw [hb] at h; cases h
      | some bs => rw [hb] at h; cases h; exact .s s0 (go hb)
/-- the arguments put in the parameters' order -/
def selF (s : Sel) (m : XF) : XF := fun es => (avs 0 es).bind fun as => (pick s as).bind fun cs => if (slotsOf cs).Nodup then (entN cs es).bind fun es' => (m es').bind fun w => (back cs w.2 es).map fun ρ => (w.1, ρ) else none
section
variable {P : Program} {w : World} {K : PySem.W.Frag} {mg : Str → Option Value} {base : Heap} {k j n : Nat} {f : Addr} {fd : FuncData} {ps ks : List Str} {m m' : XF} {s : Sel}
theorem FnC.mono (F : FnC P w K mg base j f n ks m) (h : j ≤ k) : FnC P w K mg base k f n ks m := ⟨fun A outer s H us ws vs Q hr => F.run A outer s H us ws vs Q (hr.mono h)⟩
theorem FnC.sub (F : FnC P w K mg base k f n ks m) (h : ∀ ρ r, m' ρ = some r → m ρ = some r) : FnC P w K mg base k f n ks m' :=
  ⟨fun A outer s H us ws vs Q hr hg he l1 l2 hv ⟨Z, Fr, ino, ρ, d, ρ', e, io, R, q⟩ => F.run A outer s H us ws vs Q hr hg he l1 l2 hv ⟨Z, Fr, ino, ρ, d, ρ', h _ _ e, io, R, q⟩⟩
theorem FnC.of (F : FnG P w K mg base k f fd ps m) (hb : Binds K fd ps []) : FnC P w K mg base k f ps.length [] m := by
  refine ⟨fun A outer s H us ws vs Q hr hg he l1 l2 hv hsp => ?_⟩
  obtain rfl : ws = [] := List.eq_nil_of_length_eq_zero l2
  rw [List.append_nil] at hv
  have kin : K.In s.heap := he.mod.kin.keeps fun b o q => (he.bs b o q).1
  have b := hb s us kin (by simpa using l1)
  rw [List.append_nil] at b
  exact F.run A outer s H ⟨us, []⟩ us vs Q hr hg he b hv (hv.length.trans l1) hsp
theorem FnC.ofP (F : FnG P w K mg base k f fd ps m) (hb : PB K fd ps n ks s) : FnC P w K mg base k f n ks (selF s m) := by
  refine ⟨fun A outer sh H us ws vs Q hr hg he l1 l2 hv hsp => ?_⟩
  have kin : K.In sh.heap := he.mod.kin.keeps fun b o q => (he.bs b o q).1
  obtain ⟨ys, hB, hl, hp⟩ := hb.to sh us ws kin l1 l2
  obtain ⟨xs, rx, px⟩ := Pk.vals hv hp
  refine F.run A outer sh H ⟨us, ks.zip ws⟩ ys xs Q hr hg he hB rx (rx.length.trans hl) ?_
  obtain ⟨Z, Fr, ino, ρ, d, ρ', e, io, R, q⟩ := hsp
  unfold selF at e
  cases e1 : avs 0 ρ with
  | none => rw [e1] at e; cases e
  | some as =>
    rw [e1, Option.bind_some] at e
    cases e2 : pick s as with
    | none => rw [e2] at e; cases e
    | some cs =>
      rw [e2, Option.bind_some] at e
      split at e
      · rename_i nd
        cases e3 : entN cs ρ with
        | none => rw [e3] at e; cases e
        | some es =>
          rw [e3, Option.bind_some] at e
          cases e4 : m es with
          | none => rw [e4] at e; cases e
          | some u =>
            rw [e4, Option.bind_some] at e
            cases e5 : back cs u.2 ρ with
            | none => rw [e5] at e; cases e
            | some ρ1 =>
              rw [e5] at e
              cases e
              have hlen : ρ.length = vs.length := by have := R.len; simpa using this
              have ra := avs_ok R ρ 0 vs (fun j e h => by simpa using h) (fun j v h => by simp [h]) hlen e1
              exact sp_call R (ava_pick ra px e2) nd e3 e4 e5 q
      · cases e
end

def EAt (X : Cx) (body : List Stmt) (e : Expr) (f : XE) : Prop := ∃ t : TE, (∀ (pins : List (Addr × Obj)) (s : Shared) (σ : L2.St) (H : Hp) (Q : VK), Inv X pins σ H s → t σ H Q →
  _root_.PySem.wpAt (model X.prog X.w) X.A (.func body X.env) (eval e X.env) (EP X pins σ Q) X.xe s) ∧ ME X.K t f
def SAt (X : Cx) (body st : List Stmt) (f : XS) : Prop := ∃ t : TS, (∀ (pins : List (Addr × Obj)) (s : Shared) (σ : L2.St) (H : Hp) (D : Ends), Inv X pins σ H s → t D σ H →
  _root_.PySem.wpAt (model X.prog X.w) X.A (.func body X.env) (execs st X.env) (SP X pins D) X.xe s) ∧ MS X.K t f
section
variable {X : Cx} {body rest : List Stmt} {e : Expr} {f g : XE} {fs : XS} {pos : Pos} {b : Expr} {op : Operator} {r : R2} {h : PyData → PyData → Option PyData}
theorem sat_ret {rp : Pos} (he : EAt X body e f) : SAt X body [.Return (some e) rp] (sRet f) := by
  obtain ⟨t, p, m⟩ := he
  refine ⟨fun D σ H => t σ H fun v H1 => D.rt v H1, fun pins s σ H D I q => ?_, fun Φ Z σ H ρ fl R q D k => ?_⟩
  · refine ks_wpAt_execs_cons (ks_wpAt_Return_some (ks_wpAt_mono (p pins s σ H _ I q) (fun u s' hu => ?_) fun _ _ z => z))
    obtain ⟨v, H', I', rv, q'⟩ := hu
    exact ⟨v, σ, H', I', rv, q'⟩
  · unfold sRet at q
    cases e1 : f ρ with
    | none => rw [e1] at q; cases q
    | some w =>
      rw [e1] at q
      cases q
      exact m Φ Z σ H ρ w.1 w.2 R e1 _ fun v H1 Z1 z1 R1 r1 => k v σ H1 Z1 z1 R1 r1
theorem eat_bin (ho : OpR X (binaryOp op) r) (hr : R2M X.K r h) (ha : EAt X body e f) (hb : OD' X b g) : EAt X body (.BinOp e op b pos) (x2 h f g) := by
  obtain ⟨ta, pa, ma⟩ := ha
  obtain ⟨tb, pb, mb⟩ := hb
  refine ⟨tOp r ta tb, fun pins s σ H Q I q => ?_, me_op hr ma mb⟩
  refine ks_wpAt_BinOp (ks_wpAt_mono (pa pins s σ H _ I q) (fun u s1 hu => ?_) fun _ _ z => z)
  obtain ⟨x, H1, I1, r1, q1⟩ := hu
  refine thn (pb.run pins s1 σ H1 _ I1 q1) fun u2 s2 ⟨y, H2, I2, r2, q2⟩ => ?_
  exact ho pins s2 σ H2 x y u u2 Q I2 r1 r2 q2
theorem sat_cons (he : EAt X body e f) (hr : SSD X rest fs) (hi : interactive X.env = false := by rfl) (hs : swapsWith e none pos.line X.env = pure false := by rfl) : SAt X body (.Expr e pos :: rest) (sSeq (sDrop f) fs) := by
  obtain ⟨t, p, m⟩ := he
  obtain ⟨u, q, n⟩ := hr
  refine ⟨fun D σ H => t σ H fun _ H1 => u D σ H1, fun pins s σ H D I hq => ?_, fun Φ Z σ H ρ fl R hq D k => ?_⟩
  · refine ks_wpAt_execs_cons (ks_wpAt_Expr_any (ks_wpAt_mono (p pins s σ H _ I hq) (fun v s1 hv => ?_) fun _ _ z => z) hi hs)
    obtain ⟨v, H', I', rv, q'⟩ := hv
    exact wpAt_of_wpAny (q.run pins s1 σ H' D I' q')
  · unfold sSeq sDrop at hq
    cases e1 : f ρ with
    | none => rw [e1] at hq; cases hq
    | some w =>
      rw [e1] at hq
      simp only [Option.map_some, Option.bind_some] at hq
      exact m Φ Z σ H ρ w.1 w.2 R e1 _ fun v H1 Z1 z1 R1 r1 => n Φ Z1 σ H1 w.2 fl R1 hq D (k.mono z1)
end
end DL
set_option maxRecDepth 100000
set_option maxHeartbeats 2000000
namespace DL
open PySem PySem.Spec PyProof.Rows L2 NdefX

/-- the call of a bound method's record -/
theorem bound_ok {X : Cx} {pins : List (Addr × Obj)} {σ : L2.St} {H : Hp} {s : Shared} {Q : VK} {q g a : Addr} {us : List Value} {kw : List (Str × Value)} (I : Inv X ((q, PySem.W.methodObj (.ref g) (.ref a)) :: pins) σ H s)
    (hc : codeAny (model X.prog X.w) X.A (.call (.ref g) ⟨.ref a :: us, kw⟩) (CR CX0 X.stack X.prog X.w H s Q E0) s) : wpAny (model X.prog X.w) X.A (call (.ref q) us kw) (EP X pins σ Q) X.xe s := by
  have z : wpAny (model X.prog X.w) X.A (call (.ref q) us kw) (EP X ((q, PySem.W.methodObj (.ref g) (.ref a)) :: pins) σ Q) X.xe s := by
    refine wpAny_call (PySem.W.method_call (ClX.pin_at I) (codeAny_mono hc fun out s' hq => ?_))
    match out, hq with
    | .ok (.ret u), hq => exact I.after hq
    | .error e, hq => exact hq.elim
    | .ok .next, hq => exact hq.elim
    | .ok .brk, hq => exact hq.elim
    | .ok .cont, hq => exact hq.elim
  exact thn z fun _ _ y => ClX.unpinE y
/-- what slot 0 holds: an instance of the class n, one's own or a datum -/
def selfA (n : Str) (ρ : Nv) : Option AV := match ρ[(0 : Nat)]? with
  | some (.own (.oi n' _) _) => if n' = n then some (.s 0) else none
  | some (.d (.dict ((.none, .str n') :: r))) => if n' = n then some (.v (.dict ((.none, .str n') :: r))) else none
  | _ => none
theorem selfA_ok {K : PySem.W.Frag} {Φ : Fx} {Z : Hp} {σ : L2.St} {H : Hp} {ρ : Nv} {n : Str} {av : AV} (R : Rl K Φ Z σ H ρ) (h : selfA n ρ = some av) :
    ∃ a C dx vs, σ[0]? = some (some (.ref a)) ∧ IsC K n C ∧ H a = some (.ins C dx vs) ∧ ∀ {ys : List V} {as : List AV}, AvA K Z σ ys as → AvA K Z σ (.ref a :: ys) (av :: as) := by
  unfold selfA at h
  split at h
  · rename_i n' fs io e
    split at h
    · rename_i hn
      cases h
      subst hn
      obtain ⟨a, s, C, dx, vs, c, q, _⟩ := R.own 0 _ _ e
      exact ⟨a, C, dx, vs, s, c, q, fun r => .s s r⟩
    · cases h
  · rename_i n' r e
    split at h
    · rename_i hn
      cases h
      subst hn
      obtain ⟨v, s, rp⟩ := R.dat 0 _ e
      have rp' := rp
      obtain ⟨a, C, dx, vs, fs, rfl, c, q, _⟩ := rp.ins_inv
      exact ⟨a, C, dx, vs, s, c, R.zH _ _ q, fun r => .v rp' r⟩
    · cases h
  · cases h
/-- super().m(..): the arguments behind the instance are those of r -/
def xSup (n : Str) (m : XF) (r : XA) : XE := fun ρ => (r ρ).bind fun p => (selfA n p.2).bind fun av => xCall m (fun ρ => some (av :: p.1, ρ)) p.2
/-- the attributes under slot j: a dict of one's own whose keys are the names ks -/
def aMore (j : Nat) (ks : List Str) : XA := fun ρ => match ρ[j]? with
  | some (.own (.od kvs) _) => if kvs.map (·.1) = ks.map Sum.inr then some (kvs.map fun p => .v p.2, ρ) else none
  | _ => none
theorem sup_sp {K : PySem.W.Frag} {Φ : Fx} {Z : Hp} {σ : L2.St} {H : Hp} {ρ ρ' : Nv} {a : Addr} {ys : List V} {av : AV} {as : List AV} {m : XF} {d : PyData} {Q : VK} (R : Rl K Φ Z σ H ρ) (ra : AvA K Z σ (.ref a :: ys) (av :: as))
    (q : xCall m (fun ρ => some (av :: as, ρ)) ρ = some (d, ρ')) (k : ∀ v H' Z', Same Z Z' → Rl K Φ Z' σ H' ρ' → Rp K Z' v d → Q v H') : spF K m (.ref a :: ys) H Q := by
  unfold xCall gCall at q
  simp only [Option.bind_some] at q
  split at q
  · rename_i nd
    cases e2 : entN (av :: as) ρ with
    | none => rw [e2] at q; cases q
    | some es =>
      rw [e2, Option.bind_some] at q
      cases e3 : m es with
      | none => rw [e3] at q; cases q
      | some u =>
        rw [e3, Option.bind_some] at q
        cases e4 : back (av :: as) u.2 ρ with
        | none => rw [e4] at q; cases q
        | some ρ1 =>
          rw [e4] at q
          simp only [Option.map_some, Option.bind_some] at q
          split at q
          · rename_i x ex
            cases q
            refine sp_call R ra nd e2 e3 e4 fun v H' Z' z R' r => k v H' Z' z R' ?_
            rw [ex] at r
            exact r
          · cases q
  · cases q
theorem more_of {α : Type} : ∀ {ks : List Str} {us : List (Key × α)}, us.map (·.1) = ks.map Sum.inr → us = (ks.zip (us.map (·.2))).map fun p => ((Sum.inr p.1 : Key), p.2)
  | [], [], _ => rfl
  | [], _ :: _, h => by cases h
  | _ :: _, [], h => by cases h
  | k :: ks, (a, v) :: us, h => by
    simp only [List.map_cons] at h
    injection h with h1 h2
    subst h1
    have := more_of h2
    simp only [List.map_cons, List.zip_cons_cons]
    rw [← this]
theorem ava_dats {K : PySem.W.Frag} {Z : Hp} {σ : L2.St} : ∀ {ys : List V} {ds : List PyData}, RpA K Z ys ds → AvA K Z σ ys (ds.map .v)
  | _, _, .nil => .nil
  | _, _, .cons r1 r2 => .v r1 (ava_dats r2)
theorem kv_keys {l : List (Key × V)} {r : List (Key × Value)} (h : KV l r) : r.map (·.1) = l.map (·.1) := by
  induction h with
  | nil => rfl
  | cons e _ ih => rw [List.map_cons, List.map_cons, e.1, ih]
theorem kv_vals {l : List (Key × V)} {r : List (Key × Value)} (h : KV l r) : Vals (l.map (·.2)) (r.map (·.2)) := by
  induction h with
  | nil => exact .nil
  | cons e _ ih => exact .cons e.2 ih
theorem he_supM {m mo : Str} {p0 p1 apos pos vp kp : Pos} {env : Env} : eval (.Call (.Attribute (.Call (.Name "super" p0) [] [] p1) m apos) [] [⟨none, .Name mo vp, kp⟩] pos) env = (do
      let ov ← attributeBase (.Call (.Name "super" p0) [] [] p1) m env (eval (.Call (.Name "super" p0) [] [] p1) env)
      standAt apos.atName
      let (fn, first) ← holding [ov] (do let v ← getAttr ov m true; pure (v, []))
      callWith pos fn first [] [(none, do let v ← eval (.Name mo vp) env; standAt pos; pure v)]) := rfl
theorem he_sup0 {m : Str} {p0 p1 apos pos : Pos} {env : Env} (hp : (apos.endLine == pos.line) = true) : eval (.Call (.Attribute (.Call (.Name "super" p0) [] [] p1) m apos) [] [] pos) env = (do
      let ov ← attributeBase (.Call (.Name "super" p0) [] [] p1) m env (eval (.Call (.Name "super" p0) [] [] p1) env)
      standAt apos.atName
      let (fn, first) ← holding [ov] (getMethod ov m)
      callWith pos fn first (backTo pos (starEach [] env)) []) := by
  have e1 : ∀ o env, methodCallPos true o env apos pos = pure pos := fun o env => by unfold methodCallPos; rw [hp]; rfl
  show (do
    let ov ← attributeBase (.Call (.Name "super" p0) [] [] p1) m env (eval (.Call (.Name "super" p0) [] [] p1) env)
    standAt apos.atName
    methodCall (.Call (.Name "super" p0) [] [] p1) m apos pos env ov 0 (backTo pos (starEach [] env)) []) = _
  unfold methodCall
  rw [show methodCallForm 0 (backTo pos (starEach [] env)) [] = true from rfl]
  simp only [e1]
  rfl
section
variable {P : Program} {w : World} {K : PySem.W.Frag} {mg : Str → Option Value} {base : Heap} {N : List Str} {x qual slf n m : Str} {st : Stmt} {D C cc cda f g : Addr} {fd : FuncData} {A : Around} {outer : List Env} {s0 : Shared} {H0 : Hp} {k j : Nat} {m2 : XF}
  {body : List Stmt} {p0 p1 apos pos : Pos} {kws : List Keyword} {ks : List Str} {r : XA}
/-- super().m() -/
theorem eat_sup0 (S : SupF P K x qual slf st D cc cda f fd) (hN : N[0]? = some slf) (c : IsC K n C) (hx : NextF K C D m g) (F : FnC P w K mg base k g 1 [] m2) (hr : Room k (cxS P w K mg base N x qual st cc cda f A outer s0 H0).A)
    (hG : (cxS P w K mg base N x qual st cc cda f A outer s0 H0).A.guards = some [])
    (hp : (apos.endLine == pos.line) = true := by rfl) :
    EAt (cxS P w K mg base N x qual st cc cda f A outer s0 H0) body (.Call (.Attribute (.Call (.Name "super" p0) [] [] p1) m apos) [] [] pos) (xSup n m2 aNil) := by
  refine ⟨fun σ H Q => ∃ a dx vs, σ[0]? = some (some (.ref a)) ∧ H a = some (.ins C dx vs) ∧ spF K m2 [.ref a] H Q, fun pins s σ H Q I ⟨a, dx, vs, hσ, hi, hsp⟩ => ?_, fun Φ Z σ H ρ d ρ' R q Q kk => ?_⟩
  · refine ks_wpAt_MethodCall (sup_get S I hN hσ hi c.cls hx fun q s' I' => ?_) (he_sup0 hp)
    refine PySem.W.callWith_M0 ⟨ClX.pin_at I', I'.kIn⟩ hx.fi (bound_ok I' ?_)
    exact F.run _ _ s' H [.ref a] [] [.ref a] Q hr hG I'.env0 rfl rfl (.cons rfl .nil) hsp
  · unfold xSup at q
    replace q : (selfA n ρ).bind (fun av => xCall m2 (fun ρ => some ([av], ρ)) ρ) = some (d, ρ') := q
    cases e1 : selfA n ρ with
    | none => rw [e1] at q; cases q
    | some av =>
      rw [e1, Option.bind_some] at q
      obtain ⟨a, C', dx, vs, s, c', hi, ra⟩ := selfA_ok R e1
      obtain rfl := c.eq c'
      exact ⟨a, dx, vs, s, hi, sup_sp R (ra .nil) q kk⟩
/-- super().m(**more) -/
theorem eat_supM (S : SupF P K x qual slf st D cc cda f fd) (hN : N[0]? = some slf) (c : IsC K n C) (hx : NextF K C D m g) (F : FnC P w K mg base k g 1 ks m2) (hr : Room k (cxS P w K mg base N x qual st cc cda f A outer s0 H0).A)
    (hG : (cxS P w K mg base N x qual st cc cda f A outer s0 H0).A.guards = some []) {mo : Str} {kp vp : Pos} (hj : N[j]? = some mo) (hv : (defScope st).names.lookup mo = some .local) (hz : ks.length ≤ 100) (hmd : (mo == ("__debug__" : Str)) = false := by decide) (hmc : (mo == ("__classdict__" : Str)) = false := by decide) :
    EAt (cxS P w K mg base N x qual st cc cda f A outer s0 H0) body (.Call (.Attribute (.Call (.Name "super" p0) [] [] p1) m apos) [] [⟨none, .Name mo vp, kp⟩] pos) (xSup n m2 (aMore j ks)) := by
  refine ⟨fun σ H Q => ∃ a dx vs b kvs, σ[0]? = some (some (.ref a)) ∧ H a = some (.ins C dx vs) ∧ σ[j]? = some (some (.ref b)) ∧ H b = some (.dK kvs) ∧ kvs.map (·.1) = ks.map Sum.inr ∧ spF K m2 (.ref a :: kvs.map (·.2)) H Q,
    fun pins s σ H Q I ⟨a, dx, vs, b, kvs, hσ, hi, hσj, hb, hk, hsp⟩ => ?_, fun Φ Z σ H ρ d ρ' R q Q kk => ?_⟩
  · rw [he_supM]
    refine _root_.PySem.wpAt_bind (ks_wpAt_mono (sup_get0 (pl := pure false) (kt := fun ov => do let v ← getAttr ov m true; pure (v, [])) (.inr fun _ => rfl) S I hN hσ hi c.cls hx (Q := fun fx s2 => ∃ q, fx = (.ref q, []) ∧ Inv (cxS P w K mg base N x qual st cc cda f A outer s0 H0) ((q, PySem.W.methodObj (.ref g) (.ref a)) :: pins) σ H s2) fun q s' I' => ⟨q, rfl, I'⟩) (fun ov s1 h1 => wpAt_of_wpAny (wpAny_bind (wpAny_standAt (wpAny_bind (wpAny_holding (wpAny_mono h1 (fun fx s2 h2 => ?_) fun _ _ z => z)))))) fun _ _ z => z)
    obtain ⟨q, rfl, I'⟩ := h2
    refine call_star (prog := P) (w := w) (P := PySem.W.MethP K q g (.ref a)) (PySem.W.keeps_M hx.fi) ?_
    refine args_star ?_
    have szq : q < s2.heap.objs.size := Heap.lt_size (ClX.pin_at I')
    have I2 := ClX.pin_new (h' := s2.heap.push ({ cls := .type "dict", data := .dict #[] } : Obj)) (t' := s2.toks) I' (fun _ _ e => Heap.get?_push_of_some _ e) (Nat.le_refl _) (Heap.get?_push_size s2.heap (o := ({ cls := .type "dict", data := .dict #[] } : Obj)) rfl) (fun v z => nomatch z)
    refine wpAny_bind (thn ((pe_var (X := cxS P w K mg base N x qual st cc cda f A outer s0 H0) (pos := vp) hj (.inl hv) hmd hmc).run _ _ σ H (fun v H' => v = .ref b ∧ H' = H) I2 ⟨_, hσj, rfl, rfl⟩) fun u s3 hu => ?_)
    obtain ⟨v, H', I3, rv, rfl, rfl⟩ := hu
    obtain rfl : u = Value.ref b := rv
    refine wpAny_bind (wpAny_standAt (wpAny_pure ?_))
    obtain ⟨z1, z2, us, kv, dO⟩ := I3.hok b _ hb
    have hn : H' s2.heap.objs.size = none := I'.hok.fresh (Nat.le_refl _)
    have hks : us.map (·.1) = ks.map Sum.inr := (kv_keys kv).trans hk
    have hl2 : us.length = ks.length := by have := congrArg List.length hks; simpa using this
    have emore := more_of hks
    have hl3 : (us.map (·.2)).length = ks.length := by rw [List.length_map]; exact hl2
    have pL := (I3.pin (s2.heap.objs.size, ({ cls := .type "dict", data := .dict #[] } : Obj)) (List.mem_append_right _ List.mem_cons_self)).2.2.1
    have I0 := ClX.unpin I3
    refine ⟨b, ks.zip (us.map (·.2)), rfl, fun e => ?_, z2, by rw [← emore]; exact dO, ⟨_, #[], 0, ClX.pin_at I3, ⟨rfl, rfl, rfl⟩, rfl, fun _ he => by simp at he, Pairs.nil, List.nodup_nil⟩, ?_, fun h' sb => ?_⟩
    · rw [e, hb] at hn; cases hn
    · rw [List.length_zip, hl3, sizeLine_eq]; omega
    · have I4 := Inv.turned (t' := s3.toks) (it := s2.heap.objs.size) I0 (fun c o hc e => (sb.2 c hc).trans e) hn pL (.inr I'.sz) (fun y c e z => ?_) (fun p hp z => ?_)
      · refine ⟨⟨ClX.pin_at I4, I4.kIn⟩, ?_⟩
        refine bound_ok I4 ?_
        exact F.run _ _ _ _ [.ref a] (us.map (·.2)) (.ref a :: kvs.map (·.2)) Q hr hG I4.env0 rfl hl3 (.cons rfl (kv_vals kv)) hsp
      · obtain ⟨v, o, ho, _⟩ := I'.cell y c e
        rw [z] at ho
        exact absurd (Heap.lt_size ho) (Nat.lt_irrefl _)
      · have := Heap.lt_size (I'.pin p hp).1
        rw [z] at this
        exact absurd this (Nat.lt_irrefl _)
  · unfold xSup at q
    cases e0 : aMore j ks ρ with
    | none => rw [e0] at q; cases q
    | some pr =>
      rw [e0, Option.bind_some] at q
      unfold aMore at e0
      split at e0
      · rename_i kvs io ej
        split at e0
        · rename_i hk
          cases e0
          cases e1 : selfA n ρ with
          | none => rw [e1] at q; cases q
          | some av =>
            rw [e1, Option.bind_some] at q
            obtain ⟨a, C', dx, vs, s, c', hi, ra⟩ := selfA_ok R e1
            obtain rfl := c.eq c'
            obtain ⟨b, sb, ws, hb, hk2, hr2⟩ := R.own j _ _ ej
            have ra2 : AvA K Z σ (.ref a :: ws.map (·.2)) (av :: kvs.map fun p => AV.v p.2) := ra (by have := ava_dats (σ := σ) hr2; rwa [List.map_map] at this)
            exact ⟨a, dx, vs, b, ws, s, hi, sb, hb, hk2.trans hk, sup_sp R ra2 q kk⟩
        · cases e0
      · cases e0
end
end DL
set_option maxRecDepth 100000
set_option maxHeartbeats 2000000
namespace DL
open PySem PySem.Spec PyProof.Rows L2 NdefX

theorem startF_none {N : List Str} {vs : List V} (h : vs.length + 1 ≤ N.length) : startF N vs [none] = L2.start N vs := by
  unfold startF L2.start
  have e : N.length - vs.length = (N.length - vs.length - 1) + 1 := by omega
  rw [e, List.replicate_succ]
  rfl
section
variable {P : Program} {w : World} {K : PySem.W.Frag} {mg : Str → Option Value} {base : Heap} {N ps : List Str} {x qual slf : Str} {st : Stmt} {D cc cda f : Addr} {fd : FuncData} {A : Around} {outer : List Env} {s : Shared} {H : Hp} {k : Nat} {body : XS} {us : List Value} {vs : List V} {Q : VK}
theorem cells_S (S : SupF P K x qual slf st D cc cda f fd) (e0 : Env0 P w K mg base A outer s H) : CellsAt [("__class__", cc)] ["__class__"] [none] s.heap H := by
  obtain ⟨cl, cld, csl, lc⟩ := S.cell
  have hb := e0.bs cc _ (e0.mod.kin _ _ lc)
  have look : ∀ (y : Str) (c : Addr), ([(("__class__" : Str), cc)] : List (Str × Addr)).lookup y = some c → y = "__class__" ∧ c = cc := fun y c h => by
    by_cases hy : y = "__class__"
    · subst hy
      simp [List.lookup] at h
      exact ⟨rfl, h.symm⟩
    · have : (y == ("__class__" : Str)) = false := beq_eq_false_iff_ne.mpr hy
      simp [List.lookup, this] at h
  refine ⟨rfl, fun y c h => ?_, fun a b c h1 h2 => ?_, fun i y h => ?_⟩
  · obtain ⟨_, rfl⟩ := look y c h
    exact ⟨hb.2, _, _, hb.1, rfl⟩
  · rw [(look a c h1).1, (look b c h2).1]
  · cases i with
    | zero =>
      simp at h
      subst h
      exact ⟨cc, by simp [List.lookup], fun v e => by simp at e⟩
    | succ i => simp at h
/-- the body runs -/
theorem body_S (S : SupF P K x qual slf st D cc cda f fd) (Sc : NScope N ps ["__class__"] (defScope st)) (room : Room (k + 1) A) (e0 : Env0 P w K mg base A outer s H) (rv : Vals vs us) (hl : vs.length = ps.length)
    (hb : SAt (cxS P w K mg base N x qual st cc cda f A outer s H) (defBody st) (defBody st) body) (hsp : spF K (runF N.length body) vs H Q) {h₁ : Heap} {tk : Nat} (hns : h₁.Ns s.heap.objs.size fun y => (ps.zip us).reverse.lookup y) (kp : ∀ b o, s.heap.get? b = some o → h₁.get? b = some o) :
    codeAny (model P w) A (.func (defBody st) (envF (nfS x qual st cc cda) f s.heap.objs.size)) (CR CX0 outer P w H s Q E0) { s with heap := h₁, toks := tk } := by
  obtain ⟨Z, Fr, ino, es, d, ρ', hm, hio', R0, hQ⟩ := hsp
  have nv : vs.length + 1 ≤ N.length := by
    have h1 := congrArg List.length Sc.pre
    rw [List.length_take, List.length_append] at h1
    simp at h1
    omega
  have I1 : Inv (ncx CX0 P w K mg base N (nfS x qual st cc cda) f A outer s H E0) [] (startF N vs [none]) H { s with heap := h₁, toks := tk } := inv_startN (F := nfS x qual st cc cda) Sc room.hd e0 hl rv (cells_S S e0) hns kp
  have I : Inv (cxS P w K mg base N x qual st cc cda f A outer s H) [] (startF N vs [none]) H { s with heap := h₁, toks := tk } := I1.wish _
  rw [startF_none nv] at I
  obtain ⟨t, pt, mt⟩ := hb
  have fin : ∀ {σ' : L2.St} {H' : Hp} {v : V} {u : Value} {s' : Shared}, L2.Inv (cxS P w K mg base N x qual st cc cda f A outer s H) [] σ' H' s' → RelV v u → Q v H' → CE outer P w H s Q u s' :=
    fun {σ' H' v u s'} J ru q => ⟨v, H', J.os, J.bare, J.base, J.hok, ru, q⟩
  have want : t { nx := fun _ H' => Q .non H', rt := Q } (L2.start N vs) H := by
    unfold runF at hm
    cases eb : body (es ++ List.replicate (N.length - es.length) .un) with
    | none => rw [eb] at hm; cases hm
    | some fl =>
      rw [eb] at hm
      refine mt _ Z _ H _ fl (start_rl R0 (by omega)) eb _ ?_
      cases fl with
      | rt d1 ρ1 =>
        cases hm
        exact fun v σ' H' Z' z R r => hQ v H' Z' z (fin_rl R0 hio' z R).1 r
      | rn o1 ρ1 =>
        cases hm
        exact fun a σ' H' Z' z R r => hQ _ H' Z' z (fin_rl R0 hio' z R).1 ⟨a, rfl, r.ob, r.z, r.fr, r.h0, fun i q => r.no i ((fin_rl R0 hio' z R).2 i a q)⟩
      | nx ρ1 =>
        cases hm
        exact fun σ' H' Z' z R => hQ .non H' Z' z (fin_rl R0 hio' z R).1 .non
      | bk ρ1 => cases hm
      | ct ρ1 => cases hm
  refine ks_codeAny_funcAt (ks_wpAt_mono (pt [] _ _ H _ I want) (fun fl s' hs => ?_) fun _ _ q => q.elim)
  match fl, hs with
  | .ret u, ⟨v, σ', H', J, ru, q⟩ => exact fin J ru q
  | .next, ⟨σ', H', J, q⟩ => exact fin (v := V.non) (u := Value.none) J rfl q
  | .brk, ⟨_, _, _, q⟩ => exact q.elim
  | .cont, ⟨_, _, _, q⟩ => exact q.elim
/-- THE RULE for a def that says super() -/
theorem fn_bodyS (S : SupF P K x qual slf st D cc cda f fd) (Sc : NScope N ps ["__class__"] (defScope st))
    (hb : ∀ (A : Around) (outer : List Env) (s : Shared) (H : Hp), Room k (cxS P w K mg base N x qual st cc cda f A outer s H).A → A.guards = some [] → SAt (cxS P w K mg base N x qual st cc cda f A outer s H) (defBody st) (defBody st) body) :
    FnG P w K mg base (k + 1) f fd ps (runF N.length body) := by
  refine ⟨fun A outer s H args us vs Q room hG e0 bnd rv hl hsp => ?_⟩
  obtain ⟨oc, od, dV, kV, doc, pm, an, ct, osl, rfl, lk⟩ := id S.ex
  have kin : K.In s.heap := e0.mod.kin.keeps fun b o q => (e0.bs b o q).1
  have nolim : s.heap.NoLimit := e0.mod.nolimit.keeps fun b o q => (e0.bs b o q).1
  refine codeAny_call_function room.depth (kin _ _ lk) rfl Sc.co Sc.gen rfl (PySem.W.codeRec_of kin S.cd) (bnd _ _ _ _ ?_)
  refine wpAny_newFunctionEnv Sc.nocell (fun ⟨n, _⟩ hy => Sc.par n (List.of_mem_zip hy).1) (fun h₁ hns hsb => ⟨nolim.fresh _ hsb, ?_⟩) Sc.kind
  have kp : ∀ b o, s.heap.get? b = some o → h₁.get? b = some o := fun b o e => hsb.extBut b o (Nat.ne_of_lt (Heap.lt_size e)) (Heap.get?_push_of_some _ e)
  exact body_S S Sc room e0 rv hl (hb A outer s H (room.deeper _) hG) hsp hns kp
end

section
variable {K : PySem.W.Frag} {Φ : Fx} {Z : Hp} {σ : L2.St} {H : Hp} {ρ : Nv}
theorem Rl.pad (R : Rl K Φ Z σ H ρ) : Rl K Φ Z (σ ++ [none]) H (ρ ++ [.un]) := by
  have get_ : ∀ (i : Nat) e, (ρ ++ [EV.un])[i]? = some e → e ≠ .un → ρ[i]? = some e ∧ (σ ++ [none])[i]? = σ[i]? := fun i e h hn => by
    by_cases hi : i < ρ.length
    · rw [List.getElem?_append_left hi] at h
      exact ⟨h, List.getElem?_append_left (R.len ▸ hi)⟩
    · rw [List.getElem?_append_right (by omega)] at h
      cases hk : i - ρ.length with
      | zero => rw [hk] at h; simp at h; exact absurd h.symm hn
      | succ k => rw [hk] at h; simp at h
  have at_ : ∀ i a, AtS (ρ ++ [.un]) (σ ++ [none]) i a → AtS ρ σ i a := by
    rintro i a ⟨⟨o, io, e⟩, s⟩
    obtain ⟨h1, h2⟩ := get_ i _ e (fun q => nomatch q)
    exact ⟨⟨o, io, h1⟩, h2 ▸ s⟩
  refine ⟨by simp [R.len], R.zH, R.zN, R.f0, R.fr, R.dom, fun i j a h1 h2 => R.inj i j a (at_ i a h1) (at_ j a h2), fun i a h => R.sep i a (at_ i a h), ?_, ?_, ?_, ?_, ?_, ?_⟩
  · intro i x e
    obtain ⟨h1, h2⟩ := get_ i _ e (fun q => nomatch q)
    rw [h2]; exact R.dat i x h1
  · intro i p e
    obtain ⟨h1, h2⟩ := get_ i _ e (fun q => nomatch q)
    rw [h2]; exact R.scr i p h1
  · intro i o io e
    obtain ⟨h1, h2⟩ := get_ i _ e (fun q => nomatch q)
    rw [h2]; exact R.own i o io h1
  · intro i o a e s
    obtain ⟨h1, h2⟩ := get_ i _ e (fun q => nomatch q)
    rw [h2] at s; exact R.loc i o a h1 s
  · intro i a e
    obtain ⟨s, o, h⟩ := R.ino i a e
    have hi : i < ρ.length := (List.getElem?_eq_some_iff.mp h).1
    exact ⟨by rw [List.getElem?_append_left (R.len ▸ hi)]; exact s, o, by rw [List.getElem?_append_left hi]; exact h⟩
  · intro i o e
    exact R.io i o (get_ i _ e (fun q => nomatch q)).1
theorem Rl.ext (R : Rl K Φ Z σ H ρ) {a : Addr} {o : OD} (ob : ObAt K Z H a o) (hz : Z a = none) (hf : Φ.Fr a = none) (h0 : Φ.H0 a = none) (hna : ∀ i, ¬ AtS ρ σ i a) : Rl K Φ Z (σ ++ [some (.ref a)]) H (ρ ++ [.own o false]) := by
  have R1 := R.pad
  have hna' : ∀ i, ¬ AtS (ρ ++ [.un]) (σ ++ [none]) i a := by
    rintro i ⟨⟨o, io, e⟩, s⟩
    by_cases hi : i < ρ.length
    · rw [List.getElem?_append_left hi] at e
      rw [List.getElem?_append_left (R.len ▸ hi)] at s
      exact hna i ⟨⟨o, io, e⟩, s⟩
    · rw [List.getElem?_append_right (by omega)] at e
      cases hk : i - ρ.length with
      | zero => rw [hk] at e; simp at e
      | succ k => rw [hk] at e; simp at e
  have := R1.hold (i := ρ.length) (by simp) (fun o' e => by simp at e) ob hz hf h0 hna'
  rw [List.set_append_right _ _ (Nat.le_refl _), Nat.sub_self, List.set_cons_zero] at this
  rw [List.set_append_right _ _ (by rw [R.len]; exact Nat.le_refl _), show ρ.length - σ.length = 0 by rw [R.len]; omega, List.set_cons_zero] at this
  exact this
theorem Rl.cut {x : Option V} {e : EV} (R : Rl K Φ Z (σ ++ [x]) H (ρ ++ [e])) (hl : ρ.length = σ.length) (hn : ∀ o, e ≠ .own o true) : Rl K Φ Z σ H ρ ∧ ∀ i a, AtS ρ σ i a → AtS (ρ ++ [e]) (σ ++ [x]) i a := by
  have up : ∀ (i : Nat) e', ρ[i]? = some e' → (ρ ++ [e])[i]? = some e' ∧ (σ ++ [x])[i]? = σ[i]? := fun i e' h => by
    have hi : i < ρ.length := (List.getElem?_eq_some_iff.mp h).1
    exact ⟨by rw [List.getElem?_append_left hi]; exact h, List.getElem?_append_left (hl ▸ hi)⟩
  have at_ : ∀ i a, AtS ρ σ i a → AtS (ρ ++ [e]) (σ ++ [x]) i a := by
    rintro i a ⟨⟨o, io, e'⟩, s⟩
    obtain ⟨h1, h2⟩ := up i _ e'
    exact ⟨⟨o, io, h1⟩, by rw [h2]; exact s⟩
  refine ⟨⟨hl, R.zH, R.zN, R.f0, R.fr, R.dom, fun i j a h1 h2 => R.inj i j a (at_ i a h1) (at_ j a h2), fun i a h => R.sep i a (at_ i a h), ?_, ?_, ?_, ?_, ?_, ?_⟩, at_⟩
  · intro i y e'
    obtain ⟨h1, h2⟩ := up i _ e'
    rw [← h2]; exact R.dat i y h1
  · intro i y e'
    obtain ⟨h1, h2⟩ := up i _ e'
    rw [← h2]; exact R.scr i y h1
  · intro i o io e'
    obtain ⟨h1, h2⟩ := up i _ e'
    rw [← h2]; exact R.own i o io h1
  · intro i o a e' s
    obtain ⟨h1, h2⟩ := up i _ e'
    rw [← h2] at s; exact R.loc i o a h1 s
  · intro i a e'
    obtain ⟨s, o, h⟩ := R.ino i a e'
    have hi : i < ρ.length := by
      rcases Nat.lt_or_ge i ρ.length with q | q
      · exact q
      · rw [List.getElem?_append_right q] at h
        cases hk : i - ρ.length with
        | zero => rw [hk] at h; simp at h; exact absurd h (hn o)
        | succ k => rw [hk] at h; simp at h
    rw [List.getElem?_append_left hi] at h
    rw [List.getElem?_append_left (hl ▸ hi)] at s
    exact ⟨s, o, h⟩
  · intro i o e'
    exact R.io i o (up i _ e').1
end
end DL
set_option maxRecDepth 100000
set_option maxHeartbeats 2000000
namespace DL
open PySem PySem.Spec PyProof.Rows L2 NdefX

/-- a default of the module stands for d -/
def KDef (K : PySem.W.Frag) (d : PyData) (u : Value) : Prop := ∃ v, RelV v u ∧ ∀ Z : Hp, Rp K Z v d
theorem pk_vals {K : PySem.W.Frag} {vs : List V} {us : List Value} (r : Vals vs us) : ∀ {s : Sel} {zs : List Value}, Pk (KDef K) us s zs → ∃ xs, Vals xs zs ∧ Pk (fun d v => ∀ Z : Hp, Rp K Z v d) vs s xs
  | _, _, .nil => ⟨[], .nil, .nil⟩
  | _, _, .at_ h t => by
    obtain ⟨xs, a, b⟩ := pk_vals r t
    obtain ⟨v, e, q⟩ := vals_get r h
    exact ⟨v :: xs, .cons q a, .at_ e b⟩
  | _, _, .co ⟨v, h1, h2⟩ t => by
    obtain ⟨xs, a, b⟩ := pk_vals r t
    exact ⟨v :: xs, .cons h1 a, .co h2 b⟩
def pickD : Sel → List PyData → Option (List PyData)
  | [], _ => some []
  | .inl i :: s, ds => (ds[i]?).bind fun d => (pickD s ds).map (d :: ·)
  | .inr d :: s, ds => (pickD s ds).map (d :: ·)
theorem rpa_pick {K : PySem.W.Frag} {Z : Hp} {vs : List V} {ds : List PyData} (r : RpA K Z vs ds) {s : Sel} {xs : List V} (hp : Pk (fun d v => ∀ Z : Hp, Rp K Z v d) vs s xs) : ∀ {ys : List PyData}, pickD s ds = some ys → RpA K Z xs ys := by
  induction hp with
  | nil => intro ys h; cases h; exact .nil
  | @at_ i z s zs e t ih =>
    intro ys h
    replace h : (ds[i]?).bind (fun d => (pickD s ds).map (d :: ·)) = some ys := h
    cases e1 : ds[i]? with
    | none => rw [e1] at h; cases h
    | some a =>
      rw [e1, Option.bind_some] at h
      cases e2 : pickD s ds with
      | none => rw [e2] at h; cases h
      | some bs =>
        rw [e2] at h
        cases h
        obtain ⟨v, hv, rv⟩ := r.get e1
        rw [e] at hv
        cases hv
        exact .cons rv (ih e2)
  | @co d z s zs e t ih =>
    intro ys h
    replace h : (pickD s ds).map (d :: ·) = some ys := h
    cases e2 : pickD s ds with
    | none => rw [e2] at h; cases h
    | some bs =>
      rw [e2] at h
      cases h
      exact .cons (e Z) (ih e2)
/-- the rest: a dict of the names ks2 -/
def fillM (ks2 : List Str) (zs : List Value) (pr : List (Str × Value)) (mo : Str) : Sem (List (Str × Value)) :=
  (alloc ({ cls := .type "dict", data := .dict #[] } : Obj) : Sem Addr) >>= fun d => forIn (ks2.zip zs) PUnit.unit (fun x _ => (nsSet d x.1 x.2 >>= fun _ => pure (ForInStep.yield PUnit.unit))) >>= fun _ => pure (pr ++ [(mo, Value.ref d)])
/-- how a call with the names ks binds: the parameters qs by s1, the rest (ks2 by s2) in a new dict -/
structure BndM (K : PySem.W.Frag) (fd : FuncData) (slf : Str) (qs : List Str) (mo : Str) (ks ks2 : List Str) (s1 s2 : Sel) : Prop where
  to : ∀ (sh : Shared) (ux : Value) (ws : List Value), K.In sh.heap → ws.length = ks.length → ∃ ys zs, ys.length = qs.length ∧ zs.length = ks2.length ∧ Pk (KDef K) ws s1 ys ∧ Pk (KDef K) ws s2 zs ∧
    ∀ (M : Model) (A : Around) (Q : List (Str × Value) → Shared → Prop) (E : Value → Shared → Prop), wpAny M A (fillM ks2 zs ((slf, ux) :: qs.zip ys) mo) Q E sh → wpAny M A (bindArgs fd ⟨[ux], ks.zip ws⟩) Q E sh
def initF (s1 s2 : Sel) (ks2 : List Str) (m : XF) : XF := fun es => (datEs (es.drop 1)).bind fun ds => (pickD s1 ds).bind fun ys => (pickD s2 ds).bind fun zs => if zs.length = ks2.length then
  (gCall m (fun ρ => some (.s 0 :: (ys.map .v ++ [.s es.length]), ρ)) (es ++ [.own (.od ((ks2.map Sum.inr).zip zs)) false])).bind fun w => match w.1, w.2[es.length]? with
    | .d x, some (.own _ false) => if w.2.length = es.length + 1 then some (.d x, w.2.take es.length) else none
    | _, _ => none else none
theorem gCall_sp {K : PySem.W.Frag} {Φ : Fx} {Z : Hp} {σ : L2.St} {H : Hp} {ρ : Nv} {vs : List V} {as : List AV} {m : XF} {w : Rv × Nv} {Q : VK} (R : Rl K Φ Z σ H ρ) (ra : AvA K Z σ vs as) (q : gCall m (fun ρ => some (as, ρ)) ρ = some w)
    (kk : ∀ v H' Z', Same Z Z' → Rl K Φ Z' σ H' w.2 → RvOk K Φ Z' σ H' w.2 v w.1 → Q v H') : spF K m vs H Q := by
  unfold gCall at q
  simp only [Option.bind_some] at q
  split at q
  · rename_i nd
    cases e2 : entN as ρ with
    | none => rw [e2] at q; cases q
    | some es =>
      rw [e2, Option.bind_some] at q
      cases e3 : m es with
      | none => rw [e3] at q; cases q
      | some u =>
        rw [e3, Option.bind_some] at q
        cases e4 : back as u.2 ρ with
        | none => rw [e4] at q; cases q
        | some ρ1 =>
          rw [e4] at q
          cases q
          exact sp_call R ra nd e2 e3 e4 kk
  · cases q
section
variable {P : Program} {w : World} {K : PySem.W.Frag} {mg : Str → Option Value} {base : Heap} {N qs : List Str} {x qual slf mo : Str} {st : Stmt} {D cc cda f : Addr} {fd : FuncData} {k : Nat} {body : XS} {ks ks2 : List Str} {s1 s2 : Sel}
theorem fnC_init (S : SupF P K x qual slf st D cc cda f fd) (Sc : NScope N (slf :: (qs ++ [mo])) ["__class__"] (defScope st)) (B : BndM K fd slf qs mo ks ks2 s1 s2) (nd : ks2.Nodup) (hz : ks2.length ≤ 100)
    (hb : ∀ (A : Around) (outer : List Env) (s : Shared) (H : Hp), Room k (cxS P w K mg base N x qual st cc cda f A outer s H).A → A.guards = some [] → SAt (cxS P w K mg base N x qual st cc cda f A outer s H) (defBody st) (defBody st) body) :
    FnC P w K mg base (k + 1) f 1 ks (initF s1 s2 ks2 (runF N.length body)) := by
  refine ⟨fun A outer s H us ws vs Q room hG e0 l1 l2 hv hsp => ?_⟩
  obtain ⟨oc, od, dV, kV, doc, pm, an, ct, osl, rfl, lk⟩ := id S.ex
  have kin : K.In s.heap := e0.mod.kin.keeps fun b o q => (e0.bs b o q).1
  have nolim : s.heap.NoLimit := e0.mod.nolimit.keeps fun b o q => (e0.bs b o q).1
  match us, l1, hv with
  | [ux], _, .cons (a := vx) (l₁ := vd) hx hd =>
  obtain ⟨ys, zs, ly, lz, p1, p2, hB⟩ := B.to s ux ws kin l2
  obtain ⟨xs1, rx1, q1⟩ := pk_vals hd p1
  obtain ⟨xs2, rx2, q2⟩ := pk_vals hd p2
  refine codeAny_call_function room.depth (kin _ _ lk) rfl Sc.co Sc.gen rfl (PySem.W.codeRec_of kin S.cd) (hB _ _ _ _ ?_)
  unfold fillM
  refine wpAny_bind (wpAny_alloc ?_)
  have hne : (ks2.zip zs).map (·.1) = ks2 := by rw [List.map_fst_zip (by omega)]
  have hn : H s.heap.objs.size = Option.none := e0.hok.fresh (Nat.le_refl _)
  refine wpAny_bind (ns_fill (ks2.zip zs) { s with heap := s.heap.push ({ cls := .type "dict", data := .dict #[] } : Obj) } [] (Heap.DictOf.new s.heap) (fun x _ => by simp) (by rw [hne]; exact nd) fun h' hd' sb => wpAny_pure ?_)
  have kp : ∀ b o, s.heap.get? b = some o → h'.get? b = some o := fun b o e => by
    rw [sb.2 b (Nat.ne_of_lt (Heap.lt_size e))]
    exact Heap.get?_push_of_some _ e
  have sz : s.heap.objs.size ≤ h'.objs.size := by
    have h1 := sb.1
    have h2 : (s.heap.push ({ cls := .type "dict", data := .dict #[] } : Obj)).objs.size = s.heap.objs.size + 1 := Heap.size_push ..
    simp only at h1
    omega
  have new : ObjOk P w (upd H s.heap.objs.size (.dK ((ks2.map Sum.inr).zip xs2))) h' s.heap.objs.size (.dK ((ks2.map Sum.inr).zip xs2)) := by
    refine ⟨?_, ?_, _, kv_zip rx2, by simpa using hd'⟩
    · rw [List.length_zip, List.length_map]
      have : sizeLine = 16777216 := rfl
      omega
    · have := StX.env0_big e0
      exact beq_eq_false_iff_ne.mpr (Nat.ne_of_gt this)
  have e2 := env0_laid2 (s := s) (tk := s.toks + (ks2.zip zs).length) e0 kp sz new
  have un : Un (frs outer) [] H (upd H s.heap.objs.size (.dK ((ks2.map Sum.inr).zip xs2))) s.heap h' := Un.laid kp (Nat.le_refl _) hn
  obtain ⟨Z, Fr, ino, es, d, ρ', hm, hio', R0, hQ⟩ := hsp
  -- the callee's promise
  have hlen : es.length = xs2.length + 0 ∨ True := .inr trivial
  have want : spF K (runF N.length body) (vx :: (xs1 ++ [.ref s.heap.objs.size])) (upd H s.heap.objs.size (.dK ((ks2.map Sum.inr).zip xs2))) Q := by
    unfold initF at hm
    cases h1 : datEs (es.drop 1) with
    | none => rw [h1] at hm; cases hm
    | some ds =>
      rw [h1, Option.bind_some] at hm
      cases h2 : pickD s1 ds with
      | none => rw [h2] at hm; cases hm
      | some dy =>
        rw [h2, Option.bind_some] at hm
        cases h3 : pickD s2 ds with
        | none => rw [h3] at hm; cases hm
        | some dz =>
          rw [h3, Option.bind_some] at hm
          split at hm
          · rename_i hdz
            have les : es.length = vd.length + 1 := by have := R0.len; simpa using this
            have rds : RpA K Z vd ds := by
              have e1 := datEs_map h1
              have aux : ∀ (l : List V) (dd : List PyData) (i : Nat), l.length = dd.length → (∀ (j : Nat) v, l[j]? = some v → ((vx :: vd).map some)[i + j]? = some (some v)) → (∀ (j : Nat) y, dd[j]? = some y → es[i + j]? = some (EV.d y)) → RpA K Z l dd := by
                intro l
                induction l with
                | nil => intro dd i hl _ _; cases dd with | nil => exact .nil | cons _ _ => cases hl
                | cons v l ih =>
                  intro dd i hl h1 h2
                  cases dd with
                  | nil => cases hl
                  | cons y dd =>
                    obtain ⟨v', s', r⟩ := R0.dat i y (by simpa using h2 0 y rfl)
                    have s0 : ((vx :: vd).map some)[i]? = some (some v) := by simpa using h1 0 v rfl
                    rw [s0] at s'
                    cases s'
                    refine .cons r (ih dd (i + 1) (by simpa using hl) (fun j v' h' => ?_) fun j y' h' => ?_)
                    · have := h1 (j + 1) v' (by simpa using h'); rwa [show i + (j + 1) = i + 1 + j by omega] at this
                    · have := h2 (j + 1) y' (by simpa using h'); rwa [show i + (j + 1) = i + 1 + j by omega] at this
              refine aux vd ds 1 ?_ (fun j v h => ?_) fun j y h => ?_
              · have := congrArg List.length e1
                rw [List.length_drop, List.length_map] at this
                omega
              · rw [Nat.add_comm]; simpa using h
              · have : (es.drop 1)[j]? = some (EV.d y) := by rw [e1, List.getElem?_map, h]; rfl
                rwa [List.getElem?_drop] at this
            have r1 := rpa_pick rds q1 h2
            have r2 := rpa_pick rds q2 h3
            have lz2 : xs2.length = ks2.length := by rw [rx2.length]; exact lz
            have keyz : ∀ {α : Type} {l : List α}, l.length = ks2.length → ((ks2.map (Sum.inr (α := Int))).zip l).map (·.1) = ks2.map Sum.inr ∧ ((ks2.map (Sum.inr (α := Int))).zip l).map (·.2) = l := fun {α l} h =>
              ⟨List.map_fst_zip (by rw [List.length_map]; omega), List.map_snd_zip (by rw [List.length_map]; omega)⟩
            have ob : ObAt K Z (upd H s.heap.objs.size (.dK ((ks2.map Sum.inr).zip xs2))) s.heap.objs.size (.od ((ks2.map Sum.inr).zip dz)) := by
              refine ⟨_, upd_same, ?_, ?_⟩
              · rw [(keyz lz2).1, (keyz hdz).1]
              · rw [(keyz lz2).2, (keyz hdz).2]; exact r2
            have Rp := (R0.laid hn).ext ob (R0.zH.free hn) (R0.fr.free hn) hn (fun i h => by
              obtain ⟨u, hu, _⟩ := R0.at_some h
              rw [hn] at hu
              cases hu)
            have ra : AvA K Z ((vx :: vd).map some ++ [some (.ref s.heap.objs.size)]) (vx :: (xs1 ++ [.ref s.heap.objs.size])) (.s 0 :: (dy.map .v ++ [.s es.length])) := by
              refine .s (by simp) ((ava_dats r1).append (.s ?_ .nil))
              rw [les, List.getElem?_append_right (by simp)]
              simp
            generalize eg : gCall (runF N.length body) (fun ρ => some (AV.s 0 :: (dy.map .v ++ [.s es.length]), ρ)) (es ++ [.own (.od ((ks2.map Sum.inr).zip dz)) false]) = og at hm
            cases og with
            | none => cases hm
            | some u =>
              rw [Option.bind_some] at hm
              split at hm
              · rename_i y o e1 e3
                split at hm
                · rename_i hul
                  cases hm
                  refine gCall_sp Rp ra eg fun v H' Z' z R' r => ?_
                  have eu : u.2 = u.2.take es.length ++ [.own o false] := by
                    have l0 : es.length < u.2.length := by omega
                    have := List.take_append_drop es.length u.2
                    rw [List.drop_eq_getElem_cons l0] at this
                    have h5 : u.2[es.length] = .own o false := by
                      rw [List.getElem?_eq_getElem l0] at e3
                      exact Option.some.inj e3
                    rw [h5, List.drop_eq_nil_of_le (by omega)] at this
                    exact this.symm
                  rw [eu] at R'
                  have C := R'.cut (by rw [List.length_take, hul]; simp; omega) (fun o' q => by cases q)
                  refine hQ v H' Z' z C.1 ?_
                  rw [e1] at r
                  exact r
                · cases hm
              · cases hm
          · cases hm
  refine wpAny_newFunctionEnv (s := { s with heap := h', toks := s.toks + (ks2.zip zs).length }) Sc.nocell (fun ⟨n, _⟩ hy => ?_) (fun h₁ hns hsb => ⟨(nolim.keeps kp).fresh _ hsb, ?_⟩) Sc.kind
  · refine Sc.par n ?_
    rcases List.mem_append.mp hy with q | q
    · rcases List.mem_cons.mp q with q | q
      · cases q; exact List.mem_cons_self
      · exact List.mem_cons_of_mem _ (List.mem_append_left _ (List.of_mem_zip q).1)
    · rw [List.mem_singleton] at q
      cases q
      exact List.mem_cons_of_mem _ (List.mem_append_right _ List.mem_cons_self)
  have kp2 : ∀ b o, h'.get? b = some o → h₁.get? b = some o := fun b o e => hsb.extBut b o (Nat.ne_of_lt (Heap.lt_size e)) (Heap.get?_push_of_some _ e)
  have ezip : ((slf, ux) :: qs.zip ys) ++ [(mo, Value.ref s.heap.objs.size)] = (slf :: (qs ++ [mo])).zip (ux :: (ys ++ [.ref s.heap.objs.size])) := by
    rw [List.zip_cons_cons, List.zip_append ly.symm]
    rfl
  have go := body_S (s := { s with heap := h', toks := s.toks + (ks2.zip zs).length }) (us := ux :: (ys ++ [.ref s.heap.objs.size])) (vs := vx :: (xs1 ++ [.ref s.heap.objs.size])) (Q := Q) S Sc room e2 (.cons hx (rx1.append (.cons (show L2.RelV (V.ref s.heap.objs.size) (Value.ref s.heap.objs.size) from rfl) .nil)))
    (by simp only [List.length_cons, List.length_append]; rw [rx1.length, ly]; rfl) (hb A outer _ _ (room.deeper _) hG) want (h₁ := h₁) (tk := s.toks + (ks2.zip zs).length + (((slf, ux) :: qs.zip ys) ++ [(mo, Value.ref s.heap.objs.size)]).length) (by rw [← ezip]; exact hns) kp2
  refine codeAny_mono go fun out s' hq => ?_
  match out, hq with
  | .ok (.ret u), ⟨v, H'', os, bare, un2, hok, ru, q⟩ => exact ⟨v, H'', os, bare, un.trans un2, hok, ru, q⟩
  | .error e, hq => exact hq.elim
  | .ok .next, hq => exact hq.elim
  | .ok .brk, hq => exact hq.elim
  | .ok .cont, hq => exact hq.elim
end
end DL
set_option maxRecDepth 100000
set_option maxHeartbeats 2000000
namespace DL
open PySem PySem.Spec PyProof.Rows L2 NdefX

theorem guards_make {A : Around} (h : A.guards = some []) (a : Args) : (A.under (.builtin "type.__call__" a)).guards = some [] := by
  have e : (Code.builtin "type.__call__" a).guards = [] := by
    have : (Code.builtin "type.__call__" a).isGuard = false := by
      first
        | rfl
        | decide +kernel
    unfold Code.guards
    rw [this]
    rfl
  show pushGuards (Code.builtin "type.__call__" a).guards A.guards = some []
  rw [e, h]
  rfl
/-- C(..): the new instance -/
def nMake (n : Str) (m : XF) (r : XA) : XN := fun ρ => (r ρ).bind fun p => (gCall m (fun ρ => some (.s p.2.length :: p.1, ρ)) (p.2 ++ [.own (.oi n []) false])).bind fun w => match w.1, w.2[p.2.length]? with
  | .d .none, some (.own o false) => if w.2.length = p.2.length + 1 then some (o, w.2.take p.2.length) else none
  | _, _ => none
section
variable {K : PySem.W.Frag} {Φ : Fx} {Z : Hp} {σ : L2.St} {H : Hp} {ρ ρ' : Nv}
theorem make_sp {n : Str} {C : Addr} {m : XF} {as : List AV} {zs : List V} {u : Rv × Nv} {o : OD} {x dx : Addr} {Q : VK} (c : IsC K n C) (R : Rl K Φ Z σ H ρ) (ra : AvA K Z σ zs as) (eg : gCall m (fun ρ => some (AV.s (List.length ρ - 1) :: as, ρ)) (ρ ++ [.own (.oi n []) false]) = some u)
    (e1 : u.1 = .d .none) (e3 : u.2[ρ.length]? = some (.own o false)) (hul : u.2.length = ρ.length + 1) (hx : H x = none) (hdx : H dx = none) (ne : dx ≠ x)
    (k : ∀ a H' Z', Same Z Z' → Rl K Φ Z' σ H' (u.2.take ρ.length) → New K Φ Z' σ H' (u.2.take ρ.length) a o → Q (.ref a) H') :
    spF K m (.ref x :: zs) (upd (upd H dx (.own x)) x (.ins C dx [])) (fun v H3 => v = .non ∧ Q (.ref x) H3) := by
  have hx1 : (upd H dx (.own x)) x = none := by rw [upd_ne (Ne.symm ne)]; exact hx
  have R1 := (R.laid (o := .own x) hdx).laid (o := .ins C dx []) hx1
  have ob : ObAt K Z (upd (upd H dx (.own x)) x (.ins C dx [])) x (.oi n []) := ⟨C, dx, [], c, upd_same, rfl, .nil⟩
  have Rp := R1.ext ob (R.zH.free hx) (R.fr.free hx) (R.dom x hx) (fun i h => by
    obtain ⟨u, hu, _⟩ := R.at_some h
    rw [hx] at hu
    cases hu)
  have es : (σ ++ [some (V.ref x)])[ρ.length]? = some (some (V.ref x)) := by rw [R.len, List.getElem?_append_right (Nat.le_refl _)]; simp
  have ups : ∀ {xs : List V} {bs : List AV}, AvA K Z σ xs bs → AvA K Z (σ ++ [some (V.ref x)]) xs bs := fun h => by
    induction h with
    | nil => exact .nil
    | v r _ ih => exact .v r ih
    | s r _ ih => exact .s (by rw [List.getElem?_append_left (List.getElem?_eq_some_iff.mp r).1]; exact r) ih
  have el : List.length (ρ ++ [EV.own (.oi n []) false]) - 1 = ρ.length := by simp
  have eg' : gCall m (fun ρ' => some (AV.s ρ.length :: as, ρ')) (ρ ++ [.own (.oi n []) false]) = some u := by
    unfold gCall at eg ⊢
    simp only [Option.bind_some] at eg ⊢
    rw [el] at eg
    exact eg
  refine gCall_sp Rp (.s es (ups ra)) eg' fun v H' Z' z R' r => ?_
  rw [e1] at r
  have l0 : ρ.length < u.2.length := by omega
  have eu : u.2 = u.2.take ρ.length ++ [.own o false] := by
    have := List.take_append_drop ρ.length u.2
    rw [List.drop_eq_getElem_cons l0] at this
    have h5 : u.2[ρ.length] = .own o false := by
      rw [List.getElem?_eq_getElem l0] at e3
      exact Option.some.inj e3
    rw [h5, List.drop_eq_nil_of_le (by omega)] at this
    exact this.symm
  have lt : (u.2.take ρ.length).length = ρ.length := by rw [List.length_take]; omega
  obtain ⟨a, sa, oba⟩ := R'.own ρ.length o false e3
  rw [es] at sa
  cases sa
  have ax : AtS u.2 (σ ++ [some (V.ref x)]) ρ.length x := ⟨⟨o, false, e3⟩, es⟩
  have lx := R'.loc ρ.length o x e3 es
  have sx := R'.sep ρ.length x ax
  have inj := R'.inj
  rw [eu] at R'
  have C2 := R'.cut (by rw [lt]; exact R.len) (fun o' q => by cases q)
  cases r
  refine ⟨rfl, k x H' Z' z C2.1 ⟨oba, sx.1, sx.2, lx, fun i hi => ?_⟩⟩
  have h1 := C2.2 i x hi
  rw [← eu] at h1
  have : i = ρ.length := inj i ρ.length x h1 ax
  obtain ⟨⟨o2, io2, e2⟩, _⟩ := hi
  have := (List.getElem?_eq_some_iff.mp e2).1
  omega
end
section
variable {X : Cx} {k : Nat} {C f : Addr} {n x : Str} {ks : List Str} {m : XF} {kws : List Keyword} {rk : XA} {p pos : Pos}
theorem run_makeC {pins : List (Addr × Obj)} {σ : L2.St} {H : Hp} {s : Shared} {Q : VK} {ws : List Value} {zs : List V} (M : Mk X.K C f) (F : FnC X.prog X.w X.K X.mg X.base k f 1 ks m) (hr : Room (k + 1) X.A) (hG : X.A.guards = some []) (I : Inv X pins σ H s) (rz : Vals zs ws) (l2 : zs.length = ks.length)
    (h : ∀ x dx, H x = none → H dx = none → dx ≠ x → spF X.K m (.ref x :: zs) (upd (upd H dx (.own x)) x (.ins C dx [])) (fun v H2 => v = .non ∧ Q (.ref x) H2)) : wpAny (model X.prog X.w) X.A (call (.ref C) [] (ks.zip ws)) (EP X pins σ Q) X.xe s := by
  have hq := h (s.heap.objs.size + 1) s.heap.objs.size (I.hok.fresh (Nat.le_succ _)) (I.hok.fresh (Nat.le_refl _)) (Nat.ne_of_lt (Nat.lt_succ_self _))
  have I2 := Inv.made (C := C) I
  refine wpAny_call (make_map (f := f) I.kIn M.makes M.init (beq_iff_eq.mp M.fn) (codeAny_mono (F.run _ X.stack _ _ [Value.ref (s.heap.objs.size + 1)] ws (V.ref (s.heap.objs.size + 1) :: zs) _ (hr.make C [] (ks.zip ws)) (guards_make hG _)
    (I2.env0.make C [] (ks.zip ws)) rfl (rz.length.symm.trans l2) (.cons rfl rz) hq) fun r s' hq' => ?_))
  match r, hq' with
  | .ok (.ret u), hq' =>
    obtain ⟨v, H', I3, rv, ev, q3⟩ := I2.after hq'
    subst ev
    exact ⟨rv, ⟨V.ref (s.heap.objs.size + 1), H', I3, rfl, q3⟩⟩
  | .error e, hq' => exact hq'.elim
  | .ok .next, hq' => exact hq'.elim
  | .ok .brk, hq' => exact hq'.elim
  | .ok .cont, hq' => exact hq'.elim
theorem mn_make {K : PySem.W.Frag} {tk : TA} (c : IsC K n C) (mk : MA K tk rk) (hn : ∀ ρ p, rk ρ = some p → p.1.length = ks.length) :
    MN K (fun σ H Q => tk σ H fun zs H1 => zs.length = ks.length ∧ ∀ x dx, H1 x = none → H1 dx = none → dx ≠ x → spF K m (.ref x :: zs) (upd (upd H1 dx (.own x)) x (.ins C dx [])) (fun v H3 => v = .non ∧ Q (.ref x) H3)) (nMake n m rk) := by
  intro Φ Z σ H ρ o ρ' R q Q kk
  unfold nMake at q
  cases e0 : rk ρ with
  | none => rw [e0] at q; cases q
  | some pr =>
    rw [e0, Option.bind_some] at q
    generalize eg : gCall m (fun ρ => some (AV.s pr.2.length :: pr.1, ρ)) (pr.2 ++ [.own (.oi n []) false]) = og at q
    cases og with
    | none => cases q
    | some u =>
      rw [Option.bind_some] at q
      split at q
      · rename_i o1 e1 e3
        split at q
        · rename_i hul
          cases q
          refine mk Φ Z σ H ρ pr.1 pr.2 R e0 _ fun zs H1 Z1 z1 R1 ra => ⟨by rw [ava_len ra]; exact hn _ _ e0, fun x dx hx hdx ne => ?_⟩
          refine make_sp c R1 ra ?_ e1 e3 hul hx hdx ne fun a H' Z' z R' N => kk a H' Z' (z1.trans z) R' N
          rw [← eg]
          unfold gCall
          simp only [Option.bind_some]
          have el : List.length (pr.2 ++ [EV.own (.oi n []) false]) - 1 = pr.2.length := by simp
          rw [el]
        · cases q
      · cases q
/-- C(k = v, ..), C() -/
theorem nd_make (c : IsC X.K n C) (M : Mk X.K C f) (F : FnC X.prog X.w X.K X.mg X.base k f 1 ks m) (hr : Room (k + 1) X.A) (hG : X.A.guards = some []) (hm : X.mg x = some (.ref C)) (ha : KD X kws rk) (hn : ∀ ρ p, rk ρ = some p → p.1.length = ks.length)
    (hg : Gl X x := by rfl) (hdb : (x == ("__debug__" : Str)) = false := by decide) (hall : (backToKw pos (keywordEach kws X.env)).all (·.1.isSome) = true := by rfl) (hks : (backToKw pos (keywordEach kws X.env)).filterMap (·.1) = ks := by rfl)
    (hpl : ((backTo pos (starEach [] X.env)).any (·.1) || (backToKw pos (keywordEach kws X.env)).any (·.1.isNone)) = false := by rfl) : ND X (.Call (.Name x p) [] kws pos) (nMake n m rk) := by
  obtain ⟨tk, pk, mk⟩ := ha
  refine ⟨_, ⟨fun pins s σ H Q I h => ?_⟩, mn_make (C := C) (ks := ks) c mk hn⟩
  refine wpAny_Call_Name_kw (ld_glob I hg hm ?_ hdb)
  refine PySem.W.callWith_KW0 (h₀ := X.base) I.ok.mod.kin M.kp hall ?_ hpl
  refine thn (pk.run pos pins s σ H _ I h) fun ws s2 ⟨zs, H2, I2, rz, l2, q2⟩ => ⟨I2.kIn, ?_⟩
  rw [hks]
  exact run_makeC M F hr hG I2 rz l2 q2
end
end DL
set_option maxRecDepth 100000
set_option maxHeartbeats 2000000
namespace DL
open PySem PySem.Spec PyProof.Rows L2 NdefX

def CDf (X : Cx) (e : Expr) (g : Nv → Option (Rv × Nv)) : Prop := ∃ t, PE X e t ∧ MC X.K t g
def xOf (g : Nv → Option (Rv × Nv)) : XE := fun ρ => (g ρ).bind fun p => match p.1 with
  | .d x => some (x, p.2)
  | .n _ => none
def nOf (g : Nv → Option (Rv × Nv)) : XN := fun ρ => (g ρ).bind fun p => match p.1 with
  | .n o => some (o, p.2)
  | .d _ => none
section
variable {X : Cx} {e : Expr} {g : Nv → Option (Rv × Nv)}
theorem CDf.ed (h : CDf X e g) : ED X e (xOf g) := by
  obtain ⟨t, p, mc⟩ := h
  refine ⟨t, p, fun Φ Z σ H ρ d ρ' R q Q k => ?_⟩
  unfold xOf at q
  cases e1 : g ρ with
  | none => rw [e1] at q; cases q
  | some w =>
    obtain ⟨x, ρ1⟩ := w
    rw [e1, Option.bind_some] at q
    cases x with
    | n o => cases q
    | d x => cases q; exact mc Φ Z σ H ρ _ _ R e1 Q k
theorem CDf.nd (h : CDf X e g) : ND X e (nOf g) := by
  obtain ⟨t, p, mc⟩ := h
  refine ⟨t, p, fun Φ Z σ H ρ d ρ' R q Q k => ?_⟩
  unfold nOf at q
  cases e1 : g ρ with
  | none => rw [e1] at q; cases q
  | some w =>
    obtain ⟨x, ρ1⟩ := w
    rw [e1, Option.bind_some] at q
    cases x with
    | d x => cases q
    | n o => cases q; exact mc Φ Z σ H ρ _ _ R e1 Q fun v H' Z' z R' ⟨a, ev, w⟩ => ev ▸ k a H' Z' z R' w
end

/-- what a receiver is: the argument, its class, the environment -/
abbrev XRc := Nv → Option (AV × Str × Nv)
def MRv (K : PySem.W.Frag) (mn : Str) (te : TE) (fr : XRc) : Prop := ∀ (Φ : Fx) (Z : Hp) (σ : L2.St) (H : Hp) (ρ : Nv) (av : AV) (n : Str) (ρ' : Nv), Rl K Φ Z σ H ρ → fr ρ = some (av, n, ρ') →
  ∀ Q : VK, (∀ a C dx (vs : List (Str × V)) H' Z', Same Z Z' → Rl K Φ Z' σ H' ρ' → IsC K n C → H' a = some (.ins C dx vs) → vs.lookup mn = none →
    (∀ (Z2 : Hp) (ys : List V) (as : List AV), Same Z' Z2 → AvA K Z2 σ ys as → AvA K Z2 σ (.ref a :: ys) (av :: as)) → Q (.ref a) H') → te σ H Q
def RcD (X : Cx) (o : Expr) (mn : Str) (fr : XRc) : Prop := ∃ te, PE X o te ∧ MRv X.K mn te fr
/-- the object in slot i: one's own, or a datum -/
def rvS (mn : Str) (i : Nat) : XRc := fun ρ => match ρ[i]? with
  | some (.own (.oi n fs) _) => if lookF mn (fs.map fun p => (.str p.1, p.2)) = none then some (.s i, n, ρ) else none
  | some (.d (.dict ((.none, .str n) :: r))) => if lookF mn r = none then some (.v (.dict ((.none, .str n) :: r)), n, ρ) else none
  | _ => none
section
variable {X : Cx} {e : Expr} {f : XE} {mn : Str} {pos : Pos}
theorem rd_S (i : Nat) {x : Str} (hN : X.N[i]? = some x := by rfl) (hv : Vis X.env.scope x := by first | exact Or.inl rfl | exact Or.inr (Or.inl rfl) | exact Or.inr (Or.inr rfl)) (hd : (x == ("__debug__" : Str)) = false := by decide)
    (hcd : (x == ("__classdict__" : Str)) = false := by decide) : RcD X (.Name x pos) mn (rvS mn i) := by
  refine ⟨tVar i, pe_var hN hv hd hcd, fun Φ Z σ H ρ av n ρ' R q Q k => ?_⟩
  unfold rvS at q
  split at q
  · rename_i n' fs io e1
    split at q
    · rename_i hl
      cases q
      obtain ⟨a, s, C, dx, vs, c, h1, hk, hr⟩ := R.own i _ _ e1
      exact ⟨_, s, k a C dx vs H Z (Same.refl Z) R c h1 (lookF_none hk hl) fun Z2 ys as z2 ra => .s s ra⟩
    · cases q
  · rename_i n' r e1
    split at q
    · rename_i hl
      cases q
      obtain ⟨v, s, r1⟩ := R.dat i _ e1
      have r2 := r1
      obtain ⟨a, C, dx, vs, fs, rfl, c, h1, hk, hr, rfl⟩ := r1.ins_inv
      exact ⟨_, s, k a C dx vs H Z (Same.refl Z) R c (R.zH _ _ h1) (lookF_none hk hl) fun Z2 ys as z2 ra => .v (r2.mono z2) ra⟩
    · cases q
  · cases q
end

/-- the classes whose method mn is known: what it does -/
abbrev MTab := List (Str × XF)
def MTabOk (X : Cx) (mn : Str) (k np : Nat) (ks : List Str) (tab : MTab) : Prop := ∀ n m, tab.lookup n = some m → ∃ C g, IsC X.K n C ∧ Meth X.K C mn g ∧ FnC X.prog X.w X.K X.mg X.base k g (np + 1) ks m
def gMeth (tab : MTab) (fr : XRc) (r : XA) : Nv → Option (Rv × Nv) := fun ρ => (fr ρ).bind fun p => (tab.lookup p.2.1).bind fun m => (r p.2.2).bind fun q => gCall m (fun ρ => some (p.1 :: q.1, ρ)) q.2
def tMethC (X : Cx) (mn : Str) (k np : Nat) (ks : List Str) (te : TE) (t tk : TA) : TE := fun σ H Q => te σ H fun x H1 => ∃ a C dx vs g m, x = .ref a ∧ H1 a = some (.ins C dx vs) ∧ Cls X.K C ∧ Meth X.K C mn g ∧ vs.lookup mn = none ∧ FnC X.prog X.w X.K X.mg X.base k g (np + 1) ks m ∧
  t σ H1 fun us H2 => tk σ H2 fun ws H3 => us.length = np ∧ ws.length = ks.length ∧ spF X.K m (.ref a :: (us ++ ws)) H3 Q
section
variable {X : Cx} {o e : Expr} {es : List Expr} {mn : Str} {k np : Nat} {ks : List Str} {tab : MTab} {fr : XRc} {r rk : XA} {pos apos : Pos} {kws : List Keyword} {pl : Sem Bool}
/-- one function behind the other -/
def aBoth (r rk : XA) : XA := fun ρ => (r ρ).bind fun p => (rk p.2).map fun q => (p.1 ++ q.1, q.2)
theorem mc_meth {te : TE} {t tk : TA} (T : MTabOk X mn k np ks tab) (mr : MRv X.K mn te fr) (ma : MA X.K t r) (mk : MA X.K tk rk) (hn : ∀ ρ p, r ρ = some p → p.1.length = np) (hk : ∀ ρ p, rk ρ = some p → p.1.length = ks.length) :
    MC X.K (tMethC X mn k np ks te t tk) (gMeth tab fr (aBoth r rk)) := by
  intro Φ Z σ H ρ d ρ' R q Q kk
  unfold gMeth at q
  cases e1 : fr ρ with
  | none => rw [e1] at q; cases q
  | some p =>
    rw [e1, Option.bind_some] at q
    cases e2 : tab.lookup p.2.1 with
    | none => rw [e2] at q; cases q
    | some m =>
      rw [e2, Option.bind_some] at q
      unfold aBoth at q
      cases e3 : r p.2.2 with
      | none => rw [e3] at q; cases q
      | some u =>
        rw [e3, Option.bind_some] at q
        cases e4 : rk u.2 with
        | none => rw [e4] at q; cases q
        | some w =>
          rw [e4, Option.map_some, Option.bind_some] at q
          obtain ⟨C, g, c, hm, F⟩ := T _ _ e2
          refine mr Φ Z σ H ρ p.1 p.2.1 p.2.2 R e1 _ fun a C' dx vs H1 Z1 z1 R1 c' h1 hl hav => ?_
          obtain rfl := c.eq c'
          refine ⟨a, _, dx, vs, g, m, rfl, h1, c.cls, hm, hl, F, ?_⟩
          refine ma Φ Z1 σ H1 p.2.2 u.1 u.2 R1 e3 _ fun us H2 Z2 z2 R2 ra => ?_
          refine mk Φ Z2 σ H2 u.2 w.1 w.2 R2 e4 _ fun ws H3 Z3 z3 R3 rb => ⟨by rw [ava_len ra]; exact hn _ _ e3, by rw [ava_len rb]; exact hk _ _ e4, ?_⟩
          exact gCall_sp (w := (d, ρ')) R3 (hav Z3 _ _ (z2.trans z3) ((ra.mono z3).append rb)) q fun v H' Z' z R' r' => kk v H' Z' (((z1.trans z2).trans z3).trans z) R' r'
/-- the callee runs -/
theorem run_C {pins : List (Addr × Obj)} {σ : L2.St} {H : Hp} {s : Shared} {Q : VK} {f : Addr} {m : XF} {n : Nat} {us ws : List Value} {vs zs : List V} (F : FnC X.prog X.w X.K X.mg X.base k f n ks m) (hr : Room k X.A) (hG : X.A.guards = some [])
    (I : L2.Inv X pins σ H s) (rv : Vals vs us) (rz : Vals zs ws) (hl : vs.length = n) (hz : zs.length = ks.length) (h : spF X.K m (vs ++ zs) H Q) : wpAny (model X.prog X.w) X.A (call (.ref f) us (ks.zip ws)) (EP X pins σ Q) X.xe s := by
  refine wpAny_call (codeAny_mono (F.run X.A X.stack s H us ws (vs ++ zs) Q hr hG I.env0 (rv.length.symm.trans hl) (rz.length.symm.trans hz) (rv.append rz) h) fun out s' hq => ?_)
  match out, hq with
  | .ok (.ret u), hq => exact I.after hq
  | .error e, hq => exact hq.elim
  | .ok .next, hq => exact hq.elim
  | .ok .brk, hq => exact hq.elim
  | .ok .cont, hq => exact hq.elim
theorem ma_nil {K : PySem.W.Frag} : MA K tNil aNil := fun Φ Z σ H ρ as ρ' R q Q k => by cases q; exact k [] H Z (Same.refl Z) R .nil
/-- o.m() -/
theorem cd_meth0 (T : MTabOk X mn k 0 [] tab) (ho : RcD X o mn fr) (hr : Room k X.A) (hG : X.A.guards = some [])
    (ht : eval (.Call (.Attribute o mn apos) [] [] pos) X.env = (do
      let ov ← eval o X.env
      standAt apos.atName
      let (f, first) ← holding [ov] (getMethod ov mn pl)
      callWith pos f first (backTo pos (starEach [] X.env)) (backToKw pos (keywordEach [] X.env))) := by rfl) : CDf X (.Call (.Attribute o mn apos) [] [] pos) (gMeth tab fr (aBoth aNil aNil)) := by
  obtain ⟨te, pe, mr⟩ := ho
  refine ⟨_, ⟨fun pins s σ H Q I h => ?_⟩, mc_meth T mr ma_nil ma_nil (fun ρ p e => by cases e; rfl) (fun ρ p e => by cases e; rfl)⟩
  refine PySem.W.methodCall_KW (pl := pl) (thn (pe.run pins s σ H _ I h) fun u s1 ⟨x, H1, I1, rx, a, C, dx, vs, g, m, ex, h1, c, hm, hl, F, _, _, q⟩ => ?_) ht
  subst ex
  obtain rfl : u = Value.ref a := rx
  refine getmeth_ok I1 h1 c hm hl ?_
  exact PySem.W.callWith_K0 (first := [.ref a]) I1.kIn hm.kp (run_C (us := [.ref a]) (ws := []) (vs := [.ref a]) (zs := []) F hr hG I1 (.cons rfl .nil) .nil rfl rfl q)
/-- o.m(e, ..) -/
theorem cd_methP (T : MTabOk X mn k np [] tab) (ho : RcD X o mn fr) (hr : Room k X.A) (hG : X.A.guards = some []) (ha : AD X (e :: es) r) (hn : ∀ ρ p, r ρ = some p → p.1.length = np)
    (hst : starEach (e :: es) X.env = (false, eval e X.env) :: starEach es X.env := by rfl) (hpl : (backTo pos (starEach es X.env)).any (·.1) = false := by rfl)
    (ht : eval (.Call (.Attribute o mn apos) (e :: es) [] pos) X.env = (do
      let ov ← eval o X.env
      standAt apos.atName
      let (f, first) ← holding [ov] (getMethod ov mn pl)
      callWith pos f first (backTo pos (starEach (e :: es) X.env)) (backToKw pos (keywordEach [] X.env))) := by rfl) : CDf X (.Call (.Attribute o mn apos) (e :: es) [] pos) (gMeth tab fr (aBoth r aNil)) := by
  obtain ⟨te, pe, mr⟩ := ho
  obtain ⟨t, pa, ma⟩ := ha
  refine ⟨_, ⟨fun pins s σ H Q I h => ?_⟩, mc_meth T mr ma ma_nil hn (fun ρ p e => by cases e; rfl)⟩
  refine PySem.W.methodCall_KW (pl := pl) (thn (pe.run pins s σ H _ I h) fun u s1 ⟨x, H1, I1, rx, a, C, dx, vs, g, m, ex, h1, c, hm, hl, F, q⟩ => ?_) ht
  subst ex
  obtain rfl : u = Value.ref a := rx
  refine getmeth_ok I1 h1 c hm hl ?_
  refine PySem.W.callWith_K (first := [.ref a]) (h₀ := X.base) I.ok.mod.kin hm.kp (thn (pa.run pos pins s1 σ H1 _ I1 q) fun us s2 ⟨ys, H2, I2, rr, l1, _, q2⟩ => ⟨I2.kIn, ?_⟩) hst hpl
  rw [List.append_nil] at q2
  exact run_C (us := .ref a :: us) (ws := []) (vs := .ref a :: ys) (zs := []) F hr hG I2 (.cons rfl rr) .nil (congrArg (· + 1) l1) rfl (by rw [List.append_nil]; exact q2)
/-- o.m(k = v, ..) -/
theorem cd_methK (T : MTabOk X mn k 0 ks tab) (ho : RcD X o mn fr) (hr : Room k X.A) (hG : X.A.guards = some []) (ha : KD X kws rk) (hn : ∀ ρ p, rk ρ = some p → p.1.length = ks.length)
    (hall : (backToKw pos (keywordEach kws X.env)).all (·.1.isSome) = true := by rfl) (hks : (backToKw pos (keywordEach kws X.env)).filterMap (·.1) = ks := by rfl)
    (hpl : ((backTo pos (starEach [] X.env)).any (·.1) || (backToKw pos (keywordEach kws X.env)).any (·.1.isNone)) = false := by rfl)
    (ht : eval (.Call (.Attribute o mn apos) [] kws pos) X.env = (do
      let ov ← eval o X.env
      standAt apos.atName
      let (f, first) ← holding [ov] (getMethod ov mn pl)
      callWith pos f first (backTo pos (starEach [] X.env)) (backToKw pos (keywordEach kws X.env))) := by rfl) : CDf X (.Call (.Attribute o mn apos) [] kws pos) (gMeth tab fr (aBoth aNil rk)) := by
  obtain ⟨te, pe, mr⟩ := ho
  obtain ⟨tk, pk, mk⟩ := ha
  refine ⟨_, ⟨fun pins s σ H Q I h => ?_⟩, mc_meth T mr ma_nil mk (fun ρ p e => by cases e; rfl) hn⟩
  refine PySem.W.methodCall_KW (pl := pl) (thn (pe.run pins s σ H _ I h) fun u s1 ⟨x, H1, I1, rx, a, C, dx, vs, g, m, ex, h1, c, hm, hl, F, q⟩ => ?_) ht
  subst ex
  obtain rfl : u = Value.ref a := rx
  refine getmeth_ok I1 h1 c hm hl ?_
  refine PySem.W.callWith_KW0 (first := [.ref a]) (h₀ := X.base) I.ok.mod.kin hm.kp hall ?_ hpl
  refine thn (pk.run pos pins s1 σ H1 _ I1 q) fun ws s2 ⟨zs, H2, I2, rz, _, l2, q2⟩ => ⟨I2.kIn, ?_⟩
  rw [hks]
  exact run_C (us := [.ref a]) (vs := [.ref a]) F hr hG I2 (.cons rfl .nil) rz rfl l2 q2
end
end DL
set_option maxRecDepth 100000
set_option maxHeartbeats 2000000
namespace DL
open PySem PySem.Spec PyProof.Rows L2 NdefX

theorem slot_ne : Slot "object" "__ne__" "object.__ne__" := .of (owner := "object") (n := "__ne__") (by rw [typeLookup_type, builtinLookup_eq_fast]; kernel_rfl) (by decide +kernel) (by decide +kernel) (by decide +kernel)
  (by first | exact .inl (by decide +kernel) | exact .inr (by decide +kernel)) (by rw [isSubtype_type]; kernel_rfl)
section
open PySem.W
variable {prog : Program} {w : World} {A : Around} {E : Value → Shared → Prop} {s : Shared} {K : Frag} {x C f : Addr} {ox : Obj} {od : Option Obj} {b : Value} {P : Bool → Shared → Prop}
theorem try_eq (X : K.In s.heap) (I : InstAt s.heap x ox C od) (hs : findIn K (.ref C) "__eq__" = some (some (.ref f))) (hf : isFn K (.ref f) = true) (h : wpAny (model prog w) A (call (.ref f) [.ref x, b]) (fun v s' => ∃ c, v = .bool c ∧ P c s') E s) :
    wpAny (model prog w) A (tryCompare (.ref x) "__eq__" b) (fun r s' => ∃ c, r = some (.bool c) ∧ P c s') E s := by
  unfold tryCompare
  refine wpAny_bind (ifBound_K X I hs hf (wpAny_mono h (fun v s' hv => ?_) fun _ _ e => e))
  obtain ⟨c, rfl, q⟩ := hv
  exact wpAny_pure ⟨c, rfl, q⟩
theorem ifBoundB {M : Model} {name : Str} {id : String} {args : List Value} {Q : Option Value → Shared → Prop} (X : K.In s.heap) (I : InstAt s.heap x ox C od) (hs : findIn K (.ref C) name = some (some (.builtin id))) (hb : ∀ v, bindSpecial (.builtin id) v = pure (.builtin id, [v]))
    (h : wpAny M A (call (.builtin id) (.ref x :: args)) (fun v => Q (some v)) E s) : wpAny M A (callSpecialIfBound? (.ref x) name args) Q E s := by
  simp only [callSpecialIfBound?, bindSpecialIfBound?]
  refine wpAny_holding (wpAny_bind (wpAny_bind (wpAny_bind (I.type.here ((looks_findIn X hs).here ?_)))))
  refine wpAny_bind (wpAny_askSetting (wpAny_ite ?_))
  have fin : wpAny M A (call (.builtin id) ([.ref x] ++ args) >>= fun v => pure (some v)) Q E s := wpAny_bind (wpAny_mono h (fun v s' h' => wpAny_pure h') fun _ _ h' => h')
  split
  · exact wpAny_bind (wpAny_of_eq (hb _) (wpAny_pure (by exact fin)))
  · exact wpAny_tryCatch (wpAny_bind (wpAny_of_eq (hb _) (wpAny_pure (by exact fin))))
theorem try_ne (X : K.In s.heap) (I : InstAt s.heap x ox C od) (hs : findIn K (.ref C) "__eq__" = some (some (.ref f))) (hf : isFn K (.ref f) = true) (hn : findIn K (.ref C) "__ne__" = some (some (.builtin "object.__ne__"))) (hm : mroIn K C (.type "object") = some true) (hu : A.in1.units < cLine)
    (h : wpAny (model prog w) A.in1 (call (.ref f) [.ref x, b]) (fun v s' => ∃ c, v = .bool c ∧ P c s') E s) :
    wpAny (model prog w) A (tryCompare (.ref x) "__ne__" b) (fun r s' => ∃ c, r = some (.bool (!c)) ∧ P c s') E s := by
  unfold tryCompare
  refine wpAny_bind (ifBoundB X I hn slot_ne.bind ?_)
  have sub : Looks (model prog w) s.heap (isInstance (.ref x) (.type "object")) true := I.type.andThen (looks_mroIn X hm)
  refine wpAny_call (codeAny_call_builtin slot_ne.plain F.cmpEntry_ne (@check_slot (model prog w) _ _ s "object.__ne__" "object" "__ne__" (.ref x) [b] [] _ F.cmpKind_ne F.cmpSplit_ne sub (F.cmpArgs_ne _ _) ?_))
  unfold Builtin.«object.__ne__»
  refine wpAny_bind (wpAny_of_eq (a := (.ref x, [b])) rfl ?_)
  refine wpAny_bind (wpAny_cRoomFor hu ?_)
  refine wpAny_bind (ifBound_K X I hs hf (wpAny_mono h (fun v s' hv => ?_) fun _ _ e => e))
  obtain ⟨c, rfl, q⟩ := hv
  refine wpAny_bind (m := truthy (.bool c)) (wpAny_truthy_bool ?_)
  exact wpAny_pure (wpAny_pure ⟨c, rfl, q⟩)
/-- the left operand is asked first -/
theorem rich_left {op : CmpOp} {tb : Value} {Q : Value → Shared → Prop} (hop : op = .Eq ∨ op = .NotEq) (hu : A.units < cLine) (I : InstAt s.heap x ox C od) (X : K.In s.heap) (hb : Looks (model prog w) s.heap (typeOf b) tb) (hn : notFirst K C tb = true)
    (one : wpAny (model prog w) A (tryCompare (.ref x) (cmpInfo op).2.1 b) (fun r s' => ∃ v, r = some v ∧ Q v s') E s) : wpAny (model prog w) A (richCompare op (.ref x) b) Q E s := by
  unfold richCompare
  simp only [oneThing_ref]
  refine wpAny_holding (wpAny_bind (wpAny_cRoomFor hu ?_))
  refine wpAny_bind (I.type.here (wpAny_bind (hb.here ?_)))
  split
  · rename_i q
    have e : subIn K tb (.ref C) = some false := by
      rcases Bool.or_eq_true_iff.mp hn with e | e
      · rw [beq_iff_eq.mp e] at q; simp at q
      · exact beq_iff_eq.mp e
    refine wpAny_bind ((looks_subIn X e).here ?_)
    simp only [Bool.false_eq_true, if_false]
    refine wpAny_bind (wpAny_mono one (fun r s' z => ?_) fun _ _ e => e)
    obtain ⟨v, rfl, hq⟩ := z
    exact wpAny_pure hq
  · refine wpAny_bind (wpAny_pure ?_)
    simp only [Bool.false_eq_true, if_false]
    refine wpAny_bind (wpAny_mono one (fun r s' z => ?_) fun _ _ e => e)
    obtain ⟨v, rfl, hq⟩ := z
    exact wpAny_pure hq
/-- the right operand, of a class below, is asked first -/
theorem rich_right {op : CmpOp} {y D : Addr} {oy : Obj} {od2 : Option Obj} {Q : Value → Shared → Prop} (hop : op = .Eq ∨ op = .NotEq) (hu : A.units < cLine) (I : InstAt s.heap x ox C od) (J : InstAt s.heap y oy D od2) (X : K.In s.heap) (hne : D ≠ C) (hn : subIn K (.ref D) (.ref C) = some true)
    (one : wpAny (model prog w) A (tryCompare (.ref y) (cmpInfo op).2.2 (.ref x)) (fun r s' => ∃ v, r = some v ∧ Q v s') E s) : wpAny (model prog w) A (richCompare op (.ref x) (.ref y)) Q E s := by
  unfold richCompare
  simp only [oneThing_ref]
  refine wpAny_holding (wpAny_bind (wpAny_cRoomFor hu ?_))
  refine wpAny_bind (I.type.here (wpAny_bind (J.type.here ?_)))
  rw [if_pos (by simp [Ne.symm hne])]
  refine wpAny_bind ((looks_subIn X hn).here ?_)
  simp only [if_true]
  refine wpAny_bind (wpAny_mono one (fun r s' z => ?_) fun _ _ e => e)
  obtain ⟨v, rfl, hq⟩ := z
  refine wpAny_bind (wpAny_rule ?_)
  exact wpAny_pure hq
end
end DL
set_option maxRecDepth 100000
set_option maxHeartbeats 2000000
namespace DL
open PySem PySem.Spec PyProof.Rows L2 NdefX

theorem wp_C {X : Cx} {pins : List (Addr × Obj)} {σ : L2.St} {H : Hp} {s : Shared} {Q : VK} {A : Around} {f : Addr} {us : List Value} {kw : List (Str × Value)} (I : Inv X pins σ H s) {R : Value → Shared → Prop} {E : Value → Shared → Prop}
    (h : codeAny (model X.prog X.w) A (.call (.ref f) ⟨us, kw⟩) (CR CX0 X.stack X.prog X.w H s Q E0) s) (hR : ∀ u s', EP X pins σ Q u s' → R u s') : wpAny (model X.prog X.w) A (call (.ref f) us kw) R E s := by
  refine wpAny_call (codeAny_mono h fun out s' hq => ?_)
  match out, hq with
  | .ok (.ret u), hq => exact hR u s' (I.after hq)
  | .error e, hq => exact hq.elim
  | .ok .next, hq => exact hq.elim
  | .ok .brk, hq => exact hq.elim
  | .ok .cont, hq => exact hq.elim

/-- the class at C has an own __eq__ at g and no own __ne__ -/
structure EqAt (K : PySem.W.Frag) (C g : Addr) : Prop where
  eq : PySem.W.findIn K (.ref C) "__eq__" = some (some (.ref g))
  fn : PySem.W.isFn K (.ref g) = true
  ne : PySem.W.findIn K (.ref C) "__ne__" = some (some (.builtin "object.__ne__"))
def EqTabOk (X : Cx) (k : Nat) (tab : MTab) : Prop := ∀ n m, tab.lookup n = some m → ∃ C g, IsC X.K n C ∧ EqAt X.K C g ∧ FnC X.prog X.w X.K X.mg X.base k g 2 [] m
/-- which class stands below which -/
abbrev STab := List ((Str × Str) × Bool)
def STabOk (X : Cx) (sub : STab) : Prop := ∀ n1 n2 b, sub.lookup (n1, n2) = some b → ∃ C1 C2, IsC X.K n1 C1 ∧ IsC X.K n2 C2 ∧ C1 ≠ C2 ∧ PySem.W.subIn X.K (.ref C1) (.ref C2) = some b
/-- which operand is asked, which is handed over -/
def ordO (sub : STab) : PyData → PyData → Option (Str × PyData × PyData)
  | .dict ((.none, .str n1) :: r1), .dict ((.none, .str n2) :: r2) => if n2 = n1 then some (n1, .dict ((.none, .str n1) :: r1), .dict ((.none, .str n2) :: r2)) else match sub.lookup (n2, n1) with
    | some true => some (n2, .dict ((.none, .str n2) :: r2), .dict ((.none, .str n1) :: r1))
    | some false => some (n1, .dict ((.none, .str n1) :: r1), .dict ((.none, .str n2) :: r2))
    | none => none
  | .dict ((.none, .str n1) :: r1), d => if isI d = true then none else some (n1, .dict ((.none, .str n1) :: r1), d)
  | _, _ => none
def eqM (tab : MTab) (sub : STab) (ne : Bool) (d1 d2 : PyData) : XE := fun ρ => (ordO sub d1 d2).bind fun o => (tab.lookup o.1).bind fun m => (gCall m (fun ρ => some ([.v o.2.1, .v o.2.2], ρ)) ρ).bind fun w => match w.1 with
  | .d (.bool c) => some (.bool (c != ne), w.2)
  | _ => none
def xEqO (tab : MTab) (sub : STab) (ne : Bool) (fa fb : XE) : XE := fun ρ => (fa ρ).bind fun p => (fb p.2).bind fun q => eqM tab sub ne p.1 q.1 q.2
def rEqO (X : Cx) (k : Nat) (ne : Bool) : R2 := fun x y H Q =>
  (∃ a C dx vs g m t, x = .ref a ∧ H a = some (.ins C dx vs) ∧ Cls X.K C ∧ PySem.W.mroIn X.K C (.type "object") = some true ∧ EqAt X.K C g ∧ FnC X.prog X.w X.K X.mg X.base k g 2 [] m ∧ TyX X.K H y t ∧ PySem.W.notFirst X.K C t = true ∧ spF X.K m [.ref a, y] H (fun v H' => ∃ c, v = .bl c ∧ Q (.bl (c != ne)) H')) ∨
  (∃ a b C D dx dy vs ws g m, x = .ref a ∧ y = .ref b ∧ H a = some (.ins C dx vs) ∧ H b = some (.ins D dy ws) ∧ Cls X.K C ∧ Cls X.K D ∧ PySem.W.mroIn X.K D (.type "object") = some true ∧ D ≠ C ∧ PySem.W.subIn X.K (.ref D) (.ref C) = some true ∧ EqAt X.K D g ∧ FnC X.prog X.w X.K X.mg X.base k g 2 [] m ∧
    spF X.K m [.ref b, .ref a] H (fun v H' => ∃ c, v = .bl c ∧ Q (.bl (c != ne)) H'))
section
variable {X : Cx} {k : Nat} {tab : MTab} {sub : STab} {a b : Expr} {fa fb : XE} {pos : Pos}
theorem try_own {pins : List (Addr × Obj)} {σ : L2.St} {H : Hp} {s : Shared} {Q : VK} {ne : Bool} {x C dx g : Addr} {vs : List (Str × V)} {m : XF} {y : V} {u : Value} (hr : Room (k + 1) X.A) (hG : X.A.guards = some []) (I : Inv X pins σ H s) (ry : RelV y u) (hi : H x = some (.ins C dx vs)) (c : Cls X.K C)
    (hm : PySem.W.mroIn X.K C (.type "object") = some true) (E : EqAt X.K C g) (F : FnC X.prog X.w X.K X.mg X.base k g 2 [] m) (hsp : spF X.K m [.ref x, y] H (fun v H' => ∃ c, v = .bl c ∧ Q (.bl (c != ne)) H')) :
    wpAny (model X.prog X.w) X.A (tryCompare (.ref x) (if ne then "__ne__" else "__eq__") u) (fun r s' => ∃ v, r = some v ∧ EP X pins σ Q v s') X.xe s := by
  obtain ⟨mA, O, _⟩ := ins_get I.hok hi
  obtain ⟨od, J, _⟩ := O.look
  have run : ∀ A, Room k A → A.guards = some [] → Env0 X.prog X.w X.K X.mg X.base A X.stack s H → wpAny (model X.prog X.w) A (call (.ref g) [.ref x, u]) (fun v s' => ∃ c, v = .bool c ∧ EP X pins σ Q (.bool (c != ne)) s') X.xe s := fun A rA gA eA =>
    wp_C I (F.run A X.stack s H [.ref x, u] [] [.ref x, y] _ rA gA eA rfl rfl (.cons rfl (.cons ry .nil)) hsp) fun w s' hw => by
      obtain ⟨v, H', I', rv, c, rfl, q⟩ := hw
      obtain rfl : w = .bool c := rv
      exact ⟨c, rfl, .bl (c != ne), H', I', rfl, q⟩
  cases ne with
  | false =>
    refine wpAny_mono (try_eq I.kIn J E.eq E.fn (P := fun c s' => EP X pins σ Q (.bool (c != false)) s') (run X.A (hr.mono (Nat.le_succ _)) hG I.env0)) (fun r s' h => ?_) fun _ _ z => z
    obtain ⟨c, rfl, q⟩ := h
    refine ⟨_, rfl, ?_⟩
    simpa using q
  | true =>
    refine wpAny_mono (try_ne I.kIn J E.eq E.fn E.ne hm hr.in1.units0 (P := fun c s' => EP X pins σ Q (.bool (c != true)) s') (run X.A.in1 hr.in1 hG I.env0.in1)) (fun r s' h => ?_) fun _ _ z => z
    obtain ⟨c, rfl, q⟩ := h
    refine ⟨_, rfl, ?_⟩
    simpa using q
theorem rich_own {ne : Bool} (hr : Room (k + 1) X.A) (hG : X.A.guards = some []) : OpR X (richCompare (if ne then .NotEq else .Eq)) (rEqO X k ne) := by
  intro pins s σ H x y v u Q I rx ry h
  have hop : (if ne then CmpOp.NotEq else .Eq) = .Eq ∨ (if ne then CmpOp.NotEq else .Eq) = .NotEq := by cases ne <;> simp
  have n1 : (cmpInfo (if ne then CmpOp.NotEq else .Eq)).2.1 = (if ne then ("__ne__" : Str) else "__eq__") := by cases ne <;> rfl
  have n2 : (cmpInfo (if ne then CmpOp.NotEq else .Eq)).2.2 = (if ne then ("__ne__" : Str) else "__eq__") := by cases ne <;> rfl
  rcases h with ⟨a, C, dx, vs, g, m, t, rfl, hi, c, hm, E, F, ty, nf, hsp⟩ | ⟨a, b, C, D, dx, dy, vs, ws, g, m, rfl, rfl, hi, hj, c, c2, hm, hne, hsub, E, F, hsp⟩
  · obtain rfl : v = Value.ref a := rx
    obtain ⟨mA, O, _⟩ := ins_get I.hok hi
    obtain ⟨od, J, _⟩ := O.look
    obtain ⟨P, Zk, p, _⟩ := kit_of I ry ty
    refine rich_left hop hr.units0 J I.kIn (Zk.ty _ _ I.kIn p) nf ?_
    rw [n1]
    exact try_own hr hG I ry hi c hm E F hsp
  · obtain rfl : v = Value.ref a := rx
    obtain rfl : u = Value.ref b := ry
    obtain ⟨mA, O, _⟩ := ins_get I.hok hi
    obtain ⟨od, J, _⟩ := O.look
    obtain ⟨mB, O2, _⟩ := ins_get I.hok hj
    obtain ⟨od2, J2, _⟩ := O2.look
    refine rich_right hop hr.units0 J J2 I.kIn hne hsub ?_
    rw [n2]
    exact try_own (y := .ref a) hr hG I rfl hj c2 hm E F hsp
theorem sub_ty7 {K : PySem.W.Frag} {C : Addr} : ∀ T ∈ ["NoneType", "bool", "int", "str", "list", "tuple", "dict"], PySem.W.notFirst K C (.type T) = true := fun T hT => by
  have go : ∀ {T : String}, (PySem.fastBuiltinMro T).any (fun l => l.all (fun v => match v with | .type _ => true | _ => false)) = true → PySem.W.notFirst K C (.type T) = true := fun {T} h => by
    cases h1 : PySem.fastBuiltinMro T with
    | none => rw [h1] at h; cases h
    | some l =>
      rw [h1] at h
      have : PySem.W.subIn K (.type T) (.ref C) = some false := by
        show (PySem.fastBuiltinMro T).map (·.contains (.ref C)) = some false
        rw [h1, Option.map_some]
        congr 1
        rw [Bool.eq_false_iff]
        intro hc
        have hm := List.contains_iff_mem.mp hc
        have := List.all_eq_true.mp h _ hm
        simp at this
      unfold PySem.W.notFirst
      rw [this]
      simp
  simp only [List.mem_cons, List.not_mem_nil, or_false] at hT
  rcases hT with rfl | rfl | rfl | rfl | rfl | rfl | rfl <;> exact go (by kernel_rfl)
end
/-- a datum that is no instance: its type is one of these -/
theorem ty_plain {K : PySem.W.Frag} {Z H : Hp} {v : V} {d : PyData} (zH : Same Z H) (r : Rb K Z H v d) (hi : isI d = false) : ∃ T ∈ ["NoneType", "bool", "int", "str", "list", "tuple", "dict"], TyX K H v (.type T) := by
  cases d with
  | none => rw [r.non]; exact ⟨_, by simp, .base .non⟩
  | bool c => rw [r.bl]; exact ⟨_, by simp, .base (.bl c)⟩
  | int i => rw [r.int]; exact ⟨_, by simp, .base (.int i)⟩
  | str y => rw [r.str]; exact ⟨_, by simp, .base (.str y)⟩
  | list xs =>
    obtain ⟨a, vs, rfl, h, q⟩ := r.lst zH
    exact ⟨_, by simp, .base (.lst h)⟩
  | tuple xs =>
    obtain ⟨a, vs, rfl, h, q⟩ := r.tup zH
    rcases h with (h | ⟨o, h⟩) | ⟨o, its, n, hk, hc, _⟩
    · exact ⟨_, by simp, .base (.tup h)⟩
    · exact ⟨_, by simp, .fTuple h⟩
    · exact ⟨_, by simp, .kTuple hk hc⟩
  | dict xs =>
    rcases r.dict zH with ⟨a, rfl, _, ⟨kvs, h⟩ | ⟨kvs, h⟩⟩ | ⟨a, n, C, dx, vs, rfl, h0, c, h⟩
    · exact ⟨_, by simp, .base (.dK h)⟩
    · exact ⟨_, by simp, .base (.dT h)⟩
    · rw [hi] at h0; cases h0
theorem eqM_sp {K : PySem.W.Frag} {Φ : Fx} {Z : Hp} {σ : L2.St} {H : Hp} {ρ ρ' : Nv} {l r : V} {dl dr d : PyData} {m : XF} {ne : Bool} {Q : VK} (R : Rl K Φ Z σ H ρ) (rl : Rp K Z l dl) (rr : Rp K Z r dr)
    (q : ((gCall m (fun ρ => some ([.v dl, .v dr], ρ)) ρ).bind fun w => match w.1 with | .d (.bool c) => some (PyData.bool (c != ne), w.2) | _ => none) = some (d, ρ'))
    (k : ∀ v H' Z', Same Z Z' → Rl K Φ Z' σ H' ρ' → Rp K Z' v d → Q v H') : spF K m [l, r] H (fun v H' => ∃ c, v = .bl c ∧ Q (.bl (c != ne)) H') := by
  cases e1 : gCall m (fun ρ => some ([.v dl, .v dr], ρ)) ρ with
  | none => rw [e1] at q; cases q
  | some w =>
    rw [e1, Option.bind_some] at q
    split at q
    · rename_i c ec
      cases q
      refine gCall_sp R (.v rl (.v rr .nil)) e1 fun v H' Z' z R' r' => ?_
      rw [ec] at r'
      cases r'
      exact ⟨c, rfl, k _ H' Z' z R' (.bl _)⟩
    · cases q
theorem me_eqO {X : Cx} {k : Nat} {tab : MTab} {sub : STab} {fa fb : XE} {ne : Bool} {ta tb : TE} (T : EqTabOk X k tab) (S : STabOk X sub) (ha : ME X.K ta fa) (hb : ME X.K tb fb) : ME X.K (tOp (rEqO X k ne) ta tb) (xEqO tab sub ne fa fb) := by
  intro Φ Z σ H ρ d ρ' R q Q kk
  unfold xEqO at q
  cases e1 : fa ρ with
  | none => rw [e1] at q; cases q
  | some p =>
    rw [e1, Option.bind_some] at q
    cases e2 : fb p.2 with
    | none => rw [e2] at q; cases q
    | some s =>
      rw [e2, Option.bind_some] at q
      refine ha Φ Z σ H ρ p.1 p.2 R e1 _ fun x H1 Z1 z1 R1 r1 => ?_
      refine hb Φ Z1 σ H1 p.2 s.1 s.2 R1 e2 _ fun y H2 Z2 z2 R2 r2 => ?_
      have r1' := r1.mono z2
      have kk' : ∀ v H' Z', Same Z2 Z' → Rl X.K Φ Z' σ H' ρ' → Rp X.K Z' v d → Q v H' := fun v H' Z' z => kk v H' Z' ((z1.trans z2).trans z)
      unfold eqM at q
      generalize p.1 = d1 at *
      generalize s.1 = d2 at *
      have inst : ∀ {v : V} {n : Str} {r : List (PyData × PyData)}, Rp X.K Z2 v (.dict ((.none, .str n) :: r)) → ∃ a C dx vs, v = .ref a ∧ IsC X.K n C ∧ H2 a = some (.ins C dx vs) := fun h => by
        obtain ⟨a, C, dx, vs, fs, h1, h2, h3, _⟩ := h.ins_inv
        exact ⟨a, C, dx, vs, h1, h2, R2.zH _ _ h3⟩
      cases e3 : ordO sub d1 d2 with
      | none => rw [e3] at q; cases q
      | some o =>
        rw [e3, Option.bind_some] at q
        cases e4 : tab.lookup o.1 with
        | none => rw [e4] at q; cases q
        | some m =>
          rw [e4, Option.bind_some] at q
          obtain ⟨Cm, g, cm, E, F⟩ := T _ _ e4
          unfold ordO at e3
          split at e3
          · rename_i n1 r1x n2 r2x
            obtain ⟨a, C, dx, vs, rfl, c, hi⟩ := inst r1'
            obtain ⟨b, D, dy, ws, rfl, c2, hj⟩ := inst r2
            split at e3
            · rename_i hn
              cases e3
              subst hn
              obtain rfl := c.eq cm
              obtain rfl := c.eq c2
              exact .inl ⟨a, _, dx, vs, g, m, _, rfl, hi, c.cls, c.hm, E, F, .base (.ins hj c.cls c.ha c.hn c.htk c.hm), by unfold PySem.W.notFirst; simp, eqM_sp R2 r1' r2 q kk'⟩
            · split at e3
              · rename_i hs
                cases e3
                obtain ⟨D', C', cD, cC, hne, hsb⟩ := S _ _ _ hs
                obtain rfl := c.eq cC
                obtain rfl := c2.eq cD
                obtain rfl := c2.eq cm
                exact .inr ⟨a, b, _, _, dx, dy, vs, ws, g, m, rfl, rfl, hi, hj, c.cls, c2.cls, c2.hm, hne, hsb, E, F, eqM_sp R2 r2 r1' q kk'⟩
              · rename_i hs
                cases e3
                obtain ⟨D', C', cD, cC, hne, hsb⟩ := S _ _ _ hs
                obtain rfl := c.eq cC
                obtain rfl := c2.eq cD
                obtain rfl := c.eq cm
                exact .inl ⟨a, _, dx, vs, g, m, _, rfl, hi, c.cls, c.hm, E, F, .base (.ins hj c2.cls c2.ha c2.hn c2.htk c2.hm), by unfold PySem.W.notFirst; rw [hsb]; simp, eqM_sp R2 r1' r2 q kk'⟩
              · cases e3
          · rename_i n1 r1x _ _
            split at e3
            · cases e3
            · rename_i hI
              cases e3
              obtain ⟨a, C, dx, vs, rfl, c, hi⟩ := inst r1'
              obtain rfl := c.eq cm
              obtain ⟨T7, hT, ty⟩ := ty_plain R2.zH (.inl r2) (by simpa using hI)
              exact .inl ⟨a, _, dx, vs, g, m, _, rfl, hi, c.cls, c.hm, E, F, ty, sub_ty7 T7 hT, eqM_sp R2 r1' r2 q kk'⟩
          · cases e3
section
variable {X : Cx} {k : Nat} {tab : MTab} {sub : STab} {a b : Expr} {fa fb : XE} {pos : Pos}
theorem ed_eqO (hr : Room (k + 1) X.A) (hG : X.A.guards = some []) (T : EqTabOk X k tab) (S : STabOk X sub) (ha : ED X a fa) (hb : ED X b fb) (hm : behindInMarks .Eq b = false := by first | rfl | exact nobehind _ (by decide) (by decide)) : ED X (.Compare a [.Eq] [b] pos) (xEqO tab sub false fa fb) := by
  obtain ⟨ta, pa, ma⟩ := ha
  obtain ⟨tb, pb, mb⟩ := hb
  exact ⟨_, pe_cmpR (fun pins s σ H x y v u Q I rx ry h => PySem.W.cmp_ofEq (rich_own (ne := false) hr hG pins s σ H x y v u Q I rx ry h)) pa pb hm, me_eqO T S ma mb⟩
theorem ed_neO (hr : Room (k + 1) X.A) (hG : X.A.guards = some []) (T : EqTabOk X k tab) (S : STabOk X sub) (ha : ED X a fa) (hb : ED X b fb) (hm : behindInMarks .NotEq b = false := by first | rfl | exact nobehind _ (by decide) (by decide)) : ED X (.Compare a [.NotEq] [b] pos) (xEqO tab sub true fa fb) := by
  obtain ⟨ta, pa, ma⟩ := ha
  obtain ⟨tb, pb, mb⟩ := hb
  exact ⟨_, pe_cmpR (fun pins s σ H x y v u Q I rx ry h => PySem.W.cmp_ofNotEq (rich_own (ne := true) hr hG pins s σ H x y v u Q I rx ry h)) pa pb hm, me_eqO T S ma mb⟩
theorem td_neO (hr : Room (k + 1) X.A) (hG : X.A.guards = some []) (T : EqTabOk X k tab) (S : STabOk X sub) (ha : ED X a fa) (hb : ED X b fb) (hm : behindInMarks .NotEq b = false := by first | rfl | exact nobehind _ (by decide) (by decide)) : TD X (.Compare a [.NotEq] [b] pos) (tst (xEqO tab sub true fa fb)) := by
  obtain ⟨ta, pa, ma⟩ := ha
  obtain ⟨tb, pb, mb⟩ := hb
  exact ⟨_, pt_cmpR (fun pins s σ H x y v u Q I rx ry h => PySem.W.cmp_ofNotEq (rich_own (ne := true) hr hG pins s σ H x y v u Q I rx ry h)) pa pb hm, mt_tst (me_eqO T S ma mb)⟩
end
end DL
set_option maxRecDepth 100000
set_option maxHeartbeats 2000000
namespace DL
open PySem PySem.Spec PyProof.Rows L2 NdefX

structure StrAt (K : PySem.W.Frag) (C g : Addr) : Prop where
  st : PySem.W.findIn K (.ref C) "__str__" = some (some (.ref g))
  fn : PySem.W.isFn K (.ref g) = true
def StrTabOk (X : Cx) (k : Nat) (tab : MTab) : Prop := ∀ n m, tab.lookup n = some m → ∃ C g, IsC X.K n C ∧ StrAt X.K C g ∧ FnC X.prog X.w X.K X.mg X.base k g 1 [] m
def xStrO (tab : MTab) (f : XE) : XE := fun ρ => (f ρ).bind fun p => match p.1 with
  | .dict ((.none, .str n) :: r) => (tab.lookup n).bind fun m => (gCall m (fun ρ => some ([.v (.dict ((.none, .str n) :: r))], ρ)) p.2).bind fun w => match w.1 with
    | .d (.str y) => some (.str y, w.2)
    | _ => none
  | _ => none
def rStrO (X : Cx) (k : Nat) : List V → Hp → VK → Prop := fun xs H Q => ∃ a C dx vs g m, xs = [.ref a] ∧ H a = some (.ins C dx vs) ∧ Cls X.K C ∧ StrAt X.K C g ∧ FnC X.prog X.w X.K X.mg X.base k g 1 [] m ∧ spF X.K m [.ref a] H (fun v H' => ∃ y, v = .str y ∧ Q (.str y) H')
section
variable {X : Cx} {k : Nat} {tab : MTab} {e : Expr} {f : XE} {x : Str} {p pos : Pos}
theorem call_strO (hr : Room (k + 2) X.A) (hG : X.A.guards = some []) : CallR X (.type "str") (rStrO X k) := by
  intro pins s σ H xs us Q I r h
  obtain ⟨a, C, dx, vs, g, m, rfl, hi, c, S, F, hsp⟩ := h
  obtain ⟨u, rfl, rx⟩ := r.one
  obtain rfl : u = Value.ref a := rx
  obtain ⟨mA, O, _⟩ := ins_get I.hok hi
  obtain ⟨od, J, _⟩ := O.look
  have hr2 : Room k X.A.in1.in1 := Room.in1 (Room.in1 hr)
  refine PySem.W.kso_call hr2.units0 I.kIn J S.st S.fn ?_
  refine wp_C I (F.run X.A.in1.in1 X.stack s H [.ref a] [] [.ref a] _ hr2 hG I.env0.in1.in1 rfl rfl (.cons rfl .nil) hsp) fun w s' hw => ?_
  obtain ⟨v, H', I', rv, y, rfl, q⟩ := hw
  obtain ⟨t, rfl⟩ : ∃ t, w = .str y t := rv
  exact ⟨.str y, H', I', ⟨t, rfl⟩, q⟩
theorem ed_strO (hr : Room (k + 2) X.A) (hG : X.A.guards = some []) (T : StrTabOk X k tab) (hm : X.mg x = none) (hv : bootBuiltins x = some (.type "str")) (he : ED X e f) (hg : Gl X x := by rfl) (hn : x ≠ "__name__" := by decide) (hdb : (x == ("__debug__" : Str)) = false := by decide)
    (hs : starEach [e] X.env = (false, eval e X.env) :: starEach [] X.env := by rfl) : ED X (.Call (.Name x p) [e] [] pos) (xStrO tab f) := by
  obtain ⟨t, q, m⟩ := he
  refine ⟨_, pe_callTy (call_strO hr hG) hg hm hv (pa_cons q pa_nil hs) hn hdb hs, fun Φ Z σ H ρ d ρ' R q Q kk => ?_⟩
  unfold xStrO at q
  cases e1 : f ρ with
  | none => rw [e1] at q; cases q
  | some s =>
    rw [e1, Option.bind_some] at q
    split at q
    · rename_i n r ed
      cases e2 : tab.lookup n with
      | none => rw [e2] at q; cases q
      | some mm =>
        rw [e2, Option.bind_some] at q
        cases e3 : gCall mm (fun ρ => some ([.v (.dict ((.none, .str n) :: r))], ρ)) s.2 with
        | none => rw [e3] at q; cases q
        | some w =>
          rw [e3, Option.bind_some] at q
          split at q
          · rename_i y ey
            cases q
            refine m Φ Z σ H ρ s.1 s.2 R e1 _ fun v H1 Z1 z1 R1 r1 => ?_
            rw [ed] at r1
            have r2 := r1
            obtain ⟨a, C, dx, vs, fs, rfl, c, h1, _⟩ := r1.ins_inv
            obtain ⟨Cm, g, cm, S, F⟩ := T _ _ e2
            obtain rfl := c.eq cm
            refine ⟨a, _, dx, vs, g, mm, rfl, R1.zH _ _ h1, c.cls, S, F, ?_⟩
            refine gCall_sp R1 (.v r2 .nil) e3 fun v H' Z' z R' r' => ?_
            rw [ey] at r'
            cases r'
            exact ⟨y, rfl, kk _ H' Z' (z1.trans z) R' (.str y)⟩
          · cases q
    · cases q
end

def xIsO (tab : List (Str × Bool)) (f : XE) : XE := fun ρ => (f ρ).bind fun p => match p.1 with
  | .dict ((.none, .str n) :: _) => (tab.lookup n).map fun b => (.bool b, p.2)
  | d => if isI d = true then none else some (.bool false, p.2)
structure IsTabOk (X : Cx) (C : Addr) (tab : List (Str × Bool)) : Prop where
  seven : ∀ T ∈ ["NoneType", "bool", "int", "str", "list", "tuple", "dict"], PySem.W.kitOne X.K (.type T) (.ref C) = some false
  own : ∀ n b, tab.lookup n = some b → ∃ D, IsC X.K n D ∧ PySem.W.kitOne X.K (.ref D) (.ref C) = some b
section
variable {X : Cx} {e : Expr} {f : XE} {x n : Str} {p p2 pos : Pos}
theorem ed_isO {C : Addr} {tab : List (Str × Bool)} (T : IsTabOk X C tab) (hm : X.mg x = none) (hv : bootBuiltins x = some (.builtin "isinstance")) (hm2 : X.mg n = some (.ref C)) (he : OD' X e f)
    (hg : Gl X x := by rfl) (hg2 : Gl X n := by rfl) (hn : x ≠ "__name__" := by decide) (hdb : (x == ("__debug__" : Str)) = false := by decide) (hdb2 : (n == ("__debug__" : Str)) = false := by decide)
    (hs : starEach [e, .Name n p2] X.env = (false, eval e X.env) :: starEach [.Name n p2] X.env := by rfl) (hs2 : starEach [.Name n p2] X.env = (false, eval (.Name n p2) X.env) :: starEach [] X.env := by rfl) :
    ED X (.Call (.Name x p) [e, .Name n p2] [] pos) (xIsO tab f) := by
  obtain ⟨t, q, m⟩ := he
  refine ⟨_, pe_callB call_isi hg hm hv (pa_cons q (pa_cons (pe_glob hg2 hm2 (v := .ref C) rfl hdb2) pa_nil hs2) hs) hn hdb hs (by rw [hs2]; rfl), fun Φ Z σ H ρ d ρ' R q Q k => ?_⟩
  unfold xIsO at q
  cases e1 : f ρ with
  | none => rw [e1] at q; cases q
  | some s =>
    rw [e1, Option.bind_some] at q
    split at q
    · rename_i n' r ed
      cases e2 : tab.lookup n' with
      | none => rw [e2] at q; cases q
      | some b =>
        rw [e2] at q
        cases q
        refine m Φ Z σ H ρ s.1 s.2 R e1 _ fun v H1 Z1 z1 R1 r1 => ?_
        rw [ed] at r1
        obtain ⟨a, D, dx, vs, fs, rfl, c, h1, _⟩ := r1.ins_inv R1.zH
        obtain ⟨D', cD, hk⟩ := T.own _ _ e2
        obtain rfl := c.eq cD
        exact ⟨_, .ref C, _, _, b, rfl, .own C, .base (.ins h1 c.cls c.ha c.hn c.htk c.hm), hk, k _ H1 Z1 z1 R1 (.bl _)⟩
    · split at q
      · cases q
      · rename_i hI
        cases q
        refine m Φ Z σ H ρ s.1 s.2 R e1 _ fun v H1 Z1 z1 R1 r1 => ?_
        obtain ⟨T7, hT, ty⟩ := ty_plain R1.zH r1 (by simpa using hI)
        exact ⟨v, .ref C, _, _, false, rfl, .own C, ty, T.seven T7 hT, k _ H1 Z1 z1 R1 (.bl _)⟩
/-- C.f, a constant of the class -/
theorem ed_cval {C : Addr} {mc : Value} {v : V} {u : Value} {d : PyData} {fl : Str} (r : ClX.CRead X.K C mc) (c : ClX.CVal X.K C mc fl v u) (hd : ∀ Z : Hp, Rp X.K Z v d) (hm2 : X.mg n = some (.ref C)) (hg2 : Gl X n := by rfl) (hdb2 : (n == ("__debug__" : Str)) = false := by decide)
    (hb : attributeBase (.Name n p) fl X.env (eval (.Name n p) X.env) = eval (.Name n p) X.env := by rfl) : ED X (.Attribute (.Name n p) fl pos) (xC d) := by
  refine ⟨_, ClX.pe_cval (pe_glob hg2 hm2 (v := .ref C) rfl hdb2) hb, fun Φ Z σ H ρ d' ρ' R q Q k => ?_⟩
  cases q
  exact ⟨C, mc, v, u, rfl, r, c, k v H Z (Same.refl Z) R (hd Z)⟩
end

section
variable {X : Cx} {o : Expr} {fl : Str} {k : Nat} {tab : MTab} {fr : XRc} {pos : Pos}
end
end DL
set_option maxRecDepth 100000
set_option maxHeartbeats 2000000
namespace DL
open PySem PySem.Spec PyProof.Rows L2 NdefX

/-- super().m(k = v, ..): the instance is there ahead of the values -/
def xSupK (n : Str) (m : XF) (r : XA) : XE := fun ρ => (selfA n ρ).bind fun _ => xSup n m r ρ
theorem he_supK {m : Str} {p0 p1 apos pos : Pos} {env : Env} {kws : List Keyword} (hp : (apos.endLine == pos.line) = true) (hm : methodCallForm (0 + kws.length) (backTo pos (starEach [] env)) (backToKw pos (keywordEach kws env)) = true) : eval (.Call (.Attribute (.Call (.Name "super" p0) [] [] p1) m apos) [] kws pos) env = (do
      let ov ← attributeBase (.Call (.Name "super" p0) [] [] p1) m env (eval (.Call (.Name "super" p0) [] [] p1) env)
      standAt apos.atName
      let (fn, first) ← holding [ov] (getMethod ov m)
      callWith pos fn first (backTo pos (starEach [] env)) (backToKw pos (keywordEach kws env))) := by
  have e1 : ∀ o env, methodCallPos true o env apos pos = pure pos := fun o env => by unfold methodCallPos; rw [hp]; rfl
  show (do
    let ov ← attributeBase (.Call (.Name "super" p0) [] [] p1) m env (eval (.Call (.Name "super" p0) [] [] p1) env)
    standAt apos.atName
    methodCall (.Call (.Name "super" p0) [] [] p1) m apos pos env ov (0 + kws.length) (backTo pos (starEach [] env)) (backToKw pos (keywordEach kws env))) = _
  unfold methodCall
  rw [hm]
  simp only [e1]
  rfl
section
variable {P : Program} {w : World} {K : PySem.W.Frag} {mg : Str → Option Value} {base : Heap} {N : List Str} {x qual slf n m : Str} {st : Stmt} {D C cc cda f g : Addr} {fd : FuncData} {A : Around} {outer : List Env} {s0 : Shared} {H0 : Hp} {k : Nat} {m2 : XF}
  {body : List Stmt} {p0 p1 apos pos : Pos} {kws : List Keyword} {ks : List Str} {rk : XA}
/-- super().m(k = v, ..) -/
theorem eat_supK (S : SupF P K x qual slf st D cc cda f fd) (hN : N[0]? = some slf) (c : IsC K n C) (hx : NextF K C D m g) (F : FnC P w K mg base k g 1 ks m2) (hr : Room k (cxS P w K mg base N x qual st cc cda f A outer s0 H0).A)
    (hG : (cxS P w K mg base N x qual st cc cda f A outer s0 H0).A.guards = some []) (ha : KD (cxS P w K mg base N x qual st cc cda f A outer s0 H0) kws rk) (hn : ∀ ρ p, rk ρ = some p → p.1.length = ks.length)
    (hall : (backToKw pos (keywordEach kws (cxS P w K mg base N x qual st cc cda f A outer s0 H0).env)).all (·.1.isSome) = true := by rfl) (hks : (backToKw pos (keywordEach kws (cxS P w K mg base N x qual st cc cda f A outer s0 H0).env)).filterMap (·.1) = ks := by rfl)
    (hpl : ((backTo pos (starEach [] (cxS P w K mg base N x qual st cc cda f A outer s0 H0).env)).any (·.1) || (backToKw pos (keywordEach kws (cxS P w K mg base N x qual st cc cda f A outer s0 H0).env)).any (·.1.isNone)) = false := by rfl)
    (hp : (apos.endLine == pos.line) = true := by rfl) (hmf : methodCallForm (0 + kws.length) (backTo pos (starEach [] (cxS P w K mg base N x qual st cc cda f A outer s0 H0).env)) (backToKw pos (keywordEach kws (cxS P w K mg base N x qual st cc cda f A outer s0 H0).env)) = true := by rfl) :
    EAt (cxS P w K mg base N x qual st cc cda f A outer s0 H0) body (.Call (.Attribute (.Call (.Name "super" p0) [] [] p1) m apos) [] kws pos) (xSupK n m2 rk) := by
  obtain ⟨tk, pk, mk⟩ := ha
  refine ⟨fun σ H Q => ∃ a dx vs, σ[0]? = some (some (.ref a)) ∧ H a = some (.ins C dx vs) ∧ tk σ H fun zs H1 => zs.length = ks.length ∧ spF K m2 (.ref a :: zs) H1 Q, fun pins s σ H Q I ⟨a, dx, vs, hσ, hi, hsp⟩ => ?_, fun Φ Z σ H ρ d ρ' R q Q kk => ?_⟩
  · rw [he_supK hp hmf]
    refine _root_.PySem.wpAt_bind (ks_wpAt_mono (sup_get (pl := pure false) S I hN hσ hi c.cls hx (Q := fun fx s2 => ∃ q, fx = (.ref q, []) ∧ Inv (cxS P w K mg base N x qual st cc cda f A outer s0 H0) ((q, PySem.W.methodObj (.ref g) (.ref a)) :: pins) σ H s2) fun q s' I' => ⟨q, rfl, I'⟩) (fun ov s1 h1 => wpAt_of_wpAny (wpAny_bind (wpAny_standAt (wpAny_bind (wpAny_holding (wpAny_mono h1 (fun fx s2 h2 => ?_) fun _ _ z => z)))))) fun _ _ z => z)
    obtain ⟨q, rfl, I'⟩ := h2
    refine PySem.W.callWith_of (P := PySem.W.MethP K q g (.ref a)) hpl (PySem.W.keeps_M hx.fi) (evalArgs_kw2_nil hall ?_)
    refine thn (pk.run pos _ s2 σ H _ I' hsp) fun ws s3 ⟨zs, H2, I2, rz, l2, q2⟩ => ⟨⟨ClX.pin_at I2, I2.kIn⟩, ?_⟩
    rw [hks]
    refine bound_ok I2 ?_
    exact F.run _ _ s3 H2 [.ref a] ws (.ref a :: zs) Q hr hG I2.env0 rfl (rz.length.symm.trans l2) (.cons rfl rz) q2
  · unfold xSupK at q
    cases e9 : selfA n ρ with
    | none => rw [e9] at q; cases q
    | some av9 =>
    rw [e9, Option.bind_some] at q
    unfold xSup at q
    cases e0 : rk ρ with
    | none => rw [e0] at q; cases q
    | some pr =>
      rw [e0, Option.bind_some] at q
      cases e1 : selfA n pr.2 with
      | none => rw [e1] at q; cases q
      | some av =>
        rw [e1, Option.bind_some] at q
        obtain ⟨a, C', dx, vs, s, c', hi, ra⟩ := selfA_ok R e9
        obtain rfl := c.eq c'
        refine ⟨a, dx, vs, s, hi, ?_⟩
        refine mk Φ Z σ H ρ pr.1 pr.2 R e0 _ fun zs H1 Z1 z1 R1 rr => ⟨by rw [ava_len rr]; exact hn _ _ e0, ?_⟩
        obtain ⟨a2, C2, dx2, vs2, s2, c2, hi2, ra2⟩ := selfA_ok R1 e1
        rw [s] at s2
        cases s2
        exact sup_sp R1 (ra2 rr) q fun v H' Z' z => kk v H' Z' (z1.trans z)
end

theorem AvA.up {K : PySem.W.Frag} {Z : Hp} {σ : L2.St} {y : Option V} {xs : List V} {bs : List AV} (h : AvA K Z σ xs bs) : AvA K Z (σ ++ [y]) xs bs := by
  induction h with
  | nil => exact .nil
  | v r _ ih => exact .v r ih
  | s r _ ih => exact .s (by rw [List.getElem?_append_left (List.getElem?_eq_some_iff.mp r).1]; exact r) ih
section
variable {X : Cx} {k : Nat} {C p g : Addr} {mc : Value} {n cn mn : Str} {ks : List Str} {m : XF} {kws : List Keyword} {r rk : XA} {np : Nat} {e : Expr} {es : List Expr} {vp pos apos : Pos}
end
end DL
set_option maxRecDepth 100000
set_option maxHeartbeats 2000000
namespace DL
open PySem PySem.Spec PyProof.Rows L2 NdefX

theorem ck_at {l : List Bool} (h : l.all id = true) (i : Nat) {b : Bool} (e : l[i]? = some b) : b = true := by
  have := List.all_eq_true.mp h b (List.mem_of_getElem? e)
  simpa using this
/-- the def that the class n has under the name m -/
def metA (K : PySem.W.Frag) (n m : Str) : Addr := match PySem.W.findIn K (.ref (clsA K n)) m with
  | some (some (.ref g)) => g
  | _ => 0
theorem metA_eq {K : PySem.W.Frag} {n m : Str} {C g : Addr} (h1 : PySem.W.nsIn K mainGlobals n = some (some (.ref C))) (h2 : PySem.W.findIn K (.ref C) m = some (some (.ref g))) : g = metA K n m := by
  unfold metA
  rw [← clsA_eq h1, h2]
section
open PySem.W
variable {K : PySem.W.Frag} {n m f : Str}
def isoB (K : Frag) (n : Str) : Bool := (nsIn K mainGlobals n == some (some (.ref (clsA K n)))) && plainGet K (clsA K n) Str.empty && hasDictIn K (clsA K n) && plainOver K (clsA K n) &&
  (findIn K (.ref (clsA K n)) "__setattr__" == some (some (.builtin "object.__setattr__"))) && (findIn K (.ref (clsA K n)) "__class__" == some (some (.builtin "object.__class__"))) &&
  (specialIn K (.builtin "object.__class__") "__get__" == some (some (.builtin "getset_descriptor.__get__"))) && (takesIn K (.builtin "object.__class__") == some true) && (mroIn K (clsA K n) (.type "object") == some true) &&
  (["int", "bool", "str", "list", "tuple", "dict"].all fun T => kitOne K (.ref (clsA K n)) (.type T) == some false)
theorem isoB_c (h : isoB K n = true) : IsC K n (clsA K n) := by
  unfold isoB at h
  simp only [Bool.and_eq_true, beq_iff_eq] at h
  obtain ⟨⟨⟨⟨⟨⟨⟨⟨⟨h1, h2⟩, h3⟩, h4⟩, h5⟩, h6⟩, h7⟩, h8⟩, h9⟩, h10⟩ := h
  exact ⟨h1, ⟨h2, h3, h4, h5⟩, h6, h7, h8, h9, fun N hN => by simpa using List.all_eq_true.mp h10 N hN⟩
/-- the class n finds under m the def that the class d has -/
def meB (K : Frag) (n m d : Str) : Bool := (findIn K (.ref (clsA K n)) m == some (some (.ref (metA K d m)))) && isFn K (.ref (metA K d m)) && keepIn K (.ref (metA K d m))
theorem meB_m {d : Str} (h : meB K n m d = true) : Meth K (clsA K n) m (metA K d m) := by
  unfold meB at h
  simp only [Bool.and_eq_true, beq_iff_eq] at h
  exact ⟨h.1.1, h.1.2, h.2⟩
def eqB (K : Frag) (n d : Str) : Bool := meB K n "__eq__" d && (findIn K (.ref (clsA K n)) "__ne__" == some (some (.builtin "object.__ne__")))
theorem eqB_e {d : Str} (h : eqB K n d = true) : EqAt K (clsA K n) (metA K d "__eq__") := by
  unfold eqB meB at h
  simp only [Bool.and_eq_true, beq_iff_eq] at h
  exact ⟨h.1.1.1, h.1.1.2, h.2⟩
theorem meB_s {d : Str} (h : meB K n "__str__" d = true) : StrAt K (clsA K n) (metA K d "__str__") := by
  unfold meB at h
  simp only [Bool.and_eq_true, beq_iff_eq] at h
  exact ⟨h.1.1, h.1.2⟩
def mkB (K : Frag) (n d : Str) : Bool := makesIn K (clsA K n) && (findIn K (.ref (clsA K n)) "__init__" == some (some (.ref (metA K d "__init__")))) && isFn K (.ref (metA K d "__init__")) && keepIn K (.ref (clsA K n))
theorem mkB_m {d : Str} (h : mkB K n d = true) : Mk K (clsA K n) (metA K d "__init__") := by
  unfold mkB at h
  simp only [Bool.and_eq_true, beq_iff_eq] at h
  exact ⟨h.1.1.1, h.1.1.2, h.1.2, h.2⟩
/-- behind d in the order of n stands the def of d2 -/
def nxB (K : Frag) (n d m d2 : Str) : Bool := (mroIn K (clsA K n) (.ref (clsA K d)) == some true) && (ks_superIn K (clsA K n) (clsA K d) m == some (some (.ref (metA K d2 m)))) && (typeIn K (.ref (metA K d2 m)) == some (.type "function")) && fnIn K (metA K d2 m) && !(m == ("__class__" : Str))
theorem nxB_x {d d2 : Str} (h : nxB K n d m d2 = true) : NextF K (clsA K n) (clsA K d) m (metA K d2 m) := by
  unfold nxB at h
  simp only [Bool.and_eq_true, beq_iff_eq, Bool.not_eq_true'] at h
  exact ⟨h.1.1.1.1, h.1.1.1.2, h.1.1.2, h.1.2, h.2⟩
/-- none of the classes has the name f -/
def naB (K : Frag) (ns : List Str) (f : Str) : Bool := ns.all fun n => (nsIn K mainGlobals n == some (some (.ref (clsA K n)))) && (findIn K (.ref (clsA K n)) f == some none)
theorem naB_a {ns : List Str} (h : naB K ns f = true) : NoAt K ns f := fun n hn C c => by
  have := List.all_eq_true.mp h n (by simpa using hn)
  simp only [Bool.and_eq_true, beq_iff_eq] at this
  have e := c.at_
  rw [this.1] at e
  cases e
  exact this.2
def subsB (K : Frag) (sub : STab) : Bool := sub.all fun p => (clsA K p.1.1 != clsA K p.1.2) && (subIn K (.ref (clsA K p.1.1)) (.ref (clsA K p.1.2)) == some p.2)
def is7B (K : Frag) (t : Str) : Bool := ["NoneType", "bool", "int", "str", "list", "tuple", "dict"].all fun T => kitOne K (.type T) (.ref (clsA K t)) == some false
def isB (K : Frag) (t : Str) (tab : List (Str × Bool)) : Bool := tab.all fun p => kitOne K (.ref (clsA K p.1)) (.ref (clsA K t)) == some p.2
def alB (K : Frag) (ns : List Str) : Bool := ns.all fun n => isoB K n
theorem lookup_mem {α : Type} {l : List (Str × α)} {n : Str} {b : α} (h : l.lookup n = some b) : (n, b) ∈ l := PySem.mem_of_lookup h
theorem subsB_s {X : Cx} {sub : STab} {ns : List Str} (h : subsB X.K sub = true) (hi : alB X.K ns = true) (hn : (sub.all fun p => ns.contains p.1.1 && ns.contains p.1.2) = true) : STabOk X sub := fun n1 n2 b e => by
  have hm : ((n1, n2), b) ∈ sub := by
    clear h hn hi
    induction sub with
    | nil => cases e
    | cons p r ih =>
      obtain ⟨a, c⟩ := p
      by_cases hp : (n1, n2) = a
      · subst hp
        simp [List.lookup] at e
        subst e
        exact List.mem_cons_self
      · have : ((n1, n2) == a) = false := beq_eq_false_iff_ne.mpr hp
        simp only [List.lookup, this] at e
        exact List.mem_cons_of_mem _ (ih e)
  have h1 := List.all_eq_true.mp h _ hm
  have h2 := List.all_eq_true.mp hn _ hm
  simp only [Bool.and_eq_true, bne_iff_ne, beq_iff_eq] at h1 h2
  exact ⟨_, _, isoB_c (List.all_eq_true.mp hi n1 (by simpa using h2.1)), isoB_c (List.all_eq_true.mp hi n2 (by simpa using h2.2)), h1.1, h1.2⟩
theorem isB_s {X : Cx} {t : Str} {tab : List (Str × Bool)} {ns : List Str} (h7 : is7B X.K t = true) (h : isB X.K t tab = true) (hi : alB X.K ns = true) (hn : (tab.all fun p => ns.contains p.1) = true) : IsTabOk X (clsA X.K t) tab :=
  ⟨fun T hT => by simpa using List.all_eq_true.mp h7 T hT, fun n b e => by
    have hm := lookup_mem e
    have h1 := List.all_eq_true.mp h _ hm
    have h2 := List.all_eq_true.mp hn _ hm
    simp only [beq_iff_eq] at h1
    exact ⟨_, isoB_c (List.all_eq_true.mp hi n (by simpa using h2)), h1⟩⟩
end
section
variable {X : Cx} {mn fl : Str} {k np : Nat} {ks : List Str} {tab : MTab} {n : Str} {m : XF}
theorem lookup_cons {n' : Str} {m' : XF} (h : List.lookup n' ((n, m) :: tab) = some m') : (n' = n ∧ m' = m) ∨ tab.lookup n' = some m' := by
  by_cases e : n' = n
  · subst e
    simp [List.lookup] at h
    exact .inl ⟨rfl, h.symm⟩
  · have : (n' == n) = false := beq_eq_false_iff_ne.mpr e
    simp only [List.lookup, this] at h
    exact .inr h
theorem mtab_nil : MTabOk X mn k np ks [] := fun n m h => by cases h
theorem mtab_cons {C g : Addr} (c : IsC X.K n C) (h : Meth X.K C mn g) (F : FnC X.prog X.w X.K X.mg X.base k g (np + 1) ks m) (t : MTabOk X mn k np ks tab) : MTabOk X mn k np ks ((n, m) :: tab) := fun n' m' e => by
  rcases lookup_cons e with ⟨rfl, rfl⟩ | e
  · exact ⟨C, g, c, h, F⟩
  · exact t _ _ e
theorem etab_nil : EqTabOk X k [] := fun n m h => by cases h
theorem etab_cons {C g : Addr} (c : IsC X.K n C) (h : EqAt X.K C g) (F : FnC X.prog X.w X.K X.mg X.base k g 2 [] m) (t : EqTabOk X k tab) : EqTabOk X k ((n, m) :: tab) := fun n' m' e => by
  rcases lookup_cons e with ⟨rfl, rfl⟩ | e
  · exact ⟨C, g, c, h, F⟩
  · exact t _ _ e
theorem stab_nil : StrTabOk X k [] := fun n m h => by cases h
theorem stab_cons {C g : Addr} (c : IsC X.K n C) (h : StrAt X.K C g) (F : FnC X.prog X.w X.K X.mg X.base k g 1 [] m) (t : StrTabOk X k tab) : StrTabOk X k ((n, m) :: tab) := fun n' m' e => by
  rcases lookup_cons e with ⟨rfl, rfl⟩ | e
  · exact ⟨C, g, c, h, F⟩
  · exact t _ _ e
end
/-- a def of the class d that says no super() -/
def MetEx (K : PySem.W.Frag) (d m qual : Str) (st : Stmt) : Prop := ∃ (C f : Addr) (oc : Value) (od an : Option Addr) (osl : Array (Option Value)) (kV doc pm cdv ct : Value), PySem.W.nsIn K mainGlobals d = some (some (.ref C)) ∧ PySem.W.findIn K (.ref C) m = some (some (.ref f)) ∧
  K.lookup f = some ⟨oc, od, .func (PySem.W.fnOf m qual (defArgs st) (defBody st) (defScope st) .none kV doc pm an cdv ct), osl⟩ ∧ PySem.W.codeIn K cdv qual = true ∧ PySem.W.keepIn K (.ref f) = true
def MetF (K : PySem.W.Frag) (d m qual : Str) (st : Stmt) (ps : List Str) : Prop := ∃ fd, Fun K m qual st (metA K d m) fd ∧ Binds K fd ps []
theorem MetEx.f {K : PySem.W.Frag} {d m qual : Str} {st : Stmt} {ps : List Str} (h : MetEx K d m qual st)
    (hb : ∀ (kV doc pm : Value) (an : Option Addr) (cdv ct : Value) (us : List Value), us.length = ps.length → bindArgs (PySem.W.fnOf m qual (defArgs st) (defBody st) (defScope st) .none kV doc pm an cdv ct) ⟨us, []⟩ = pure (ps.zip us)) : MetF K d m qual st ps := by
  obtain ⟨C, f, oc, od, an, osl, kV, doc, pm, cdv, ct, h1, h2, h3, h4, h5⟩ := h
  rw [MetF, ← metA_eq h1 h2]
  exact ⟨_, fun_mk h3 h4 h5, .all (hb kV doc pm an cdv ct)⟩
/-- a def of the class d that says super() -/
def SupEx (P : Program) (K : PySem.W.Frag) (d m qual slf : Str) (st : Stmt) (kws : List (Str × PyData)) : Prop := ∃ (C f cc cda : Addr) (oc : Value) (od an : Option Addr) (osl : Array (Option Value)) (kV doc pm ct : Value), PySem.W.nsIn K mainGlobals d = some (some (.ref C)) ∧ PySem.W.findIn K (.ref C) m = some (some (.ref f)) ∧
  K.lookup f = some ⟨oc, od, .func (PySem.W.fnX m qual (defArgs st) (defBody st) (defScope st) [("__class__", cc)] .none kV doc pm an (.ref cda) ct), osl⟩ ∧ PySem.W.codeIn K (.ref cda) qual = true ∧ (∃ cl cld csl, K.lookup cc = some ⟨cl, cld, .cell (some (.ref C)), csl⟩) ∧ (∃ cd, PySem.W.clsIn K C = some cd) ∧
  (∃ (ccl : Value) (cdd : Option Addr) (vs : Array Value) (ccs : Array (Option Value)) (file : Str) (tf : Tok), K.lookup cda = some ⟨ccl, cdd, .fields vs, ccs⟩ ∧ vs[2]? = some (.str file tf) ∧ ((P.main.file : Str) == file) = true) ∧
  PySem.W.nsIn K mainGlobals "super" = some none ∧ (P.main.scope.names.lookup ("super" : Str)).isSome = false ∧ PySem.W.nsIn K cStatics "thirdparty.any" = some none ∧
  (kws = [] ∨ ∃ Dk, kV = .ref Dk ∧ ∀ q ∈ kws, ∃ u, PySem.W.nsIn K Dk q.1 = some (some u) ∧ KDef K q.2 u)
/-- the function object's words -/
def KwF (K : PySem.W.Frag) (m qual : Str) (st : Stmt) (kws : List (Str × PyData)) (fd : FuncData) : Prop := ∃ (cc : Addr) (kV doc pm : Value) (an : Option Addr) (cdv ct : Value), fd = PySem.W.fnX m qual (defArgs st) (defBody st) (defScope st) [("__class__", cc)] .none kV doc pm an cdv ct ∧
  (kws = [] ∨ ∃ Dk, kV = .ref Dk ∧ ∀ q ∈ kws, ∃ u, PySem.W.nsIn K Dk q.1 = some (some u) ∧ KDef K q.2 u)
def SupG (P : Program) (K : PySem.W.Frag) (d m qual slf : Str) (st : Stmt) (kws : List (Str × PyData)) : Prop := ∃ fd cc cda, SupF P K m qual slf st (clsA K d) cc cda (metA K d m) fd ∧ KwF K m qual st kws fd
theorem SupEx.f {P : Program} {K : PySem.W.Frag} {d m qual slf : Str} {st : Stmt} {kws : List (Str × PyData)} (h : SupEx P K d m qual slf st kws) (par : ∃ ar : Arg, ((defArgs st).posonlyargs ++ (defArgs st).args).head? = some ar ∧ ar.arg = slf)
    (ks : (defScope st).names.lookup ("super" : Str) = some .globalImplicit) (kc : (defScope st).names.lookup ("__class__" : Str) = some .free) (kf : (defScope st).names.lookup slf = some .local) : SupG P K d m qual slf st kws := by
  obtain ⟨C, f, cc, cda, oc, od, an, osl, kV, doc, pm, ct, h1, h2, h3, h4, h5, h6, h7, h8, h9, h10, h11⟩ := h
  rw [SupG, ← metA_eq h1 h2, ← clsA_eq h1]
  exact ⟨_, cc, cda, ⟨⟨oc, od, .none, kV, doc, pm, an, ct, osl, rfl, h3⟩, h4, h5, h6, h7, h8, h9, h10, par, ks, kc, kf⟩, ⟨cc, kV, doc, pm, an, .ref cda, ct, rfl, h11⟩⟩
/-- t looks names up in the dict at D, one behind another, and goes on as r -/
def KwTo {α : Type} (D : Addr) : List (Str × Value) → Sem α → Sem α → Prop
  | [], t, r => t = r
  | q :: l, t, r => ∃ (β γ : Type) (k1 : Option Value → Sem β) (k2 : β → Sem γ) (k3 : γ → Sem α) (a : β), t = ((nsGet D q.1 >>= k1) >>= k2) >>= k3 ∧ k1 (some q.2) = pure a ∧ KwTo D l (k2 a >>= k3) r
theorem KwTo.wp {α : Type} {K : PySem.W.Frag} {M : Model} {A : Around} {E : Value → Shared → Prop} {s : Shared} {D : Addr} {Q : α → Shared → Prop} (X : K.In s.heap) : ∀ {l : List (Str × Value)} {t r : Sem α}, (∀ q ∈ l, PySem.W.nsIn K D q.1 = some (some q.2)) → KwTo D l t r → wpAny M A r Q E s → wpAny M A t Q E s
  | [], t, r, _, e, h => by
    have e : t = r := e
    rw [e]; exact h
  | q :: l, t, r, hl, e, h => by
    obtain ⟨β, γ, k1, k2, k3, a, e1, e2, e3⟩ := e
    rw [e1, bind_assoc]
    refine wpAny_bind (wpAny_bind ((PySem.W.looks_nsIn X (hl q List.mem_cons_self)).here ?_))
    rw [e2]
    exact wpAny_pure (KwTo.wp X (fun p hp => hl p (List.mem_cons_of_mem _ hp)) e3 h)
theorem kwd_vals2 {K : PySem.W.Frag} {D : Addr} : ∀ {ms : List (Str × PyData)}, (∀ q ∈ ms, ∃ u, PySem.W.nsIn K D q.1 = some (some u) ∧ KDef K q.2 u) →
    ∃ us : List Value, us.length = ms.length ∧ Paired (fun (q : Str × PyData) u => KDef K q.2 u) ms us ∧ ∀ q ∈ (ms.map (·.1)).zip us, PySem.W.nsIn K D q.1 = some (some q.2)
  | [], _ => ⟨[], rfl, .nil, fun q hq => by cases hq⟩
  | m :: ms, h => by
    obtain ⟨u, e1, e2⟩ := h m List.mem_cons_self
    obtain ⟨us, l, r, a⟩ := kwd_vals2 (ms := ms) fun q hq => h q (List.mem_cons_of_mem _ hq)
    refine ⟨u :: us, congrArg Nat.succ l, .cons e2 r, fun q hq => ?_⟩
    rcases List.mem_cons.mp (show q ∈ (m.1, u) :: (ms.map (·.1)).zip us from hq) with e | hq
    · rw [e]; exact e1
    · exact a q hq
/-- how such a call binds: ms are the keyword-only parameters that lack -/
theorem bndM_mk {K : PySem.W.Frag} {m qual slf mo : Str} {st : Stmt} {kws ms : List (Str × PyData)} {fd : FuncData} {qs ks ks2 : List Str} {s1 s2 : Sel} (h : KwF K m qual st kws fd) (hms : ∀ q ∈ ms, q ∈ kws)
    (calc_ : ∀ (cc Dk : Addr) (kV doc pm : Value) (an : Option Addr) (cdv ct : Value), (ms ≠ [] → kV = .ref Dk) → ∀ (ux : Value) (mv ws : List Value), mv.length = ms.length → ws.length = ks.length → Paired (fun (q : Str × PyData) u => KDef K q.2 u) ms mv →
      ∃ ys zs, ys.length = qs.length ∧ zs.length = ks2.length ∧ Pk (KDef K) ws s1 ys ∧ Pk (KDef K) ws s2 zs ∧
        KwTo Dk ((ms.map (·.1)).zip mv) (bindArgs (PySem.W.fnX m qual (defArgs st) (defBody st) (defScope st) [("__class__", cc)] .none kV doc pm an cdv ct) ⟨[ux], ks.zip ws⟩) (fillM ks2 zs ((slf, ux) :: qs.zip ys) mo)) :
    BndM K fd slf qs mo ks ks2 s1 s2 := by
  obtain ⟨cc, kV, doc, pm, an, cdv, ct, rfl, hk⟩ := h
  refine ⟨fun sh ux ws kin l => ?_⟩
  by_cases e : ms = []
  · subst e
    obtain ⟨ys, zs, l1, l2, p1, p2, t⟩ := calc_ cc 0 kV doc pm an cdv ct (fun z => absurd rfl z) ux [] ws rfl l .nil
    exact ⟨ys, zs, l1, l2, p1, p2, fun M A Q E w => KwTo.wp kin (fun q hq => by cases hq) t w⟩
  · rcases hk with rfl | ⟨Dk, rfl, hq⟩
    · cases ms with
      | nil => exact absurd rfl e
      | cons a r => exact absurd (hms a List.mem_cons_self) (by simp)
    · obtain ⟨mv, ml, mp, mz⟩ := kwd_vals2 (ms := ms) fun q hm => hq q (hms q hm)
      obtain ⟨ys, zs, l1, l2, p1, p2, t⟩ := calc_ cc Dk (.ref Dk) doc pm an cdv ct (fun _ => rfl) ux mv ws ml l mp
      exact ⟨ys, zs, l1, l2, p1, p2, fun M A Q E w => KwTo.wp kin mz t w⟩
theorem SupG.b {K : PySem.W.Frag} {m qual : Str} {st : Stmt} {kws : List (Str × PyData)} {fd : FuncData} {ps : List Str} (h : KwF K m qual st kws fd)
    (hb : ∀ (cc : Addr) (kV doc pm : Value) (an : Option Addr) (cdv ct : Value) (us : List Value), us.length = ps.length → bindArgs (PySem.W.fnX m qual (defArgs st) (defBody st) (defScope st) [("__class__", cc)] .none kV doc pm an cdv ct) ⟨us, []⟩ = pure (ps.zip us)) : Binds K fd ps [] := by
  obtain ⟨cc, kV, doc, pm, an, cdv, ct, rfl, _⟩ := h
  exact .all (hb cc kV doc pm an cdv ct)
theorem SupG.pb {K : PySem.W.Frag} {m qual : Str} {st : Stmt} {kws : List (Str × PyData)} {fd : FuncData} {ps ks : List Str} {n : Nat} {s : Sel} (h : KwF K m qual st kws fd)
    (hb : ∀ (cc : Addr) (kV doc pm : Value) (an : Option Addr) (cdv ct : Value) (us ws : List Value), us.length = n → ws.length = ks.length → ∃ zs, bindArgs (PySem.W.fnX m qual (defArgs st) (defBody st) (defScope st) [("__class__", cc)] .none kV doc pm an cdv ct) ⟨us, ks.zip ws⟩ = pure (ps.zip zs) ∧ zs.length = ps.length ∧ Pk (fun d u => RelV (cV d) u) (us ++ ws) s zs) : PB K fd ps n ks s := by
  obtain ⟨cc, kV, doc, pm, an, cdv, ct, rfl, _⟩ := h
  refine ⟨fun sh us ws _ l1 l2 => ?_⟩
  obtain ⟨zs, e, l, p⟩ := hb cc kV doc pm an cdv ct us ws l1 l2
  exact ⟨zs, .of_eq e, l, p⟩
end DL
set_option maxRecDepth 100000
set_option maxHeartbeats 2000000
namespace DL
open PySem PySem.Spec PyProof.Rows L2
def loFrom (n : Nat) (i : Int) : Int := max 0 (min (if i < 0 then i + n else i) n)
def stepFL {α : Type} (i k : Int) (xs : List α) : List α := (sliceRange (loFrom xs.length i) xs.length k).filterMap (xs[·]?)
theorem pick_stepF (items : List Value) {i k : Int} (hk : 0 < k) : slicePick items.toArray (some i) none (some k) = (stepFL i k items).toArray := by
  unfold slicePick stepFL loFrom
  have e : sliceBounds (some i) none (some k) items.toArray.size = (max 0 (min (if i < 0 then i + (items.length : Int) else i) (items.length : Int)), (items.length : Int), k) := by
    have hk' : k > 0 := hk
    simp [sliceBounds, hk']
  rw [e]
  congr 2
  funext i
  simp
def tStepF (K : PySem.W.Frag) (k : Int) (te : TE) (tl : TO) : TE := fun σ H Q => te σ H fun x H1 => tl σ H1 fun o H2 => ∃ a xs i, x = .ref a ∧ o = some i ∧ SqL K H2 a xs ∧ (stepFL i k xs).length ≤ sizeLine ∧ ∀ p, H2 p = none → Q (.ref p) (upd H2 p (.lst (stepFL i k xs)))
theorem pe_stepF {X : Cx} {e e0 : Expr} {te : TE} {tl : TO} {k : Int} {j} {p2 p3 pos : Pos} (hk : 0 < k) (he : PE X e te) (hl : PO X (some e0) tl) : PE X (.Subscript e (.Slice (some e0) none (some (.Constant (.int k) j p2)) p3) pos) (tStepF X.K k te tl) := by
  refine ⟨fun pins s σ H Q I h => Subscript_ (thn (he.run pins s σ H _ I h) fun v s1 ⟨x, H1, I1, r1, q⟩ => ?_)⟩
  have st : PO X (some (.Constant (.int k) j p2)) (tPart (tC (.int k))) := po_some pe_int
  refine wpAny_Slice (thn (hl.run pins s1 σ H1 _ I1 q) fun vl s2 ⟨l, H2, I2, pl, a, xs, i, ex, el, hx, hz2, q⟩ => ?_)
  subst ex el
  cases r1
  refine thn (po_none.run pins s2 σ H2 (fun o H3 => o = none ∧ H3 = H2) I2 ⟨rfl, rfl⟩) fun vu s3 ⟨u, H3, I3, pu, eu, e3⟩ => ?_
  subst eu e3
  refine thn (st.run pins s3 σ H3 (fun o H4 => o = some k ∧ H4 = H3) I3 ⟨k, rfl, rfl, rfl⟩) fun vs s4 ⟨o, H4, I4, ps, eo, e4⟩ => ?_
  subst eo e4
  have I5 : L2.Inv X pins σ H4 { s4 with heap := s4.heap.push { cls := .type "slice", data := .fields #[vl, vu, vs] } } := I4.kept (t' := s4.toks) fun b ob q => Heap.get?_push_of_some _ q
  obtain ⟨its, r, ht, hz⟩ := I5.list hx
  have hlen := r.length
  show wpAny (model X.prog X.w) X.A (subscriptTail e (.Slice (some e0) none (some (.Constant (.int k) j p2)) p3) (.ref a) (.ref s4.heap.objs.size)) (EP X pins σ Q) X.xe { s4 with heap := s4.heap.push { cls := .type "slice", data := .fields #[vl, vu, vs] } }
  refine tail_any (ops := [.ref a, .ref s4.heap.objs.size]) ht.isList.typeIs (PySem.slot_list_getitem.lookup) ?_ (by with_unfolding_all rfl)
  refine wpAny_getItem_list_slice ht.isList (Heap.IsSliceOf.new _ vl vu vs) pl pu ps (by intro q; cases q; omega) ?_ (by rw [List.size_toArray]; omega)
  rw [pick_stepF its hk]
  refine ⟨.ref _, _, I5.laid (t' := s4.toks) (o := .lst (stepFL i k xs)) (fun b ob q => Heap.get?_push_of_some _ q) (Nat.le_refl _) ?_, rfl, q _ (I5.hok.fresh (Nat.le_refl _))⟩
  refine ⟨hz2, _, 0, ?_, Heap.get?_push_size _ rfl⟩
  have e : sliceRange (loFrom its.length i) (its.length : Int) k = sliceRange (loFrom xs.length i) (xs.length : Int) k := by rw [hlen]
  unfold stepFL
  rw [e]
  exact vals_picks r _
def stepFD (k : Int) : PyData → Option Int → Option PyData
  | .list xs, some i => if (stepFL i k xs).length ≤ sizeLine then some (.list (stepFL i k xs)) else none
  | _, _ => none
def xStepF (k : Int) (f : XE) (lo : XO) : XE := fun ρ => (f ρ).bind fun p => (lo p.2).bind fun l => (stepFD k p.1 l.1).map fun z => (z, l.2)
theorem ed_stepF {X : Cx} {e e0 : Expr} {f : XE} {fl : XO} {k : Int} {j} {p2 p3 pos : Pos} (he : ED X e f) (hl : PD X (some e0) fl) (hk : 0 < k := by decide) : ED X (.Subscript e (.Slice (some e0) none (some (.Constant (.int k) j p2)) p3) pos) (xStepF k f fl) := by
  obtain ⟨t, p, m⟩ := he
  obtain ⟨tl, pl, ml⟩ := hl
  refine ⟨_, pe_stepF hk p pl, fun Φ Z σ H ρ d ρ' R q Q kk => ?_⟩
  unfold xStepF at q
  cases e1 : f ρ with
  | none => rw [e1] at q; cases q
  | some w =>
    rw [e1, Option.bind_some] at q
    cases e2 : fl w.2 with
    | none => rw [e2] at q; cases q
    | some l =>
      rw [e2, Option.bind_some] at q
      cases e3 : stepFD k w.1 l.1 with
      | none => rw [e3] at q; cases q
      | some z =>
        rw [e3] at q
        cases q
        refine m Φ Z σ H ρ w.1 w.2 R e1 _ fun v H1 Z1 z1 R1 r1 => ?_
        refine ml Φ Z1 σ H1 w.2 l.1 l.2 R1 e2 _ fun H2 Z2 z2 R2 => ?_
        have r2 : Rp X.K Z2 v w.1 := r1.mono z2
        unfold stepFD at e3
        split at e3
        · rename_i xs i ex el
          split at e3
          · rename_i hle
            cases e3
            rw [ex] at r2
            obtain ⟨a, vs, rfl, h, rr⟩ := Rb.lst R2.zH (.inl r2)
            have hl2 : vs.length = xs.length := rr.length
            have rs : RpA X.K Z2 (stepFL i k vs) (stepFL i k xs) := by
              unfold stepFL
              rw [hl2]
              exact rr.picks _
            exact ⟨a, vs, i, rfl, el, SqL.of h, by rw [rs.length]; exact hle, fun p hp => ends_lst R2 rs (fun v H' Z' z' R' r' => kk v H' Z' ((z1.trans z2).trans z') R' r') hp⟩
          · cases e3
        · cases e3
end DL
set_option maxRecDepth 100000
set_option maxHeartbeats 2000000
namespace DL
open PySem PySem.Spec PyProof.Rows L2
def CvEx (K : PySem.W.Frag) (c f : Str) (d : PyData) : Prop := ∃ (C : Addr) (u : Value), PySem.W.nsIn K mainGlobals c = some (some (.ref C)) ∧ PySem.W.findCls K (.ref C) (.type "type") f = some (.val u) ∧ PySem.W.readsIn K C (.type "type") = true ∧
  PySem.W.specialIn K (.ref C) "__getattribute__" = some (some (.builtin "type.__getattribute__")) ∧ KDef K d u
theorem ed_cvalT {X : Cx} {n c fl : Str} {d : PyData} {p pos : Pos} (h : CvEx X.K c fl d) (hm2 : X.mg n = some (.ref (clsA X.K c))) (hg2 : Gl X n := by rfl) (hdb2 : (n == ("__debug__" : Str)) = false := by decide)
    (hb : attributeBase (.Name n p) fl X.env (eval (.Name n p) X.env) = eval (.Name n p) X.env := by rfl) : ED X (.Attribute (.Name n p) fl pos) (xC d) := by
  obtain ⟨C, u, h1, h2, h3, h4, v, r, h5⟩ := h
  obtain rfl := clsA_eq h1
  exact ed_cval ⟨h3, h4⟩ ⟨h2, r⟩ h5 hm2 hg2 hdb2 hb
end DL
set_option maxRecDepth 100000
set_option maxHeartbeats 4000000
namespace DL
open PySem PySem.Spec PyProof.Rows L2
theorem tuple_mul1 (l : Addr) (items : Array Value) (n : Nat) (dd : Option Addr) (sl : Array (Option Value)) (u : Tok) :
    Meets (Builtin.«tuple.__mul__» ⟨[.ref l, .int 1 u], []⟩) (fun _ R s => s.heap.get? l = some { cls := .type "tuple", dict := dd, data := .seq items n, slots := sl } ∧ R (.ok (.ret (.ref l))) s) :=
  .of_wp fun prog w A R s h => by
    obtain ⟨hp, g, d, tk, os⟩ := s
    obtain ⟨hl, h⟩ := h
    have f1 := AutoSeq1.idx_int
    have c0 : (decide ((1 : Int) < -(2 ^ 63)) || decide ((1 : Int) ≥ 2 ^ 63)) = false := by decide
    have c1 : (items.isEmpty || (1 : Int) == 1) = true := by simp
    wp_walk using wpAny_loadPart' hl
    repeat (first
      | (refine wpAny_ite_false (decide_eq_false (by rw [c0]; exact Bool.false_ne_true)) ?_; wp_walk using wpAny_loadPart' hl)
      | (refine wpAny_ite_true (decide_eq_true c1) ?_; wp_walk using wpAny_loadPart' hl))
    exact ⟨_, rfl, h⟩
theorem tuple_mul0 (l : Addr) (items : Array Value) (n : Nat) (dd : Option Addr) (sl : Array (Option Value)) (x : Int) (u : Tok) (c0 : (decide (x < -(2 ^ 63)) || decide (x ≥ 2 ^ 63)) = false) (c1 : (items.isEmpty || x == 1) = false) (c2 : (decide (x ≤ 0) || items.isEmpty) = true) :
    Meets (Builtin.«tuple.__mul__» ⟨[.ref l, .int x u], []⟩) (fun _ R s => s.heap.get? l = some { cls := .type "tuple", dict := dd, data := .seq items n, slots := sl } ∧
      R (.ok (.ret (Value.ref s.heap.objs.size))) { s with heap := s.heap.push { cls := Value.type "tuple", data := Data.seq #[] }, toks := s.toks }) :=
  .of_wp fun prog w A R s h => by
    obtain ⟨hp, g, d, tk, os⟩ := s
    obtain ⟨hl, h⟩ := h
    have f1 := AutoSeq1.idx_int
    wp_walk using wpAny_loadPart' hl
    repeat (first
      | (refine wpAny_ite_false (decide_eq_false (by rw [c0]; exact Bool.false_ne_true)) ?_; wp_walk using wpAny_loadPart' hl)
      | (refine wpAny_ite_false (decide_eq_false (by rw [c1]; exact Bool.false_ne_true)) ?_; wp_walk using wpAny_loadPart' hl)
      | (refine wpAny_ite_true (decide_eq_true c2) ?_; wp_walk using wpAny_loadPart' hl))
    exact ⟨_, rfl, h⟩
def rT1 (K : PySem.W.Frag) : R2 := fun x y H Q => ∃ l xs, x = .ref l ∧ y = .int 1 ∧ SqT K H l xs ∧ Q (.ref l) H
def rT0 (K : PySem.W.Frag) : R2 := fun x y H Q => ∃ l k xs, x = .ref l ∧ y = .int k ∧ SqT K H l xs ∧ xs ≠ [] ∧ k ≤ 0 ∧ -1000 ≤ k ∧ ∀ p, H p = none → Q (.ref p) (upd H p (.tup []))
section
variable {X : Cx}
theorem op_repT1 : OpR X (binaryOp .Mult) (rT1 X.K) := by
  intro pins s σ H x y v u Q I rx ry h
  obtain ⟨l, xs, rfl, rfl, hT, q⟩ := h
  cases rx
  obtain ⟨t, rfl⟩ := ry
  obtain ⟨its, r, ⟨⟨cls, dd, data, sl⟩, ho, hc, n, hd⟩, hs⟩ := I.tuple hT
  simp only at hc hd
  subst hc hd
  refine wpAny_binaryOp_repeat_ref (T := "tuple") (U := "int") (by decide) ⟨_, ho, rfl⟩ (fun s' => typeIs_int s' 1 t) noFill_tuple_mul F.fills_int_mul F.slot_int_rmul repeat_tuple F.slot_int_index.lookup
    (call_meets F.slot_int_rmul (typeIs_int s 1 t) F.entry_int_rmul (F.args_int_rmul_2 _ _) (int_rmul_tuple 1 t l its.toArray n dd sl)
      ⟨ho, rfl, ⟨_, ho, rfl⟩, call_meets F.slot_tuple_mul ⟨_, ho, rfl⟩ F.entry_tuple_mul (F.args_tuple_mul_2 _ _) (tuple_mul1 l its.toArray n dd sl t) ⟨ho, ?_⟩⟩)
  exact ⟨.ref l, H, I, rfl, q⟩
theorem op_repT0 : OpR X (binaryOp .Mult) (rT0 X.K) := by
  intro pins s σ H x y v u Q I rx ry h
  obtain ⟨l, k, xs, rfl, rfl, hT, hne, h1, h2, q⟩ := h
  cases rx
  obtain ⟨t, rfl⟩ := ry
  obtain ⟨its, r, ⟨⟨cls, dd, data, sl⟩, ho, hc, n, hd⟩, hs⟩ := I.tuple hT
  simp only at hc hd
  subst hc hd
  have hle : its.length = xs.length := r.length.symm
  have hn : its ≠ [] := fun e => hne (by
    rw [e] at hle
    exact List.eq_nil_of_length_eq_zero hle.symm)
  have hi : its.toArray.isEmpty = false := by
    cases its with
    | nil => exact absurd rfl hn
    | cons a b => rfl
  have c0 : (decide (k < -(2 ^ 63)) || decide (k ≥ 2 ^ 63)) = false := by
    rw [decide_eq_false (by omega), decide_eq_false (by omega)] <;> rfl
  have c1 : (its.toArray.isEmpty || k == 1) = false := by
    rw [hi, Bool.false_or]
    exact beq_eq_false_iff_ne.mpr (by omega)
  have c2 : (decide (k ≤ 0) || its.toArray.isEmpty) = true := by
    rw [decide_eq_true h1]
    rfl
  refine wpAny_binaryOp_repeat_ref (T := "tuple") (U := "int") (by decide) ⟨_, ho, rfl⟩ (fun s' => typeIs_int s' k t) noFill_tuple_mul F.fills_int_mul F.slot_int_rmul repeat_tuple F.slot_int_index.lookup
    (call_meets F.slot_int_rmul (typeIs_int s k t) F.entry_int_rmul (F.args_int_rmul_2 _ _) (int_rmul_tuple k t l its.toArray n dd sl)
      ⟨ho, rfl, ⟨_, ho, rfl⟩, call_meets F.slot_tuple_mul ⟨_, ho, rfl⟩ F.entry_tuple_mul (F.args_tuple_mul_2 _ _) (tuple_mul0 l its.toArray n dd sl k t c0 c1 c2) ⟨ho, ?_⟩⟩)
  refine ⟨.ref s.heap.objs.size, _, I.laid (t' := s.toks) (o := .tup []) (fun b ob q => Heap.get?_push_of_some _ q) (Nat.le_refl _) ?_, rfl, q _ (I.hok.fresh (Nat.le_refl _))⟩
  exact ⟨by decide, [], .nil, IsTup.new _ _⟩
end
def mulT1 : PyData → PyData → Option PyData
  | .tuple l, .int k => if k = 1 then some (.tuple l) else if l.length ≠ 0 ∧ k ≤ 0 ∧ -1000 ≤ k then some (.tuple []) else none
  | _, _ => none
theorem op_mulT1 {X : Cx} : OpR X (binaryOp .Mult) (fun x y H Q => rT1 X.K x y H Q ∨ rT0 X.K x y H Q) := op_repT1.or op_repT0
theorem r2_mulT1 {K : PySem.W.Frag} : R2M K (fun x y H Q => rT1 K x y H Q ∨ rT0 K x y H Q) mulT1 := by
  intro Φ Z σ H ρ x y d1 d2 z R rx ry e Q k
  unfold mulT1 at e
  split at e
  · rename_i l kk
    split at e
    · rename_i hk
      cases e
      subst hk
      have q1 := rx.tupR
      obtain ⟨a, vs, rfl, h1, r1⟩ := rx.tup R.zH
      exact .inl ⟨a, vs, rfl, ry.int, h1, ends_flat R q1 k⟩
    · split at e
      · rename_i hk
        cases e
        obtain ⟨a, vs, rfl, h1, r1⟩ := rx.tup R.zH
        exact .inr ⟨a, kk, vs, rfl, ry.int, h1, fun e => hk.1 (by rw [← r1.length, e]; rfl), hk.2.1, hk.2.2, fun p hp => ends_tup R .nil k hp⟩
      · cases e
  · cases e
abbrev mulY := orD mulD mulT1
theorem op_mulY {X : Cx} : OpR X (binaryOp .Mult) (fun x y H Q => rMul X.K x y H Q ∨ (rT1 X.K x y H Q ∨ rT0 X.K x y H Q)) := op_mulD.or op_mulT1
theorem r2_mulY {K : PySem.W.Frag} : R2M K (fun x y H Q => rMul K x y H Q ∨ (rT1 K x y H Q ∨ rT0 K x y H Q)) mulY := r2_mul.both r2_mulT1
end DL
set_option maxRecDepth 100000
set_option maxHeartbeats 4000000
namespace K05
open PySem PySem.Spec PyProof.Rows L2 DL NdefX
def topS (i : Nat) : Stmt := PySem.Challenge.pw_stackorder_k05_classes.main.body.getD i (.Pass ⟨0, 0, 0, 0⟩)
abbrev clsN : List Str := ["Clause", "Scaled", "Shifted", "Bounded", "Fixed", "Percent", "Floor", "Cap", "Claim", "Fee", "Voucher", "General"]
abbrev subT_Clause : STab := [(("Clause", "Scaled"), false), (("Clause", "Shifted"), false), (("Clause", "Bounded"), false), (("Clause", "Fixed"), false), (("Clause", "Percent"), false), (("Clause", "Floor"), false), (("Clause", "Cap"), false), (("Clause", "Claim"), false), (("Clause", "Fee"), false), (("Clause", "Voucher"), false), (("Clause", "General"), false)]
abbrev subT_Scaled : STab := [(("Scaled", "Clause"), true), (("Scaled", "Shifted"), false), (("Scaled", "Bounded"), false), (("Scaled", "Fixed"), false), (("Scaled", "Percent"), false), (("Scaled", "Floor"), false), (("Scaled", "Cap"), false), (("Scaled", "Claim"), false), (("Scaled", "Fee"), false), (("Scaled", "Voucher"), false), (("Scaled", "General"), false)]
abbrev subT_Shifted : STab := [(("Shifted", "Clause"), true), (("Shifted", "Scaled"), false), (("Shifted", "Bounded"), false), (("Shifted", "Fixed"), false), (("Shifted", "Percent"), false), (("Shifted", "Floor"), false), (("Shifted", "Cap"), false), (("Shifted", "Claim"), false), (("Shifted", "Fee"), false), (("Shifted", "Voucher"), false), (("Shifted", "General"), false)]
abbrev subT_Bounded : STab := [(("Bounded", "Clause"), true), (("Bounded", "Scaled"), false), (("Bounded", "Shifted"), false), (("Bounded", "Fixed"), false), (("Bounded", "Percent"), false), (("Bounded", "Floor"), false), (("Bounded", "Cap"), false), (("Bounded", "Claim"), false), (("Bounded", "Fee"), false), (("Bounded", "Voucher"), false), (("Bounded", "General"), false)]
abbrev subT_Fixed : STab := [(("Fixed", "Clause"), true), (("Fixed", "Scaled"), false), (("Fixed", "Shifted"), false), (("Fixed", "Bounded"), false), (("Fixed", "Percent"), false), (("Fixed", "Floor"), false), (("Fixed", "Cap"), false), (("Fixed", "Claim"), false), (("Fixed", "Fee"), false), (("Fixed", "Voucher"), false), (("Fixed", "General"), false)]
abbrev subT_Percent : STab := [(("Percent", "Clause"), true), (("Percent", "Scaled"), true), (("Percent", "Shifted"), false), (("Percent", "Bounded"), false), (("Percent", "Fixed"), false), (("Percent", "Floor"), false), (("Percent", "Cap"), false), (("Percent", "Claim"), false), (("Percent", "Fee"), false), (("Percent", "Voucher"), false), (("Percent", "General"), false)]
abbrev subT_Floor : STab := [(("Floor", "Clause"), true), (("Floor", "Scaled"), false), (("Floor", "Shifted"), false), (("Floor", "Bounded"), true), (("Floor", "Fixed"), false), (("Floor", "Percent"), false), (("Floor", "Cap"), false), (("Floor", "Claim"), false), (("Floor", "Fee"), false), (("Floor", "Voucher"), false), (("Floor", "General"), false)]
abbrev subT_Cap : STab := [(("Cap", "Clause"), true), (("Cap", "Scaled"), false), (("Cap", "Shifted"), false), (("Cap", "Bounded"), true), (("Cap", "Fixed"), false), (("Cap", "Percent"), false), (("Cap", "Floor"), false), (("Cap", "Claim"), false), (("Cap", "Fee"), false), (("Cap", "Voucher"), false), (("Cap", "General"), false)]
abbrev subT_Claim : STab := [(("Claim", "Clause"), true), (("Claim", "Scaled"), true), (("Claim", "Shifted"), true), (("Claim", "Bounded"), true), (("Claim", "Fixed"), false), (("Claim", "Percent"), false), (("Claim", "Floor"), false), (("Claim", "Cap"), false), (("Claim", "Fee"), false), (("Claim", "Voucher"), false), (("Claim", "General"), false)]
abbrev subT_Fee : STab := [(("Fee", "Clause"), true), (("Fee", "Scaled"), true), (("Fee", "Shifted"), true), (("Fee", "Bounded"), false), (("Fee", "Fixed"), false), (("Fee", "Percent"), false), (("Fee", "Floor"), false), (("Fee", "Cap"), false), (("Fee", "Claim"), false), (("Fee", "Voucher"), false), (("Fee", "General"), false)]
abbrev subT_Voucher : STab := [(("Voucher", "Clause"), true), (("Voucher", "Scaled"), false), (("Voucher", "Shifted"), true), (("Voucher", "Bounded"), true), (("Voucher", "Fixed"), false), (("Voucher", "Percent"), false), (("Voucher", "Floor"), false), (("Voucher", "Cap"), false), (("Voucher", "Claim"), false), (("Voucher", "Fee"), false), (("Voucher", "General"), false)]
abbrev subT_General : STab := [(("General", "Clause"), true), (("General", "Scaled"), true), (("General", "Shifted"), true), (("General", "Bounded"), true), (("General", "Fixed"), false), (("General", "Percent"), false), (("General", "Floor"), false), (("General", "Cap"), false), (("General", "Claim"), false), (("General", "Fee"), false), (("General", "Voucher"), false)]
abbrev subT : STab := subT_Clause ++ subT_Scaled ++ subT_Shifted ++ subT_Bounded ++ subT_Fixed ++ subT_Percent ++ subT_Floor ++ subT_Cap ++ subT_Claim ++ subT_Fee ++ subT_Voucher ++ subT_General
abbrev isT_Clause : List (Str × Bool) := [("Clause", true), ("Scaled", true), ("Shifted", true), ("Bounded", true), ("Fixed", true), ("Percent", true), ("Floor", true), ("Cap", true), ("Claim", true), ("Fee", true), ("Voucher", true), ("General", true)]
def cksL (K : PySem.W.Frag) : List Bool := [naB K clsN "is_clause_object", naB K clsN "factor", naB K clsN "plus", naB K clsN "low", naB K clsN "high", naB K clsN "constant", nxB K "Claim" "Shifted" "__init__" "Clause", isoB K "Claim", nxB K "Claim" "Scaled" "__init__" "Shifted", nxB K "Claim" "Bounded" "__init__" "Scaled", nxB K "Fee" "Scaled" "__init__" "Clause", isoB K "Fee", nxB K "Fee" "Shifted" "__init__" "Scaled", nxB K "Voucher" "Shifted" "__init__" "Clause", isoB K "Voucher", nxB K "Voucher" "Bounded" "__init__" "Shifted", nxB K "General" "Scaled" "__init__" "Clause", isoB K "General", nxB K "General" "Shifted" "__init__" "Scaled", nxB K "General" "Bounded" "__init__" "Shifted", nxB K "Scaled" "Scaled" "__init__" "Clause", isoB K "Scaled", nxB K "Shifted" "Shifted" "__init__" "Clause", isoB K "Shifted", nxB K "Fixed" "Fixed" "__init__" "Clause", isoB K "Fixed", nxB K "Percent" "Scaled" "__init__" "Clause", isoB K "Percent", nxB K "Percent" "Percent" "__init__" "Scaled", nxB K "Floor" "Bounded" "__init__" "Clause", isoB K "Floor", nxB K "Floor" "Floor" "__init__" "Bounded", nxB K "Bounded" "Bounded" "__init__" "Clause", isoB K "Bounded", nxB K "Cap" "Bounded" "__init__" "Clause", isoB K "Cap", nxB K "Cap" "Cap" "__init__" "Bounded", nxB K "Scaled" "Scaled" "parts" "Clause", nxB K "Shifted" "Shifted" "parts" "Clause", nxB K "Bounded" "Bounded" "parts" "Clause", nxB K "Fixed" "Fixed" "parts" "Clause", nxB K "Percent" "Scaled" "parts" "Clause", nxB K "Floor" "Bounded" "parts" "Clause", nxB K "Cap" "Bounded" "parts" "Clause", nxB K "Claim" "Shifted" "parts" "Clause", nxB K "Claim" "Scaled" "parts" "Shifted", nxB K "Claim" "Bounded" "parts" "Scaled", nxB K "Fee" "Scaled" "parts" "Clause", nxB K "Fee" "Shifted" "parts" "Scaled", nxB K "Voucher" "Shifted" "parts" "Clause", nxB K "Voucher" "Bounded" "parts" "Shifted", nxB K "General" "Scaled" "parts" "Clause", nxB K "General" "Shifted" "parts" "Scaled", nxB K "General" "Bounded" "parts" "Shifted", meB K "General" "parts" "Bounded", meB K "Voucher" "parts" "Bounded", meB K "Fee" "parts" "Shifted", meB K "Claim" "parts" "Bounded", meB K "Cap" "parts" "Bounded", meB K "Floor" "parts" "Bounded", meB K "Percent" "parts" "Scaled", meB K "Fixed" "parts" "Fixed", meB K "Bounded" "parts" "Bounded", meB K "Shifted" "parts" "Shifted", meB K "Scaled" "parts" "Scaled", isoB K "Clause", meB K "Clause" "parts" "Clause", meB K "General" "form" "Clause", meB K "Voucher" "form" "Clause", meB K "Fee" "form" "Clause", meB K "Claim" "form" "Clause", meB K "Cap" "form" "Clause", meB K "Floor" "form" "Clause", meB K "Percent" "form" "Clause", meB K "Fixed" "form" "Clause", meB K "Bounded" "form" "Clause", meB K "Shifted" "form" "Clause", meB K "Scaled" "form" "Clause", meB K "Clause" "form" "Clause", meB K "General" "result_of" "Clause", meB K "Voucher" "result_of" "Clause", meB K "Fee" "result_of" "Clause", meB K "Claim" "result_of" "Clause", meB K "Cap" "result_of" "Clause", meB K "Floor" "result_of" "Clause", meB K "Percent" "result_of" "Clause", meB K "Fixed" "result_of" "Clause", meB K "Bounded" "result_of" "Clause", meB K "Shifted" "result_of" "Clause", meB K "Scaled" "result_of" "Clause", meB K "Clause" "result_of" "Clause", is7B K "Clause", isB K "Clause" isT_Clause, alB K clsN, eqB K "General" "Clause", eqB K "Voucher" "Clause", eqB K "Fee" "Clause", eqB K "Claim" "Clause", eqB K "Cap" "Clause", eqB K "Floor" "Clause", eqB K "Percent" "Clause", eqB K "Fixed" "Clause", eqB K "Bounded" "Clause", eqB K "Shifted" "Clause", eqB K "Scaled" "Clause", eqB K "Clause" "Clause", meB K "General" "__str__" "Clause", meB K "Voucher" "__str__" "Clause", meB K "Fee" "__str__" "Clause", meB K "Claim" "__str__" "Clause", meB K "Cap" "__str__" "Clause", meB K "Floor" "__str__" "Clause", meB K "Percent" "__str__" "Clause", meB K "Fixed" "__str__" "Clause", meB K "Bounded" "__str__" "Clause", meB K "Shifted" "__str__" "Clause", meB K "Scaled" "__str__" "Clause", meB K "Clause" "__str__" "Clause", mkB K "Voucher" "Bounded", mkB K "Fee" "Shifted", mkB K "Claim" "Bounded", mkB K "Bounded" "Bounded", mkB K "Shifted" "Shifted", mkB K "Scaled" "Scaled", mkB K "Clause" "Clause", mkB K "General" "Bounded", subsB K subT, mkB K "Fixed" "Fixed", mkB K "Percent" "Percent", mkB K "Floor" "Floor", mkB K "Cap" "Cap"]
structure Txt (P : Program) (K : PySem.W.Frag) (mg : Str → Option Value) (A : Nat → Addr) (D : Nat → FuncData) : Prop where
  d_l_feed : DefAt K mg "_law_feed" (topS 56) ["_law_script"] (A 56) (D 56)
  d_common_divisor : DefAt K mg "common_divisor" (topS 6) ["one", "other"] (A 6) (D 6)
  d_fraction : DefAtD K mg "fraction" (topS 12) [.int 1] [] (A 12) (D 12)
  d_fraction_product : DefAtV K mg "fraction_product" (topS 14) "fractions" (A 14) (D 14)
  d_constant_clause : DefAt K mg "constant_clause" (topS 18) ["amount"] (A 18) (D 18)
  d_is_less : DefAt K mg "is_less" (topS 8) ["one", "other"] (A 8) (D 8)
  d_bounded : DefAt K mg "bounded" (topS 15) ["amount", "low", "high"] (A 15) (D 15)
  d_normal_form : DefAtD K mg "normal_form" (topS 19) [] [("low", .non), ("high", .non)] (A 19) (D 19)
  d_fraction_sum : DefAtV K mg "fraction_sum" (topS 13) "fractions" (A 13) (D 13)
  d_applied : DefAt K mg "applied" (topS 20) ["clause", "amount"] (A 20) (D 20)
  d_end_after : DefAt K mg "end_after" (topS 21) ["end", "clause", "bound"] (A 21) (D 21)
  d_chained_two : DefAt K mg "chained_two" (topS 22) ["one", "other"] (A 22) (D 22)
  d_chained : DefAtV K mg "chained" (topS 23) "clauses" (A 23) (D 23)
  d_long_word : DefAt K mg "long_word" (topS 27) ["number"] (A 27) (D 27)
  d_fraction_text : DefAt K mg "fraction_text" (topS 30) ["fraction"] (A 30) (D 30)
  d_bound_text : DefAt K mg "bound_text" (topS 31) ["bound"] (A 31) (D 31)
  d_clause_text : DefAt K mg "clause_text" (topS 32) ["clause"] (A 32) (D 32)
  d_l_bare_right : DefAt K mg "_law_bare_right" (topS 78) [] (A 78) (D 78)
  d_l_draw : DefAt K mg "_law_draw" (topS 57) ["_law_feed_here", "_law_many"] (A 57) (D 57)
  d_l_sizes : DefAt K mg "_law_sizes" (topS 69) [] (A 69) (D 69)
  d_l_size : DefAt K mg "_law_size" (topS 70) ["_law_feed_here"] (A 70) (D 70)
  d_l_less : DefAt K mg "_law_less" (topS 62) ["_law_one", "_law_other"] (A 62) (D 62)
  d_l_raw : DefAt K mg "_law_raw" (topS 71) ["_law_feed_here"] (A 71) (D 71)
  d_l_constant : DefAt K mg "_law_constant" (topS 65) ["_law_size_here"] (A 65) (D 65)
  d_l_bounded : DefAt K mg "_law_bounded" (topS 63) ["_law_size_here", "_law_low_in", "_law_high_in"] (A 63) (D 63)
  d_l_normal : DefAt K mg "_law_normal" (topS 66) ["_law_ratio_here", "_law_more", "_law_low_in", "_law_high_in"] (A 66) (D 66)
  d_l_gcd : DefAt K mg "_law_gcd" (topS 58) ["_law_one", "_law_other"] (A 58) (D 58)
  d_l_ratio : DefAt K mg "_law_ratio" (topS 59) ["_law_top", "_law_under"] (A 59) (D 59)
  d_l_times : DefAt K mg "_law_times" (topS 61) ["_law_one", "_law_other"] (A 61) (D 61)
  d_l_made : DefAt K mg "_law_made" (topS 73) ["_law_kind", "_law_raw_here"] (A 73) (D 73)
  d_l_add : DefAt K mg "_law_add" (topS 60) ["_law_one", "_law_other"] (A 60) (D 60)
  d_l_apply : DefAt K mg "_law_apply" (topS 64) ["_law_item", "_law_size_here"] (A 64) (D 64)
  d_l_then : DefAt K mg "_law_then" (topS 67) ["_law_one", "_law_other"] (A 67) (D 67)
  d_l_chain : DefAt K mg "_law_chain" (topS 68) ["_law_items"] (A 68) (D 68)
  d_l_amounts : DefAt K mg "_law_amounts" (topS 72) [] (A 72) (D 72)
  d_l_ratio_text : DefAt K mg "_law_ratio_text" (topS 75) ["_law_size_here"] (A 75) (D 75)
  d_l_item_text : DefAt K mg "_law_item_text" (topS 76) ["_law_item"] (A 76) (D 76)
  d_l_object_right : DefAt K mg "_law_object_right" (topS 77) ["_law_thing", "_law_due"] (A 77) (D 77)
  d_l_read_off : DefAt K mg "_law_read_off" (topS 74) ["_law_thing", "_law_name"] (A 74) (D 74)
  d_law : DefAt K mg "law" (topS 79) ["_law_script"] (A 79) (D 79)
  q_fraction_2 : PB K (D 12) ["numerator", "denominator"] 2 [] [.inl 0, .inl 1]
  q_normal_form_2_low_high : PB K (D 19) ["factor", "plus", "low", "high"] 2 ["low", "high"] [.inl 0, .inl 1, .inl 2, .inl 3]
  q_normal_form_2 : PB K (D 19) ["factor", "plus", "low", "high"] 2 [] [.inl 0, .inl 1, .inr (.none), .inr (.none)]
  n_abs : mg "abs" = none
  n_enumerate : mg "enumerate" = none
  n_isinstance : mg "isinstance" = none
  n_len : mg "len" = none
  n_list : mg "list" = none
  n_range : mg "range" = none
  n_repr : mg "repr" = none
  n_str : mg "str" = none
  c_IDENTITY : ConV K mg "IDENTITY" (.tuple [.tuple [.int 1, .int 1], .tuple [.int 0, .int 1], .none, .none])
  c_NO_BOUND : ∃ u, mg "NO_BOUND" = some u ∧ RelV (.str "-") u
  c_PIECE : ∃ u, mg "PIECE" = some u ∧ RelV (.int 1000000000000000000000000000000000000000000000000000000000000) u
  e_Clause_init : MetF K "Clause" "__init__" "Clause.__init__" (inCls (topS 43) 1) ["self"]
  e_Clause_parts : MetF K "Clause" "parts" "Clause.parts" (inCls (topS 43) 2) ["self"]
  e_Clause_form : MetF K "Clause" "form" "Clause.form" (inCls (topS 43) 3) ["self"]
  e_Clause_result_of : MetF K "Clause" "result_of" "Clause.result_of" (inCls (topS 43) 4) ["self", "amount"]
  e_Clause_eq : MetF K "Clause" "__eq__" "Clause.__eq__" (inCls (topS 43) 5) ["self", "other"]
  e_Clause_str : MetF K "Clause" "__str__" "Clause.__str__" (inCls (topS 43) 6) ["self"]
  e_Scaled_init : SupG P K "Scaled" "__init__" "Scaled.__init__" "self" (inCls (topS 44) 0) [("factor", .tuple [.int 1, .int 1])]
  e_Shifted_init : SupG P K "Shifted" "__init__" "Shifted.__init__" "self" (inCls (topS 45) 0) [("plus", .tuple [.int 0, .int 1])]
  e_Bounded_init : SupG P K "Bounded" "__init__" "Bounded.__init__" "self" (inCls (topS 46) 0) [("low", .none), ("high", .none)]
  e_Fixed_init : SupG P K "Fixed" "__init__" "Fixed.__init__" "self" (inCls (topS 47) 0) []
  e_Percent_init : SupG P K "Percent" "__init__" "Percent.__init__" "self" (inCls (topS 48) 0) []
  e_Floor_init : SupG P K "Floor" "__init__" "Floor.__init__" "self" (inCls (topS 49) 0) []
  e_Cap_init : SupG P K "Cap" "__init__" "Cap.__init__" "self" (inCls (topS 50) 0) []
  e_Scaled_parts : SupG P K "Scaled" "parts" "Scaled.parts" "self" (inCls (topS 44) 1) []
  e_Shifted_parts : SupG P K "Shifted" "parts" "Shifted.parts" "self" (inCls (topS 45) 1) []
  e_Bounded_parts : SupG P K "Bounded" "parts" "Bounded.parts" "self" (inCls (topS 46) 1) []
  e_Fixed_parts : SupG P K "Fixed" "parts" "Fixed.parts" "self" (inCls (topS 47) 1) []
  g_Clause : mg "Clause" = some (.ref (clsA K "Clause"))
  g_Voucher : mg "Voucher" = some (.ref (clsA K "Voucher"))
  g_Fee : mg "Fee" = some (.ref (clsA K "Fee"))
  g_Claim : mg "Claim" = some (.ref (clsA K "Claim"))
  g_Bounded : mg "Bounded" = some (.ref (clsA K "Bounded"))
  g_Shifted : mg "Shifted" = some (.ref (clsA K "Shifted"))
  g_Scaled : mg "Scaled" = some (.ref (clsA K "Scaled"))
  g_General : mg "General" = some (.ref (clsA K "General"))
  g_Fixed : mg "Fixed" = some (.ref (clsA K "Fixed"))
  g_Percent : mg "Percent" = some (.ref (clsA K "Percent"))
  g_Floor : mg "Floor" = some (.ref (clsA K "Floor"))
  g_Cap : mg "Cap" = some (.ref (clsA K "Cap"))
  cv_Clause_IDENTITY : CvEx K "Clause" "IDENTITY" (.tuple [.tuple [.int 1, .int 1], .tuple [.int 0, .int 1], .none, .none])
  ck : (cksL K).all id = true
section
variable {P : Program} {w : World} {K : PySem.W.Frag} {mg : Str → Option Value} {base : Heap} {A : Nat → Addr} {D : Nat → FuncData}
abbrev s_l_feed : Stmt := topS 56
abbrev N_l_feed : List Str := ["_law_script"]
theorem sc_l_feed : FnScope N_l_feed ["_law_script"] (defScope s_l_feed) := ⟨rfl, rfl, rfl, by decide +kernel, rfl, by decide +kernel, by decide +kernel⟩
def b_l_feed : XS := sRetO (nDisp [(xC (.str "cells"), x1 listD (xScr 0 none (some 63))), (xC (.str "at"), xC (.int 0)), (xC (.str "left"), xC (.int 0)), (xC (.str "count"), xC (.int 0))])
def m_l_feed : XF := runF 1 b_l_feed
theorem ok_l_feed (T : Txt P K mg A D) : FnG P w K mg base 1 (A 56) (D 56) ["_law_script"] m_l_feed :=
  fn_body T.d_l_feed.F sc_l_feed fun cdv A outer s H room hG => ssd_one (sd_retO (nd_disp (psd_cons (ed_str) (ed_t1 call_list_of c1_list T.n_list b_list (ED.od (ed_scrTo 0))) (psd_cons (ed_str) (ed_int) (psd_cons (ed_str) (ed_int) (psd_cons (ed_str) (ed_int) (psd_nil)))))))
abbrev s_common_divisor : Stmt := topS 6
abbrev N_common_divisor : List Str := ["one", "other"]
theorem sc_common_divisor : FnScope N_common_divisor ["one", "other"] (defScope s_common_divisor) := ⟨rfl, rfl, rfl, by decide +kernel, rfl, by decide +kernel, by decide +kernel⟩
def b_common_divisor : XS := sSeq (sWh (gcdFuel) (tst (x2 neD (xVar 1) (xC (.int 0)))) (sPar 0 1 (xVar 1) (x2 modD (xVar 0) (xVar 1)))) (sRet (x1 absD (xVar 0)))
def m_common_divisor : XF := runF 2 b_common_divisor
theorem ok_common_divisor (T : Txt P K mg A D) : FnG P w K mg base 1 (A 6) (D 6) ["one", "other"] m_common_divisor :=
  fn_body T.d_common_divisor.F sc_common_divisor fun cdv A outer s H room hG => ssd_cons (sd_wh (gcdFuel) PassesOwn.never (td_cmp (op_neX room.u64) r2_ne (ed_var 1) (ED.od (ed_int))) (ssd_one (sd_par rfl sc_common_divisor.nd (ed_var 1) (ed_bin op_modD r2_mod (ed_var 0) (ED.od (ed_var 1)))))) (ssd_one (sd_ret (ed_c1 call_abs c1_abs T.n_abs b_abs (ED.od (ed_var 0)))))
abbrev s_fraction : Stmt := topS 12
abbrev N_fraction : List Str := ["numerator", "denominator", "divisor", "sign"]
theorem sc_fraction : FnScope N_fraction ["numerator", "denominator"] (defScope s_fraction) := ⟨rfl, rfl, rfl, by decide +kernel, rfl, by decide +kernel, by decide +kernel⟩
def b_fraction : XS := sSeq (sSet 2 (xCall (arity 2 m_common_divisor) (aCons (xVar 0) (aCons (xVar 1) (aNil))))) (sSeq (sSet 3 (xIf (tst (x2 gtD (xVar 1) (xC (.int 0)))) (xC (.int 1)) (x1 negD (xC (.int 1))))) (sRet (xTup (aCons (x2 fdivD (x2 mulD (xVar 3) (xVar 0)) (xVar 2)) (aCons (x2 fdivD (x2 mulD (xVar 3) (xVar 1)) (xVar 2)) (aNil))))))
def m_fraction : XF := runF 4 b_fraction
theorem ok_fraction (T : Txt P K mg A D) : FnG P w K mg base 2 (A 12) (D 12) ["numerator", "denominator"] m_fraction :=
  fn_bodyD T.d_fraction.F sc_fraction fun cdv A outer s H room hG => ssd_cons (sd_set 2 sc_fraction.nd (CD.ed (cd_call (ok_common_divisor T) (room.mono (by decide)) hG T.d_common_divisor.g T.d_common_divisor.F.kp T.d_common_divisor.b (ad_cons (ed_var 0) (ad_cons (ed_var 1) (ad_nil)))))) (ssd_cons (sd_set 3 sc_fraction.nd (ed_if (td_cmp op_gt r2_gt (ed_var 1) (ED.od (ed_int))) (ed_int) (ed_neg (ED.od (ed_int))))) (ssd_one (sd_ret (ed_tup (ad_cons (ed_bin op_fdivD r2_fdiv (ed_bin op_mulD r2_mul (ed_var 3) (ED.od (ed_var 0))) (ED.od (ed_var 2))) (ad_cons (ed_bin op_fdivD r2_fdiv (ed_bin op_mulD r2_mul (ed_var 3) (ED.od (ed_var 1))) (ED.od (ed_var 2))) (ad_nil)))))))
abbrev s_fraction_product : Stmt := topS 14
abbrev N_fraction_product : List Str := ["fractions", "found", "numerator", "denominator"]
theorem sc_fraction_product : FnScope N_fraction_product ["fractions"] (defScope s_fraction_product) := ⟨rfl, rfl, rfl, by decide +kernel, rfl, by decide +kernel, by decide +kernel⟩
def b_fraction_product : XS := sSeq (sSet 1 (xTup (aCons (xC (.int 1)) (aCons (xC (.int 1)) (aNil))))) (sSeq (sFor (iOf (xVar 0)) (gTp 2 (gsCons (gNm 2) (gsCons (gNm 3) (gsNil)))) (sSet 1 (xCall m_fraction (aPick [.inl 0, .inl 1] (aCons (x2 mulD (x2 idxD (xVar 1) (xC (.int 0))) (xVar 2)) (aCons (x2 mulD (x2 idxD (xVar 1) (xC (.int 1))) (xVar 3)) (aNil))) (aNil))))) (sRet (xVar 1)))
def m_fraction_product : XF := starF (runF 4 b_fraction_product)
theorem ok_fraction_product (T : Txt P K mg A D) : FnV P w K mg base 3 (A 14) m_fraction_product :=
  fn_bodyV T.d_fraction_product.F sc_fraction_product T.d_fraction_product.bv fun cdv A outer s H room hG => ssd_cons (sd_set 1 sc_fraction_product.nd (ed_tup (ad_cons (ed_int) (ad_cons (ed_int) (ad_nil))))) (ssd_cons (sd_for PassesOwn.never rfl (id_seq (ed_var 0)) (gd_tup rfl (gsd_cons (gd_name 2 sc_fraction_product.nd) (gsd_cons (gd_name 3 sc_fraction_product.nd) (gsd_nil)))) (ssd_one (sd_set 1 sc_fraction_product.nd (CD.ed (cd_callP (ok_fraction T) (room.mono (by decide)) hG T.d_fraction.g T.d_fraction.F.kp T.q_fraction_2 (ad_cons (ed_bin op_mulD r2_mul (ed_ix (ed_var 1) (ED.od (ed_int))) (ED.od (ed_var 2))) (ad_cons (ed_bin op_mulD r2_mul (ed_ix (ed_var 1) (ED.od (ed_int))) (ED.od (ed_var 3))) (ad_nil))) (ln_cons (ln_cons (ln_nil)))))))) (ssd_one (sd_ret (ed_var 1))))
abbrev s_constant_clause : Stmt := topS 18
abbrev N_constant_clause : List Str := ["amount"]
theorem sc_constant_clause : FnScope N_constant_clause ["amount"] (defScope s_constant_clause) := ⟨rfl, rfl, rfl, by decide +kernel, rfl, by decide +kernel, by decide +kernel⟩
def b_constant_clause : XS := sRet (xTup (aCons (xTup (aCons (xC (.int 0)) (aCons (xC (.int 1)) (aNil)))) (aCons (xVar 0) (aCons (xC .none) (aCons (xC .none) (aNil))))))
def m_constant_clause : XF := runF 1 b_constant_clause
theorem ok_constant_clause (T : Txt P K mg A D) : FnG P w K mg base 1 (A 18) (D 18) ["amount"] m_constant_clause :=
  fn_body T.d_constant_clause.F sc_constant_clause fun cdv A outer s H room hG => ssd_one (sd_ret (ed_tup (ad_cons (ed_tup (ad_cons (ed_int) (ad_cons (ed_int) (ad_nil)))) (ad_cons (ed_var 0) (ad_cons (ed_non) (ad_cons (ed_non) (ad_nil)))))))
abbrev s_is_less : Stmt := topS 8
abbrev N_is_less : List Str := ["one", "other"]
theorem sc_is_less : FnScope N_is_less ["one", "other"] (defScope s_is_less) := ⟨rfl, rfl, rfl, by decide +kernel, rfl, by decide +kernel, by decide +kernel⟩
def b_is_less : XS := sRet (x2 ltD (x2 mulD (x2 idxD (xVar 0) (xC (.int 0))) (x2 idxD (xVar 1) (xC (.int 1)))) (x2 mulD (x2 idxD (xVar 1) (xC (.int 0))) (x2 idxD (xVar 0) (xC (.int 1)))))
def m_is_less : XF := runF 2 b_is_less
theorem ok_is_less (T : Txt P K mg A D) : FnG P w K mg base 1 (A 8) (D 8) ["one", "other"] m_is_less :=
  fn_body T.d_is_less.F sc_is_less fun cdv A outer s H room hG => ssd_one (sd_ret (ed_cmp op_ltD r2_lt (ed_bin op_mulD r2_mul (ed_ix (ed_var 0) (ED.od (ed_int))) (ED.od (ed_ix (ed_var 1) (ED.od (ed_int))))) (ED.od (ed_bin op_mulD r2_mul (ed_ix (ed_var 1) (ED.od (ed_int))) (ED.od (ed_ix (ed_var 0) (ED.od (ed_int))))))))
abbrev s_bounded : Stmt := topS 15
abbrev N_bounded : List Str := ["amount", "low", "high"]
theorem sc_bounded : FnScope N_bounded ["amount", "low", "high"] (defScope s_bounded) := ⟨rfl, rfl, rfl, by decide +kernel, rfl, by decide +kernel, by decide +kernel⟩
def b_bounded : XS := sSeq (sIf (xAndT (tst (x2 notNonD (xVar 1) (xC .none))) (xTru (xCall (arity 2 m_is_less) (aCons (xVar 0) (aCons (xVar 1) (aNil)))))) (sSet 0 (xVar 1)) (sNil)) (sSeq (sIf (xAndT (tst (x2 notNonD (xVar 2) (xC .none))) (xTru (xCall (arity 2 m_is_less) (aCons (xVar 2) (aCons (xVar 0) (aNil)))))) (sRet (xVar 2)) (sNil)) (sRet (xVar 0)))
def m_bounded : XF := runF 3 b_bounded
theorem ok_bounded (T : Txt P K mg A D) : FnG P w K mg base 2 (A 15) (D 15) ["amount", "low", "high"] m_bounded :=
  fn_body T.d_bounded.F sc_bounded fun cdv A outer s H room hG => ssd_cons (sd_if (WD.td (wd_and (td_cmp op_notN r2_notN (ed_var 1) (ED.od (ed_non))) (wd_and1 (td_tru (ED.od (CD.ed (cd_call (ok_is_less T) (room.mono (by decide)) hG T.d_is_less.g T.d_is_less.F.kp T.d_is_less.b (ad_cons (ed_var 0) (ad_cons (ed_var 1) (ad_nil)))))))))) (ssd_one (sd_set 0 sc_bounded.nd (ed_var 1))) (ssd_nil)) (ssd_cons (sd_if (WD.td (wd_and (td_cmp op_notN r2_notN (ed_var 2) (ED.od (ed_non))) (wd_and1 (td_tru (ED.od (CD.ed (cd_call (ok_is_less T) (room.mono (by decide)) hG T.d_is_less.g T.d_is_less.F.kp T.d_is_less.b (ad_cons (ed_var 2) (ad_cons (ed_var 0) (ad_nil)))))))))) (ssd_one (sd_ret (ed_var 2))) (ssd_nil)) (ssd_one (sd_ret (ed_var 0))))
abbrev s_normal_form : Stmt := topS 19
abbrev N_normal_form : List Str := ["factor", "plus", "low", "high"]
theorem sc_normal_form : FnScope N_normal_form ["factor", "plus", "low", "high"] (defScope s_normal_form) := ⟨rfl, rfl, rfl, by decide +kernel, rfl, by decide +kernel, by decide +kernel⟩
def b_normal_form : XS := sSeq (sIf (tst (x2 eqD (xVar 0) (xTup (aCons (xC (.int 0)) (aCons (xC (.int 1)) (aNil)))))) (sRet (xCall (arity 1 m_constant_clause) (aCons (xCall (arity 3 m_bounded) (aCons (xVar 1) (aCons (xVar 2) (aCons (xVar 3) (aNil))))) (aNil)))) (sNil)) (sSeq (sIf (xAndT (tst (x2 notNonD (xVar 2) (xC .none))) (tst (x2 eqD (xVar 2) (xVar 3)))) (sRet (xCall (arity 1 m_constant_clause) (aCons (xVar 2) (aNil)))) (sNil)) (sRet (xTup (aCons (xVar 0) (aCons (xVar 1) (aCons (xVar 2) (aCons (xVar 3) (aNil))))))))
def m_normal_form : XF := runF 4 b_normal_form
theorem ok_normal_form (T : Txt P K mg A D) : FnG P w K mg base 3 (A 19) (D 19) ["factor", "plus", "low", "high"] m_normal_form :=
  fn_bodyD T.d_normal_form.F sc_normal_form fun cdv A outer s H room hG => ssd_cons (sd_if (td_cmp (op_eqX room.u64) r2_eq (ed_var 0) (ED.od (ed_tup (ad_cons (ed_int) (ad_cons (ed_int) (ad_nil)))))) (ssd_one (sd_ret (CD.ed (cd_call (ok_constant_clause T) (room.mono (by decide)) hG T.d_constant_clause.g T.d_constant_clause.F.kp T.d_constant_clause.b (ad_cons (CD.ed (cd_call (ok_bounded T) (room.mono (by decide)) hG T.d_bounded.g T.d_bounded.F.kp T.d_bounded.b (ad_cons (ed_var 1) (ad_cons (ed_var 2) (ad_cons (ed_var 3) (ad_nil)))))) (ad_nil)))))) (ssd_nil)) (ssd_cons (sd_if (WD.td (wd_and (td_cmp op_notN r2_notN (ed_var 2) (ED.od (ed_non))) (wd_and1 (td_cmp (op_eqX room.u64) r2_eq (ed_var 2) (ED.od (ed_var 3)))))) (ssd_one (sd_ret (CD.ed (cd_call (ok_constant_clause T) (room.mono (by decide)) hG T.d_constant_clause.g T.d_constant_clause.F.kp T.d_constant_clause.b (ad_cons (ed_var 2) (ad_nil)))))) (ssd_nil)) (ssd_one (sd_ret (ed_tup (ad_cons (ed_var 0) (ad_cons (ed_var 1) (ad_cons (ed_var 2) (ad_cons (ed_var 3) (ad_nil)))))))))
abbrev s_fraction_sum : Stmt := topS 13
abbrev N_fraction_sum : List Str := ["fractions", "found", "numerator", "denominator"]
theorem sc_fraction_sum : FnScope N_fraction_sum ["fractions"] (defScope s_fraction_sum) := ⟨rfl, rfl, rfl, by decide +kernel, rfl, by decide +kernel, by decide +kernel⟩
def b_fraction_sum : XS := sSeq (sSet 1 (xTup (aCons (xC (.int 0)) (aCons (xC (.int 1)) (aNil))))) (sSeq (sFor (iOf (xVar 0)) (gTp 2 (gsCons (gNm 2) (gsCons (gNm 3) (gsNil)))) (sSet 1 (xCall m_fraction (aPick [.inl 0, .inl 1] (aCons (x2 addD (x2 mulD (x2 idxD (xVar 1) (xC (.int 0))) (xVar 3)) (x2 mulD (xVar 2) (x2 idxD (xVar 1) (xC (.int 1))))) (aCons (x2 mulD (x2 idxD (xVar 1) (xC (.int 1))) (xVar 3)) (aNil))) (aNil))))) (sRet (xVar 1)))
def m_fraction_sum : XF := starF (runF 4 b_fraction_sum)
theorem ok_fraction_sum (T : Txt P K mg A D) : FnV P w K mg base 3 (A 13) m_fraction_sum :=
  fn_bodyV T.d_fraction_sum.F sc_fraction_sum T.d_fraction_sum.bv fun cdv A outer s H room hG => ssd_cons (sd_set 1 sc_fraction_sum.nd (ed_tup (ad_cons (ed_int) (ad_cons (ed_int) (ad_nil))))) (ssd_cons (sd_for PassesOwn.never rfl (id_seq (ed_var 0)) (gd_tup rfl (gsd_cons (gd_name 2 sc_fraction_sum.nd) (gsd_cons (gd_name 3 sc_fraction_sum.nd) (gsd_nil)))) (ssd_one (sd_set 1 sc_fraction_sum.nd (CD.ed (cd_callP (ok_fraction T) (room.mono (by decide)) hG T.d_fraction.g T.d_fraction.F.kp T.q_fraction_2 (ad_cons (ed_bin op_addD r2_add (ed_bin op_mulD r2_mul (ed_ix (ed_var 1) (ED.od (ed_int))) (ED.od (ed_var 3))) (ED.od (ed_bin op_mulD r2_mul (ed_var 2) (ED.od (ed_ix (ed_var 1) (ED.od (ed_int))))))) (ad_cons (ed_bin op_mulD r2_mul (ed_ix (ed_var 1) (ED.od (ed_int))) (ED.od (ed_var 3))) (ad_nil))) (ln_cons (ln_cons (ln_nil)))))))) (ssd_one (sd_ret (ed_var 1))))
abbrev s_applied : Stmt := topS 20
abbrev N_applied : List Str := ["clause", "amount", "factor", "plus", "low", "high"]
theorem sc_applied : FnScope N_applied ["clause", "amount"] (defScope s_applied) := ⟨rfl, rfl, rfl, by decide +kernel, rfl, by decide +kernel, by decide +kernel⟩
def b_applied : XS := sSeq (sAsg (xVar 0) (gTp 4 (gsCons (gNm 2) (gsCons (gNm 3) (gsCons (gNm 4) (gsCons (gNm 5) (gsNil))))))) (sRet (xCall (arity 3 m_bounded) (aCons (xCall m_fraction_sum (aCons (xCall m_fraction_product (aCons (xVar 2) (aCons (xVar 1) (aNil)))) (aCons (xVar 3) (aNil)))) (aCons (xVar 4) (aCons (xVar 5) (aNil))))))
def m_applied : XF := runF 6 b_applied
theorem ok_applied (T : Txt P K mg A D) : FnG P w K mg base 4 (A 20) (D 20) ["clause", "amount"] m_applied :=
  fn_body T.d_applied.F sc_applied fun cdv A outer s H room hG => ssd_cons (sd_asg (ed_var 0) (gd_tup rfl (gsd_cons (gd_name 2 sc_applied.nd) (gsd_cons (gd_name 3 sc_applied.nd) (gsd_cons (gd_name 4 sc_applied.nd) (gsd_cons (gd_name 5 sc_applied.nd) (gsd_nil))))))) (ssd_one (sd_ret (CD.ed (cd_call (ok_bounded T) (room.mono (by decide)) hG T.d_bounded.g T.d_bounded.F.kp T.d_bounded.b (ad_cons (CD.ed (cd_callV (ok_fraction_sum T) (room.mono (by decide)) hG T.d_fraction_sum.g T.d_fraction_sum.F.kp (ad_cons (CD.ed (cd_callV (ok_fraction_product T) (room.mono (by decide)) hG T.d_fraction_product.g T.d_fraction_product.F.kp (ad_cons (ed_var 2) (ad_cons (ed_var 1) (ad_nil))))) (ad_cons (ed_var 3) (ad_nil))))) (ad_cons (ed_var 4) (ad_cons (ed_var 5) (ad_nil))))))))
abbrev s_end_after : Stmt := topS 21
abbrev N_end_after : List Str := ["end", "clause", "bound"]
theorem sc_end_after : FnScope N_end_after ["end", "clause", "bound"] (defScope s_end_after) := ⟨rfl, rfl, rfl, by decide +kernel, rfl, by decide +kernel, by decide +kernel⟩
def b_end_after : XS := sRet (xIf (tst (x2 isNonD (xVar 0) (xC .none))) (xVar 2) (xCall (arity 2 m_applied) (aCons (xVar 1) (aCons (xVar 0) (aNil)))))
def m_end_after : XF := runF 3 b_end_after
theorem ok_end_after (T : Txt P K mg A D) : FnG P w K mg base 5 (A 21) (D 21) ["end", "clause", "bound"] m_end_after :=
  fn_body T.d_end_after.F sc_end_after fun cdv A outer s H room hG => ssd_one (sd_ret (ed_if (td_cmp op_isN r2_isN (ed_var 0) (ED.od (ed_non))) (ed_var 2) (CD.ed (cd_call (ok_applied T) (room.mono (by decide)) hG T.d_applied.g T.d_applied.F.kp T.d_applied.b (ad_cons (ed_var 1) (ad_cons (ed_var 0) (ad_nil)))))))
abbrev s_chained_two : Stmt := topS 22
abbrev N_chained_two : List Str := ["one", "other", "factor", "plus", "low"]
theorem sc_chained_two : FnScope N_chained_two ["one", "other"] (defScope s_chained_two) := ⟨rfl, rfl, rfl, by decide +kernel, rfl, by decide +kernel, by decide +kernel⟩
def b_chained_two : XS := sSeq (sIf (xOrT (tst (x2 eqD (x2 idxD (xVar 0) (xC (.int 0))) (xTup (aCons (xC (.int 0)) (aCons (xC (.int 1)) (aNil)))))) (tst (x2 eqD (x2 idxD (xVar 1) (xC (.int 0))) (xTup (aCons (xC (.int 0)) (aCons (xC (.int 1)) (aNil))))))) (sRet (xCall (arity 1 m_constant_clause) (aCons (xCall (arity 2 m_applied) (aCons (xVar 1) (aCons (x2 idxD (xVar 0) (xC (.int 1))) (aNil)))) (aNil)))) (sNil)) (sSeq (sSet 2 (xCall m_fraction_product (aCons (x2 idxD (xVar 0) (xC (.int 0))) (aCons (x2 idxD (xVar 1) (xC (.int 0))) (aNil))))) (sSeq (sSet 3 (xCall m_fraction_sum (aCons (xCall m_fraction_product (aCons (x2 idxD (xVar 1) (xC (.int 0))) (aCons (x2 idxD (xVar 0) (xC (.int 1))) (aNil)))) (aCons (x2 idxD (xVar 1) (xC (.int 1))) (aNil))))) (sSeq (sSet 4 (xCall (arity 3 m_end_after) (aCons (x2 idxD (xVar 0) (xC (.int 2))) (aCons (xVar 1) (aCons (x2 idxD (xVar 1) (xC (.int 2))) (aNil)))))) (sRet (xCall m_normal_form (aPick [.inl 0, .inl 1, .inl 2, .inl 3] (aCons (xVar 2) (aCons (xVar 3) (aNil))) (aCons (xVar 4) (aCons (xCall (arity 3 m_end_after) (aCons (x2 idxD (xVar 0) (xC (.int 3))) (aCons (xVar 1) (aCons (x2 idxD (xVar 1) (xC (.int 3))) (aNil))))) (aNil)))))))))
def m_chained_two : XF := runF 5 b_chained_two
theorem ok_chained_two (T : Txt P K mg A D) : FnG P w K mg base 6 (A 22) (D 22) ["one", "other"] m_chained_two :=
  fn_body T.d_chained_two.F sc_chained_two fun cdv A outer s H room hG => ssd_cons (sd_if (WD.td (wd_or (td_cmp (op_eqX room.u64) r2_eq (ed_ix (ed_var 0) (ED.od (ed_int))) (ED.od (ed_tup (ad_cons (ed_int) (ad_cons (ed_int) (ad_nil)))))) (wd_or1 (td_cmp (op_eqX room.u64) r2_eq (ed_ix (ed_var 1) (ED.od (ed_int))) (ED.od (ed_tup (ad_cons (ed_int) (ad_cons (ed_int) (ad_nil))))))))) (ssd_one (sd_ret (CD.ed (cd_call (ok_constant_clause T) (room.mono (by decide)) hG T.d_constant_clause.g T.d_constant_clause.F.kp T.d_constant_clause.b (ad_cons (CD.ed (cd_call (ok_applied T) (room.mono (by decide)) hG T.d_applied.g T.d_applied.F.kp T.d_applied.b (ad_cons (ed_var 1) (ad_cons (ed_ix (ed_var 0) (ED.od (ed_int))) (ad_nil))))) (ad_nil)))))) (ssd_nil)) (ssd_cons (sd_set 2 sc_chained_two.nd (CD.ed (cd_callV (ok_fraction_product T) (room.mono (by decide)) hG T.d_fraction_product.g T.d_fraction_product.F.kp (ad_cons (ed_ix (ed_var 0) (ED.od (ed_int))) (ad_cons (ed_ix (ed_var 1) (ED.od (ed_int))) (ad_nil)))))) (ssd_cons (sd_set 3 sc_chained_two.nd (CD.ed (cd_callV (ok_fraction_sum T) (room.mono (by decide)) hG T.d_fraction_sum.g T.d_fraction_sum.F.kp (ad_cons (CD.ed (cd_callV (ok_fraction_product T) (room.mono (by decide)) hG T.d_fraction_product.g T.d_fraction_product.F.kp (ad_cons (ed_ix (ed_var 1) (ED.od (ed_int))) (ad_cons (ed_ix (ed_var 0) (ED.od (ed_int))) (ad_nil))))) (ad_cons (ed_ix (ed_var 1) (ED.od (ed_int))) (ad_nil)))))) (ssd_cons (sd_set 4 sc_chained_two.nd (CD.ed (cd_call (ok_end_after T) (room.mono (by decide)) hG T.d_end_after.g T.d_end_after.F.kp T.d_end_after.b (ad_cons (ed_ix (ed_var 0) (ED.od (ed_int))) (ad_cons (ed_var 1) (ad_cons (ed_ix (ed_var 1) (ED.od (ed_int))) (ad_nil))))))) (ssd_one (sd_ret (CD.ed (cd_callPQ (ok_normal_form T) (room.mono (by decide)) hG T.d_normal_form.g T.d_normal_form.F.kp T.q_normal_form_2_low_high (ad_cons (ed_var 2) (ad_cons (ed_var 3) (ad_nil))) (kd_cons (ed_var 4) (kd_cons (CD.ed (cd_call (ok_end_after T) (room.mono (by decide)) hG T.d_end_after.g T.d_end_after.F.kp T.d_end_after.b (ad_cons (ed_ix (ed_var 0) (ED.od (ed_int))) (ad_cons (ed_var 1) (ad_cons (ed_ix (ed_var 1) (ED.od (ed_int))) (ad_nil)))))) (kd_nil))) (ln_cons (ln_cons (ln_nil))) (ln_cons (ln_cons (ln_nil))))))))))
abbrev s_chained : Stmt := topS 23
abbrev N_chained : List Str := ["clauses", "found", "clause"]
theorem sc_chained : FnScope N_chained ["clauses"] (defScope s_chained) := ⟨rfl, rfl, rfl, by decide +kernel, rfl, by decide +kernel, by decide +kernel⟩
def b_chained : XS := sSeq (sSet 1 (xC (.tuple [.tuple [.int 1, .int 1], .tuple [.int 0, .int 1], .none, .none]))) (sSeq (sFor (iOf (xVar 0)) (gNm 2) (sSet 1 (xCall (arity 2 m_chained_two) (aCons (xVar 1) (aCons (xVar 2) (aNil)))))) (sRet (xVar 1)))
def m_chained : XF := starF (runF 3 b_chained)
theorem ok_chained (T : Txt P K mg A D) : FnV P w K mg base 7 (A 23) m_chained :=
  fn_bodyV T.d_chained.F sc_chained T.d_chained.bv fun cdv A outer s H room hG => ssd_cons (sd_set 1 sc_chained.nd (ed_globT T.c_IDENTITY)) (ssd_cons (sd_for PassesOwn.never rfl (id_seq (ed_var 0)) (gd_name 2 sc_chained.nd) (ssd_one (sd_set 1 sc_chained.nd (CD.ed (cd_call (ok_chained_two T) (room.mono (by decide)) hG T.d_chained_two.g T.d_chained_two.F.kp T.d_chained_two.b (ad_cons (ed_var 1) (ad_cons (ed_var 2) (ad_nil)))))))) (ssd_one (sd_ret (ed_var 1))))
abbrev s_long_word : Stmt := topS 27
abbrev N_long_word : List Str := ["number", "rest", "pieces", "sign"]
theorem sc_long_word : FnScope N_long_word ["number"] (defScope s_long_word) := ⟨rfl, rfl, rfl, by decide +kernel, rfl, by decide +kernel, by decide +kernel⟩
def b_long_word : XS := sSeq (sSet 1 (x1 absD (xVar 0))) (sSeq (sNew 2 (nLst (aNil))) (sSeq (sWh (fun _ => 1000) (tst (x2 geD (xVar 1) (xC (.int 1000000000000000000000000000000000000000000000000000000000000)))) (sSeq (sStuck) (sSet 1 (x2 fdivD (xVar 1) (xC (.int 1000000000000000000000000000000000000000000000000000000000000)))))) (sSeq (sSet 3 (xIf (tst (x2 ltD (xVar 0) (xC (.int 0)))) (xC (.str "-")) (xC (.str "")))) (sRet (x2 addD (xVar 3) (x2 (ofS2 joinS) (xC (.str "")) (xLst (aCons (x1 fmtD (xVar 1)) (aSpl (x1 revD (xB (bVar 2))) (aNil))))))))))
def m_long_word : XF := runF 4 b_long_word
theorem ok_long_word (T : Txt P K mg A D) : FnG P w K mg base 1 (A 27) (D 27) ["number"] m_long_word :=
  fn_body T.d_long_word.F sc_long_word fun cdv A outer s H room hG => ssd_cons (sd_set 1 sc_long_word.nd (ed_c1 call_abs c1_abs T.n_abs b_abs (ED.od (ed_var 0)))) (ssd_cons (sd_new 2 sc_long_word.nd (nd_lst (ad_nil))) (ssd_cons (sd_wh (fun _ => 1000) PassesOwn.never (td_cmp op_ge r2_ge (ed_var 1) (ED.od (ed_glob T.c_PIECE (fun _ => .int _)))) (ssd_cons (sd_stuck _) (ssd_one (sd_set 1 sc_long_word.nd (ed_bin op_fdivD r2_fdiv (ed_var 1) (ED.od (ed_glob T.c_PIECE (fun _ => .int _)))))))) (ssd_cons (sd_set 3 sc_long_word.nd (ed_if (td_cmp op_ltD r2_lt (ed_var 0) (ED.od (ed_int))) (ed_str) (ed_str))) (ssd_one (sd_ret (ed_bin op_addD r2_add (ed_var 3) (ED.od (ed_m1 F.slot_str_join F.type_str_join mt_join m1_join (ed_str) (ed_lst (ad_cons (ed_j1 (ed_fmt (ed_var 1))) (ad_spl (ed_revO (BD.od (bd_var 2))) (ad_nil))))))))))))
abbrev s_fraction_text : Stmt := topS 30
abbrev N_fraction_text : List Str := ["fraction", "numerator", "denominator"]
theorem sc_fraction_text : FnScope N_fraction_text ["fraction"] (defScope s_fraction_text) := ⟨rfl, rfl, rfl, by decide +kernel, rfl, by decide +kernel, by decide +kernel⟩
def b_fraction_text : XS := sSeq (sPar 1 2 (xCall (arity 1 m_long_word) (aCons (x2 idxD (xVar 0) (xC (.int 0))) (aNil))) (x2 idxD (xVar 0) (xC (.int 1)))) (sRet (xIf (tst (x2 eqD (xVar 2) (xC (.int 1)))) (x1 fmtD (xVar 1)) (xJ (jCons (x1 fmtD (xVar 1)) (jCons (xC (.str "/")) (jCons (x1 fmtD (xCall (arity 1 m_long_word) (aCons (xVar 2) (aNil)))) (jNil)))))))
def m_fraction_text : XF := runF 3 b_fraction_text
theorem ok_fraction_text (T : Txt P K mg A D) : FnG P w K mg base 2 (A 30) (D 30) ["fraction"] m_fraction_text :=
  fn_body T.d_fraction_text.F sc_fraction_text fun cdv A outer s H room hG => ssd_cons (sd_par rfl sc_fraction_text.nd (CD.ed (cd_call (ok_long_word T) (room.mono (by decide)) hG T.d_long_word.g T.d_long_word.F.kp T.d_long_word.b (ad_cons (ed_ix (ed_var 0) (ED.od (ed_int))) (ad_nil)))) (ed_ix (ed_var 0) (ED.od (ed_int)))) (ssd_one (sd_ret (ed_if (td_cmp (op_eqX room.u64) r2_eq (ed_var 2) (ED.od (ed_int))) (ed_j1 (ed_fmt (ed_var 1))) (ed_joined (jd_cons (ed_fmt (ed_var 1)) (jd_cons (ed_str) (jd_cons (ed_fmt (CD.ed (cd_call (ok_long_word T) (room.mono (by decide)) hG T.d_long_word.g T.d_long_word.F.kp T.d_long_word.b (ad_cons (ed_var 2) (ad_nil))))) (jd_nil))))))))
abbrev s_bound_text : Stmt := topS 31
abbrev N_bound_text : List Str := ["bound"]
theorem sc_bound_text : FnScope N_bound_text ["bound"] (defScope s_bound_text) := ⟨rfl, rfl, rfl, by decide +kernel, rfl, by decide +kernel, by decide +kernel⟩
def b_bound_text : XS := sRet (xIf (tst (x2 isNonD (xVar 0) (xC .none))) (xC (.str "-")) (xCall (arity 1 m_fraction_text) (aCons (xVar 0) (aNil))))
def m_bound_text : XF := runF 1 b_bound_text
theorem ok_bound_text (T : Txt P K mg A D) : FnG P w K mg base 3 (A 31) (D 31) ["bound"] m_bound_text :=
  fn_body T.d_bound_text.F sc_bound_text fun cdv A outer s H room hG => ssd_one (sd_ret (ed_if (td_cmp op_isN r2_isN (ed_var 0) (ED.od (ed_non))) (ed_glob T.c_NO_BOUND (fun _ => .str _)) (CD.ed (cd_call (ok_fraction_text T) (room.mono (by decide)) hG T.d_fraction_text.g T.d_fraction_text.F.kp T.d_fraction_text.b (ad_cons (ed_var 0) (ad_nil))))))
abbrev s_clause_text : Stmt := topS 32
abbrev N_clause_text : List Str := ["clause", "factor", "plus", "low", "high"]
theorem sc_clause_text : FnScope N_clause_text ["clause"] (defScope s_clause_text) := ⟨rfl, rfl, rfl, by decide +kernel, rfl, by decide +kernel, by decide +kernel⟩
def b_clause_text : XS := sSeq (sAsg (xVar 0) (gTp 4 (gsCons (gNm 1) (gsCons (gNm 2) (gsCons (gNm 3) (gsCons (gNm 4) (gsNil))))))) (sRet (x2 (ofS2 joinS) (xC (.str ",")) (xLst (aCons (xCall (arity 1 m_fraction_text) (aCons (xVar 1) (aNil))) (aCons (xCall (arity 1 m_fraction_text) (aCons (xVar 2) (aNil))) (aCons (xCall (arity 1 m_bound_text) (aCons (xVar 3) (aNil))) (aCons (xCall (arity 1 m_bound_text) (aCons (xVar 4) (aNil))) (aNil))))))))
def m_clause_text : XF := runF 5 b_clause_text
theorem ok_clause_text (T : Txt P K mg A D) : FnG P w K mg base 4 (A 32) (D 32) ["clause"] m_clause_text :=
  fn_body T.d_clause_text.F sc_clause_text fun cdv A outer s H room hG => ssd_cons (sd_asg (ed_var 0) (gd_tup rfl (gsd_cons (gd_name 1 sc_clause_text.nd) (gsd_cons (gd_name 2 sc_clause_text.nd) (gsd_cons (gd_name 3 sc_clause_text.nd) (gsd_cons (gd_name 4 sc_clause_text.nd) (gsd_nil))))))) (ssd_one (sd_ret (ed_m1 F.slot_str_join F.type_str_join mt_join m1_join (ed_str) (ed_lst (ad_cons (CD.ed (cd_call (ok_fraction_text T) (room.mono (by decide)) hG T.d_fraction_text.g T.d_fraction_text.F.kp T.d_fraction_text.b (ad_cons (ed_var 1) (ad_nil)))) (ad_cons (CD.ed (cd_call (ok_fraction_text T) (room.mono (by decide)) hG T.d_fraction_text.g T.d_fraction_text.F.kp T.d_fraction_text.b (ad_cons (ed_var 2) (ad_nil)))) (ad_cons (CD.ed (cd_call (ok_bound_text T) (room.mono (by decide)) hG T.d_bound_text.g T.d_bound_text.F.kp T.d_bound_text.b (ad_cons (ed_var 3) (ad_nil)))) (ad_cons (CD.ed (cd_call (ok_bound_text T) (room.mono (by decide)) hG T.d_bound_text.g T.d_bound_text.F.kp T.d_bound_text.b (ad_cons (ed_var 4) (ad_nil)))) (ad_nil)))))))))
abbrev s_Clause_init : Stmt := inCls (topS 43) 1
abbrev N_Clause_init : List Str := ["self"]
theorem sc_Clause_init : FnScope N_Clause_init ["self"] (defScope s_Clause_init) := ⟨rfl, rfl, rfl, by decide +kernel, rfl, by decide +kernel, by decide +kernel⟩
def b_Clause_init : XS := sPutF clsN 0 "is_clause_object" (xC (.bool true))
def m_Clause_init : XF := runF 1 b_Clause_init
theorem okg_Clause_init (T : Txt P K mg A D) {fd : FuncData} (F : Fun K "__init__" "Clause.__init__" s_Clause_init (metA K "Clause" "__init__") fd) : FnG P w K mg base 1 (metA K "Clause" "__init__") fd ["self"] m_Clause_init :=
  fn_body F sc_Clause_init fun cdv A outer s H room hG => ssd_one (sd_putF 0 (naB_a (ck_at T.ck 0 rfl)) (ed_bl))
theorem okc_Clause_init (T : Txt P K mg A D) : FnC P w K mg base 1 (metA K "Clause" "__init__") 1 [] m_Clause_init := by
  obtain ⟨fd, F, hb⟩ := T.e_Clause_init
  exact FnC.of (okg_Clause_init T F) hb
abbrev s_Scaled_init : Stmt := inCls (topS 44) 0
abbrev N_Scaled_init : List Str := ["self", "factor", "more", "__class__"]
theorem sc_Scaled_init : NScope N_Scaled_init ["self", "factor", "more"] ["__class__"] (defScope s_Scaled_init) := ⟨rfl, rfl, rfl, by decide +kernel, rfl, by decide +kernel, by decide +kernel, by decide +kernel, by decide +kernel⟩
def b_Scaled_init (n : Str) (m2 : XF) (ks2 : List Str) : XS := sSeq (sDrop (xSup n m2 (aMore 2 ks2))) (sPutF clsN 0 "factor" (xVar 1))
theorem okb_Scaled_init (T : Txt P K mg A D) {n : Str} {m2 : XF} {ks ks2 : List Str} {s1 s2 : Sel} {g : Addr} {k : Nat} (hk : 0 ≤ k) (c : IsC K n (clsA K n)) (hx : NextF K (clsA K n) (clsA K "Scaled") "__init__" g) (F : FnC P w K mg base k g 1 ks2 m2) (nd : ks2.Nodup) (hz : ks2.length ≤ 100)
    (B : ∀ fd, KwF K "__init__" "Scaled.__init__" s_Scaled_init [("factor", .tuple [.int 1, .int 1])] fd → BndM K fd "self" ["factor"] "more" ks ks2 s1 s2) : FnC P w K mg base (k + 1) (metA K "Scaled" "__init__") 1 ks (initF s1 s2 ks2 (runF 4 (b_Scaled_init n m2 ks2))) := by
  obtain ⟨fd, cc, cda, S, hF⟩ := T.e_Scaled_init
  exact fnC_init (N := N_Scaled_init) (body := b_Scaled_init n m2 ks2) (qs := ["factor"]) (mo := "more") S sc_Scaled_init (B fd hF) nd hz fun A outer s H room hG => sat_cons (eat_supM S rfl c hx F room hG rfl (by decide +kernel) hz) (ssd_one (sd_putF 0 (naB_a (ck_at T.ck 1 rfl)) (ed_var 1)))
abbrev s_Shifted_init : Stmt := inCls (topS 45) 0
abbrev N_Shifted_init : List Str := ["self", "plus", "more", "__class__"]
theorem sc_Shifted_init : NScope N_Shifted_init ["self", "plus", "more"] ["__class__"] (defScope s_Shifted_init) := ⟨rfl, rfl, rfl, by decide +kernel, rfl, by decide +kernel, by decide +kernel, by decide +kernel, by decide +kernel⟩
def b_Shifted_init (n : Str) (m2 : XF) (ks2 : List Str) : XS := sSeq (sDrop (xSup n m2 (aMore 2 ks2))) (sPutF clsN 0 "plus" (xVar 1))
theorem okb_Shifted_init (T : Txt P K mg A D) {n : Str} {m2 : XF} {ks ks2 : List Str} {s1 s2 : Sel} {g : Addr} {k : Nat} (hk : 0 ≤ k) (c : IsC K n (clsA K n)) (hx : NextF K (clsA K n) (clsA K "Shifted") "__init__" g) (F : FnC P w K mg base k g 1 ks2 m2) (nd : ks2.Nodup) (hz : ks2.length ≤ 100)
    (B : ∀ fd, KwF K "__init__" "Shifted.__init__" s_Shifted_init [("plus", .tuple [.int 0, .int 1])] fd → BndM K fd "self" ["plus"] "more" ks ks2 s1 s2) : FnC P w K mg base (k + 1) (metA K "Shifted" "__init__") 1 ks (initF s1 s2 ks2 (runF 4 (b_Shifted_init n m2 ks2))) := by
  obtain ⟨fd, cc, cda, S, hF⟩ := T.e_Shifted_init
  exact fnC_init (N := N_Shifted_init) (body := b_Shifted_init n m2 ks2) (qs := ["plus"]) (mo := "more") S sc_Shifted_init (B fd hF) nd hz fun A outer s H room hG => sat_cons (eat_supM S rfl c hx F room hG rfl (by decide +kernel) hz) (ssd_one (sd_putF 0 (naB_a (ck_at T.ck 2 rfl)) (ed_var 1)))
abbrev s_Bounded_init : Stmt := inCls (topS 46) 0
abbrev N_Bounded_init : List Str := ["self", "low", "high", "more", "__class__"]
theorem sc_Bounded_init : NScope N_Bounded_init ["self", "low", "high", "more"] ["__class__"] (defScope s_Bounded_init) := ⟨rfl, rfl, rfl, by decide +kernel, rfl, by decide +kernel, by decide +kernel, by decide +kernel, by decide +kernel⟩
def b_Bounded_init (n : Str) (m2 : XF) (ks2 : List Str) : XS := sSeq (sDrop (xSup n m2 (aMore 3 ks2))) (sSeq (sPutF clsN 0 "low" (xVar 1)) (sPutF clsN 0 "high" (xVar 2)))
theorem okb_Bounded_init (T : Txt P K mg A D) {n : Str} {m2 : XF} {ks ks2 : List Str} {s1 s2 : Sel} {g : Addr} {k : Nat} (hk : 0 ≤ k) (c : IsC K n (clsA K n)) (hx : NextF K (clsA K n) (clsA K "Bounded") "__init__" g) (F : FnC P w K mg base k g 1 ks2 m2) (nd : ks2.Nodup) (hz : ks2.length ≤ 100)
    (B : ∀ fd, KwF K "__init__" "Bounded.__init__" s_Bounded_init [("low", .none), ("high", .none)] fd → BndM K fd "self" ["low", "high"] "more" ks ks2 s1 s2) : FnC P w K mg base (k + 1) (metA K "Bounded" "__init__") 1 ks (initF s1 s2 ks2 (runF 5 (b_Bounded_init n m2 ks2))) := by
  obtain ⟨fd, cc, cda, S, hF⟩ := T.e_Bounded_init
  exact fnC_init (N := N_Bounded_init) (body := b_Bounded_init n m2 ks2) (qs := ["low", "high"]) (mo := "more") S sc_Bounded_init (B fd hF) nd hz fun A outer s H room hG => sat_cons (eat_supM S rfl c hx F room hG rfl (by decide +kernel) hz) (ssd_cons (sd_putF 0 (naB_a (ck_at T.ck 3 rfl)) (ed_var 1)) (ssd_one (sd_putF 0 (naB_a (ck_at T.ck 4 rfl)) (ed_var 2))))
abbrev s_Fixed_init : Stmt := inCls (topS 47) 0
abbrev N_Fixed_init : List Str := ["self", "constant", "more", "__class__"]
theorem sc_Fixed_init : NScope N_Fixed_init ["self", "constant", "more"] ["__class__"] (defScope s_Fixed_init) := ⟨rfl, rfl, rfl, by decide +kernel, rfl, by decide +kernel, by decide +kernel, by decide +kernel, by decide +kernel⟩
def b_Fixed_init (n : Str) (m2 : XF) (ks2 : List Str) : XS := sSeq (sDrop (xSup n m2 (aMore 2 ks2))) (sPutF clsN 0 "constant" (xVar 1))
theorem okb_Fixed_init (T : Txt P K mg A D) {n : Str} {m2 : XF} {ks ks2 : List Str} {s1 s2 : Sel} {g : Addr} {k : Nat} (hk : 0 ≤ k) (c : IsC K n (clsA K n)) (hx : NextF K (clsA K n) (clsA K "Fixed") "__init__" g) (F : FnC P w K mg base k g 1 ks2 m2) (nd : ks2.Nodup) (hz : ks2.length ≤ 100)
    (B : ∀ fd, KwF K "__init__" "Fixed.__init__" s_Fixed_init [] fd → BndM K fd "self" ["constant"] "more" ks ks2 s1 s2) : FnC P w K mg base (k + 1) (metA K "Fixed" "__init__") 1 ks (initF s1 s2 ks2 (runF 4 (b_Fixed_init n m2 ks2))) := by
  obtain ⟨fd, cc, cda, S, hF⟩ := T.e_Fixed_init
  exact fnC_init (N := N_Fixed_init) (body := b_Fixed_init n m2 ks2) (qs := ["constant"]) (mo := "more") S sc_Fixed_init (B fd hF) nd hz fun A outer s H room hG => sat_cons (eat_supM S rfl c hx F room hG rfl (by decide +kernel) hz) (ssd_one (sd_putF 0 (naB_a (ck_at T.ck 5 rfl)) (ed_var 1)))
abbrev s_Percent_init : Stmt := inCls (topS 48) 0
abbrev N_Percent_init : List Str := ["self", "percent", "__class__"]
theorem sc_Percent_init : NScope N_Percent_init ["self", "percent"] ["__class__"] (defScope s_Percent_init) := ⟨rfl, rfl, rfl, by decide +kernel, rfl, by decide +kernel, by decide +kernel, by decide +kernel, by decide +kernel⟩
def b_Percent_init (n : Str) (m2 : XF) : XS := sSeq (sDrop (xSupK n m2 (aCons (xCall m_fraction_product (aCons (xVar 1) (aCons (xTup (aCons (xC (.int 1)) (aCons (xC (.int 100)) (aNil)))) (aNil)))) (aNil)))) (sNil)
theorem okb_Percent_init (T : Txt P K mg A D) {n : Str} {m2 : XF} {ks : List Str} {s : Sel} {g : Addr} {k : Nat} (hk : 3 ≤ k) (c : IsC K n (clsA K n)) (hx : NextF K (clsA K n) (clsA K "Percent") "__init__" g) (F : FnC P w K mg base k g 1 ["factor"] m2)
    (B : ∀ fd, KwF K "__init__" "Percent.__init__" s_Percent_init [] fd → PB K fd ["self", "percent"] 1 ks s) : FnC P w K mg base (k + 1) (metA K "Percent" "__init__") 1 ks (selF s (runF 3 (b_Percent_init n m2))) := by
  obtain ⟨fd, cc, cda, S, hF⟩ := T.e_Percent_init
  exact FnC.ofP (fn_bodyS (N := N_Percent_init) (body := b_Percent_init n m2) S sc_Percent_init fun A outer s H room hG => sat_cons (eat_supK (ks := ["factor"]) S rfl c hx F room hG (kd_cons (CD.ed (cd_callV (ok_fraction_product T) (room.mono (Nat.le_trans (by decide) hk)) hG T.d_fraction_product.g T.d_fraction_product.F.kp (ad_cons (ed_var 1) (ad_cons (ed_tup (ad_cons (ed_int) (ad_cons (ed_int) (ad_nil)))) (ad_nil))))) (kd_nil)) (ln_cons (ln_nil))) (ssd_nil)) (B fd hF)
abbrev s_Floor_init : Stmt := inCls (topS 49) 0
abbrev N_Floor_init : List Str := ["self", "least", "__class__"]
theorem sc_Floor_init : NScope N_Floor_init ["self", "least"] ["__class__"] (defScope s_Floor_init) := ⟨rfl, rfl, rfl, by decide +kernel, rfl, by decide +kernel, by decide +kernel, by decide +kernel, by decide +kernel⟩
def b_Floor_init (n : Str) (m2 : XF) : XS := sSeq (sDrop (xSupK n m2 (aCons (xVar 1) (aNil)))) (sNil)
theorem okb_Floor_init (T : Txt P K mg A D) {n : Str} {m2 : XF} {ks : List Str} {s : Sel} {g : Addr} {k : Nat} (hk : 0 ≤ k) (c : IsC K n (clsA K n)) (hx : NextF K (clsA K n) (clsA K "Floor") "__init__" g) (F : FnC P w K mg base k g 1 ["low"] m2)
    (B : ∀ fd, KwF K "__init__" "Floor.__init__" s_Floor_init [] fd → PB K fd ["self", "least"] 1 ks s) : FnC P w K mg base (k + 1) (metA K "Floor" "__init__") 1 ks (selF s (runF 3 (b_Floor_init n m2))) := by
  obtain ⟨fd, cc, cda, S, hF⟩ := T.e_Floor_init
  exact FnC.ofP (fn_bodyS (N := N_Floor_init) (body := b_Floor_init n m2) S sc_Floor_init fun A outer s H room hG => sat_cons (eat_supK (ks := ["low"]) S rfl c hx F room hG (kd_cons (ed_var 1) (kd_nil)) (ln_cons (ln_nil))) (ssd_nil)) (B fd hF)
abbrev s_Cap_init : Stmt := inCls (topS 50) 0
abbrev N_Cap_init : List Str := ["self", "most", "__class__"]
theorem sc_Cap_init : NScope N_Cap_init ["self", "most"] ["__class__"] (defScope s_Cap_init) := ⟨rfl, rfl, rfl, by decide +kernel, rfl, by decide +kernel, by decide +kernel, by decide +kernel, by decide +kernel⟩
def b_Cap_init (n : Str) (m2 : XF) : XS := sSeq (sDrop (xSupK n m2 (aCons (xVar 1) (aNil)))) (sNil)
theorem okb_Cap_init (T : Txt P K mg A D) {n : Str} {m2 : XF} {ks : List Str} {s : Sel} {g : Addr} {k : Nat} (hk : 0 ≤ k) (c : IsC K n (clsA K n)) (hx : NextF K (clsA K n) (clsA K "Cap") "__init__" g) (F : FnC P w K mg base k g 1 ["high"] m2)
    (B : ∀ fd, KwF K "__init__" "Cap.__init__" s_Cap_init [] fd → PB K fd ["self", "most"] 1 ks s) : FnC P w K mg base (k + 1) (metA K "Cap" "__init__") 1 ks (selF s (runF 3 (b_Cap_init n m2))) := by
  obtain ⟨fd, cc, cda, S, hF⟩ := T.e_Cap_init
  exact FnC.ofP (fn_bodyS (N := N_Cap_init) (body := b_Cap_init n m2) S sc_Cap_init fun A outer s H room hG => sat_cons (eat_supK (ks := ["high"]) S rfl c hx F room hG (kd_cons (ed_var 1) (kd_nil)) (ln_cons (ln_nil))) (ssd_nil)) (B fd hF)
theorem ok_m_Clause_init (T : Txt P K mg A D) : FnC P w K mg base 1 (metA K "Clause" "__init__") 1 [] m_Clause_init := okc_Clause_init T
def mi_1 : XF := initF [.inl 0] [] [] (runF 4 (b_Shifted_init "Claim" m_Clause_init []))
theorem ok_mi_1 (T : Txt P K mg A D) : FnC P w K mg base 2 (metA K "Shifted" "__init__") 1 ["plus"] mi_1 :=
  okb_Shifted_init T (by decide) (isoB_c (ck_at T.ck 7 rfl)) (nxB_x (ck_at T.ck 6 rfl)) ((ok_m_Clause_init T).mono (by decide)) (by decide) (by decide) fun fd hF => bndM_mk (ms := []) hF (by simp) fun cc Dk kV doc pm an cdv ct hD ux mv ws l1 l2 hv => by
    exact match mv, ws, l1, l2, hv with | [], [w0], _, _, .nil => ⟨[w0], [], rfl, rfl, .at_ rfl (.nil), .nil, rfl⟩
def mi_2 : XF := initF [.inl 1] [.inl 0] ["plus"] (runF 4 (b_Scaled_init "Claim" mi_1 ["plus"]))
theorem ok_mi_2 (T : Txt P K mg A D) : FnC P w K mg base 3 (metA K "Scaled" "__init__") 1 ["plus", "factor"] mi_2 :=
  okb_Scaled_init T (by decide) (isoB_c (ck_at T.ck 7 rfl)) (nxB_x (ck_at T.ck 8 rfl)) ((ok_mi_1 T).mono (by decide)) (by decide) (by decide) fun fd hF => bndM_mk (ms := []) hF (by simp) fun cc Dk kV doc pm an cdv ct hD ux mv ws l1 l2 hv => by
    exact match mv, ws, l1, l2, hv with | [], [w0, w1], _, _, .nil => ⟨[w1], [w0], rfl, rfl, .at_ rfl (.nil), .at_ rfl (.nil), rfl⟩
def mi_3 : XF := initF [.inl 1, .inl 3] [.inl 0, .inl 2] ["plus", "factor"] (runF 5 (b_Bounded_init "Claim" mi_2 ["plus", "factor"]))
theorem ok_mi_3 (T : Txt P K mg A D) : FnC P w K mg base 4 (metA K "Bounded" "__init__") 1 ["plus", "low", "factor", "high"] mi_3 :=
  okb_Bounded_init T (by decide) (isoB_c (ck_at T.ck 7 rfl)) (nxB_x (ck_at T.ck 9 rfl)) ((ok_mi_2 T).mono (by decide)) (by decide) (by decide) fun fd hF => bndM_mk (ms := []) hF (by simp) fun cc Dk kV doc pm an cdv ct hD ux mv ws l1 l2 hv => by
    exact match mv, ws, l1, l2, hv with | [], [w0, w1, w2, w3], _, _, .nil => ⟨[w1, w3], [w0, w2], rfl, rfl, .at_ rfl (.at_ rfl (.nil)), .at_ rfl (.at_ rfl (.nil)), rfl⟩
def mi_5 : XF := initF [.inl 0] [] [] (runF 4 (b_Scaled_init "Fee" m_Clause_init []))
theorem ok_mi_5 (T : Txt P K mg A D) : FnC P w K mg base 2 (metA K "Scaled" "__init__") 1 ["factor"] mi_5 :=
  okb_Scaled_init T (by decide) (isoB_c (ck_at T.ck 11 rfl)) (nxB_x (ck_at T.ck 10 rfl)) ((ok_m_Clause_init T).mono (by decide)) (by decide) (by decide) fun fd hF => bndM_mk (ms := []) hF (by simp) fun cc Dk kV doc pm an cdv ct hD ux mv ws l1 l2 hv => by
    exact match mv, ws, l1, l2, hv with | [], [w0], _, _, .nil => ⟨[w0], [], rfl, rfl, .at_ rfl (.nil), .nil, rfl⟩
def mi_6 : XF := initF [.inl 0] [.inl 1] ["factor"] (runF 4 (b_Shifted_init "Fee" mi_5 ["factor"]))
theorem ok_mi_6 (T : Txt P K mg A D) : FnC P w K mg base 3 (metA K "Shifted" "__init__") 1 ["plus", "factor"] mi_6 :=
  okb_Shifted_init T (by decide) (isoB_c (ck_at T.ck 11 rfl)) (nxB_x (ck_at T.ck 12 rfl)) ((ok_mi_5 T).mono (by decide)) (by decide) (by decide) fun fd hF => bndM_mk (ms := []) hF (by simp) fun cc Dk kV doc pm an cdv ct hD ux mv ws l1 l2 hv => by
    exact match mv, ws, l1, l2, hv with | [], [w0, w1], _, _, .nil => ⟨[w0], [w1], rfl, rfl, .at_ rfl (.nil), .at_ rfl (.nil), rfl⟩
def mi_8 : XF := initF [.inl 0] [] [] (runF 4 (b_Shifted_init "Voucher" m_Clause_init []))
theorem ok_mi_8 (T : Txt P K mg A D) : FnC P w K mg base 2 (metA K "Shifted" "__init__") 1 ["plus"] mi_8 :=
  okb_Shifted_init T (by decide) (isoB_c (ck_at T.ck 14 rfl)) (nxB_x (ck_at T.ck 13 rfl)) ((ok_m_Clause_init T).mono (by decide)) (by decide) (by decide) fun fd hF => bndM_mk (ms := []) hF (by simp) fun cc Dk kV doc pm an cdv ct hD ux mv ws l1 l2 hv => by
    exact match mv, ws, l1, l2, hv with | [], [w0], _, _, .nil => ⟨[w0], [], rfl, rfl, .at_ rfl (.nil), .nil, rfl⟩
def mi_9 : XF := initF [.inl 2, .inl 0] [.inl 1] ["plus"] (runF 5 (b_Bounded_init "Voucher" mi_8 ["plus"]))
theorem ok_mi_9 (T : Txt P K mg A D) : FnC P w K mg base 3 (metA K "Bounded" "__init__") 1 ["high", "plus", "low"] mi_9 :=
  okb_Bounded_init T (by decide) (isoB_c (ck_at T.ck 14 rfl)) (nxB_x (ck_at T.ck 15 rfl)) ((ok_mi_8 T).mono (by decide)) (by decide) (by decide) fun fd hF => bndM_mk (ms := []) hF (by simp) fun cc Dk kV doc pm an cdv ct hD ux mv ws l1 l2 hv => by
    exact match mv, ws, l1, l2, hv with | [], [w0, w1, w2], _, _, .nil => ⟨[w2, w0], [w1], rfl, rfl, .at_ rfl (.at_ rfl (.nil)), .at_ rfl (.nil), rfl⟩
def mi_11 : XF := initF [.inl 0] [] [] (runF 4 (b_Scaled_init "General" m_Clause_init []))
theorem ok_mi_11 (T : Txt P K mg A D) : FnC P w K mg base 2 (metA K "Scaled" "__init__") 1 ["factor"] mi_11 :=
  okb_Scaled_init T (by decide) (isoB_c (ck_at T.ck 17 rfl)) (nxB_x (ck_at T.ck 16 rfl)) ((ok_m_Clause_init T).mono (by decide)) (by decide) (by decide) fun fd hF => bndM_mk (ms := []) hF (by simp) fun cc Dk kV doc pm an cdv ct hD ux mv ws l1 l2 hv => by
    exact match mv, ws, l1, l2, hv with | [], [w0], _, _, .nil => ⟨[w0], [], rfl, rfl, .at_ rfl (.nil), .nil, rfl⟩
def mi_12 : XF := initF [.inl 1] [.inl 0] ["factor"] (runF 4 (b_Shifted_init "General" mi_11 ["factor"]))
theorem ok_mi_12 (T : Txt P K mg A D) : FnC P w K mg base 3 (metA K "Shifted" "__init__") 1 ["factor", "plus"] mi_12 :=
  okb_Shifted_init T (by decide) (isoB_c (ck_at T.ck 17 rfl)) (nxB_x (ck_at T.ck 18 rfl)) ((ok_mi_11 T).mono (by decide)) (by decide) (by decide) fun fd hF => bndM_mk (ms := []) hF (by simp) fun cc Dk kV doc pm an cdv ct hD ux mv ws l1 l2 hv => by
    exact match mv, ws, l1, l2, hv with | [], [w0, w1], _, _, .nil => ⟨[w1], [w0], rfl, rfl, .at_ rfl (.nil), .at_ rfl (.nil), rfl⟩
def mi_13 : XF := initF [.inl 2, .inl 1] [.inl 0, .inl 3] ["factor", "plus"] (runF 5 (b_Bounded_init "General" mi_12 ["factor", "plus"]))
theorem ok_mi_13 (T : Txt P K mg A D) : FnC P w K mg base 4 (metA K "Bounded" "__init__") 1 ["factor", "high", "low", "plus"] mi_13 :=
  okb_Bounded_init T (by decide) (isoB_c (ck_at T.ck 17 rfl)) (nxB_x (ck_at T.ck 19 rfl)) ((ok_mi_12 T).mono (by decide)) (by decide) (by decide) fun fd hF => bndM_mk (ms := []) hF (by simp) fun cc Dk kV doc pm an cdv ct hD ux mv ws l1 l2 hv => by
    exact match mv, ws, l1, l2, hv with | [], [w0, w1, w2, w3], _, _, .nil => ⟨[w2, w1], [w0, w3], rfl, rfl, .at_ rfl (.at_ rfl (.nil)), .at_ rfl (.at_ rfl (.nil)), rfl⟩
def mi_16 : XF := initF [.inl 0] [] [] (runF 4 (b_Scaled_init "Scaled" m_Clause_init []))
theorem ok_mi_16 (T : Txt P K mg A D) : FnC P w K mg base 2 (metA K "Scaled" "__init__") 1 ["factor"] mi_16 :=
  okb_Scaled_init T (by decide) (isoB_c (ck_at T.ck 21 rfl)) (nxB_x (ck_at T.ck 20 rfl)) ((ok_m_Clause_init T).mono (by decide)) (by decide) (by decide) fun fd hF => bndM_mk (ms := []) hF (by simp) fun cc Dk kV doc pm an cdv ct hD ux mv ws l1 l2 hv => by
    exact match mv, ws, l1, l2, hv with | [], [w0], _, _, .nil => ⟨[w0], [], rfl, rfl, .at_ rfl (.nil), .nil, rfl⟩
def mi_18 : XF := initF [.inl 0] [] [] (runF 4 (b_Shifted_init "Shifted" m_Clause_init []))
theorem ok_mi_18 (T : Txt P K mg A D) : FnC P w K mg base 2 (metA K "Shifted" "__init__") 1 ["plus"] mi_18 :=
  okb_Shifted_init T (by decide) (isoB_c (ck_at T.ck 23 rfl)) (nxB_x (ck_at T.ck 22 rfl)) ((ok_m_Clause_init T).mono (by decide)) (by decide) (by decide) fun fd hF => bndM_mk (ms := []) hF (by simp) fun cc Dk kV doc pm an cdv ct hD ux mv ws l1 l2 hv => by
    exact match mv, ws, l1, l2, hv with | [], [w0], _, _, .nil => ⟨[w0], [], rfl, rfl, .at_ rfl (.nil), .nil, rfl⟩
def mi_20 : XF := initF [.inl 0] [] [] (runF 4 (b_Fixed_init "Fixed" m_Clause_init []))
theorem ok_mi_20 (T : Txt P K mg A D) : FnC P w K mg base 2 (metA K "Fixed" "__init__") 1 ["constant"] mi_20 :=
  okb_Fixed_init T (by decide) (isoB_c (ck_at T.ck 25 rfl)) (nxB_x (ck_at T.ck 24 rfl)) ((ok_m_Clause_init T).mono (by decide)) (by decide) (by decide) fun fd hF => bndM_mk (ms := []) hF (by simp) fun cc Dk kV doc pm an cdv ct hD ux mv ws l1 l2 hv => by
    exact match mv, ws, l1, l2, hv with | [], [w0], _, _, .nil => ⟨[w0], [], rfl, rfl, .at_ rfl (.nil), .nil, rfl⟩
def mi_22 : XF := initF [.inl 0] [] [] (runF 4 (b_Scaled_init "Percent" m_Clause_init []))
theorem ok_mi_22 (T : Txt P K mg A D) : FnC P w K mg base 2 (metA K "Scaled" "__init__") 1 ["factor"] mi_22 :=
  okb_Scaled_init T (by decide) (isoB_c (ck_at T.ck 27 rfl)) (nxB_x (ck_at T.ck 26 rfl)) ((ok_m_Clause_init T).mono (by decide)) (by decide) (by decide) fun fd hF => bndM_mk (ms := []) hF (by simp) fun cc Dk kV doc pm an cdv ct hD ux mv ws l1 l2 hv => by
    exact match mv, ws, l1, l2, hv with | [], [w0], _, _, .nil => ⟨[w0], [], rfl, rfl, .at_ rfl (.nil), .nil, rfl⟩
def mi_23 : XF := selF [.inl 0, .inl 1] (runF 3 (b_Percent_init "Percent" mi_22))
theorem ok_mi_23 (T : Txt P K mg A D) : FnC P w K mg base 4 (metA K "Percent" "__init__") 1 ["percent"] mi_23 :=
  okb_Percent_init T (by decide) (isoB_c (ck_at T.ck 27 rfl)) (nxB_x (ck_at T.ck 28 rfl)) ((ok_mi_22 T).mono (by decide)) fun fd hF => SupG.pb hF fun cc kV doc pm an cdv ct us ws l1 l2 => match us, ws, l1, l2 with | [u0], [w0], _, _ => ⟨[u0, w0], rfl, rfl, .at_ rfl (.at_ rfl (.nil))⟩
def mi_25 : XF := initF [.inl 0, .inr (.none)] [] [] (runF 5 (b_Bounded_init "Floor" m_Clause_init []))
theorem ok_mi_25 (T : Txt P K mg A D) : FnC P w K mg base 2 (metA K "Bounded" "__init__") 1 ["low"] mi_25 :=
  okb_Bounded_init T (by decide) (isoB_c (ck_at T.ck 30 rfl)) (nxB_x (ck_at T.ck 29 rfl)) ((ok_m_Clause_init T).mono (by decide)) (by decide) (by decide) fun fd hF => bndM_mk (ms := [("high", .none)]) hF (by simp) fun cc Dk kV doc pm an cdv ct hD ux mv ws l1 l2 hv => by
    have e := hD (by simp)
    subst e
    exact match mv, ws, l1, l2, hv with | [x_high], [w0], _, _, .cons a_high (.nil) => ⟨[w0, x_high], [], rfl, rfl, .at_ rfl (.co a_high (.nil)), .nil, ⟨_, _, _, _, _, _, rfl, rfl, rfl⟩⟩
def mi_26 : XF := selF [.inl 0, .inl 1] (runF 3 (b_Floor_init "Floor" mi_25))
theorem ok_mi_26 (T : Txt P K mg A D) : FnC P w K mg base 3 (metA K "Floor" "__init__") 1 ["least"] mi_26 :=
  okb_Floor_init T (by decide) (isoB_c (ck_at T.ck 30 rfl)) (nxB_x (ck_at T.ck 31 rfl)) ((ok_mi_25 T).mono (by decide)) fun fd hF => SupG.pb hF fun cc kV doc pm an cdv ct us ws l1 l2 => match us, ws, l1, l2 with | [u0], [w0], _, _ => ⟨[u0, w0], rfl, rfl, .at_ rfl (.at_ rfl (.nil))⟩
def mi_28 : XF := initF [.inl 1, .inl 0] [] [] (runF 5 (b_Bounded_init "Bounded" m_Clause_init []))
theorem ok_mi_28 (T : Txt P K mg A D) : FnC P w K mg base 2 (metA K "Bounded" "__init__") 1 ["high", "low"] mi_28 :=
  okb_Bounded_init T (by decide) (isoB_c (ck_at T.ck 33 rfl)) (nxB_x (ck_at T.ck 32 rfl)) ((ok_m_Clause_init T).mono (by decide)) (by decide) (by decide) fun fd hF => bndM_mk (ms := []) hF (by simp) fun cc Dk kV doc pm an cdv ct hD ux mv ws l1 l2 hv => by
    exact match mv, ws, l1, l2, hv with | [], [w0, w1], _, _, .nil => ⟨[w1, w0], [], rfl, rfl, .at_ rfl (.at_ rfl (.nil)), .nil, rfl⟩
def mi_30 : XF := initF [.inr (.none), .inl 0] [] [] (runF 5 (b_Bounded_init "Cap" m_Clause_init []))
theorem ok_mi_30 (T : Txt P K mg A D) : FnC P w K mg base 2 (metA K "Bounded" "__init__") 1 ["high"] mi_30 :=
  okb_Bounded_init T (by decide) (isoB_c (ck_at T.ck 35 rfl)) (nxB_x (ck_at T.ck 34 rfl)) ((ok_m_Clause_init T).mono (by decide)) (by decide) (by decide) fun fd hF => bndM_mk (ms := [("low", .none)]) hF (by simp) fun cc Dk kV doc pm an cdv ct hD ux mv ws l1 l2 hv => by
    have e := hD (by simp)
    subst e
    exact match mv, ws, l1, l2, hv with | [x_low], [w0], _, _, .cons a_low (.nil) => ⟨[x_low, w0], [], rfl, rfl, .co a_low (.at_ rfl (.nil)), .nil, ⟨_, _, _, _, _, _, rfl, rfl, rfl⟩⟩
def mi_31 : XF := selF [.inl 0, .inl 1] (runF 3 (b_Cap_init "Cap" mi_30))
theorem ok_mi_31 (T : Txt P K mg A D) : FnC P w K mg base 3 (metA K "Cap" "__init__") 1 ["most"] mi_31 :=
  okb_Cap_init T (by decide) (isoB_c (ck_at T.ck 35 rfl)) (nxB_x (ck_at T.ck 36 rfl)) ((ok_mi_30 T).mono (by decide)) fun fd hF => SupG.pb hF fun cc kV doc pm an cdv ct us ws l1 l2 => match us, ws, l1, l2 with | [u0], [w0], _, _ => ⟨[u0, w0], rfl, rfl, .at_ rfl (.at_ rfl (.nil))⟩
def mi_32 : XF := initF [.inr (.tuple [.int 1, .int 1])] [] [] (runF 4 (b_Scaled_init "Scaled" m_Clause_init []))
theorem ok_mi_32 (T : Txt P K mg A D) : FnC P w K mg base 2 (metA K "Scaled" "__init__") 1 [] mi_32 :=
  okb_Scaled_init T (by decide) (isoB_c (ck_at T.ck 21 rfl)) (nxB_x (ck_at T.ck 20 rfl)) ((ok_m_Clause_init T).mono (by decide)) (by decide) (by decide) fun fd hF => bndM_mk (ms := [("factor", .tuple [.int 1, .int 1])]) hF (by simp) fun cc Dk kV doc pm an cdv ct hD ux mv ws l1 l2 hv => by
    have e := hD (by simp)
    subst e
    exact match mv, ws, l1, l2, hv with | [x_factor], [], _, _, .cons a_factor (.nil) => ⟨[x_factor], [], rfl, rfl, .co a_factor (.nil), .nil, ⟨_, _, _, _, _, _, rfl, rfl, rfl⟩⟩
def mi_33 : XF := initF [.inr (.tuple [.int 0, .int 1])] [] [] (runF 4 (b_Shifted_init "Shifted" m_Clause_init []))
theorem ok_mi_33 (T : Txt P K mg A D) : FnC P w K mg base 2 (metA K "Shifted" "__init__") 1 [] mi_33 :=
  okb_Shifted_init T (by decide) (isoB_c (ck_at T.ck 23 rfl)) (nxB_x (ck_at T.ck 22 rfl)) ((ok_m_Clause_init T).mono (by decide)) (by decide) (by decide) fun fd hF => bndM_mk (ms := [("plus", .tuple [.int 0, .int 1])]) hF (by simp) fun cc Dk kV doc pm an cdv ct hD ux mv ws l1 l2 hv => by
    have e := hD (by simp)
    subst e
    exact match mv, ws, l1, l2, hv with | [x_plus], [], _, _, .cons a_plus (.nil) => ⟨[x_plus], [], rfl, rfl, .co a_plus (.nil), .nil, ⟨_, _, _, _, _, _, rfl, rfl, rfl⟩⟩
def mi_34 : XF := initF [.inr (.none), .inr (.none)] [] [] (runF 5 (b_Bounded_init "Bounded" m_Clause_init []))
theorem ok_mi_34 (T : Txt P K mg A D) : FnC P w K mg base 2 (metA K "Bounded" "__init__") 1 [] mi_34 :=
  okb_Bounded_init T (by decide) (isoB_c (ck_at T.ck 33 rfl)) (nxB_x (ck_at T.ck 32 rfl)) ((ok_m_Clause_init T).mono (by decide)) (by decide) (by decide) fun fd hF => bndM_mk (ms := [("low", .none), ("high", .none)]) hF (by simp) fun cc Dk kV doc pm an cdv ct hD ux mv ws l1 l2 hv => by
    have e := hD (by simp)
    subst e
    exact match mv, ws, l1, l2, hv with | [x_low, x_high], [], _, _, .cons a_low (.cons a_high (.nil)) => ⟨[x_low, x_high], [], rfl, rfl, .co a_low (.co a_high (.nil)), .nil, ⟨_, _, _, _, _, _, rfl, rfl, ⟨_, _, _, _, _, _, rfl, rfl, rfl⟩⟩⟩
def mi_35 : XF := initF [.inr (.tuple [.int 0, .int 1])] [] [] (runF 4 (b_Shifted_init "Claim" m_Clause_init []))
theorem ok_mi_35 (T : Txt P K mg A D) : FnC P w K mg base 2 (metA K "Shifted" "__init__") 1 [] mi_35 :=
  okb_Shifted_init T (by decide) (isoB_c (ck_at T.ck 7 rfl)) (nxB_x (ck_at T.ck 6 rfl)) ((ok_m_Clause_init T).mono (by decide)) (by decide) (by decide) fun fd hF => bndM_mk (ms := [("plus", .tuple [.int 0, .int 1])]) hF (by simp) fun cc Dk kV doc pm an cdv ct hD ux mv ws l1 l2 hv => by
    have e := hD (by simp)
    subst e
    exact match mv, ws, l1, l2, hv with | [x_plus], [], _, _, .cons a_plus (.nil) => ⟨[x_plus], [], rfl, rfl, .co a_plus (.nil), .nil, ⟨_, _, _, _, _, _, rfl, rfl, rfl⟩⟩
def mi_36 : XF := initF [.inr (.tuple [.int 1, .int 1])] [] [] (runF 4 (b_Scaled_init "Claim" mi_35 []))
theorem ok_mi_36 (T : Txt P K mg A D) : FnC P w K mg base 3 (metA K "Scaled" "__init__") 1 [] mi_36 :=
  okb_Scaled_init T (by decide) (isoB_c (ck_at T.ck 7 rfl)) (nxB_x (ck_at T.ck 8 rfl)) ((ok_mi_35 T).mono (by decide)) (by decide) (by decide) fun fd hF => bndM_mk (ms := [("factor", .tuple [.int 1, .int 1])]) hF (by simp) fun cc Dk kV doc pm an cdv ct hD ux mv ws l1 l2 hv => by
    have e := hD (by simp)
    subst e
    exact match mv, ws, l1, l2, hv with | [x_factor], [], _, _, .cons a_factor (.nil) => ⟨[x_factor], [], rfl, rfl, .co a_factor (.nil), .nil, ⟨_, _, _, _, _, _, rfl, rfl, rfl⟩⟩
def mi_37 : XF := initF [.inr (.none), .inr (.none)] [] [] (runF 5 (b_Bounded_init "Claim" mi_36 []))
theorem ok_mi_37 (T : Txt P K mg A D) : FnC P w K mg base 4 (metA K "Bounded" "__init__") 1 [] mi_37 :=
  okb_Bounded_init T (by decide) (isoB_c (ck_at T.ck 7 rfl)) (nxB_x (ck_at T.ck 9 rfl)) ((ok_mi_36 T).mono (by decide)) (by decide) (by decide) fun fd hF => bndM_mk (ms := [("low", .none), ("high", .none)]) hF (by simp) fun cc Dk kV doc pm an cdv ct hD ux mv ws l1 l2 hv => by
    have e := hD (by simp)
    subst e
    exact match mv, ws, l1, l2, hv with | [x_low, x_high], [], _, _, .cons a_low (.cons a_high (.nil)) => ⟨[x_low, x_high], [], rfl, rfl, .co a_low (.co a_high (.nil)), .nil, ⟨_, _, _, _, _, _, rfl, rfl, ⟨_, _, _, _, _, _, rfl, rfl, rfl⟩⟩⟩
def mi_38 : XF := initF [.inr (.tuple [.int 1, .int 1])] [] [] (runF 4 (b_Scaled_init "Fee" m_Clause_init []))
theorem ok_mi_38 (T : Txt P K mg A D) : FnC P w K mg base 2 (metA K "Scaled" "__init__") 1 [] mi_38 :=
  okb_Scaled_init T (by decide) (isoB_c (ck_at T.ck 11 rfl)) (nxB_x (ck_at T.ck 10 rfl)) ((ok_m_Clause_init T).mono (by decide)) (by decide) (by decide) fun fd hF => bndM_mk (ms := [("factor", .tuple [.int 1, .int 1])]) hF (by simp) fun cc Dk kV doc pm an cdv ct hD ux mv ws l1 l2 hv => by
    have e := hD (by simp)
    subst e
    exact match mv, ws, l1, l2, hv with | [x_factor], [], _, _, .cons a_factor (.nil) => ⟨[x_factor], [], rfl, rfl, .co a_factor (.nil), .nil, ⟨_, _, _, _, _, _, rfl, rfl, rfl⟩⟩
def mi_39 : XF := initF [.inr (.tuple [.int 0, .int 1])] [] [] (runF 4 (b_Shifted_init "Fee" mi_38 []))
theorem ok_mi_39 (T : Txt P K mg A D) : FnC P w K mg base 3 (metA K "Shifted" "__init__") 1 [] mi_39 :=
  okb_Shifted_init T (by decide) (isoB_c (ck_at T.ck 11 rfl)) (nxB_x (ck_at T.ck 12 rfl)) ((ok_mi_38 T).mono (by decide)) (by decide) (by decide) fun fd hF => bndM_mk (ms := [("plus", .tuple [.int 0, .int 1])]) hF (by simp) fun cc Dk kV doc pm an cdv ct hD ux mv ws l1 l2 hv => by
    have e := hD (by simp)
    subst e
    exact match mv, ws, l1, l2, hv with | [x_plus], [], _, _, .cons a_plus (.nil) => ⟨[x_plus], [], rfl, rfl, .co a_plus (.nil), .nil, ⟨_, _, _, _, _, _, rfl, rfl, rfl⟩⟩
def mi_40 : XF := initF [.inr (.tuple [.int 0, .int 1])] [] [] (runF 4 (b_Shifted_init "Voucher" m_Clause_init []))
theorem ok_mi_40 (T : Txt P K mg A D) : FnC P w K mg base 2 (metA K "Shifted" "__init__") 1 [] mi_40 :=
  okb_Shifted_init T (by decide) (isoB_c (ck_at T.ck 14 rfl)) (nxB_x (ck_at T.ck 13 rfl)) ((ok_m_Clause_init T).mono (by decide)) (by decide) (by decide) fun fd hF => bndM_mk (ms := [("plus", .tuple [.int 0, .int 1])]) hF (by simp) fun cc Dk kV doc pm an cdv ct hD ux mv ws l1 l2 hv => by
    have e := hD (by simp)
    subst e
    exact match mv, ws, l1, l2, hv with | [x_plus], [], _, _, .cons a_plus (.nil) => ⟨[x_plus], [], rfl, rfl, .co a_plus (.nil), .nil, ⟨_, _, _, _, _, _, rfl, rfl, rfl⟩⟩
def mi_41 : XF := initF [.inr (.none), .inr (.none)] [] [] (runF 5 (b_Bounded_init "Voucher" mi_40 []))
theorem ok_mi_41 (T : Txt P K mg A D) : FnC P w K mg base 3 (metA K "Bounded" "__init__") 1 [] mi_41 :=
  okb_Bounded_init T (by decide) (isoB_c (ck_at T.ck 14 rfl)) (nxB_x (ck_at T.ck 15 rfl)) ((ok_mi_40 T).mono (by decide)) (by decide) (by decide) fun fd hF => bndM_mk (ms := [("low", .none), ("high", .none)]) hF (by simp) fun cc Dk kV doc pm an cdv ct hD ux mv ws l1 l2 hv => by
    have e := hD (by simp)
    subst e
    exact match mv, ws, l1, l2, hv with | [x_low, x_high], [], _, _, .cons a_low (.cons a_high (.nil)) => ⟨[x_low, x_high], [], rfl, rfl, .co a_low (.co a_high (.nil)), .nil, ⟨_, _, _, _, _, _, rfl, rfl, ⟨_, _, _, _, _, _, rfl, rfl, rfl⟩⟩⟩
def mi_42 : XF := initF [.inr (.tuple [.int 1, .int 1])] [] [] (runF 4 (b_Scaled_init "General" m_Clause_init []))
theorem ok_mi_42 (T : Txt P K mg A D) : FnC P w K mg base 2 (metA K "Scaled" "__init__") 1 [] mi_42 :=
  okb_Scaled_init T (by decide) (isoB_c (ck_at T.ck 17 rfl)) (nxB_x (ck_at T.ck 16 rfl)) ((ok_m_Clause_init T).mono (by decide)) (by decide) (by decide) fun fd hF => bndM_mk (ms := [("factor", .tuple [.int 1, .int 1])]) hF (by simp) fun cc Dk kV doc pm an cdv ct hD ux mv ws l1 l2 hv => by
    have e := hD (by simp)
    subst e
    exact match mv, ws, l1, l2, hv with | [x_factor], [], _, _, .cons a_factor (.nil) => ⟨[x_factor], [], rfl, rfl, .co a_factor (.nil), .nil, ⟨_, _, _, _, _, _, rfl, rfl, rfl⟩⟩
def mi_43 : XF := initF [.inr (.tuple [.int 0, .int 1])] [] [] (runF 4 (b_Shifted_init "General" mi_42 []))
theorem ok_mi_43 (T : Txt P K mg A D) : FnC P w K mg base 3 (metA K "Shifted" "__init__") 1 [] mi_43 :=
  okb_Shifted_init T (by decide) (isoB_c (ck_at T.ck 17 rfl)) (nxB_x (ck_at T.ck 18 rfl)) ((ok_mi_42 T).mono (by decide)) (by decide) (by decide) fun fd hF => bndM_mk (ms := [("plus", .tuple [.int 0, .int 1])]) hF (by simp) fun cc Dk kV doc pm an cdv ct hD ux mv ws l1 l2 hv => by
    have e := hD (by simp)
    subst e
    exact match mv, ws, l1, l2, hv with | [x_plus], [], _, _, .cons a_plus (.nil) => ⟨[x_plus], [], rfl, rfl, .co a_plus (.nil), .nil, ⟨_, _, _, _, _, _, rfl, rfl, rfl⟩⟩
def mi_44 : XF := initF [.inr (.none), .inr (.none)] [] [] (runF 5 (b_Bounded_init "General" mi_43 []))
theorem ok_mi_44 (T : Txt P K mg A D) : FnC P w K mg base 4 (metA K "Bounded" "__init__") 1 [] mi_44 :=
  okb_Bounded_init T (by decide) (isoB_c (ck_at T.ck 17 rfl)) (nxB_x (ck_at T.ck 19 rfl)) ((ok_mi_43 T).mono (by decide)) (by decide) (by decide) fun fd hF => bndM_mk (ms := [("low", .none), ("high", .none)]) hF (by simp) fun cc Dk kV doc pm an cdv ct hD ux mv ws l1 l2 hv => by
    have e := hD (by simp)
    subst e
    exact match mv, ws, l1, l2, hv with | [x_low, x_high], [], _, _, .cons a_low (.cons a_high (.nil)) => ⟨[x_low, x_high], [], rfl, rfl, .co a_low (.co a_high (.nil)), .nil, ⟨_, _, _, _, _, _, rfl, rfl, ⟨_, _, _, _, _, _, rfl, rfl, rfl⟩⟩⟩
abbrev s_Clause_parts : Stmt := inCls (topS 43) 2
abbrev N_Clause_parts : List Str := ["self"]
theorem sc_Clause_parts : FnScope N_Clause_parts ["self"] (defScope s_Clause_parts) := ⟨rfl, rfl, rfl, by decide +kernel, rfl, by decide +kernel, by decide +kernel⟩
def b_Clause_parts : XS := sRet (xTup (aNil))
def m_Clause_parts : XF := runF 1 b_Clause_parts
theorem okg_Clause_parts (T : Txt P K mg A D) {fd : FuncData} (F : Fun K "parts" "Clause.parts" s_Clause_parts (metA K "Clause" "parts") fd) : FnG P w K mg base 1 (metA K "Clause" "parts") fd ["self"] m_Clause_parts :=
  fn_body F sc_Clause_parts fun cdv A outer s H room hG => ssd_one (sd_ret (ed_tup (ad_nil)))
theorem okc_Clause_parts (T : Txt P K mg A D) : FnC P w K mg base 1 (metA K "Clause" "parts") 1 [] m_Clause_parts := by
  obtain ⟨fd, F, hb⟩ := T.e_Clause_parts
  exact FnC.of (okg_Clause_parts T F) hb
abbrev s_Scaled_parts : Stmt := inCls (topS 44) 1
abbrev N_Scaled_parts : List Str := ["self", "__class__"]
theorem sc_Scaled_parts : NScope N_Scaled_parts ["self"] ["__class__"] (defScope s_Scaled_parts) := ⟨rfl, rfl, rfl, by decide +kernel, rfl, by decide +kernel, by decide +kernel, by decide +kernel, by decide +kernel⟩
def b_Scaled_parts (n : Str) (m2 : XF) : XS := sRet (x2 addD (xSup n m2 aNil) (xTup (aCons (xCall m_normal_form (aPick [.inl 0, .inl 1, .inr (.none), .inr (.none)] (aCons (x1 (fldD clsN "factor") (xB (bVar 0))) (aCons (xTup (aCons (xC (.int 0)) (aCons (xC (.int 1)) (aNil)))) (aNil))) (aNil))) (aNil))))
theorem okb_Scaled_parts (T : Txt P K mg A D) {n : Str} {m2 : XF} {g : Addr} {k : Nat} (hk : 3 ≤ k) (c : IsC K n (clsA K n)) (hx : NextF K (clsA K n) (clsA K "Scaled") "parts" g) (F : FnC P w K mg base k g 1 [] m2) : FnC P w K mg base (k + 1) (metA K "Scaled" "parts") 1 [] (runF 2 (b_Scaled_parts n m2)) := by
  obtain ⟨fd, cc, cda, S, hF⟩ := T.e_Scaled_parts
  exact FnC.of (fn_bodyS (N := N_Scaled_parts) (body := b_Scaled_parts n m2) S sc_Scaled_parts fun A outer s H room hG => sat_ret (eat_bin op_addD r2_add (eat_sup0 S rfl c hx F room hG) (ED.od (ed_tup (ad_cons (CD.ed (cd_callP (ok_normal_form T) (room.mono (Nat.le_trans (by decide) hk)) hG T.d_normal_form.g T.d_normal_form.F.kp T.q_normal_form_2 (ad_cons (ed_fld (naB_a (ck_at T.ck 1 rfl)) (BD.od (bd_var 0))) (ad_cons (ed_tup (ad_cons (ed_int) (ad_cons (ed_int) (ad_nil)))) (ad_nil))) (ln_cons (ln_cons (ln_nil))))) (ad_nil)))))) (SupG.b (ps := ["self"]) hF fun _ _ _ _ _ _ _ us hl => match us, hl with | [_], _ => rfl)
abbrev s_Shifted_parts : Stmt := inCls (topS 45) 1
abbrev N_Shifted_parts : List Str := ["self", "__class__"]
theorem sc_Shifted_parts : NScope N_Shifted_parts ["self"] ["__class__"] (defScope s_Shifted_parts) := ⟨rfl, rfl, rfl, by decide +kernel, rfl, by decide +kernel, by decide +kernel, by decide +kernel, by decide +kernel⟩
def b_Shifted_parts (n : Str) (m2 : XF) : XS := sRet (x2 addD (xSup n m2 aNil) (xTup (aCons (xCall m_normal_form (aPick [.inl 0, .inl 1, .inr (.none), .inr (.none)] (aCons (xTup (aCons (xC (.int 1)) (aCons (xC (.int 1)) (aNil)))) (aCons (x1 (fldD clsN "plus") (xB (bVar 0))) (aNil))) (aNil))) (aNil))))
theorem okb_Shifted_parts (T : Txt P K mg A D) {n : Str} {m2 : XF} {g : Addr} {k : Nat} (hk : 3 ≤ k) (c : IsC K n (clsA K n)) (hx : NextF K (clsA K n) (clsA K "Shifted") "parts" g) (F : FnC P w K mg base k g 1 [] m2) : FnC P w K mg base (k + 1) (metA K "Shifted" "parts") 1 [] (runF 2 (b_Shifted_parts n m2)) := by
  obtain ⟨fd, cc, cda, S, hF⟩ := T.e_Shifted_parts
  exact FnC.of (fn_bodyS (N := N_Shifted_parts) (body := b_Shifted_parts n m2) S sc_Shifted_parts fun A outer s H room hG => sat_ret (eat_bin op_addD r2_add (eat_sup0 S rfl c hx F room hG) (ED.od (ed_tup (ad_cons (CD.ed (cd_callP (ok_normal_form T) (room.mono (Nat.le_trans (by decide) hk)) hG T.d_normal_form.g T.d_normal_form.F.kp T.q_normal_form_2 (ad_cons (ed_tup (ad_cons (ed_int) (ad_cons (ed_int) (ad_nil)))) (ad_cons (ed_fld (naB_a (ck_at T.ck 2 rfl)) (BD.od (bd_var 0))) (ad_nil))) (ln_cons (ln_cons (ln_nil))))) (ad_nil)))))) (SupG.b (ps := ["self"]) hF fun _ _ _ _ _ _ _ us hl => match us, hl with | [_], _ => rfl)
abbrev s_Bounded_parts : Stmt := inCls (topS 46) 1
abbrev N_Bounded_parts : List Str := ["self", "__class__"]
theorem sc_Bounded_parts : NScope N_Bounded_parts ["self"] ["__class__"] (defScope s_Bounded_parts) := ⟨rfl, rfl, rfl, by decide +kernel, rfl, by decide +kernel, by decide +kernel, by decide +kernel, by decide +kernel⟩
def b_Bounded_parts (n : Str) (m2 : XF) : XS := sRet (x2 addD (xSup n m2 aNil) (xTup (aCons (xCall m_normal_form (aPick [.inl 0, .inl 1, .inl 2, .inl 3] (aCons (xTup (aCons (xC (.int 1)) (aCons (xC (.int 1)) (aNil)))) (aCons (xTup (aCons (xC (.int 0)) (aCons (xC (.int 1)) (aNil)))) (aNil))) (aCons (x1 (fldD clsN "low") (xB (bVar 0))) (aCons (x1 (fldD clsN "high") (xB (bVar 0))) (aNil))))) (aNil))))
theorem okb_Bounded_parts (T : Txt P K mg A D) {n : Str} {m2 : XF} {g : Addr} {k : Nat} (hk : 3 ≤ k) (c : IsC K n (clsA K n)) (hx : NextF K (clsA K n) (clsA K "Bounded") "parts" g) (F : FnC P w K mg base k g 1 [] m2) : FnC P w K mg base (k + 1) (metA K "Bounded" "parts") 1 [] (runF 2 (b_Bounded_parts n m2)) := by
  obtain ⟨fd, cc, cda, S, hF⟩ := T.e_Bounded_parts
  exact FnC.of (fn_bodyS (N := N_Bounded_parts) (body := b_Bounded_parts n m2) S sc_Bounded_parts fun A outer s H room hG => sat_ret (eat_bin op_addD r2_add (eat_sup0 S rfl c hx F room hG) (ED.od (ed_tup (ad_cons (CD.ed (cd_callPQ (ok_normal_form T) (room.mono (Nat.le_trans (by decide) hk)) hG T.d_normal_form.g T.d_normal_form.F.kp T.q_normal_form_2_low_high (ad_cons (ed_tup (ad_cons (ed_int) (ad_cons (ed_int) (ad_nil)))) (ad_cons (ed_tup (ad_cons (ed_int) (ad_cons (ed_int) (ad_nil)))) (ad_nil))) (kd_cons (ed_fld (naB_a (ck_at T.ck 3 rfl)) (BD.od (bd_var 0))) (kd_cons (ed_fld (naB_a (ck_at T.ck 4 rfl)) (BD.od (bd_var 0))) (kd_nil))) (ln_cons (ln_cons (ln_nil))) (ln_cons (ln_cons (ln_nil))))) (ad_nil)))))) (SupG.b (ps := ["self"]) hF fun _ _ _ _ _ _ _ us hl => match us, hl with | [_], _ => rfl)
abbrev s_Fixed_parts : Stmt := inCls (topS 47) 1
abbrev N_Fixed_parts : List Str := ["self", "__class__"]
theorem sc_Fixed_parts : NScope N_Fixed_parts ["self"] ["__class__"] (defScope s_Fixed_parts) := ⟨rfl, rfl, rfl, by decide +kernel, rfl, by decide +kernel, by decide +kernel, by decide +kernel, by decide +kernel⟩
def b_Fixed_parts (n : Str) (m2 : XF) : XS := sRet (x2 addD (xSup n m2 aNil) (xTup (aCons (xCall (arity 1 m_constant_clause) (aCons (x1 (fldD clsN "constant") (xB (bVar 0))) (aNil))) (aNil))))
theorem okb_Fixed_parts (T : Txt P K mg A D) {n : Str} {m2 : XF} {g : Addr} {k : Nat} (hk : 1 ≤ k) (c : IsC K n (clsA K n)) (hx : NextF K (clsA K n) (clsA K "Fixed") "parts" g) (F : FnC P w K mg base k g 1 [] m2) : FnC P w K mg base (k + 1) (metA K "Fixed" "parts") 1 [] (runF 2 (b_Fixed_parts n m2)) := by
  obtain ⟨fd, cc, cda, S, hF⟩ := T.e_Fixed_parts
  exact FnC.of (fn_bodyS (N := N_Fixed_parts) (body := b_Fixed_parts n m2) S sc_Fixed_parts fun A outer s H room hG => sat_ret (eat_bin op_addD r2_add (eat_sup0 S rfl c hx F room hG) (ED.od (ed_tup (ad_cons (CD.ed (cd_call (ok_constant_clause T) (room.mono (Nat.le_trans (by decide) hk)) hG T.d_constant_clause.g T.d_constant_clause.F.kp T.d_constant_clause.b (ad_cons (ed_fld (naB_a (ck_at T.ck 5 rfl)) (BD.od (bd_var 0))) (ad_nil)))) (ad_nil)))))) (SupG.b (ps := ["self"]) hF fun _ _ _ _ _ _ _ us hl => match us, hl with | [_], _ => rfl)
def m_Scaled_parts_Scaled : XF := runF 2 (b_Scaled_parts "Scaled" m_Clause_parts)
theorem ok_m_Scaled_parts_Scaled (T : Txt P K mg A D) : FnC P w K mg base 4 (metA K "Scaled" "parts") 1 [] m_Scaled_parts_Scaled :=
  okb_Scaled_parts T (by decide) (isoB_c (ck_at T.ck 21 rfl)) (nxB_x (ck_at T.ck 37 rfl)) ((okc_Clause_parts T).mono (by decide))
def m_Shifted_parts_Shifted : XF := runF 2 (b_Shifted_parts "Shifted" m_Clause_parts)
theorem ok_m_Shifted_parts_Shifted (T : Txt P K mg A D) : FnC P w K mg base 4 (metA K "Shifted" "parts") 1 [] m_Shifted_parts_Shifted :=
  okb_Shifted_parts T (by decide) (isoB_c (ck_at T.ck 23 rfl)) (nxB_x (ck_at T.ck 38 rfl)) ((okc_Clause_parts T).mono (by decide))
def m_Bounded_parts_Bounded : XF := runF 2 (b_Bounded_parts "Bounded" m_Clause_parts)
theorem ok_m_Bounded_parts_Bounded (T : Txt P K mg A D) : FnC P w K mg base 4 (metA K "Bounded" "parts") 1 [] m_Bounded_parts_Bounded :=
  okb_Bounded_parts T (by decide) (isoB_c (ck_at T.ck 33 rfl)) (nxB_x (ck_at T.ck 39 rfl)) ((okc_Clause_parts T).mono (by decide))
def m_Fixed_parts_Fixed : XF := runF 2 (b_Fixed_parts "Fixed" m_Clause_parts)
theorem ok_m_Fixed_parts_Fixed (T : Txt P K mg A D) : FnC P w K mg base 2 (metA K "Fixed" "parts") 1 [] m_Fixed_parts_Fixed :=
  okb_Fixed_parts T (by decide) (isoB_c (ck_at T.ck 25 rfl)) (nxB_x (ck_at T.ck 40 rfl)) ((okc_Clause_parts T).mono (by decide))
def m_Scaled_parts_Percent : XF := runF 2 (b_Scaled_parts "Percent" m_Clause_parts)
theorem ok_m_Scaled_parts_Percent (T : Txt P K mg A D) : FnC P w K mg base 4 (metA K "Scaled" "parts") 1 [] m_Scaled_parts_Percent :=
  okb_Scaled_parts T (by decide) (isoB_c (ck_at T.ck 27 rfl)) (nxB_x (ck_at T.ck 41 rfl)) ((okc_Clause_parts T).mono (by decide))
def m_Bounded_parts_Floor : XF := runF 2 (b_Bounded_parts "Floor" m_Clause_parts)
theorem ok_m_Bounded_parts_Floor (T : Txt P K mg A D) : FnC P w K mg base 4 (metA K "Bounded" "parts") 1 [] m_Bounded_parts_Floor :=
  okb_Bounded_parts T (by decide) (isoB_c (ck_at T.ck 30 rfl)) (nxB_x (ck_at T.ck 42 rfl)) ((okc_Clause_parts T).mono (by decide))
def m_Bounded_parts_Cap : XF := runF 2 (b_Bounded_parts "Cap" m_Clause_parts)
theorem ok_m_Bounded_parts_Cap (T : Txt P K mg A D) : FnC P w K mg base 4 (metA K "Bounded" "parts") 1 [] m_Bounded_parts_Cap :=
  okb_Bounded_parts T (by decide) (isoB_c (ck_at T.ck 35 rfl)) (nxB_x (ck_at T.ck 43 rfl)) ((okc_Clause_parts T).mono (by decide))
def m_Shifted_parts_Claim : XF := runF 2 (b_Shifted_parts "Claim" m_Clause_parts)
theorem ok_m_Shifted_parts_Claim (T : Txt P K mg A D) : FnC P w K mg base 4 (metA K "Shifted" "parts") 1 [] m_Shifted_parts_Claim :=
  okb_Shifted_parts T (by decide) (isoB_c (ck_at T.ck 7 rfl)) (nxB_x (ck_at T.ck 44 rfl)) ((okc_Clause_parts T).mono (by decide))
def m_Scaled_parts_Claim : XF := runF 2 (b_Scaled_parts "Claim" m_Shifted_parts_Claim)
theorem ok_m_Scaled_parts_Claim (T : Txt P K mg A D) : FnC P w K mg base 5 (metA K "Scaled" "parts") 1 [] m_Scaled_parts_Claim :=
  okb_Scaled_parts T (by decide) (isoB_c (ck_at T.ck 7 rfl)) (nxB_x (ck_at T.ck 45 rfl)) ((ok_m_Shifted_parts_Claim T).mono (by decide))
def m_Bounded_parts_Claim : XF := runF 2 (b_Bounded_parts "Claim" m_Scaled_parts_Claim)
theorem ok_m_Bounded_parts_Claim (T : Txt P K mg A D) : FnC P w K mg base 6 (metA K "Bounded" "parts") 1 [] m_Bounded_parts_Claim :=
  okb_Bounded_parts T (by decide) (isoB_c (ck_at T.ck 7 rfl)) (nxB_x (ck_at T.ck 46 rfl)) ((ok_m_Scaled_parts_Claim T).mono (by decide))
def m_Scaled_parts_Fee : XF := runF 2 (b_Scaled_parts "Fee" m_Clause_parts)
theorem ok_m_Scaled_parts_Fee (T : Txt P K mg A D) : FnC P w K mg base 4 (metA K "Scaled" "parts") 1 [] m_Scaled_parts_Fee :=
  okb_Scaled_parts T (by decide) (isoB_c (ck_at T.ck 11 rfl)) (nxB_x (ck_at T.ck 47 rfl)) ((okc_Clause_parts T).mono (by decide))
def m_Shifted_parts_Fee : XF := runF 2 (b_Shifted_parts "Fee" m_Scaled_parts_Fee)
theorem ok_m_Shifted_parts_Fee (T : Txt P K mg A D) : FnC P w K mg base 5 (metA K "Shifted" "parts") 1 [] m_Shifted_parts_Fee :=
  okb_Shifted_parts T (by decide) (isoB_c (ck_at T.ck 11 rfl)) (nxB_x (ck_at T.ck 48 rfl)) ((ok_m_Scaled_parts_Fee T).mono (by decide))
def m_Shifted_parts_Voucher : XF := runF 2 (b_Shifted_parts "Voucher" m_Clause_parts)
theorem ok_m_Shifted_parts_Voucher (T : Txt P K mg A D) : FnC P w K mg base 4 (metA K "Shifted" "parts") 1 [] m_Shifted_parts_Voucher :=
  okb_Shifted_parts T (by decide) (isoB_c (ck_at T.ck 14 rfl)) (nxB_x (ck_at T.ck 49 rfl)) ((okc_Clause_parts T).mono (by decide))
def m_Bounded_parts_Voucher : XF := runF 2 (b_Bounded_parts "Voucher" m_Shifted_parts_Voucher)
theorem ok_m_Bounded_parts_Voucher (T : Txt P K mg A D) : FnC P w K mg base 5 (metA K "Bounded" "parts") 1 [] m_Bounded_parts_Voucher :=
  okb_Bounded_parts T (by decide) (isoB_c (ck_at T.ck 14 rfl)) (nxB_x (ck_at T.ck 50 rfl)) ((ok_m_Shifted_parts_Voucher T).mono (by decide))
def m_Scaled_parts_General : XF := runF 2 (b_Scaled_parts "General" m_Clause_parts)
theorem ok_m_Scaled_parts_General (T : Txt P K mg A D) : FnC P w K mg base 4 (metA K "Scaled" "parts") 1 [] m_Scaled_parts_General :=
  okb_Scaled_parts T (by decide) (isoB_c (ck_at T.ck 17 rfl)) (nxB_x (ck_at T.ck 51 rfl)) ((okc_Clause_parts T).mono (by decide))
def m_Shifted_parts_General : XF := runF 2 (b_Shifted_parts "General" m_Scaled_parts_General)
theorem ok_m_Shifted_parts_General (T : Txt P K mg A D) : FnC P w K mg base 5 (metA K "Shifted" "parts") 1 [] m_Shifted_parts_General :=
  okb_Shifted_parts T (by decide) (isoB_c (ck_at T.ck 17 rfl)) (nxB_x (ck_at T.ck 52 rfl)) ((ok_m_Scaled_parts_General T).mono (by decide))
def m_Bounded_parts_General : XF := runF 2 (b_Bounded_parts "General" m_Shifted_parts_General)
theorem ok_m_Bounded_parts_General (T : Txt P K mg A D) : FnC P w K mg base 6 (metA K "Bounded" "parts") 1 [] m_Bounded_parts_General :=
  okb_Bounded_parts T (by decide) (isoB_c (ck_at T.ck 17 rfl)) (nxB_x (ck_at T.ck 53 rfl)) ((ok_m_Shifted_parts_General T).mono (by decide))
def tab_parts : MTab := [("Clause", m_Clause_parts), ("Scaled", m_Scaled_parts_Scaled), ("Shifted", m_Shifted_parts_Shifted), ("Bounded", m_Bounded_parts_Bounded), ("Fixed", m_Fixed_parts_Fixed), ("Percent", m_Scaled_parts_Percent), ("Floor", m_Bounded_parts_Floor), ("Cap", m_Bounded_parts_Cap), ("Claim", m_Bounded_parts_Claim), ("Fee", m_Shifted_parts_Fee), ("Voucher", m_Bounded_parts_Voucher), ("General", m_Bounded_parts_General)]
theorem mt_parts (T : Txt P K mg A D) {X : Cx} (h1 : X.prog = P) (h2 : X.w = w) (h3 : X.K = K) (h4 : X.mg = mg) (h5 : X.base = base) : MTabOk X "parts" 6 0 [] tab_parts := by
  subst h1 h2 h3 h4 h5
  exact mtab_cons (isoB_c (ck_at T.ck 65 rfl)) (meB_m (ck_at T.ck 66 rfl)) ((okc_Clause_parts T).mono (by decide)) (mtab_cons (isoB_c (ck_at T.ck 21 rfl)) (meB_m (ck_at T.ck 64 rfl)) ((ok_m_Scaled_parts_Scaled T).mono (by decide)) (mtab_cons (isoB_c (ck_at T.ck 23 rfl)) (meB_m (ck_at T.ck 63 rfl)) ((ok_m_Shifted_parts_Shifted T).mono (by decide)) (mtab_cons (isoB_c (ck_at T.ck 33 rfl)) (meB_m (ck_at T.ck 62 rfl)) ((ok_m_Bounded_parts_Bounded T).mono (by decide)) (mtab_cons (isoB_c (ck_at T.ck 25 rfl)) (meB_m (ck_at T.ck 61 rfl)) ((ok_m_Fixed_parts_Fixed T).mono (by decide)) (mtab_cons (isoB_c (ck_at T.ck 27 rfl)) (meB_m (ck_at T.ck 60 rfl)) ((ok_m_Scaled_parts_Percent T).mono (by decide)) (mtab_cons (isoB_c (ck_at T.ck 30 rfl)) (meB_m (ck_at T.ck 59 rfl)) ((ok_m_Bounded_parts_Floor T).mono (by decide)) (mtab_cons (isoB_c (ck_at T.ck 35 rfl)) (meB_m (ck_at T.ck 58 rfl)) ((ok_m_Bounded_parts_Cap T).mono (by decide)) (mtab_cons (isoB_c (ck_at T.ck 7 rfl)) (meB_m (ck_at T.ck 57 rfl)) ((ok_m_Bounded_parts_Claim T).mono (by decide)) (mtab_cons (isoB_c (ck_at T.ck 11 rfl)) (meB_m (ck_at T.ck 56 rfl)) ((ok_m_Shifted_parts_Fee T).mono (by decide)) (mtab_cons (isoB_c (ck_at T.ck 14 rfl)) (meB_m (ck_at T.ck 55 rfl)) ((ok_m_Bounded_parts_Voucher T).mono (by decide)) (mtab_cons (isoB_c (ck_at T.ck 17 rfl)) (meB_m (ck_at T.ck 54 rfl)) ((ok_m_Bounded_parts_General T).mono (by decide)) (mtab_nil))))))))))))
abbrev s_Clause_form : Stmt := inCls (topS 43) 3
abbrev N_Clause_form : List Str := ["self", "found"]
theorem sc_Clause_form : FnScope N_Clause_form ["self"] (defScope s_Clause_form) := ⟨rfl, rfl, rfl, by decide +kernel, rfl, by decide +kernel, by decide +kernel⟩
def b_Clause_form : XS := sSeq (sSet 1 (xOf (gMeth tab_parts (rvS "parts" 0) (aBoth aNil aNil)))) (sRet (xCall m_chained (aStar (xVar 1))))
def m_Clause_form : XF := runF 2 b_Clause_form
theorem okg_Clause_form (T : Txt P K mg A D) {fd : FuncData} (F : Fun K "form" "Clause.form" s_Clause_form (metA K "Clause" "form") fd) : FnG P w K mg base 8 (metA K "Clause" "form") fd ["self"] m_Clause_form :=
  fn_body F sc_Clause_form fun cdv A outer s H room hG => ssd_cons (sd_set 1 sc_Clause_form.nd (CDf.ed (cd_meth0 (mt_parts T rfl rfl rfl rfl rfl) (rd_S 0) (room.mono (by decide)) hG))) (ssd_one (sd_ret (CD.ed (cd_callVs (ok_chained T) (room.mono (by decide)) hG T.d_chained.g T.d_chained.F.kp (ed_var 1)))))
theorem okc_Clause_form (T : Txt P K mg A D) : FnC P w K mg base 8 (metA K "Clause" "form") 1 [] m_Clause_form := by
  obtain ⟨fd, F, hb⟩ := T.e_Clause_form
  exact FnC.of (okg_Clause_form T F) hb
def tab_form : MTab := [("Clause", m_Clause_form), ("Scaled", m_Clause_form), ("Shifted", m_Clause_form), ("Bounded", m_Clause_form), ("Fixed", m_Clause_form), ("Percent", m_Clause_form), ("Floor", m_Clause_form), ("Cap", m_Clause_form), ("Claim", m_Clause_form), ("Fee", m_Clause_form), ("Voucher", m_Clause_form), ("General", m_Clause_form)]
theorem mt_form (T : Txt P K mg A D) {X : Cx} (h1 : X.prog = P) (h2 : X.w = w) (h3 : X.K = K) (h4 : X.mg = mg) (h5 : X.base = base) : MTabOk X "form" 8 0 [] tab_form := by
  subst h1 h2 h3 h4 h5
  exact mtab_cons (isoB_c (ck_at T.ck 65 rfl)) (meB_m (ck_at T.ck 78 rfl)) ((okc_Clause_form T).mono (by decide)) (mtab_cons (isoB_c (ck_at T.ck 21 rfl)) (meB_m (ck_at T.ck 77 rfl)) ((okc_Clause_form T).mono (by decide)) (mtab_cons (isoB_c (ck_at T.ck 23 rfl)) (meB_m (ck_at T.ck 76 rfl)) ((okc_Clause_form T).mono (by decide)) (mtab_cons (isoB_c (ck_at T.ck 33 rfl)) (meB_m (ck_at T.ck 75 rfl)) ((okc_Clause_form T).mono (by decide)) (mtab_cons (isoB_c (ck_at T.ck 25 rfl)) (meB_m (ck_at T.ck 74 rfl)) ((okc_Clause_form T).mono (by decide)) (mtab_cons (isoB_c (ck_at T.ck 27 rfl)) (meB_m (ck_at T.ck 73 rfl)) ((okc_Clause_form T).mono (by decide)) (mtab_cons (isoB_c (ck_at T.ck 30 rfl)) (meB_m (ck_at T.ck 72 rfl)) ((okc_Clause_form T).mono (by decide)) (mtab_cons (isoB_c (ck_at T.ck 35 rfl)) (meB_m (ck_at T.ck 71 rfl)) ((okc_Clause_form T).mono (by decide)) (mtab_cons (isoB_c (ck_at T.ck 7 rfl)) (meB_m (ck_at T.ck 70 rfl)) ((okc_Clause_form T).mono (by decide)) (mtab_cons (isoB_c (ck_at T.ck 11 rfl)) (meB_m (ck_at T.ck 69 rfl)) ((okc_Clause_form T).mono (by decide)) (mtab_cons (isoB_c (ck_at T.ck 14 rfl)) (meB_m (ck_at T.ck 68 rfl)) ((okc_Clause_form T).mono (by decide)) (mtab_cons (isoB_c (ck_at T.ck 17 rfl)) (meB_m (ck_at T.ck 67 rfl)) ((okc_Clause_form T).mono (by decide)) (mtab_nil))))))))))))
abbrev s_Clause_result_of : Stmt := inCls (topS 43) 4
abbrev N_Clause_result_of : List Str := ["self", "amount"]
theorem sc_Clause_result_of : FnScope N_Clause_result_of ["self", "amount"] (defScope s_Clause_result_of) := ⟨rfl, rfl, rfl, by decide +kernel, rfl, by decide +kernel, by decide +kernel⟩
def b_Clause_result_of : XS := sRet (xCall (arity 2 m_applied) (aCons (xOf (gMeth tab_form (rvS "form" 0) (aBoth aNil aNil))) (aCons (xVar 1) (aNil))))
def m_Clause_result_of : XF := runF 2 b_Clause_result_of
theorem okg_Clause_result_of (T : Txt P K mg A D) {fd : FuncData} (F : Fun K "result_of" "Clause.result_of" s_Clause_result_of (metA K "Clause" "result_of") fd) : FnG P w K mg base 9 (metA K "Clause" "result_of") fd ["self", "amount"] m_Clause_result_of :=
  fn_body F sc_Clause_result_of fun cdv A outer s H room hG => ssd_one (sd_ret (CD.ed (cd_call (ok_applied T) (room.mono (by decide)) hG T.d_applied.g T.d_applied.F.kp T.d_applied.b (ad_cons (CDf.ed (cd_meth0 (mt_form T rfl rfl rfl rfl rfl) (rd_S 0) (room.mono (by decide)) hG)) (ad_cons (ed_var 1) (ad_nil))))))
theorem okc_Clause_result_of (T : Txt P K mg A D) : FnC P w K mg base 9 (metA K "Clause" "result_of") 2 [] m_Clause_result_of := by
  obtain ⟨fd, F, hb⟩ := T.e_Clause_result_of
  exact FnC.of (okg_Clause_result_of T F) hb
def tab_result_of : MTab := [("Clause", m_Clause_result_of), ("Scaled", m_Clause_result_of), ("Shifted", m_Clause_result_of), ("Bounded", m_Clause_result_of), ("Fixed", m_Clause_result_of), ("Percent", m_Clause_result_of), ("Floor", m_Clause_result_of), ("Cap", m_Clause_result_of), ("Claim", m_Clause_result_of), ("Fee", m_Clause_result_of), ("Voucher", m_Clause_result_of), ("General", m_Clause_result_of)]
theorem mt_result_of (T : Txt P K mg A D) {X : Cx} (h1 : X.prog = P) (h2 : X.w = w) (h3 : X.K = K) (h4 : X.mg = mg) (h5 : X.base = base) : MTabOk X "result_of" 9 1 [] tab_result_of := by
  subst h1 h2 h3 h4 h5
  exact mtab_cons (isoB_c (ck_at T.ck 65 rfl)) (meB_m (ck_at T.ck 90 rfl)) ((okc_Clause_result_of T).mono (by decide)) (mtab_cons (isoB_c (ck_at T.ck 21 rfl)) (meB_m (ck_at T.ck 89 rfl)) ((okc_Clause_result_of T).mono (by decide)) (mtab_cons (isoB_c (ck_at T.ck 23 rfl)) (meB_m (ck_at T.ck 88 rfl)) ((okc_Clause_result_of T).mono (by decide)) (mtab_cons (isoB_c (ck_at T.ck 33 rfl)) (meB_m (ck_at T.ck 87 rfl)) ((okc_Clause_result_of T).mono (by decide)) (mtab_cons (isoB_c (ck_at T.ck 25 rfl)) (meB_m (ck_at T.ck 86 rfl)) ((okc_Clause_result_of T).mono (by decide)) (mtab_cons (isoB_c (ck_at T.ck 27 rfl)) (meB_m (ck_at T.ck 85 rfl)) ((okc_Clause_result_of T).mono (by decide)) (mtab_cons (isoB_c (ck_at T.ck 30 rfl)) (meB_m (ck_at T.ck 84 rfl)) ((okc_Clause_result_of T).mono (by decide)) (mtab_cons (isoB_c (ck_at T.ck 35 rfl)) (meB_m (ck_at T.ck 83 rfl)) ((okc_Clause_result_of T).mono (by decide)) (mtab_cons (isoB_c (ck_at T.ck 7 rfl)) (meB_m (ck_at T.ck 82 rfl)) ((okc_Clause_result_of T).mono (by decide)) (mtab_cons (isoB_c (ck_at T.ck 11 rfl)) (meB_m (ck_at T.ck 81 rfl)) ((okc_Clause_result_of T).mono (by decide)) (mtab_cons (isoB_c (ck_at T.ck 14 rfl)) (meB_m (ck_at T.ck 80 rfl)) ((okc_Clause_result_of T).mono (by decide)) (mtab_cons (isoB_c (ck_at T.ck 17 rfl)) (meB_m (ck_at T.ck 79 rfl)) ((okc_Clause_result_of T).mono (by decide)) (mtab_nil))))))))))))
def m_Clause_result_of_k_amount : XF := selF [.inl 0, .inl 1] m_Clause_result_of
theorem okc_Clause_result_of_k_amount (T : Txt P K mg A D) : FnC P w K mg base 9 (metA K "Clause" "result_of") 1 ["amount"] m_Clause_result_of_k_amount := by
  obtain ⟨fd, F, hb⟩ := T.e_Clause_result_of
  exact FnC.ofP (okg_Clause_result_of T F) (pb_none (fun_d F) fun _ _ _ _ _ _ us ws h1 h2 => match us, ws, h1, h2 with | [u0], [w0], _, _ => ⟨[u0, w0], rfl, rfl, .at_ rfl (.at_ rfl (.nil))⟩)
def tab_result_of_amount : MTab := [("Clause", m_Clause_result_of_k_amount), ("Scaled", m_Clause_result_of_k_amount), ("Shifted", m_Clause_result_of_k_amount), ("Bounded", m_Clause_result_of_k_amount), ("Fixed", m_Clause_result_of_k_amount), ("Percent", m_Clause_result_of_k_amount), ("Floor", m_Clause_result_of_k_amount), ("Cap", m_Clause_result_of_k_amount), ("Claim", m_Clause_result_of_k_amount), ("Fee", m_Clause_result_of_k_amount), ("Voucher", m_Clause_result_of_k_amount), ("General", m_Clause_result_of_k_amount)]
theorem mt_result_of_amount (T : Txt P K mg A D) {X : Cx} (h1 : X.prog = P) (h2 : X.w = w) (h3 : X.K = K) (h4 : X.mg = mg) (h5 : X.base = base) : MTabOk X "result_of" 9 0 ["amount"] tab_result_of_amount := by
  subst h1 h2 h3 h4 h5
  exact mtab_cons (isoB_c (ck_at T.ck 65 rfl)) (meB_m (ck_at T.ck 90 rfl)) ((okc_Clause_result_of_k_amount T).mono (by decide)) (mtab_cons (isoB_c (ck_at T.ck 21 rfl)) (meB_m (ck_at T.ck 89 rfl)) ((okc_Clause_result_of_k_amount T).mono (by decide)) (mtab_cons (isoB_c (ck_at T.ck 23 rfl)) (meB_m (ck_at T.ck 88 rfl)) ((okc_Clause_result_of_k_amount T).mono (by decide)) (mtab_cons (isoB_c (ck_at T.ck 33 rfl)) (meB_m (ck_at T.ck 87 rfl)) ((okc_Clause_result_of_k_amount T).mono (by decide)) (mtab_cons (isoB_c (ck_at T.ck 25 rfl)) (meB_m (ck_at T.ck 86 rfl)) ((okc_Clause_result_of_k_amount T).mono (by decide)) (mtab_cons (isoB_c (ck_at T.ck 27 rfl)) (meB_m (ck_at T.ck 85 rfl)) ((okc_Clause_result_of_k_amount T).mono (by decide)) (mtab_cons (isoB_c (ck_at T.ck 30 rfl)) (meB_m (ck_at T.ck 84 rfl)) ((okc_Clause_result_of_k_amount T).mono (by decide)) (mtab_cons (isoB_c (ck_at T.ck 35 rfl)) (meB_m (ck_at T.ck 83 rfl)) ((okc_Clause_result_of_k_amount T).mono (by decide)) (mtab_cons (isoB_c (ck_at T.ck 7 rfl)) (meB_m (ck_at T.ck 82 rfl)) ((okc_Clause_result_of_k_amount T).mono (by decide)) (mtab_cons (isoB_c (ck_at T.ck 11 rfl)) (meB_m (ck_at T.ck 81 rfl)) ((okc_Clause_result_of_k_amount T).mono (by decide)) (mtab_cons (isoB_c (ck_at T.ck 14 rfl)) (meB_m (ck_at T.ck 80 rfl)) ((okc_Clause_result_of_k_amount T).mono (by decide)) (mtab_cons (isoB_c (ck_at T.ck 17 rfl)) (meB_m (ck_at T.ck 79 rfl)) ((okc_Clause_result_of_k_amount T).mono (by decide)) (mtab_nil))))))))))))
abbrev s_Clause_eq : Stmt := inCls (topS 43) 5
abbrev N_Clause_eq : List Str := ["self", "other"]
theorem sc_Clause_eq : FnScope N_Clause_eq ["self", "other"] (defScope s_Clause_eq) := ⟨rfl, rfl, rfl, by decide +kernel, rfl, by decide +kernel, by decide +kernel⟩
def b_Clause_eq : XS := sRet (xAnd (xIsO isT_Clause (xVar 1)) (x2 eqD (xOf (gMeth tab_form (rvS "form" 0) (aBoth aNil aNil))) (xOf (gMeth tab_form (rvS "form" 1) (aBoth aNil aNil)))))
def m_Clause_eq : XF := runF 2 b_Clause_eq
theorem okg_Clause_eq (T : Txt P K mg A D) {fd : FuncData} (F : Fun K "__eq__" "Clause.__eq__" s_Clause_eq (metA K "Clause" "__eq__") fd) : FnG P w K mg base 9 (metA K "Clause" "__eq__") fd ["self", "other"] m_Clause_eq :=
  fn_body F sc_Clause_eq fun cdv A outer s H room hG => ssd_one (sd_ret (ed_and (ed_isO (isB_s (ck_at T.ck 91 rfl) (ck_at T.ck 92 rfl) (ck_at T.ck 93 rfl) (by decide)) T.n_isinstance b_isinstance T.g_Clause (ED.od (ed_var 1))) (ed_one (ed_cmp (op_eqX room.u64) r2_eq (CDf.ed (cd_meth0 (mt_form T rfl rfl rfl rfl rfl) (rd_S 0) (room.mono (by decide)) hG)) (ED.od (CDf.ed (cd_meth0 (mt_form T rfl rfl rfl rfl rfl) (rd_S 1) (room.mono (by decide)) hG)))))))
theorem okc_Clause_eq (T : Txt P K mg A D) : FnC P w K mg base 9 (metA K "Clause" "__eq__") 2 [] m_Clause_eq := by
  obtain ⟨fd, F, hb⟩ := T.e_Clause_eq
  exact FnC.of (okg_Clause_eq T F) hb
def tab_eq : MTab := [("Clause", m_Clause_eq), ("Scaled", m_Clause_eq), ("Shifted", m_Clause_eq), ("Bounded", m_Clause_eq), ("Fixed", m_Clause_eq), ("Percent", m_Clause_eq), ("Floor", m_Clause_eq), ("Cap", m_Clause_eq), ("Claim", m_Clause_eq), ("Fee", m_Clause_eq), ("Voucher", m_Clause_eq), ("General", m_Clause_eq)]
theorem et_eq (T : Txt P K mg A D) {X : Cx} (h1 : X.prog = P) (h2 : X.w = w) (h3 : X.K = K) (h4 : X.mg = mg) (h5 : X.base = base) : EqTabOk X 9 tab_eq := by
  subst h1 h2 h3 h4 h5
  exact etab_cons (isoB_c (ck_at T.ck 65 rfl)) (eqB_e (ck_at T.ck 105 rfl)) (okc_Clause_eq T) (etab_cons (isoB_c (ck_at T.ck 21 rfl)) (eqB_e (ck_at T.ck 104 rfl)) (okc_Clause_eq T) (etab_cons (isoB_c (ck_at T.ck 23 rfl)) (eqB_e (ck_at T.ck 103 rfl)) (okc_Clause_eq T) (etab_cons (isoB_c (ck_at T.ck 33 rfl)) (eqB_e (ck_at T.ck 102 rfl)) (okc_Clause_eq T) (etab_cons (isoB_c (ck_at T.ck 25 rfl)) (eqB_e (ck_at T.ck 101 rfl)) (okc_Clause_eq T) (etab_cons (isoB_c (ck_at T.ck 27 rfl)) (eqB_e (ck_at T.ck 100 rfl)) (okc_Clause_eq T) (etab_cons (isoB_c (ck_at T.ck 30 rfl)) (eqB_e (ck_at T.ck 99 rfl)) (okc_Clause_eq T) (etab_cons (isoB_c (ck_at T.ck 35 rfl)) (eqB_e (ck_at T.ck 98 rfl)) (okc_Clause_eq T) (etab_cons (isoB_c (ck_at T.ck 7 rfl)) (eqB_e (ck_at T.ck 97 rfl)) (okc_Clause_eq T) (etab_cons (isoB_c (ck_at T.ck 11 rfl)) (eqB_e (ck_at T.ck 96 rfl)) (okc_Clause_eq T) (etab_cons (isoB_c (ck_at T.ck 14 rfl)) (eqB_e (ck_at T.ck 95 rfl)) (okc_Clause_eq T) (etab_cons (isoB_c (ck_at T.ck 17 rfl)) (eqB_e (ck_at T.ck 94 rfl)) (okc_Clause_eq T) (etab_nil))))))))))))
abbrev s_Clause_str : Stmt := inCls (topS 43) 6
abbrev N_Clause_str : List Str := ["self"]
theorem sc_Clause_str : FnScope N_Clause_str ["self"] (defScope s_Clause_str) := ⟨rfl, rfl, rfl, by decide +kernel, rfl, by decide +kernel, by decide +kernel⟩
def b_Clause_str : XS := sRet (x1 fmtD (xCall (arity 1 m_clause_text) (aCons (xOf (gMeth tab_form (rvS "form" 0) (aBoth aNil aNil))) (aNil))))
def m_Clause_str : XF := runF 1 b_Clause_str
theorem okg_Clause_str (T : Txt P K mg A D) {fd : FuncData} (F : Fun K "__str__" "Clause.__str__" s_Clause_str (metA K "Clause" "__str__") fd) : FnG P w K mg base 9 (metA K "Clause" "__str__") fd ["self"] m_Clause_str :=
  fn_body F sc_Clause_str fun cdv A outer s H room hG => ssd_one (sd_ret (ed_j1 (ed_fmt (CD.ed (cd_call (ok_clause_text T) (room.mono (by decide)) hG T.d_clause_text.g T.d_clause_text.F.kp T.d_clause_text.b (ad_cons (CDf.ed (cd_meth0 (mt_form T rfl rfl rfl rfl rfl) (rd_S 0) (room.mono (by decide)) hG)) (ad_nil)))))))
theorem okc_Clause_str (T : Txt P K mg A D) : FnC P w K mg base 9 (metA K "Clause" "__str__") 1 [] m_Clause_str := by
  obtain ⟨fd, F, hb⟩ := T.e_Clause_str
  exact FnC.of (okg_Clause_str T F) hb
def tab_str : MTab := [("Clause", m_Clause_str), ("Scaled", m_Clause_str), ("Shifted", m_Clause_str), ("Bounded", m_Clause_str), ("Fixed", m_Clause_str), ("Percent", m_Clause_str), ("Floor", m_Clause_str), ("Cap", m_Clause_str), ("Claim", m_Clause_str), ("Fee", m_Clause_str), ("Voucher", m_Clause_str), ("General", m_Clause_str)]
theorem st_str (T : Txt P K mg A D) {X : Cx} (h1 : X.prog = P) (h2 : X.w = w) (h3 : X.K = K) (h4 : X.mg = mg) (h5 : X.base = base) : StrTabOk X 9 tab_str := by
  subst h1 h2 h3 h4 h5
  exact stab_cons (isoB_c (ck_at T.ck 65 rfl)) (meB_s (ck_at T.ck 117 rfl)) (okc_Clause_str T) (stab_cons (isoB_c (ck_at T.ck 21 rfl)) (meB_s (ck_at T.ck 116 rfl)) (okc_Clause_str T) (stab_cons (isoB_c (ck_at T.ck 23 rfl)) (meB_s (ck_at T.ck 115 rfl)) (okc_Clause_str T) (stab_cons (isoB_c (ck_at T.ck 33 rfl)) (meB_s (ck_at T.ck 114 rfl)) (okc_Clause_str T) (stab_cons (isoB_c (ck_at T.ck 25 rfl)) (meB_s (ck_at T.ck 113 rfl)) (okc_Clause_str T) (stab_cons (isoB_c (ck_at T.ck 27 rfl)) (meB_s (ck_at T.ck 112 rfl)) (okc_Clause_str T) (stab_cons (isoB_c (ck_at T.ck 30 rfl)) (meB_s (ck_at T.ck 111 rfl)) (okc_Clause_str T) (stab_cons (isoB_c (ck_at T.ck 35 rfl)) (meB_s (ck_at T.ck 110 rfl)) (okc_Clause_str T) (stab_cons (isoB_c (ck_at T.ck 7 rfl)) (meB_s (ck_at T.ck 109 rfl)) (okc_Clause_str T) (stab_cons (isoB_c (ck_at T.ck 11 rfl)) (meB_s (ck_at T.ck 108 rfl)) (okc_Clause_str T) (stab_cons (isoB_c (ck_at T.ck 14 rfl)) (meB_s (ck_at T.ck 107 rfl)) (okc_Clause_str T) (stab_cons (isoB_c (ck_at T.ck 17 rfl)) (meB_s (ck_at T.ck 106 rfl)) (okc_Clause_str T) (stab_nil))))))))))))
abbrev s_l_bare_right : Stmt := topS 78
abbrev N_l_bare_right : List Str := ["_law_one", "_law_things", "_law_thing", "_law_many"]
theorem sc_l_bare_right : FnScope N_l_bare_right [] (defScope s_l_bare_right) := ⟨rfl, rfl, rfl, by decide +kernel, rfl, by decide +kernel, by decide +kernel⟩
def b_l_bare_right : XS := sSeq (sSet 0 (xTup (aCons (xTup (aCons (xC (.int 1)) (aCons (xC (.int 1)) (aNil)))) (aCons (xTup (aCons (xC (.int 0)) (aCons (xC (.int 1)) (aNil)))) (aCons (xC .none) (aCons (xC .none) (aNil))))))) (sSeq (sSet 1 (xLst (aCons (xTup (aCons (xFz (nMake "Clause" m_Clause_init (aNil))) (aCons (xC (.int 0)) (aNil)))) (aCons (xTup (aCons (xFz (nMake "Scaled" mi_32 (aNil))) (aCons (xC (.int 1)) (aNil)))) (aCons (xTup (aCons (xFz (nMake "Shifted" mi_33 (aNil))) (aCons (xC (.int 1)) (aNil)))) (aCons (xTup (aCons (xFz (nMake "Bounded" mi_34 (aNil))) (aCons (xC (.int 1)) (aNil)))) (aCons (xTup (aCons (xFz (nMake "Claim" mi_37 (aNil))) (aCons (xC (.int 3)) (aNil)))) (aCons (xTup (aCons (xFz (nMake "Fee" mi_39 (aNil))) (aCons (xC (.int 2)) (aNil)))) (aCons (xTup (aCons (xFz (nMake "Voucher" mi_41 (aNil))) (aCons (xC (.int 2)) (aNil)))) (aNil)))))))))) (sSeq (sFor (iOf (x2 addD (xVar 1) (xLst (aCons (xTup (aCons (xFz (nMake "General" mi_44 (aNil))) (aCons (xC (.int 3)) (aNil)))) (aNil))))) (gTp 2 (gsCons (gNm 2) (gsCons (gNm 3) (gsNil)))) (sIf (xOrT (tst (x2 neD (x1 reprD (xLst (aCons (xOf (gMeth tab_parts (rvS "parts" 2) (aBoth aNil aNil))) (aCons (xOf (gMeth tab_form (rvS "form" 2) (aBoth aNil aNil))) (aNil))))) (x1 reprD (xLst (aCons (x2 mulY (xTup (aCons (xVar 0) (aNil))) (xVar 3)) (aCons (xVar 0) (aNil))))))) (tst (xEqO tab_eq subT true (xVar 2) (xFz (nMake "Clause" m_Clause_init (aNil)))))) (sRet (xC (.bool false))) (sNil))) (sRet (x2 eqD (x1 reprD (xC (.tuple [.tuple [.int 1, .int 1], .tuple [.int 0, .int 1], .none, .none]))) (x1 reprD (xVar 0))))))
def m_l_bare_right : XF := runF 4 b_l_bare_right
theorem ok_l_bare_right (T : Txt P K mg A D) : FnG P w K mg base 11 (A 78) (D 78) [] m_l_bare_right :=
  fn_body T.d_l_bare_right.F sc_l_bare_right fun cdv A outer s H room hG => ssd_cons (sd_set 0 sc_l_bare_right.nd (ed_tup (ad_cons (ed_tup (ad_cons (ed_int) (ad_cons (ed_int) (ad_nil)))) (ad_cons (ed_tup (ad_cons (ed_int) (ad_cons (ed_int) (ad_nil)))) (ad_cons (ed_non) (ad_cons (ed_non) (ad_nil))))))) (ssd_cons (sd_set 1 sc_l_bare_right.nd (ed_lst (ad_cons (ed_tup (ad_cons (ND.ed (nd_make (isoB_c (ck_at T.ck 65 rfl)) (mkB_m (ck_at T.ck 124 rfl)) (ok_m_Clause_init T) (room.mono (by decide)) hG T.g_Clause (kd_nil) (ln_nil))) (ad_cons (ed_int) (ad_nil)))) (ad_cons (ed_tup (ad_cons (ND.ed (nd_make (isoB_c (ck_at T.ck 21 rfl)) (mkB_m (ck_at T.ck 123 rfl)) (ok_mi_32 T) (room.mono (by decide)) hG T.g_Scaled (kd_nil) (ln_nil))) (ad_cons (ed_int) (ad_nil)))) (ad_cons (ed_tup (ad_cons (ND.ed (nd_make (isoB_c (ck_at T.ck 23 rfl)) (mkB_m (ck_at T.ck 122 rfl)) (ok_mi_33 T) (room.mono (by decide)) hG T.g_Shifted (kd_nil) (ln_nil))) (ad_cons (ed_int) (ad_nil)))) (ad_cons (ed_tup (ad_cons (ND.ed (nd_make (isoB_c (ck_at T.ck 33 rfl)) (mkB_m (ck_at T.ck 121 rfl)) (ok_mi_34 T) (room.mono (by decide)) hG T.g_Bounded (kd_nil) (ln_nil))) (ad_cons (ed_int) (ad_nil)))) (ad_cons (ed_tup (ad_cons (ND.ed (nd_make (isoB_c (ck_at T.ck 7 rfl)) (mkB_m (ck_at T.ck 120 rfl)) (ok_mi_37 T) (room.mono (by decide)) hG T.g_Claim (kd_nil) (ln_nil))) (ad_cons (ed_int) (ad_nil)))) (ad_cons (ed_tup (ad_cons (ND.ed (nd_make (isoB_c (ck_at T.ck 11 rfl)) (mkB_m (ck_at T.ck 119 rfl)) (ok_mi_39 T) (room.mono (by decide)) hG T.g_Fee (kd_nil) (ln_nil))) (ad_cons (ed_int) (ad_nil)))) (ad_cons (ed_tup (ad_cons (ND.ed (nd_make (isoB_c (ck_at T.ck 14 rfl)) (mkB_m (ck_at T.ck 118 rfl)) (ok_mi_41 T) (room.mono (by decide)) hG T.g_Voucher (kd_nil) (ln_nil))) (ad_cons (ed_int) (ad_nil)))) (ad_nil)))))))))) (ssd_cons (sd_for PassesOwn.never rfl (id_seq (ed_bin op_addD r2_add (ed_var 1) (ED.od (ed_lst (ad_cons (ed_tup (ad_cons (ND.ed (nd_make (isoB_c (ck_at T.ck 17 rfl)) (mkB_m (ck_at T.ck 125 rfl)) (ok_mi_44 T) (room.mono (by decide)) hG T.g_General (kd_nil) (ln_nil))) (ad_cons (ed_int) (ad_nil)))) (ad_nil)))))) (gd_tup rfl (gsd_cons (gd_name 2 sc_l_bare_right.nd) (gsd_cons (gd_name 3 sc_l_bare_right.nd) (gsd_nil)))) (ssd_one (sd_if (WD.td (wd_or (td_cmp (op_neX room.u64) r2_ne (ed_c1 (call_reprD hG room.u64) c1_repr T.n_repr b_repr (ED.od (ed_lst (ad_cons (CDf.ed (cd_meth0 (mt_parts T rfl rfl rfl rfl rfl) (rd_S 2) (room.mono (by decide)) hG)) (ad_cons (CDf.ed (cd_meth0 (mt_form T rfl rfl rfl rfl rfl) (rd_S 2) (room.mono (by decide)) hG)) (ad_nil)))))) (ED.od (ed_c1 (call_reprD hG room.u64) c1_repr T.n_repr b_repr (ED.od (ed_lst (ad_cons (ed_bin op_mulY r2_mulY (ed_tup (ad_cons (ed_var 0) (ad_nil))) (ED.od (ed_var 3))) (ad_cons (ed_var 0) (ad_nil)))))))) (wd_or1 (td_neO (room.mono (by decide)) hG (et_eq T rfl rfl rfl rfl rfl) (subsB_s (ck_at T.ck 126 rfl) (ck_at T.ck 93 rfl) (by decide)) (ed_var 2) (ND.ed (nd_make (isoB_c (ck_at T.ck 65 rfl)) (mkB_m (ck_at T.ck 124 rfl)) (ok_m_Clause_init T) (room.mono (by decide)) hG T.g_Clause (kd_nil) (ln_nil))))))) (ssd_one (sd_ret (ed_bl))) (ssd_nil)))) (ssd_one (sd_ret (ed_cmp (op_eqX room.u64) r2_eq (ed_c1 (call_reprD hG room.u64) c1_repr T.n_repr b_repr (ED.od (ed_cvalT T.cv_Clause_IDENTITY T.g_Clause))) (ED.od (ed_c1 (call_reprD hG room.u64) c1_repr T.n_repr b_repr (ED.od (ed_var 0)))))))))
abbrev s_l_draw : Stmt := topS 57
abbrev N_l_draw : List Str := ["_law_feed_here", "_law_many", "_law_digit", "_law_at", "_law_cell", "_law_mixed"]
theorem sc_l_draw : FnScope N_l_draw ["_law_feed_here", "_law_many"] (defScope s_l_draw) := ⟨rfl, rfl, rfl, by decide +kernel, rfl, by decide +kernel, by decide +kernel⟩
def b_l_draw : XS := sSeq (sPut 0 (xC (.str "count")) (x2 addD (xGet 0 (xC (.str "count"))) (xC (.int 1)))) (sSeq (sIf (tst (x2 gtD (xGet 0 (xC (.str "left"))) (xC (.int 0)))) (sSeq (sSet 2 (x2 modD (xGet 0 (xC (.str "left"))) (xVar 1))) (sSeq (sPut 0 (xC (.str "left")) (x2 fdivD (xGet 0 (xC (.str "left"))) (xVar 1))) (sRet (xVar 2)))) (sNil)) (sSeq (sSet 3 (xGet 0 (xC (.str "at")))) (sSeq (sPut 0 (xC (.str "at")) (x2 addD (xVar 3) (xC (.int 1)))) (sSeq (sSet 4 (xIf (tst (x2 neD (xGet 0 (xC (.str "cells"))) (xLst (aNil)))) (x2 idxD (xGet 0 (xC (.str "cells"))) (x2 modD (xVar 3) (x1 lenD (xGet 0 (xC (.str "cells")))))) (xC (.int 53)))) (sSeq (sIf (xAndT (tst (x2 geD (xVar 4) (x2 powD (xC (.int 10)) (xC (.int 18))))) (tst (x2 ltD (xVar 3) (x1 lenD (xGet 0 (xC (.str "cells"))))))) (sSeq (sPut 0 (xC (.str "left")) (x2 fdivD (xVar 4) (xVar 1))) (sRet (x2 modD (xVar 4) (xVar 1)))) (sNil)) (sSeq (sSet 5 (x2 modD (x2 addD (x2 addD (x2 modD (xVar 4) (xC (.int 1000000453))) (x2 mulD (xC (.int 150011)) (xGet 0 (xC (.str "count"))))) (xC (.int 97))) (xC (.int 2147483423)))) (sSeq (sSet 5 (x2 modD (x2 addD (x2 addD (x2 mulD (xVar 5) (xVar 5)) (x2 mulD (xC (.int 3700129)) (xGet 0 (xC (.str "count"))))) (xC (.int 67))) (xC (.int 2147483399)))) (sRet (x2 modD (x2 fdivD (x2 modD (x2 addD (x2 mulD (xVar 5) (xVar 5)) (x2 mulD (xC (.int 79)) (xVar 5))) (xC (.int 2147483353))) (xC (.int 16))) (xVar 1))))))))))
def m_l_draw : XF := runF 6 b_l_draw
theorem ok_l_draw (T : Txt P K mg A D) : FnG P w K mg base 1 (A 57) (D 57) ["_law_feed_here", "_law_many"] m_l_draw :=
  fn_body T.d_l_draw.F sc_l_draw fun cdv A outer s H room hG => ssd_cons (sd_put 0 room.u1 (ed_str) (ed_bin op_addD r2_add (ed_get 0 room.u1 (ed_str)) (ED.od (ed_int)))) (ssd_cons (sd_if (td_cmp op_gt r2_gt (ed_get 0 room.u1 (ed_str)) (ED.od (ed_int))) (ssd_cons (sd_set 2 sc_l_draw.nd (ed_bin op_modD r2_mod (ed_get 0 room.u1 (ed_str)) (ED.od (ed_var 1)))) (ssd_cons (sd_put 0 room.u1 (ed_str) (ed_bin op_fdivD r2_fdiv (ed_get 0 room.u1 (ed_str)) (ED.od (ed_var 1)))) (ssd_one (sd_ret (ed_var 2))))) (ssd_nil)) (ssd_cons (sd_set 3 sc_l_draw.nd (ed_get 0 room.u1 (ed_str))) (ssd_cons (sd_put 0 room.u1 (ed_str) (ed_bin op_addD r2_add (ed_var 3) (ED.od (ed_int)))) (ssd_cons (sd_set 4 sc_l_draw.nd (ed_if (td_cmp (op_neX room.u64) r2_ne (ed_get 0 room.u1 (ed_str)) (ED.od (ed_lst (ad_nil)))) (ed_ix (ed_get 0 room.u1 (ed_str)) (ED.od (ed_bin op_modD r2_mod (ed_var 3) (ED.od (ed_c1 call_len c1_len T.n_len b_len (ED.od (ed_get 0 room.u1 (ed_str)))))))) (ed_int))) (ssd_cons (sd_if (WD.td (wd_and (td_cmp op_ge r2_ge (ed_var 4) (ED.od (ed_bin op_pow r2_pow (ed_int) (ED.od (ed_int))))) (wd_and1 (td_cmp op_ltD r2_lt (ed_var 3) (ED.od (ed_c1 call_len c1_len T.n_len b_len (ED.od (ed_get 0 room.u1 (ed_str))))))))) (ssd_cons (sd_put 0 room.u1 (ed_str) (ed_bin op_fdivD r2_fdiv (ed_var 4) (ED.od (ed_var 1)))) (ssd_one (sd_ret (ed_bin op_modD r2_mod (ed_var 4) (ED.od (ed_var 1)))))) (ssd_nil)) (ssd_cons (sd_set 5 sc_l_draw.nd (ed_bin op_modD r2_mod (ed_bin op_addD r2_add (ed_bin op_addD r2_add (ed_bin op_modD r2_mod (ed_var 4) (ED.od (ed_int))) (ED.od (ed_bin op_mulD r2_mul (ed_int) (ED.od (ed_get 0 room.u1 (ed_str)))))) (ED.od (ed_int))) (ED.od (ed_int)))) (ssd_cons (sd_set 5 sc_l_draw.nd (ed_bin op_modD r2_mod (ed_bin op_addD r2_add (ed_bin op_addD r2_add (ed_bin op_mulD r2_mul (ed_var 5) (ED.od (ed_var 5))) (ED.od (ed_bin op_mulD r2_mul (ed_int) (ED.od (ed_get 0 room.u1 (ed_str)))))) (ED.od (ed_int))) (ED.od (ed_int)))) (ssd_one (sd_ret (ed_bin op_modD r2_mod (ed_bin op_fdivD r2_fdiv (ed_bin op_modD r2_mod (ed_bin op_addD r2_add (ed_bin op_mulD r2_mul (ed_var 5) (ED.od (ed_var 5))) (ED.od (ed_bin op_mulD r2_mul (ed_int) (ED.od (ed_var 5))))) (ED.od (ed_int))) (ED.od (ed_int))) (ED.od (ed_var 1))))))))))))
abbrev s_l_sizes : Stmt := topS 69
abbrev N_l_sizes : List Str := ["_law_some"]
theorem sc_l_sizes : FnScope N_l_sizes [] (defScope s_l_sizes) := ⟨rfl, rfl, rfl, by decide +kernel, rfl, by decide +kernel, by decide +kernel⟩
def b_l_sizes : XS := sSeq (sSet 0 (xLst (aCons (xTup (aCons (xC (.int 0)) (aCons (xC (.int 1)) (aNil)))) (aCons (xTup (aCons (xC (.int 1)) (aCons (xC (.int 1)) (aNil)))) (aCons (xTup (aCons (x1 negD (xC (.int 1))) (aCons (xC (.int 1)) (aNil)))) (aCons (xTup (aCons (xC (.int 2)) (aCons (xC (.int 1)) (aNil)))) (aCons (xTup (aCons (x1 negD (xC (.int 2))) (aCons (xC (.int 1)) (aNil)))) (aCons (xTup (aCons (xC (.int 5)) (aCons (xC (.int 1)) (aNil)))) (aCons (xTup (aCons (x1 negD (xC (.int 5))) (aCons (xC (.int 1)) (aNil)))) (aCons (xTup (aCons (xC (.int 10)) (aCons (xC (.int 1)) (aNil)))) (aCons (xTup (aCons (x1 negD (xC (.int 10))) (aCons (xC (.int 1)) (aNil)))) (aCons (xTup (aCons (xC (.int 20)) (aCons (xC (.int 1)) (aNil)))) (aCons (xTup (aCons (xC (.int 50)) (aCons (xC (.int 1)) (aNil)))) (aCons (xTup (aCons (xC (.int 100)) (aCons (xC (.int 1)) (aNil)))) (aNil))))))))))))))) (sRet (x2 addD (xVar 0) (xLst (aCons (xTup (aCons (x1 negD (xC (.int 100))) (aCons (xC (.int 1)) (aNil)))) (aCons (xTup (aCons (xC (.int 1)) (aCons (xC (.int 2)) (aNil)))) (aCons (xTup (aCons (x1 negD (xC (.int 1))) (aCons (xC (.int 2)) (aNil)))) (aCons (xTup (aCons (xC (.int 3)) (aCons (xC (.int 2)) (aNil)))) (aCons (xTup (aCons (x1 negD (xC (.int 7))) (aCons (xC (.int 2)) (aNil)))) (aCons (xTup (aCons (xC (.int 2)) (aCons (xC (.int 3)) (aNil)))) (aCons (xTup (aCons (xC (.int 11)) (aCons (xC (.int 10)) (aNil)))) (aCons (xTup (aCons (xC (.int 9)) (aCons (xC (.int 10)) (aNil)))) (aCons (xTup (aCons (xC (.int 9999)) (aCons (xC (.int 1)) (aNil)))) (aCons (xTup (aCons (x1 negD (xC (.int 9999))) (aCons (xC (.int 1)) (aNil)))) (aNil))))))))))))))
def m_l_sizes : XF := runF 1 b_l_sizes
theorem ok_l_sizes (T : Txt P K mg A D) : FnG P w K mg base 1 (A 69) (D 69) [] m_l_sizes :=
  fn_body T.d_l_sizes.F sc_l_sizes fun cdv A outer s H room hG => ssd_cons (sd_set 0 sc_l_sizes.nd (ed_lst (ad_cons (ed_tup (ad_cons (ed_int) (ad_cons (ed_int) (ad_nil)))) (ad_cons (ed_tup (ad_cons (ed_int) (ad_cons (ed_int) (ad_nil)))) (ad_cons (ed_tup (ad_cons (ed_neg (ED.od (ed_int))) (ad_cons (ed_int) (ad_nil)))) (ad_cons (ed_tup (ad_cons (ed_int) (ad_cons (ed_int) (ad_nil)))) (ad_cons (ed_tup (ad_cons (ed_neg (ED.od (ed_int))) (ad_cons (ed_int) (ad_nil)))) (ad_cons (ed_tup (ad_cons (ed_int) (ad_cons (ed_int) (ad_nil)))) (ad_cons (ed_tup (ad_cons (ed_neg (ED.od (ed_int))) (ad_cons (ed_int) (ad_nil)))) (ad_cons (ed_tup (ad_cons (ed_int) (ad_cons (ed_int) (ad_nil)))) (ad_cons (ed_tup (ad_cons (ed_neg (ED.od (ed_int))) (ad_cons (ed_int) (ad_nil)))) (ad_cons (ed_tup (ad_cons (ed_int) (ad_cons (ed_int) (ad_nil)))) (ad_cons (ed_tup (ad_cons (ed_int) (ad_cons (ed_int) (ad_nil)))) (ad_cons (ed_tup (ad_cons (ed_int) (ad_cons (ed_int) (ad_nil)))) (ad_nil))))))))))))))) (ssd_one (sd_ret (ed_bin op_addD r2_add (ed_var 0) (ED.od (ed_lst (ad_cons (ed_tup (ad_cons (ed_neg (ED.od (ed_int))) (ad_cons (ed_int) (ad_nil)))) (ad_cons (ed_tup (ad_cons (ed_int) (ad_cons (ed_int) (ad_nil)))) (ad_cons (ed_tup (ad_cons (ed_neg (ED.od (ed_int))) (ad_cons (ed_int) (ad_nil)))) (ad_cons (ed_tup (ad_cons (ed_int) (ad_cons (ed_int) (ad_nil)))) (ad_cons (ed_tup (ad_cons (ed_neg (ED.od (ed_int))) (ad_cons (ed_int) (ad_nil)))) (ad_cons (ed_tup (ad_cons (ed_int) (ad_cons (ed_int) (ad_nil)))) (ad_cons (ed_tup (ad_cons (ed_int) (ad_cons (ed_int) (ad_nil)))) (ad_cons (ed_tup (ad_cons (ed_int) (ad_cons (ed_int) (ad_nil)))) (ad_cons (ed_tup (ad_cons (ed_int) (ad_cons (ed_int) (ad_nil)))) (ad_cons (ed_tup (ad_cons (ed_neg (ED.od (ed_int))) (ad_cons (ed_int) (ad_nil)))) (ad_nil))))))))))))))))
abbrev s_l_size : Stmt := topS 70
abbrev N_l_size : List Str := ["_law_feed_here"]
theorem sc_l_size : FnScope N_l_size ["_law_feed_here"] (defScope s_l_size) := ⟨rfl, rfl, rfl, by decide +kernel, rfl, by decide +kernel, by decide +kernel⟩
def b_l_size : XS := sRet (x2 idxD (xCall m_l_sizes aNil) (xCall (arity 2 m_l_draw) (aSlot 0 (aCons (xC (.int 22)) (aNil)))))
def m_l_size : XF := runF 1 b_l_size
theorem ok_l_size (T : Txt P K mg A D) : FnG P w K mg base 2 (A 70) (D 70) ["_law_feed_here"] m_l_size :=
  fn_body T.d_l_size.F sc_l_size fun cdv A outer s H room hG => ssd_one (sd_ret (ed_ix (CD.ed (cd_call0 (ok_l_sizes T) (room.mono (by decide)) hG T.d_l_sizes.g T.d_l_sizes.F.kp T.d_l_sizes.b)) (ED.od (CD.ed (cd_call (ok_l_draw T) (room.mono (by decide)) hG T.d_l_draw.g T.d_l_draw.F.kp T.d_l_draw.b (ad_slot 0 (ad_cons (ed_int) (ad_nil))))))))
abbrev s_l_less : Stmt := topS 62
abbrev N_l_less : List Str := ["_law_one", "_law_other"]
theorem sc_l_less : FnScope N_l_less ["_law_one", "_law_other"] (defScope s_l_less) := ⟨rfl, rfl, rfl, by decide +kernel, rfl, by decide +kernel, by decide +kernel⟩
def b_l_less : XS := sRet (x2 ltD (x2 mulD (x2 idxD (xVar 0) (xC (.int 0))) (x2 idxD (xVar 1) (xC (.int 1)))) (x2 mulD (x2 idxD (xVar 1) (xC (.int 0))) (x2 idxD (xVar 0) (xC (.int 1)))))
def m_l_less : XF := runF 2 b_l_less
theorem ok_l_less (T : Txt P K mg A D) : FnG P w K mg base 1 (A 62) (D 62) ["_law_one", "_law_other"] m_l_less :=
  fn_body T.d_l_less.F sc_l_less fun cdv A outer s H room hG => ssd_one (sd_ret (ed_cmp op_ltD r2_lt (ed_bin op_mulD r2_mul (ed_ix (ed_var 0) (ED.od (ed_int))) (ED.od (ed_ix (ed_var 1) (ED.od (ed_int))))) (ED.od (ed_bin op_mulD r2_mul (ed_ix (ed_var 1) (ED.od (ed_int))) (ED.od (ed_ix (ed_var 0) (ED.od (ed_int))))))))
abbrev s_l_raw : Stmt := topS 71
abbrev N_l_raw : List Str := ["_law_feed_here", "_law_ratio_here", "_law_more", "_law_ends", "_law_k"]
theorem sc_l_raw : FnScope N_l_raw ["_law_feed_here"] (defScope s_l_raw) := ⟨rfl, rfl, rfl, by decide +kernel, rfl, by decide +kernel, by decide +kernel⟩
def b_l_raw : XS := sSeq (sSet 1 (x2 idxD (xLst (aCons (xTup (aCons (xC (.int 1)) (aCons (xC (.int 1)) (aNil)))) (aCons (xTup (aCons (xC (.int 1)) (aCons (xC (.int 1)) (aNil)))) (aCons (xTup (aCons (xC (.int 2)) (aCons (xC (.int 1)) (aNil)))) (aCons (xTup (aCons (xC (.int 1)) (aCons (xC (.int 2)) (aNil)))) (aCons (xTup (aCons (xC (.int 0)) (aCons (xC (.int 1)) (aNil)))) (aCons (xTup (aCons (xC (.int 3)) (aCons (xC (.int 1)) (aNil)))) (aCons (xTup (aCons (xC (.int 11)) (aCons (xC (.int 10)) (aNil)))) (aCons (xTup (aCons (xC (.int 2)) (aCons (xC (.int 3)) (aNil)))) (aCons (xTup (aCons (xC (.int 9)) (aCons (xC (.int 10)) (aNil)))) (aCons (xTup (aCons (xC (.int 10)) (aCons (xC (.int 1)) (aNil)))) (aNil)))))))))))) (xCall (arity 2 m_l_draw) (aSlot 0 (aCons (xC (.int 10)) (aNil)))))) (sSeq (sSet 2 (xIf (tst (x2 eqD (xCall (arity 2 m_l_draw) (aSlot 0 (aCons (xC (.int 2)) (aNil)))) (xC (.int 0)))) (xTup (aCons (xC (.int 0)) (aCons (xC (.int 1)) (aNil)))) (xCall (arity 1 m_l_size) (aSlot 0 (aNil))))) (sSeq (sSet 3 (xFz (nLc (iRng (xC (.int 2))) (gNm 4) (cYes) (xIf (tst (x2 eqD (xCall (arity 2 m_l_draw) (aSlot 0 (aCons (xC (.int 2)) (aNil)))) (xC (.int 0)))) (xCall (arity 1 m_l_size) (aSlot 0 (aNil))) (xC .none)) [4]))) (sSeq (sIf (xAndT (tst (x2 notNonD (x2 idxD (xVar 3) (xC (.int 0))) (xC .none))) (xAndT (tst (x2 notNonD (x2 idxD (xVar 3) (xC (.int 1))) (xC .none))) (xTru (xCall (arity 2 m_l_less) (aCons (x2 idxD (xVar 3) (xC (.int 1))) (aCons (x2 idxD (xVar 3) (xC (.int 0))) (aNil))))))) (sSet 3 (x1 revD (xVar 3))) (sNil)) (sRet (xTup (aCons (xVar 1) (aCons (xVar 2) (aCons (x2 idxD (xVar 3) (xC (.int 0))) (aCons (x2 idxD (xVar 3) (xC (.int 1))) (aNil))))))))))
def m_l_raw : XF := runF 5 b_l_raw
theorem ok_l_raw (T : Txt P K mg A D) : FnG P w K mg base 3 (A 71) (D 71) ["_law_feed_here"] m_l_raw :=
  fn_body T.d_l_raw.F sc_l_raw fun cdv A outer s H room hG => ssd_cons (sd_set 1 sc_l_raw.nd (ed_ix (ed_lst (ad_cons (ed_tup (ad_cons (ed_int) (ad_cons (ed_int) (ad_nil)))) (ad_cons (ed_tup (ad_cons (ed_int) (ad_cons (ed_int) (ad_nil)))) (ad_cons (ed_tup (ad_cons (ed_int) (ad_cons (ed_int) (ad_nil)))) (ad_cons (ed_tup (ad_cons (ed_int) (ad_cons (ed_int) (ad_nil)))) (ad_cons (ed_tup (ad_cons (ed_int) (ad_cons (ed_int) (ad_nil)))) (ad_cons (ed_tup (ad_cons (ed_int) (ad_cons (ed_int) (ad_nil)))) (ad_cons (ed_tup (ad_cons (ed_int) (ad_cons (ed_int) (ad_nil)))) (ad_cons (ed_tup (ad_cons (ed_int) (ad_cons (ed_int) (ad_nil)))) (ad_cons (ed_tup (ad_cons (ed_int) (ad_cons (ed_int) (ad_nil)))) (ad_cons (ed_tup (ad_cons (ed_int) (ad_cons (ed_int) (ad_nil)))) (ad_nil)))))))))))) (ED.od (CD.ed (cd_call (ok_l_draw T) (room.mono (by decide)) hG T.d_l_draw.g T.d_l_draw.F.kp T.d_l_draw.b (ad_slot 0 (ad_cons (ed_int) (ad_nil)))))))) (ssd_cons (sd_set 2 sc_l_raw.nd (ed_if (td_cmp (op_eqX room.u64) r2_eq (CD.ed (cd_call (ok_l_draw T) (room.mono (by decide)) hG T.d_l_draw.g T.d_l_draw.F.kp T.d_l_draw.b (ad_slot 0 (ad_cons (ed_int) (ad_nil))))) (ED.od (ed_int))) (ed_tup (ad_cons (ed_int) (ad_cons (ed_int) (ad_nil)))) (CD.ed (cd_call (ok_l_size T) (room.mono (by decide)) hG T.d_l_size.g T.d_l_size.F.kp T.d_l_size.b (ad_slot 0 (ad_nil)))))) (ssd_cons (And.left (sd_setLc (vs := [4]) 3 [("_law_k", 4)] (blkOk_by (own := [("_law_k", 4)]) (N := N_l_raw) (sc := defScope s_l_raw) (by decide +kernel)) rfl rfl sc_l_raw.nd (id_rng T.n_range (ed_int)) (fun _ _ _ _ _ => gd_name 4 sc_l_raw.nd) (fun _ _ _ _ _ => tsd_nil) (fun _ _ _ _ _ => ed_if (td_cmp (op_eqX room.u64) r2_eq (CD.ed (cd_call (ok_l_draw T) (room.mono (by decide)) hG T.d_l_draw.g T.d_l_draw.F.kp T.d_l_draw.b (ad_slot 0 (ad_cons (ed_int) (ad_nil))))) (ED.od (ed_int))) (CD.ed (cd_call (ok_l_size T) (room.mono (by decide)) hG T.d_l_size.g T.d_l_size.F.kp T.d_l_size.b (ad_slot 0 (ad_nil)))) (ed_non)) (sw_true rfl rfl rfl (by decide +kernel)))) (ssd_cons (sd_if (WD.td (wd_and (td_cmp op_notN r2_notN (ed_ix (ed_var 3) (ED.od (ed_int))) (ED.od (ed_non))) (wd_and (td_cmp op_notN r2_notN (ed_ix (ed_var 3) (ED.od (ed_int))) (ED.od (ed_non))) (wd_and1 (td_tru (ED.od (CD.ed (cd_call (ok_l_less T) (room.mono (by decide)) hG T.d_l_less.g T.d_l_less.F.kp T.d_l_less.b (ad_cons (ed_ix (ed_var 3) (ED.od (ed_int))) (ad_cons (ed_ix (ed_var 3) (ED.od (ed_int))) (ad_nil))))))))))) (ssd_one (sd_set 3 sc_l_raw.nd (ed_rev (ed_var 3)))) (ssd_nil)) (ssd_one (sd_ret (ed_tup (ad_cons (ed_var 1) (ad_cons (ed_var 2) (ad_cons (ed_ix (ed_var 3) (ED.od (ed_int))) (ad_cons (ed_ix (ed_var 3) (ED.od (ed_int))) (ad_nil)))))))))))
abbrev s_l_constant : Stmt := topS 65
abbrev N_l_constant : List Str := ["_law_size_here"]
theorem sc_l_constant : FnScope N_l_constant ["_law_size_here"] (defScope s_l_constant) := ⟨rfl, rfl, rfl, by decide +kernel, rfl, by decide +kernel, by decide +kernel⟩
def b_l_constant : XS := sRet (xTup (aCons (xTup (aCons (xC (.int 0)) (aCons (xC (.int 1)) (aNil)))) (aCons (xVar 0) (aCons (xC .none) (aCons (xC .none) (aNil))))))
def m_l_constant : XF := runF 1 b_l_constant
theorem ok_l_constant (T : Txt P K mg A D) : FnG P w K mg base 1 (A 65) (D 65) ["_law_size_here"] m_l_constant :=
  fn_body T.d_l_constant.F sc_l_constant fun cdv A outer s H room hG => ssd_one (sd_ret (ed_tup (ad_cons (ed_tup (ad_cons (ed_int) (ad_cons (ed_int) (ad_nil)))) (ad_cons (ed_var 0) (ad_cons (ed_non) (ad_cons (ed_non) (ad_nil)))))))
abbrev s_l_bounded : Stmt := topS 63
abbrev N_l_bounded : List Str := ["_law_size_here", "_law_low_in", "_law_high_in"]
theorem sc_l_bounded : FnScope N_l_bounded ["_law_size_here", "_law_low_in", "_law_high_in"] (defScope s_l_bounded) := ⟨rfl, rfl, rfl, by decide +kernel, rfl, by decide +kernel, by decide +kernel⟩
def b_l_bounded : XS := sSeq (sIf (xAndT (tst (x2 notNonD (xVar 1) (xC .none))) (xTru (xCall (arity 2 m_l_less) (aCons (xVar 0) (aCons (xVar 1) (aNil)))))) (sRet (xVar 1)) (sNil)) (sRet (xIf (xAndT (tst (x2 notNonD (xVar 2) (xC .none))) (xTru (xCall (arity 2 m_l_less) (aCons (xVar 2) (aCons (xVar 0) (aNil)))))) (xVar 2) (xVar 0)))
def m_l_bounded : XF := runF 3 b_l_bounded
theorem ok_l_bounded (T : Txt P K mg A D) : FnG P w K mg base 2 (A 63) (D 63) ["_law_size_here", "_law_low_in", "_law_high_in"] m_l_bounded :=
  fn_body T.d_l_bounded.F sc_l_bounded fun cdv A outer s H room hG => ssd_cons (sd_if (WD.td (wd_and (td_cmp op_notN r2_notN (ed_var 1) (ED.od (ed_non))) (wd_and1 (td_tru (ED.od (CD.ed (cd_call (ok_l_less T) (room.mono (by decide)) hG T.d_l_less.g T.d_l_less.F.kp T.d_l_less.b (ad_cons (ed_var 0) (ad_cons (ed_var 1) (ad_nil)))))))))) (ssd_one (sd_ret (ed_var 1))) (ssd_nil)) (ssd_one (sd_ret (ed_if (WD.td (wd_and (td_cmp op_notN r2_notN (ed_var 2) (ED.od (ed_non))) (wd_and1 (td_tru (ED.od (CD.ed (cd_call (ok_l_less T) (room.mono (by decide)) hG T.d_l_less.g T.d_l_less.F.kp T.d_l_less.b (ad_cons (ed_var 2) (ad_cons (ed_var 0) (ad_nil)))))))))) (ed_var 2) (ed_var 0))))
abbrev s_l_normal : Stmt := topS 66
abbrev N_l_normal : List Str := ["_law_ratio_here", "_law_more", "_law_low_in", "_law_high_in"]
theorem sc_l_normal : FnScope N_l_normal ["_law_ratio_here", "_law_more", "_law_low_in", "_law_high_in"] (defScope s_l_normal) := ⟨rfl, rfl, rfl, by decide +kernel, rfl, by decide +kernel, by decide +kernel⟩
def b_l_normal : XS := sSeq (sIf (tst (x2 eqD (xVar 0) (xTup (aCons (xC (.int 0)) (aCons (xC (.int 1)) (aNil)))))) (sRet (xCall (arity 1 m_l_constant) (aCons (xCall (arity 3 m_l_bounded) (aCons (xVar 1) (aCons (xVar 2) (aCons (xVar 3) (aNil))))) (aNil)))) (sNil)) (sRet (xIf (xAndT (tst (x2 notNonD (xVar 2) (xC .none))) (tst (x2 eqD (xVar 2) (xVar 3)))) (xCall (arity 1 m_l_constant) (aCons (xVar 2) (aNil))) (xTup (aCons (xVar 0) (aCons (xVar 1) (aCons (xVar 2) (aCons (xVar 3) (aNil))))))))
def m_l_normal : XF := runF 4 b_l_normal
theorem ok_l_normal (T : Txt P K mg A D) : FnG P w K mg base 3 (A 66) (D 66) ["_law_ratio_here", "_law_more", "_law_low_in", "_law_high_in"] m_l_normal :=
  fn_body T.d_l_normal.F sc_l_normal fun cdv A outer s H room hG => ssd_cons (sd_if (td_cmp (op_eqX room.u64) r2_eq (ed_var 0) (ED.od (ed_tup (ad_cons (ed_int) (ad_cons (ed_int) (ad_nil)))))) (ssd_one (sd_ret (CD.ed (cd_call (ok_l_constant T) (room.mono (by decide)) hG T.d_l_constant.g T.d_l_constant.F.kp T.d_l_constant.b (ad_cons (CD.ed (cd_call (ok_l_bounded T) (room.mono (by decide)) hG T.d_l_bounded.g T.d_l_bounded.F.kp T.d_l_bounded.b (ad_cons (ed_var 1) (ad_cons (ed_var 2) (ad_cons (ed_var 3) (ad_nil)))))) (ad_nil)))))) (ssd_nil)) (ssd_one (sd_ret (ed_if (WD.td (wd_and (td_cmp op_notN r2_notN (ed_var 2) (ED.od (ed_non))) (wd_and1 (td_cmp (op_eqX room.u64) r2_eq (ed_var 2) (ED.od (ed_var 3)))))) (CD.ed (cd_call (ok_l_constant T) (room.mono (by decide)) hG T.d_l_constant.g T.d_l_constant.F.kp T.d_l_constant.b (ad_cons (ed_var 2) (ad_nil)))) (ed_tup (ad_cons (ed_var 0) (ad_cons (ed_var 1) (ad_cons (ed_var 2) (ad_cons (ed_var 3) (ad_nil)))))))))
abbrev s_l_gcd : Stmt := topS 58
abbrev N_l_gcd : List Str := ["_law_one", "_law_other"]
theorem sc_l_gcd : FnScope N_l_gcd ["_law_one", "_law_other"] (defScope s_l_gcd) := ⟨rfl, rfl, rfl, by decide +kernel, rfl, by decide +kernel, by decide +kernel⟩
def b_l_gcd : XS := sSeq (sPar 0 1 (x1 absD (xVar 0)) (x1 absD (xVar 1))) (sSeq (sWh (gcdFuel) (tst (x2 neD (xVar 1) (xC (.int 0)))) (sPar 0 1 (xVar 1) (x2 modD (xVar 0) (xVar 1)))) (sRet (xVar 0)))
def m_l_gcd : XF := runF 2 b_l_gcd
theorem ok_l_gcd (T : Txt P K mg A D) : FnG P w K mg base 1 (A 58) (D 58) ["_law_one", "_law_other"] m_l_gcd :=
  fn_body T.d_l_gcd.F sc_l_gcd fun cdv A outer s H room hG => ssd_cons (sd_par rfl sc_l_gcd.nd (ed_c1 call_abs c1_abs T.n_abs b_abs (ED.od (ed_var 0))) (ed_c1 call_abs c1_abs T.n_abs b_abs (ED.od (ed_var 1)))) (ssd_cons (sd_wh (gcdFuel) PassesOwn.never (td_cmp (op_neX room.u64) r2_ne (ed_var 1) (ED.od (ed_int))) (ssd_one (sd_par rfl sc_l_gcd.nd (ed_var 1) (ed_bin op_modD r2_mod (ed_var 0) (ED.od (ed_var 1)))))) (ssd_one (sd_ret (ed_var 0))))
abbrev s_l_ratio : Stmt := topS 59
abbrev N_l_ratio : List Str := ["_law_top", "_law_under", "_law_part"]
theorem sc_l_ratio : FnScope N_l_ratio ["_law_top", "_law_under"] (defScope s_l_ratio) := ⟨rfl, rfl, rfl, by decide +kernel, rfl, by decide +kernel, by decide +kernel⟩
def b_l_ratio : XS := sSeq (sSet 2 (xIf (tst (x2 gtD (xVar 1) (xC (.int 0)))) (xCall (arity 2 m_l_gcd) (aCons (xVar 0) (aCons (xVar 1) (aNil)))) (x2 subD (xC (.int 0)) (xCall (arity 2 m_l_gcd) (aCons (xVar 0) (aCons (xVar 1) (aNil))))))) (sRet (xTup (aCons (x2 fdivD (xVar 0) (xVar 2)) (aCons (x2 fdivD (xVar 1) (xVar 2)) (aNil)))))
def m_l_ratio : XF := runF 3 b_l_ratio
theorem ok_l_ratio (T : Txt P K mg A D) : FnG P w K mg base 2 (A 59) (D 59) ["_law_top", "_law_under"] m_l_ratio :=
  fn_body T.d_l_ratio.F sc_l_ratio fun cdv A outer s H room hG => ssd_cons (sd_set 2 sc_l_ratio.nd (ed_if (td_cmp op_gt r2_gt (ed_var 1) (ED.od (ed_int))) (CD.ed (cd_call (ok_l_gcd T) (room.mono (by decide)) hG T.d_l_gcd.g T.d_l_gcd.F.kp T.d_l_gcd.b (ad_cons (ed_var 0) (ad_cons (ed_var 1) (ad_nil))))) (ed_bin op_subD r2_sub (ed_int) (ED.od (CD.ed (cd_call (ok_l_gcd T) (room.mono (by decide)) hG T.d_l_gcd.g T.d_l_gcd.F.kp T.d_l_gcd.b (ad_cons (ed_var 0) (ad_cons (ed_var 1) (ad_nil))))))))) (ssd_one (sd_ret (ed_tup (ad_cons (ed_bin op_fdivD r2_fdiv (ed_var 0) (ED.od (ed_var 2))) (ad_cons (ed_bin op_fdivD r2_fdiv (ed_var 1) (ED.od (ed_var 2))) (ad_nil))))))
abbrev s_l_times : Stmt := topS 61
abbrev N_l_times : List Str := ["_law_one", "_law_other"]
theorem sc_l_times : FnScope N_l_times ["_law_one", "_law_other"] (defScope s_l_times) := ⟨rfl, rfl, rfl, by decide +kernel, rfl, by decide +kernel, by decide +kernel⟩
def b_l_times : XS := sRet (xCall (arity 2 m_l_ratio) (aCons (x2 mulD (x2 idxD (xVar 0) (xC (.int 0))) (x2 idxD (xVar 1) (xC (.int 0)))) (aCons (x2 mulD (x2 idxD (xVar 0) (xC (.int 1))) (x2 idxD (xVar 1) (xC (.int 1)))) (aNil))))
def m_l_times : XF := runF 2 b_l_times
theorem ok_l_times (T : Txt P K mg A D) : FnG P w K mg base 3 (A 61) (D 61) ["_law_one", "_law_other"] m_l_times :=
  fn_body T.d_l_times.F sc_l_times fun cdv A outer s H room hG => ssd_one (sd_ret (CD.ed (cd_call (ok_l_ratio T) (room.mono (by decide)) hG T.d_l_ratio.g T.d_l_ratio.F.kp T.d_l_ratio.b (ad_cons (ed_bin op_mulD r2_mul (ed_ix (ed_var 0) (ED.od (ed_int))) (ED.od (ed_ix (ed_var 1) (ED.od (ed_int))))) (ad_cons (ed_bin op_mulD r2_mul (ed_ix (ed_var 0) (ED.od (ed_int))) (ED.od (ed_ix (ed_var 1) (ED.od (ed_int))))) (ad_nil))))))
abbrev s_l_made : Stmt := topS 73
abbrev N_l_made : List Str := ["_law_kind", "_law_raw_here", "_law_a", "_law_b", "_law_c", "_law_d", "_law_mult", "_law_plus_now", "_law_ends", "_law_some", "_law_floor", "_law_cap", "_law_part", "_law_held"]
theorem sc_l_made : FnScope N_l_made ["_law_kind", "_law_raw_here"] (defScope s_l_made) := ⟨rfl, rfl, rfl, by decide +kernel, rfl, by decide +kernel, by decide +kernel⟩
def b_l_made : XS := sSeq (sAsg (xVar 1) (gTp 4 (gsCons (gNm 2) (gsCons (gNm 3) (gsCons (gNm 4) (gsCons (gNm 5) (gsNil))))))) (sSeq (sPar 6 7 (xCall (arity 4 m_l_normal) (aCons (xVar 2) (aCons (xTup (aCons (xC (.int 0)) (aCons (xC (.int 1)) (aNil)))) (aCons (xC .none) (aCons (xC .none) (aNil)))))) (xTup (aCons (xTup (aCons (xC (.int 1)) (aCons (xC (.int 1)) (aNil)))) (aCons (xVar 3) (aCons (xC .none) (aCons (xC .none) (aNil))))))) (sSeq (sSet 8 (xCall (arity 4 m_l_normal) (aCons (xTup (aCons (xC (.int 1)) (aCons (xC (.int 1)) (aNil)))) (aCons (xTup (aCons (xC (.int 0)) (aCons (xC (.int 1)) (aNil)))) (aCons (xVar 4) (aCons (xVar 5) (aNil))))))) (sSeq (sIf (tst (x2 ltD (xVar 0) (xC (.int 4)))) (sSeq (sNew 9 (nLst (aCons (xTup (aCons (xFz (nMake "Clause" m_Clause_init (aNil))) (aCons (xTup (aNil)) (aCons (xLst (aNil)) (aNil))))) (aCons (xTup (aCons (xFz (nMake "Scaled" mi_16 (aCons (xVar 2) (aNil)))) (aCons (xTup (aCons (xVar 6) (aNil))) (aCons (xLst (aCons (xTup (aCons (xC (.str "factor")) (aCons (xVar 2) (aNil)))) (aNil))) (aNil))))) (aNil))))) (sSeq (sDrop (xApp 9 (xTup (aCons (xFz (nMake "Shifted" mi_18 (aCons (xVar 3) (aNil)))) (aCons (xTup (aCons (xVar 7) (aNil))) (aCons (xLst (aCons (xTup (aCons (xC (.str "plus")) (aCons (xVar 3) (aNil)))) (aNil))) (aNil))))))) (sRet (x2 idxY (x2 addD (xVar 9) (xLst (aCons (xTup (aCons (xFz (nMake "Bounded" mi_28 (aCons (xVar 5) (aCons (xVar 4) (aNil))))) (aCons (xTup (aCons (xVar 8) (aNil))) (aCons (xLst (aCons (xTup (aCons (xC (.str "low")) (aCons (xVar 4) (aNil)))) (aCons (xTup (aCons (xC (.str "high")) (aCons (xVar 5) (aNil)))) (aNil)))) (aNil))))) (aNil)))) (xVar 0))))) (sNil)) (sSeq (sIf (tst (x2 ltD (xVar 0) (xC (.int 8)))) (sSeq (sPar 10 11 (xCall (arity 4 m_l_normal) (aCons (xTup (aCons (xC (.int 1)) (aCons (xC (.int 1)) (aNil)))) (aCons (xTup (aCons (xC (.int 0)) (aCons (xC (.int 1)) (aNil)))) (aCons (xVar 3) (aCons (xC .none) (aNil)))))) (xCall (arity 4 m_l_normal) (aCons (xTup (aCons (xC (.int 1)) (aCons (xC (.int 1)) (aNil)))) (aCons (xTup (aCons (xC (.int 0)) (aCons (xC (.int 1)) (aNil)))) (aCons (xC .none) (aCons (xVar 3) (aNil))))))) (sSeq (sSet 12 (xCall (arity 2 m_l_times) (aCons (xVar 2) (aCons (xTup (aCons (xC (.int 1)) (aCons (xC (.int 100)) (aNil)))) (aNil))))) (sSeq (sNew 9 (nLst (aCons (xTup (aCons (xFz (nMake "Fixed" mi_20 (aCons (xVar 3) (aNil)))) (aCons (xTup (aCons (xCall (arity 1 m_l_constant) (aCons (xVar 3) (aNil))) (aNil))) (aCons (xLst (aCons (xTup (aCons (xC (.str "constant")) (aCons (xVar 3) (aNil)))) (aNil))) (aNil))))) (aNil)))) (sSeq (sDrop (xApp 9 (xTup (aCons (xFz (nMake "Percent" mi_23 (aCons (xVar 2) (aNil)))) (aCons (xTup (aCons (xCall (arity 4 m_l_normal) (aCons (xVar 12) (aCons (xTup (aCons (xC (.int 0)) (aCons (xC (.int 1)) (aNil)))) (aCons (xC .none) (aCons (xC .none) (aNil)))))) (aNil))) (aCons (xLst (aCons (xTup (aCons (xC (.str "factor")) (aCons (xVar 12) (aNil)))) (aNil))) (aNil))))))) (sSeq (sDrop (xApp 9 (xTup (aCons (xFz (nMake "Floor" mi_26 (aCons (xVar 3) (aNil)))) (aCons (xTup (aCons (xVar 10) (aNil))) (aCons (xLst (aCons (xTup (aCons (xC (.str "low")) (aCons (xVar 3) (aNil)))) (aCons (xTup (aCons (xC (.str "high")) (aCons (xC .none) (aNil)))) (aNil)))) (aNil))))))) (sRet (x2 idxY (x2 addD (xVar 9) (xLst (aCons (xTup (aCons (xFz (nMake "Cap" mi_31 (aCons (xVar 3) (aNil)))) (aCons (xTup (aCons (xVar 11) (aNil))) (aCons (xLst (aCons (xTup (aCons (xC (.str "low")) (aCons (xC .none) (aNil)))) (aCons (xTup (aCons (xC (.str "high")) (aCons (xVar 3) (aNil)))) (aNil)))) (aNil))))) (aNil)))) (x2 subD (xVar 0) (xC (.int 4)))))))))) (sNil)) (sSeq (sNew 9 (nLst (aCons (xTup (aCons (xFz (nMake "Claim" mi_3 (aCons (xVar 3) (aCons (xVar 4) (aCons (xVar 2) (aCons (xVar 5) (aNil))))))) (aCons (xTup (aCons (xVar 7) (aCons (xVar 6) (aCons (xVar 8) (aNil))))) (aNil)))) (aNil)))) (sSeq (sDrop (xApp 9 (xTup (aCons (xFz (nMake "Fee" mi_6 (aCons (xVar 3) (aCons (xVar 2) (aNil))))) (aCons (xTup (aCons (xVar 6) (aCons (xVar 7) (aNil)))) (aNil)))))) (sSeq (sDrop (xApp 9 (xTup (aCons (xFz (nMake "Voucher" mi_9 (aCons (xVar 5) (aCons (xVar 3) (aCons (xVar 4) (aNil)))))) (aCons (xTup (aCons (xVar 7) (aCons (xVar 8) (aNil)))) (aNil)))))) (sSeq (sDrop (xApp 9 (xTup (aCons (xFz (nMake "General" mi_13 (aCons (xVar 2) (aCons (xVar 5) (aCons (xVar 4) (aCons (xVar 3) (aNil))))))) (aCons (xTup (aCons (xVar 6) (aCons (xVar 7) (aCons (xVar 8) (aNil))))) (aNil)))))) (sSeq (sSet 13 (xLst (aCons (xTup (aCons (xC (.str "factor")) (aCons (xVar 2) (aNil)))) (aCons (xTup (aCons (xC (.str "plus")) (aCons (xVar 3) (aNil)))) (aCons (xTup (aCons (xC (.str "low")) (aCons (xVar 4) (aNil)))) (aCons (xTup (aCons (xC (.str "high")) (aCons (xVar 5) (aNil)))) (aNil))))))) (sRet (x2 addD (x2 idxY (xVar 9) (x2 subD (xVar 0) (xC (.int 8)))) (xTup (aCons (x2 idxY (xLst (aCons (xVar 13) (aCons (xSl (xVar 13) (oNone) (oSome (xC (.int 2)))) (aCons (xSl (xVar 13) (oSome (xC (.int 1))) (oNone)) (aCons (xVar 13) (aNil)))))) (x2 subD (xVar 0) (xC (.int 8)))) (aNil))))))))))))))
def m_l_made : XF := runF 14 b_l_made
theorem ok_l_made (T : Txt P K mg A D) : FnG P w K mg base 6 (A 73) (D 73) ["_law_kind", "_law_raw_here"] m_l_made :=
  fn_body T.d_l_made.F sc_l_made fun cdv A outer s H room hG => ssd_cons (sd_asg (ed_var 1) (gd_tup rfl (gsd_cons (gd_name 2 sc_l_made.nd) (gsd_cons (gd_name 3 sc_l_made.nd) (gsd_cons (gd_name 4 sc_l_made.nd) (gsd_cons (gd_name 5 sc_l_made.nd) (gsd_nil))))))) (ssd_cons (sd_par rfl sc_l_made.nd (CD.ed (cd_call (ok_l_normal T) (room.mono (by decide)) hG T.d_l_normal.g T.d_l_normal.F.kp T.d_l_normal.b (ad_cons (ed_var 2) (ad_cons (ed_tup (ad_cons (ed_int) (ad_cons (ed_int) (ad_nil)))) (ad_cons (ed_non) (ad_cons (ed_non) (ad_nil))))))) (ed_tup (ad_cons (ed_tup (ad_cons (ed_int) (ad_cons (ed_int) (ad_nil)))) (ad_cons (ed_var 3) (ad_cons (ed_non) (ad_cons (ed_non) (ad_nil))))))) (ssd_cons (sd_set 8 sc_l_made.nd (CD.ed (cd_call (ok_l_normal T) (room.mono (by decide)) hG T.d_l_normal.g T.d_l_normal.F.kp T.d_l_normal.b (ad_cons (ed_tup (ad_cons (ed_int) (ad_cons (ed_int) (ad_nil)))) (ad_cons (ed_tup (ad_cons (ed_int) (ad_cons (ed_int) (ad_nil)))) (ad_cons (ed_var 4) (ad_cons (ed_var 5) (ad_nil)))))))) (ssd_cons (sd_if (td_cmp op_ltD r2_lt (ed_var 0) (ED.od (ed_int))) (ssd_cons (sd_new 9 sc_l_made.nd (nd_lst (ad_cons (ed_tup (ad_cons (ND.ed (nd_make (isoB_c (ck_at T.ck 65 rfl)) (mkB_m (ck_at T.ck 124 rfl)) (ok_m_Clause_init T) (room.mono (by decide)) hG T.g_Clause (kd_nil) (ln_nil))) (ad_cons (ed_tup (ad_nil)) (ad_cons (ed_lst (ad_nil)) (ad_nil))))) (ad_cons (ed_tup (ad_cons (ND.ed (nd_make (isoB_c (ck_at T.ck 21 rfl)) (mkB_m (ck_at T.ck 123 rfl)) (ok_mi_16 T) (room.mono (by decide)) hG T.g_Scaled (kd_cons (ed_var 2) (kd_nil)) (ln_cons (ln_nil)))) (ad_cons (ed_tup (ad_cons (ed_var 6) (ad_nil))) (ad_cons (ed_lst (ad_cons (ed_tup (ad_cons (ed_str) (ad_cons (ed_var 2) (ad_nil)))) (ad_nil))) (ad_nil))))) (ad_nil))))) (ssd_cons (sd_drop (ed_app 9 (ed_tup (ad_cons (ND.ed (nd_make (isoB_c (ck_at T.ck 23 rfl)) (mkB_m (ck_at T.ck 122 rfl)) (ok_mi_18 T) (room.mono (by decide)) hG T.g_Shifted (kd_cons (ed_var 3) (kd_nil)) (ln_cons (ln_nil)))) (ad_cons (ed_tup (ad_cons (ed_var 7) (ad_nil))) (ad_cons (ed_lst (ad_cons (ed_tup (ad_cons (ed_str) (ad_cons (ed_var 3) (ad_nil)))) (ad_nil))) (ad_nil))))))) (ssd_one (sd_ret (ed_ixY room.u1 (ed_bin op_addD r2_add (ed_var 9) (ED.od (ed_lst (ad_cons (ed_tup (ad_cons (ND.ed (nd_make (isoB_c (ck_at T.ck 33 rfl)) (mkB_m (ck_at T.ck 121 rfl)) (ok_mi_28 T) (room.mono (by decide)) hG T.g_Bounded (kd_cons (ed_var 5) (kd_cons (ed_var 4) (kd_nil))) (ln_cons (ln_cons (ln_nil))))) (ad_cons (ed_tup (ad_cons (ed_var 8) (ad_nil))) (ad_cons (ed_lst (ad_cons (ed_tup (ad_cons (ed_str) (ad_cons (ed_var 4) (ad_nil)))) (ad_cons (ed_tup (ad_cons (ed_str) (ad_cons (ed_var 5) (ad_nil)))) (ad_nil)))) (ad_nil))))) (ad_nil))))) (ED.od (ed_var 0))))))) (ssd_nil)) (ssd_cons (sd_if (td_cmp op_ltD r2_lt (ed_var 0) (ED.od (ed_int))) (ssd_cons (sd_par rfl sc_l_made.nd (CD.ed (cd_call (ok_l_normal T) (room.mono (by decide)) hG T.d_l_normal.g T.d_l_normal.F.kp T.d_l_normal.b (ad_cons (ed_tup (ad_cons (ed_int) (ad_cons (ed_int) (ad_nil)))) (ad_cons (ed_tup (ad_cons (ed_int) (ad_cons (ed_int) (ad_nil)))) (ad_cons (ed_var 3) (ad_cons (ed_non) (ad_nil))))))) (CD.ed (cd_call (ok_l_normal T) (room.mono (by decide)) hG T.d_l_normal.g T.d_l_normal.F.kp T.d_l_normal.b (ad_cons (ed_tup (ad_cons (ed_int) (ad_cons (ed_int) (ad_nil)))) (ad_cons (ed_tup (ad_cons (ed_int) (ad_cons (ed_int) (ad_nil)))) (ad_cons (ed_non) (ad_cons (ed_var 3) (ad_nil)))))))) (ssd_cons (sd_set 12 sc_l_made.nd (CD.ed (cd_call (ok_l_times T) (room.mono (by decide)) hG T.d_l_times.g T.d_l_times.F.kp T.d_l_times.b (ad_cons (ed_var 2) (ad_cons (ed_tup (ad_cons (ed_int) (ad_cons (ed_int) (ad_nil)))) (ad_nil)))))) (ssd_cons (sd_new 9 sc_l_made.nd (nd_lst (ad_cons (ed_tup (ad_cons (ND.ed (nd_make (isoB_c (ck_at T.ck 25 rfl)) (mkB_m (ck_at T.ck 127 rfl)) (ok_mi_20 T) (room.mono (by decide)) hG T.g_Fixed (kd_cons (ed_var 3) (kd_nil)) (ln_cons (ln_nil)))) (ad_cons (ed_tup (ad_cons (CD.ed (cd_call (ok_l_constant T) (room.mono (by decide)) hG T.d_l_constant.g T.d_l_constant.F.kp T.d_l_constant.b (ad_cons (ed_var 3) (ad_nil)))) (ad_nil))) (ad_cons (ed_lst (ad_cons (ed_tup (ad_cons (ed_str) (ad_cons (ed_var 3) (ad_nil)))) (ad_nil))) (ad_nil))))) (ad_nil)))) (ssd_cons (sd_drop (ed_app 9 (ed_tup (ad_cons (ND.ed (nd_make (isoB_c (ck_at T.ck 27 rfl)) (mkB_m (ck_at T.ck 128 rfl)) (ok_mi_23 T) (room.mono (by decide)) hG T.g_Percent (kd_cons (ed_var 2) (kd_nil)) (ln_cons (ln_nil)))) (ad_cons (ed_tup (ad_cons (CD.ed (cd_call (ok_l_normal T) (room.mono (by decide)) hG T.d_l_normal.g T.d_l_normal.F.kp T.d_l_normal.b (ad_cons (ed_var 12) (ad_cons (ed_tup (ad_cons (ed_int) (ad_cons (ed_int) (ad_nil)))) (ad_cons (ed_non) (ad_cons (ed_non) (ad_nil))))))) (ad_nil))) (ad_cons (ed_lst (ad_cons (ed_tup (ad_cons (ed_str) (ad_cons (ed_var 12) (ad_nil)))) (ad_nil))) (ad_nil))))))) (ssd_cons (sd_drop (ed_app 9 (ed_tup (ad_cons (ND.ed (nd_make (isoB_c (ck_at T.ck 30 rfl)) (mkB_m (ck_at T.ck 129 rfl)) (ok_mi_26 T) (room.mono (by decide)) hG T.g_Floor (kd_cons (ed_var 3) (kd_nil)) (ln_cons (ln_nil)))) (ad_cons (ed_tup (ad_cons (ed_var 10) (ad_nil))) (ad_cons (ed_lst (ad_cons (ed_tup (ad_cons (ed_str) (ad_cons (ed_var 3) (ad_nil)))) (ad_cons (ed_tup (ad_cons (ed_str) (ad_cons (ed_non) (ad_nil)))) (ad_nil)))) (ad_nil))))))) (ssd_one (sd_ret (ed_ixY room.u1 (ed_bin op_addD r2_add (ed_var 9) (ED.od (ed_lst (ad_cons (ed_tup (ad_cons (ND.ed (nd_make (isoB_c (ck_at T.ck 35 rfl)) (mkB_m (ck_at T.ck 130 rfl)) (ok_mi_31 T) (room.mono (by decide)) hG T.g_Cap (kd_cons (ed_var 3) (kd_nil)) (ln_cons (ln_nil)))) (ad_cons (ed_tup (ad_cons (ed_var 11) (ad_nil))) (ad_cons (ed_lst (ad_cons (ed_tup (ad_cons (ed_str) (ad_cons (ed_non) (ad_nil)))) (ad_cons (ed_tup (ad_cons (ed_str) (ad_cons (ed_var 3) (ad_nil)))) (ad_nil)))) (ad_nil))))) (ad_nil))))) (ED.od (ed_bin op_subD r2_sub (ed_var 0) (ED.od (ed_int)))))))))))) (ssd_nil)) (ssd_cons (sd_new 9 sc_l_made.nd (nd_lst (ad_cons (ed_tup (ad_cons (ND.ed (nd_make (isoB_c (ck_at T.ck 7 rfl)) (mkB_m (ck_at T.ck 120 rfl)) (ok_mi_3 T) (room.mono (by decide)) hG T.g_Claim (kd_cons (ed_var 3) (kd_cons (ed_var 4) (kd_cons (ed_var 2) (kd_cons (ed_var 5) (kd_nil))))) (ln_cons (ln_cons (ln_cons (ln_cons (ln_nil))))))) (ad_cons (ed_tup (ad_cons (ed_var 7) (ad_cons (ed_var 6) (ad_cons (ed_var 8) (ad_nil))))) (ad_nil)))) (ad_nil)))) (ssd_cons (sd_drop (ed_app 9 (ed_tup (ad_cons (ND.ed (nd_make (isoB_c (ck_at T.ck 11 rfl)) (mkB_m (ck_at T.ck 119 rfl)) (ok_mi_6 T) (room.mono (by decide)) hG T.g_Fee (kd_cons (ed_var 3) (kd_cons (ed_var 2) (kd_nil))) (ln_cons (ln_cons (ln_nil))))) (ad_cons (ed_tup (ad_cons (ed_var 6) (ad_cons (ed_var 7) (ad_nil)))) (ad_nil)))))) (ssd_cons (sd_drop (ed_app 9 (ed_tup (ad_cons (ND.ed (nd_make (isoB_c (ck_at T.ck 14 rfl)) (mkB_m (ck_at T.ck 118 rfl)) (ok_mi_9 T) (room.mono (by decide)) hG T.g_Voucher (kd_cons (ed_var 5) (kd_cons (ed_var 3) (kd_cons (ed_var 4) (kd_nil)))) (ln_cons (ln_cons (ln_cons (ln_nil)))))) (ad_cons (ed_tup (ad_cons (ed_var 7) (ad_cons (ed_var 8) (ad_nil)))) (ad_nil)))))) (ssd_cons (sd_drop (ed_app 9 (ed_tup (ad_cons (ND.ed (nd_make (isoB_c (ck_at T.ck 17 rfl)) (mkB_m (ck_at T.ck 125 rfl)) (ok_mi_13 T) (room.mono (by decide)) hG T.g_General (kd_cons (ed_var 2) (kd_cons (ed_var 5) (kd_cons (ed_var 4) (kd_cons (ed_var 3) (kd_nil))))) (ln_cons (ln_cons (ln_cons (ln_cons (ln_nil))))))) (ad_cons (ed_tup (ad_cons (ed_var 6) (ad_cons (ed_var 7) (ad_cons (ed_var 8) (ad_nil))))) (ad_nil)))))) (ssd_cons (sd_set 13 sc_l_made.nd (ed_lst (ad_cons (ed_tup (ad_cons (ed_str) (ad_cons (ed_var 2) (ad_nil)))) (ad_cons (ed_tup (ad_cons (ed_str) (ad_cons (ed_var 3) (ad_nil)))) (ad_cons (ed_tup (ad_cons (ed_str) (ad_cons (ed_var 4) (ad_nil)))) (ad_cons (ed_tup (ad_cons (ed_str) (ad_cons (ed_var 5) (ad_nil)))) (ad_nil))))))) (ssd_one (sd_ret (ed_bin op_addD r2_add (ed_ixY room.u1 (ed_var 9) (ED.od (ed_bin op_subD r2_sub (ed_var 0) (ED.od (ed_int))))) (ED.od (ed_tup (ad_cons (ed_ixY room.u1 (ed_lst (ad_cons (ed_var 13) (ad_cons (ed_sl (ed_var 13) (pd_none) (pd_some (ed_int))) (ad_cons (ed_sl (ed_var 13) (pd_some (ed_int)) (pd_none)) (ad_cons (ed_var 13) (ad_nil)))))) (ED.od (ed_bin op_subD r2_sub (ed_var 0) (ED.od (ed_int))))) (ad_nil))))))))))))))))
abbrev s_l_add : Stmt := topS 60
abbrev N_l_add : List Str := ["_law_one", "_law_other"]
theorem sc_l_add : FnScope N_l_add ["_law_one", "_law_other"] (defScope s_l_add) := ⟨rfl, rfl, rfl, by decide +kernel, rfl, by decide +kernel, by decide +kernel⟩
def b_l_add : XS := sRet (xCall (arity 2 m_l_ratio) (aCons (x2 addD (x2 mulD (x2 idxD (xVar 0) (xC (.int 0))) (x2 idxD (xVar 1) (xC (.int 1)))) (x2 mulD (x2 idxD (xVar 1) (xC (.int 0))) (x2 idxD (xVar 0) (xC (.int 1))))) (aCons (x2 mulD (x2 idxD (xVar 0) (xC (.int 1))) (x2 idxD (xVar 1) (xC (.int 1)))) (aNil))))
def m_l_add : XF := runF 2 b_l_add
theorem ok_l_add (T : Txt P K mg A D) : FnG P w K mg base 3 (A 60) (D 60) ["_law_one", "_law_other"] m_l_add :=
  fn_body T.d_l_add.F sc_l_add fun cdv A outer s H room hG => ssd_one (sd_ret (CD.ed (cd_call (ok_l_ratio T) (room.mono (by decide)) hG T.d_l_ratio.g T.d_l_ratio.F.kp T.d_l_ratio.b (ad_cons (ed_bin op_addD r2_add (ed_bin op_mulD r2_mul (ed_ix (ed_var 0) (ED.od (ed_int))) (ED.od (ed_ix (ed_var 1) (ED.od (ed_int))))) (ED.od (ed_bin op_mulD r2_mul (ed_ix (ed_var 1) (ED.od (ed_int))) (ED.od (ed_ix (ed_var 0) (ED.od (ed_int))))))) (ad_cons (ed_bin op_mulD r2_mul (ed_ix (ed_var 0) (ED.od (ed_int))) (ED.od (ed_ix (ed_var 1) (ED.od (ed_int))))) (ad_nil))))))
abbrev s_l_apply : Stmt := topS 64
abbrev N_l_apply : List Str := ["_law_item", "_law_size_here"]
theorem sc_l_apply : FnScope N_l_apply ["_law_item", "_law_size_here"] (defScope s_l_apply) := ⟨rfl, rfl, rfl, by decide +kernel, rfl, by decide +kernel, by decide +kernel⟩
def b_l_apply : XS := sRet (xCall (arity 3 m_l_bounded) (aCons (xCall (arity 2 m_l_add) (aCons (xCall (arity 2 m_l_times) (aCons (x2 idxD (xVar 0) (xC (.int 0))) (aCons (xVar 1) (aNil)))) (aCons (x2 idxD (xVar 0) (xC (.int 1))) (aNil)))) (aCons (x2 idxD (xVar 0) (xC (.int 2))) (aCons (x2 idxD (xVar 0) (xC (.int 3))) (aNil)))))
def m_l_apply : XF := runF 2 b_l_apply
theorem ok_l_apply (T : Txt P K mg A D) : FnG P w K mg base 4 (A 64) (D 64) ["_law_item", "_law_size_here"] m_l_apply :=
  fn_body T.d_l_apply.F sc_l_apply fun cdv A outer s H room hG => ssd_one (sd_ret (CD.ed (cd_call (ok_l_bounded T) (room.mono (by decide)) hG T.d_l_bounded.g T.d_l_bounded.F.kp T.d_l_bounded.b (ad_cons (CD.ed (cd_call (ok_l_add T) (room.mono (by decide)) hG T.d_l_add.g T.d_l_add.F.kp T.d_l_add.b (ad_cons (CD.ed (cd_call (ok_l_times T) (room.mono (by decide)) hG T.d_l_times.g T.d_l_times.F.kp T.d_l_times.b (ad_cons (ed_ix (ed_var 0) (ED.od (ed_int))) (ad_cons (ed_var 1) (ad_nil))))) (ad_cons (ed_ix (ed_var 0) (ED.od (ed_int))) (ad_nil))))) (ad_cons (ed_ix (ed_var 0) (ED.od (ed_int))) (ad_cons (ed_ix (ed_var 0) (ED.od (ed_int))) (ad_nil)))))))
abbrev s_l_then : Stmt := topS 67
abbrev N_l_then : List Str := ["_law_one", "_law_other", "_law_low_in", "_law_high_in", "_law_more"]
theorem sc_l_then : FnScope N_l_then ["_law_one", "_law_other"] (defScope s_l_then) := ⟨rfl, rfl, rfl, by decide +kernel, rfl, by decide +kernel, by decide +kernel⟩
def b_l_then : XS := sSeq (sIf (xOrT (tst (x2 eqD (x2 idxD (xVar 0) (xC (.int 0))) (xTup (aCons (xC (.int 0)) (aCons (xC (.int 1)) (aNil)))))) (tst (x2 eqD (x2 idxD (xVar 1) (xC (.int 0))) (xTup (aCons (xC (.int 0)) (aCons (xC (.int 1)) (aNil))))))) (sRet (xCall (arity 1 m_l_constant) (aCons (xCall (arity 2 m_l_apply) (aCons (xVar 1) (aCons (x2 idxD (xVar 0) (xC (.int 1))) (aNil)))) (aNil)))) (sNil)) (sSeq (sSet 2 (xIf (tst (x2 isNonD (x2 idxD (xVar 0) (xC (.int 2))) (xC .none))) (x2 idxD (xVar 1) (xC (.int 2))) (xCall (arity 2 m_l_apply) (aCons (xVar 1) (aCons (x2 idxD (xVar 0) (xC (.int 2))) (aNil)))))) (sSeq (sSet 3 (xIf (tst (x2 isNonD (x2 idxD (xVar 0) (xC (.int 3))) (xC .none))) (x2 idxD (xVar 1) (xC (.int 3))) (xCall (arity 2 m_l_apply) (aCons (xVar 1) (aCons (x2 idxD (xVar 0) (xC (.int 3))) (aNil)))))) (sSeq (sSet 4 (xCall (arity 2 m_l_add) (aCons (xCall (arity 2 m_l_times) (aCons (x2 idxD (xVar 1) (xC (.int 0))) (aCons (x2 idxD (xVar 0) (xC (.int 1))) (aNil)))) (aCons (x2 idxD (xVar 1) (xC (.int 1))) (aNil))))) (sRet (xCall (arity 4 m_l_normal) (aCons (xCall (arity 2 m_l_times) (aCons (x2 idxD (xVar 0) (xC (.int 0))) (aCons (x2 idxD (xVar 1) (xC (.int 0))) (aNil)))) (aCons (xVar 4) (aCons (xVar 2) (aCons (xVar 3) (aNil))))))))))
def m_l_then : XF := runF 5 b_l_then
theorem ok_l_then (T : Txt P K mg A D) : FnG P w K mg base 5 (A 67) (D 67) ["_law_one", "_law_other"] m_l_then :=
  fn_body T.d_l_then.F sc_l_then fun cdv A outer s H room hG => ssd_cons (sd_if (WD.td (wd_or (td_cmp (op_eqX room.u64) r2_eq (ed_ix (ed_var 0) (ED.od (ed_int))) (ED.od (ed_tup (ad_cons (ed_int) (ad_cons (ed_int) (ad_nil)))))) (wd_or1 (td_cmp (op_eqX room.u64) r2_eq (ed_ix (ed_var 1) (ED.od (ed_int))) (ED.od (ed_tup (ad_cons (ed_int) (ad_cons (ed_int) (ad_nil))))))))) (ssd_one (sd_ret (CD.ed (cd_call (ok_l_constant T) (room.mono (by decide)) hG T.d_l_constant.g T.d_l_constant.F.kp T.d_l_constant.b (ad_cons (CD.ed (cd_call (ok_l_apply T) (room.mono (by decide)) hG T.d_l_apply.g T.d_l_apply.F.kp T.d_l_apply.b (ad_cons (ed_var 1) (ad_cons (ed_ix (ed_var 0) (ED.od (ed_int))) (ad_nil))))) (ad_nil)))))) (ssd_nil)) (ssd_cons (sd_set 2 sc_l_then.nd (ed_if (td_cmp op_isN r2_isN (ed_ix (ed_var 0) (ED.od (ed_int))) (ED.od (ed_non))) (ed_ix (ed_var 1) (ED.od (ed_int))) (CD.ed (cd_call (ok_l_apply T) (room.mono (by decide)) hG T.d_l_apply.g T.d_l_apply.F.kp T.d_l_apply.b (ad_cons (ed_var 1) (ad_cons (ed_ix (ed_var 0) (ED.od (ed_int))) (ad_nil))))))) (ssd_cons (sd_set 3 sc_l_then.nd (ed_if (td_cmp op_isN r2_isN (ed_ix (ed_var 0) (ED.od (ed_int))) (ED.od (ed_non))) (ed_ix (ed_var 1) (ED.od (ed_int))) (CD.ed (cd_call (ok_l_apply T) (room.mono (by decide)) hG T.d_l_apply.g T.d_l_apply.F.kp T.d_l_apply.b (ad_cons (ed_var 1) (ad_cons (ed_ix (ed_var 0) (ED.od (ed_int))) (ad_nil))))))) (ssd_cons (sd_set 4 sc_l_then.nd (CD.ed (cd_call (ok_l_add T) (room.mono (by decide)) hG T.d_l_add.g T.d_l_add.F.kp T.d_l_add.b (ad_cons (CD.ed (cd_call (ok_l_times T) (room.mono (by decide)) hG T.d_l_times.g T.d_l_times.F.kp T.d_l_times.b (ad_cons (ed_ix (ed_var 1) (ED.od (ed_int))) (ad_cons (ed_ix (ed_var 0) (ED.od (ed_int))) (ad_nil))))) (ad_cons (ed_ix (ed_var 1) (ED.od (ed_int))) (ad_nil)))))) (ssd_one (sd_ret (CD.ed (cd_call (ok_l_normal T) (room.mono (by decide)) hG T.d_l_normal.g T.d_l_normal.F.kp T.d_l_normal.b (ad_cons (CD.ed (cd_call (ok_l_times T) (room.mono (by decide)) hG T.d_l_times.g T.d_l_times.F.kp T.d_l_times.b (ad_cons (ed_ix (ed_var 0) (ED.od (ed_int))) (ad_cons (ed_ix (ed_var 1) (ED.od (ed_int))) (ad_nil))))) (ad_cons (ed_var 4) (ad_cons (ed_var 2) (ad_cons (ed_var 3) (ad_nil))))))))))))
abbrev s_l_chain : Stmt := topS 68
abbrev N_l_chain : List Str := ["_law_items", "_law_found", "_law_item"]
theorem sc_l_chain : FnScope N_l_chain ["_law_items"] (defScope s_l_chain) := ⟨rfl, rfl, rfl, by decide +kernel, rfl, by decide +kernel, by decide +kernel⟩
def b_l_chain : XS := sSeq (sSet 1 (xTup (aCons (xTup (aCons (xC (.int 1)) (aCons (xC (.int 1)) (aNil)))) (aCons (xTup (aCons (xC (.int 0)) (aCons (xC (.int 1)) (aNil)))) (aCons (xC .none) (aCons (xC .none) (aNil))))))) (sSeq (sFor (iOf (xVar 0)) (gNm 2) (sSet 1 (xCall (arity 2 m_l_then) (aCons (xVar 1) (aCons (xVar 2) (aNil)))))) (sRet (xVar 1)))
def m_l_chain : XF := runF 3 b_l_chain
theorem ok_l_chain (T : Txt P K mg A D) : FnG P w K mg base 6 (A 68) (D 68) ["_law_items"] m_l_chain :=
  fn_body T.d_l_chain.F sc_l_chain fun cdv A outer s H room hG => ssd_cons (sd_set 1 sc_l_chain.nd (ed_tup (ad_cons (ed_tup (ad_cons (ed_int) (ad_cons (ed_int) (ad_nil)))) (ad_cons (ed_tup (ad_cons (ed_int) (ad_cons (ed_int) (ad_nil)))) (ad_cons (ed_non) (ad_cons (ed_non) (ad_nil))))))) (ssd_cons (sd_for PassesOwn.never rfl (id_seq (ed_var 0)) (gd_name 2 sc_l_chain.nd) (ssd_one (sd_set 1 sc_l_chain.nd (CD.ed (cd_call (ok_l_then T) (room.mono (by decide)) hG T.d_l_then.g T.d_l_then.F.kp T.d_l_then.b (ad_cons (ed_var 1) (ad_cons (ed_var 2) (ad_nil)))))))) (ssd_one (sd_ret (ed_var 1))))
abbrev s_l_amounts : Stmt := topS 72
abbrev N_l_amounts : List Str := []
theorem sc_l_amounts : FnScope N_l_amounts [] (defScope s_l_amounts) := ⟨rfl, rfl, rfl, by decide +kernel, rfl, by decide +kernel, by decide +kernel⟩
def b_l_amounts : XS := sRet (xLst (aCons (xTup (aCons (xC (.int 0)) (aCons (xC (.int 1)) (aNil)))) (aCons (xTup (aCons (xC (.int 1)) (aCons (xC (.int 1)) (aNil)))) (aCons (xTup (aCons (x1 negD (xC (.int 1))) (aCons (xC (.int 2)) (aNil)))) (aCons (xTup (aCons (xC (.int 5)) (aCons (xC (.int 1)) (aNil)))) (aCons (xTup (aCons (xC (.int 7)) (aCons (xC (.int 3)) (aNil)))) (aCons (xTup (aCons (x1 negD (xC (.int 10))) (aCons (xC (.int 1)) (aNil)))) (aCons (xTup (aCons (xC (.int 10)) (aCons (xC (.int 1)) (aNil)))) (aCons (xTup (aCons (xC (.int 49)) (aCons (xC (.int 2)) (aNil)))) (aCons (xTup (aCons (xC (.int 100)) (aCons (xC (.int 1)) (aNil)))) (aCons (xTup (aCons (x1 negD (xC (.int 9999))) (aCons (xC (.int 1)) (aNil)))) (aCons (xTup (aCons (xC (.int 10000)) (aCons (xC (.int 1)) (aNil)))) (aNil)))))))))))))
def m_l_amounts : XF := runF 0 b_l_amounts
theorem ok_l_amounts (T : Txt P K mg A D) : FnG P w K mg base 1 (A 72) (D 72) [] m_l_amounts :=
  fn_body T.d_l_amounts.F sc_l_amounts fun cdv A outer s H room hG => ssd_one (sd_ret (ed_lst (ad_cons (ed_tup (ad_cons (ed_int) (ad_cons (ed_int) (ad_nil)))) (ad_cons (ed_tup (ad_cons (ed_int) (ad_cons (ed_int) (ad_nil)))) (ad_cons (ed_tup (ad_cons (ed_neg (ED.od (ed_int))) (ad_cons (ed_int) (ad_nil)))) (ad_cons (ed_tup (ad_cons (ed_int) (ad_cons (ed_int) (ad_nil)))) (ad_cons (ed_tup (ad_cons (ed_int) (ad_cons (ed_int) (ad_nil)))) (ad_cons (ed_tup (ad_cons (ed_neg (ED.od (ed_int))) (ad_cons (ed_int) (ad_nil)))) (ad_cons (ed_tup (ad_cons (ed_int) (ad_cons (ed_int) (ad_nil)))) (ad_cons (ed_tup (ad_cons (ed_int) (ad_cons (ed_int) (ad_nil)))) (ad_cons (ed_tup (ad_cons (ed_int) (ad_cons (ed_int) (ad_nil)))) (ad_cons (ed_tup (ad_cons (ed_neg (ED.od (ed_int))) (ad_cons (ed_int) (ad_nil)))) (ad_cons (ed_tup (ad_cons (ed_int) (ad_cons (ed_int) (ad_nil)))) (ad_nil))))))))))))))
abbrev s_l_ratio_text : Stmt := topS 75
abbrev N_l_ratio_text : List Str := ["_law_size_here"]
theorem sc_l_ratio_text : FnScope N_l_ratio_text ["_law_size_here"] (defScope s_l_ratio_text) := ⟨rfl, rfl, rfl, by decide +kernel, rfl, by decide +kernel, by decide +kernel⟩
def b_l_ratio_text : XS := sRet (xIf (tst (x2 eqD (x2 idxD (xVar 0) (xC (.int 1))) (xC (.int 1)))) (x1 strD (x2 idxD (xVar 0) (xC (.int 0)))) (x2 addD (x2 addD (x1 strD (x2 idxD (xVar 0) (xC (.int 0)))) (xC (.str "/"))) (x1 strD (x2 idxD (xVar 0) (xC (.int 1))))))
def m_l_ratio_text : XF := runF 1 b_l_ratio_text
theorem ok_l_ratio_text (T : Txt P K mg A D) : FnG P w K mg base 1 (A 75) (D 75) ["_law_size_here"] m_l_ratio_text :=
  fn_body T.d_l_ratio_text.F sc_l_ratio_text fun cdv A outer s H room hG => ssd_one (sd_ret (ed_if (td_cmp (op_eqX room.u64) r2_eq (ed_ix (ed_var 0) (ED.od (ed_int))) (ED.od (ed_int))) (ed_t1 call_strD c1_str T.n_str b_str (ED.od (ed_ix (ed_var 0) (ED.od (ed_int))))) (ed_bin op_addD r2_add (ed_bin op_addD r2_add (ed_t1 call_strD c1_str T.n_str b_str (ED.od (ed_ix (ed_var 0) (ED.od (ed_int))))) (ED.od (ed_str))) (ED.od (ed_t1 call_strD c1_str T.n_str b_str (ED.od (ed_ix (ed_var 0) (ED.od (ed_int)))))))))
abbrev s_l_item_text : Stmt := topS 76
abbrev N_l_item_text : List Str := ["_law_item", "_law_part"]
theorem sc_l_item_text : FnScope N_l_item_text ["_law_item"] (defScope s_l_item_text) := ⟨rfl, rfl, rfl, by decide +kernel, rfl, by decide +kernel, by decide +kernel⟩
def b_l_item_text : XS := sRet (x2 (ofS2 joinS) (xC (.str ",")) (xFz (nLc (iOf (xVar 0)) (gNm 1) (cYes) (xIf (tst (x2 isNonD (xVar 1) (xC .none))) (xC (.str "-")) (xCall (arity 1 m_l_ratio_text) (aCons (xVar 1) (aNil)))) [1])))
def m_l_item_text : XF := runF 2 b_l_item_text
theorem ok_l_item_text (T : Txt P K mg A D) : FnG P w K mg base 2 (A 76) (D 76) ["_law_item"] m_l_item_text :=
  fn_body T.d_l_item_text.F sc_l_item_text fun cdv A outer s H room hG => ssd_one (sd_ret (ed_m1 F.slot_str_join F.type_str_join mt_join m1_join (ed_str) (ND.ed (nd_lc (vs := [1]) [("_law_part", 1)] (blkOk_by (own := [("_law_part", 1)]) (N := N_l_item_text) (sc := defScope s_l_item_text) (by decide +kernel)) rfl rfl sc_l_item_text.nd (id_seq (ed_var 0)) (fun _ _ _ _ _ => gd_name 1 sc_l_item_text.nd) (fun _ _ _ _ _ => tsd_nil) (fun _ _ _ _ _ => ed_if (td_cmp op_isN r2_isN (ed_var 1) (ED.od (ed_non))) (ed_str) (CD.ed (cd_call (ok_l_ratio_text T) (room.mono (by decide)) hG T.d_l_ratio_text.g T.d_l_ratio_text.F.kp T.d_l_ratio_text.b (ad_cons (ed_var 1) (ad_nil)))))))))
abbrev s_l_object_right : Stmt := topS 77
abbrev N_l_object_right : List Str := ["_law_thing", "_law_due", "_law_form_now", "_law_size_here", "_law_other"]
theorem sc_l_object_right : FnScope N_l_object_right ["_law_thing", "_law_due"] (defScope s_l_object_right) := ⟨rfl, rfl, rfl, by decide +kernel, rfl, by decide +kernel, by decide +kernel⟩
def b_l_object_right : XS := sSeq (sSet 2 (xCall (arity 1 m_l_chain) (aCons (xVar 1) (aNil)))) (sSeq (sIf (tst (x2 neD (x1 reprD (xLst (aCons (xOf (gMeth tab_parts (rvS "parts" 0) (aBoth aNil aNil))) (aCons (xOf (gMeth tab_form (rvS "form" 0) (aBoth aNil aNil))) (aCons (xStrO tab_str (xVar 0)) (aNil)))))) (x1 reprD (xLst (aCons (xVar 1) (aCons (xVar 2) (aCons (xCall (arity 1 m_l_item_text) (aCons (xVar 2) (aNil))) (aNil)))))))) (sRet (xC (.bool false))) (sNil)) (sSeq (sFor (iOf (x1 (stepD 2) (xCall m_l_amounts aNil))) (gNm 3) (sIf (tst (x2 neD (x1 reprD (xOf (gMeth tab_result_of (rvS "result_of" 0) (aBoth (aCons (xVar 3) (aNil)) aNil)))) (x1 reprD (xCall (arity 2 m_l_apply) (aCons (xVar 2) (aCons (xVar 3) (aNil))))))) (sRet (xC (.bool false))) (sNil))) (sSeq (sIf (tst (x2 neD (xOf (gMeth tab_result_of_amount (rvS "result_of" 0) (aBoth aNil (aCons (xTup (aCons (xC (.int 7)) (aCons (xC (.int 3)) (aNil)))) (aNil))))) (xCall (arity 2 m_l_apply) (aCons (xVar 2) (aCons (xTup (aCons (xC (.int 7)) (aCons (xC (.int 3)) (aNil)))) (aNil)))))) (sRet (xC (.bool false))) (sNil)) (sSeq (sFor (iOf (xTup (aCons (xVar 2) (aCons (xVar 1) (aCons (xStrO tab_str (xVar 0)) (aCons (xC .none) (aCons (xC (.int 0)) (aCons (xLst (aCons (xVar 2) (aNil))) (aCons (x2 idxD (xVar 2) (xC (.int 1))) (aNil)))))))))) (gNm 4) (sIf (tst (x2 neD (x1 reprD (xLst (aCons (xEqO tab_eq subT false (xVar 0) (xVar 4)) (aCons (xEqO tab_eq subT true (xVar 0) (xVar 4)) (aNil))))) (x1 reprD (xLst (aCons (xC (.bool false)) (aCons (xC (.bool true)) (aNil))))))) (sRet (xC (.bool false))) (sNil))) (sRet (x2 eqD (x1 reprD (xLst (aCons (xOf (gMeth tab_parts (rvS "parts" 0) (aBoth aNil aNil))) (aCons (xOf (gMeth tab_form (rvS "form" 0) (aBoth aNil aNil))) (aNil))))) (x1 reprD (xLst (aCons (xVar 1) (aCons (xVar 2) (aNil)))))))))))
def m_l_object_right : XF := runF 5 b_l_object_right
theorem ok_l_object_right (T : Txt P K mg A D) : FnG P w K mg base 12 (A 77) (D 77) ["_law_thing", "_law_due"] m_l_object_right :=
  fn_body T.d_l_object_right.F sc_l_object_right fun cdv A outer s H room hG => ssd_cons (sd_set 2 sc_l_object_right.nd (CD.ed (cd_call (ok_l_chain T) (room.mono (by decide)) hG T.d_l_chain.g T.d_l_chain.F.kp T.d_l_chain.b (ad_cons (ed_var 1) (ad_nil))))) (ssd_cons (sd_if (td_cmp (op_neX room.u64) r2_ne (ed_c1 (call_reprD hG room.u64) c1_repr T.n_repr b_repr (ED.od (ed_lst (ad_cons (CDf.ed (cd_meth0 (mt_parts T rfl rfl rfl rfl rfl) (rd_S 0) (room.mono (by decide)) hG)) (ad_cons (CDf.ed (cd_meth0 (mt_form T rfl rfl rfl rfl rfl) (rd_S 0) (room.mono (by decide)) hG)) (ad_cons (ed_strO (room.mono (by decide)) hG (st_str T rfl rfl rfl rfl rfl) T.n_str b_str (ed_var 0)) (ad_nil))))))) (ED.od (ed_c1 (call_reprD hG room.u64) c1_repr T.n_repr b_repr (ED.od (ed_lst (ad_cons (ed_var 1) (ad_cons (ed_var 2) (ad_cons (CD.ed (cd_call (ok_l_item_text T) (room.mono (by decide)) hG T.d_l_item_text.g T.d_l_item_text.F.kp T.d_l_item_text.b (ad_cons (ed_var 2) (ad_nil)))) (ad_nil))))))))) (ssd_one (sd_ret (ed_bl))) (ssd_nil)) (ssd_cons (sd_for PassesOwn.never rfl (id_seq (ed_step (CD.ed (cd_call0 (ok_l_amounts T) (room.mono (by decide)) hG T.d_l_amounts.g T.d_l_amounts.F.kp T.d_l_amounts.b)))) (gd_name 3 sc_l_object_right.nd) (ssd_one (sd_if (td_cmp (op_neX room.u64) r2_ne (ed_c1 (call_reprD hG room.u64) c1_repr T.n_repr b_repr (ED.od (CDf.ed (cd_methP (mt_result_of T rfl rfl rfl rfl rfl) (rd_S 0) (room.mono (by decide)) hG (ad_cons (ed_var 3) (ad_nil)) (ln_cons (ln_nil)))))) (ED.od (ed_c1 (call_reprD hG room.u64) c1_repr T.n_repr b_repr (ED.od (CD.ed (cd_call (ok_l_apply T) (room.mono (by decide)) hG T.d_l_apply.g T.d_l_apply.F.kp T.d_l_apply.b (ad_cons (ed_var 2) (ad_cons (ed_var 3) (ad_nil))))))))) (ssd_one (sd_ret (ed_bl))) (ssd_nil)))) (ssd_cons (sd_if (td_cmp (op_neX room.u64) r2_ne (CDf.ed (cd_methK (mt_result_of_amount T rfl rfl rfl rfl rfl) (rd_S 0) (room.mono (by decide)) hG (kd_cons (ed_tup (ad_cons (ed_int) (ad_cons (ed_int) (ad_nil)))) (kd_nil)) (ln_cons (ln_nil)))) (ED.od (CD.ed (cd_call (ok_l_apply T) (room.mono (by decide)) hG T.d_l_apply.g T.d_l_apply.F.kp T.d_l_apply.b (ad_cons (ed_var 2) (ad_cons (ed_tup (ad_cons (ed_int) (ad_cons (ed_int) (ad_nil)))) (ad_nil))))))) (ssd_one (sd_ret (ed_bl))) (ssd_nil)) (ssd_cons (sd_for PassesOwn.never rfl (id_seq (ed_tup (ad_cons (ed_var 2) (ad_cons (ed_var 1) (ad_cons (ed_strO (room.mono (by decide)) hG (st_str T rfl rfl rfl rfl rfl) T.n_str b_str (ed_var 0)) (ad_cons (ed_non) (ad_cons (ed_int) (ad_cons (ed_lst (ad_cons (ed_var 2) (ad_nil))) (ad_cons (ed_ix (ed_var 2) (ED.od (ed_int))) (ad_nil)))))))))) (gd_name 4 sc_l_object_right.nd) (ssd_one (sd_if (td_cmp (op_neX room.u64) r2_ne (ed_c1 (call_reprD hG room.u64) c1_repr T.n_repr b_repr (ED.od (ed_lst (ad_cons (ed_eqO (room.mono (by decide)) hG (et_eq T rfl rfl rfl rfl rfl) (subsB_s (ck_at T.ck 126 rfl) (ck_at T.ck 93 rfl) (by decide)) (ed_var 0) (ed_var 4)) (ad_cons (ed_neO (room.mono (by decide)) hG (et_eq T rfl rfl rfl rfl rfl) (subsB_s (ck_at T.ck 126 rfl) (ck_at T.ck 93 rfl) (by decide)) (ed_var 0) (ed_var 4)) (ad_nil)))))) (ED.od (ed_c1 (call_reprD hG room.u64) c1_repr T.n_repr b_repr (ED.od (ed_lst (ad_cons (ed_bl) (ad_cons (ed_bl) (ad_nil)))))))) (ssd_one (sd_ret (ed_bl))) (ssd_nil)))) (ssd_one (sd_ret (ed_cmp (op_eqX room.u64) r2_eq (ed_c1 (call_reprD hG room.u64) c1_repr T.n_repr b_repr (ED.od (ed_lst (ad_cons (CDf.ed (cd_meth0 (mt_parts T rfl rfl rfl rfl rfl) (rd_S 0) (room.mono (by decide)) hG)) (ad_cons (CDf.ed (cd_meth0 (mt_form T rfl rfl rfl rfl rfl) (rd_S 0) (room.mono (by decide)) hG)) (ad_nil)))))) (ED.od (ed_c1 (call_reprD hG room.u64) c1_repr T.n_repr b_repr (ED.od (ed_lst (ad_cons (ed_var 1) (ad_cons (ed_var 2) (ad_nil))))))))))))))
abbrev s_l_read_off : Stmt := topS 74
abbrev N_l_read_off : List Str := ["_law_thing", "_law_name"]
theorem sc_l_read_off : FnScope N_l_read_off ["_law_thing", "_law_name"] (defScope s_l_read_off) := ⟨rfl, rfl, rfl, by decide +kernel, rfl, by decide +kernel, by decide +kernel⟩
def b_l_read_off : XS := sSeq (sIf (tst (x2 inY (xVar 1) (xTup (aCons (xC (.str "factor")) (aCons (xC (.str "plus")) (aNil)))))) (sRet (xIf (tst (x2 eqD (xVar 1) (xC (.str "factor")))) (x1 (fldD clsN "factor") (xB (bVar 0))) (x1 (fldD clsN "plus") (xB (bVar 0))))) (sNil)) (sSeq (sIf (tst (x2 inY (xVar 1) (xTup (aCons (xC (.str "low")) (aCons (xC (.str "high")) (aNil)))))) (sRet (xIf (tst (x2 eqD (xVar 1) (xC (.str "low")))) (x1 (fldD clsN "low") (xB (bVar 0))) (x1 (fldD clsN "high") (xB (bVar 0))))) (sNil)) (sRet (x1 (fldD clsN "constant") (xB (bVar 0)))))
def m_l_read_off : XF := runF 2 b_l_read_off
theorem ok_l_read_off (T : Txt P K mg A D) : FnG P w K mg base 1 (A 74) (D 74) ["_law_thing", "_law_name"] m_l_read_off :=
  fn_body T.d_l_read_off.F sc_l_read_off fun cdv A outer s H room hG => ssd_cons (sd_if (td_cmp (op_inY room.u65) r2_inY (ed_var 1) (ED.od (ed_tup (ad_cons (ed_str) (ad_cons (ed_str) (ad_nil)))))) (ssd_one (sd_ret (ed_if (td_cmp (op_eqX room.u64) r2_eq (ed_var 1) (ED.od (ed_str))) (ed_fld (naB_a (ck_at T.ck 1 rfl)) (BD.od (bd_var 0))) (ed_fld (naB_a (ck_at T.ck 2 rfl)) (BD.od (bd_var 0)))))) (ssd_nil)) (ssd_cons (sd_if (td_cmp (op_inY room.u65) r2_inY (ed_var 1) (ED.od (ed_tup (ad_cons (ed_str) (ad_cons (ed_str) (ad_nil)))))) (ssd_one (sd_ret (ed_if (td_cmp (op_eqX room.u64) r2_eq (ed_var 1) (ED.od (ed_str))) (ed_fld (naB_a (ck_at T.ck 3 rfl)) (BD.od (bd_var 0))) (ed_fld (naB_a (ck_at T.ck 4 rfl)) (BD.od (bd_var 0)))))) (ssd_nil)) (ssd_one (sd_ret (ed_fld (naB_a (ck_at T.ck 5 rfl)) (BD.od (bd_var 0))))))
abbrev s_law : Stmt := topS 79
abbrev N_law : List Str := ["_law_script", "_law_feed_here", "_law_raws", "_law_k", "_law_turn", "_law_raw_here", "_law_kept", "_law_things", "_law_at", "_law_thing", "_law_due", "_law_held", "_law_own", "_law_other", "_law_same", "_law_kind", "_law_name", "_law_size_here"]
theorem sc_law : FnScope N_law ["_law_script"] (defScope s_law) := ⟨rfl, rfl, rfl, by decide +kernel, rfl, by decide +kernel, by decide +kernel⟩
def b_law : XS := sSeq (sNew 1 (nCall (arity 1 m_l_feed) (aSlot 0 (aNil)))) (sSeq (sNew 2 (nLst (aCons (xTup (aCons (xTup (aCons (xC (.int 1)) (aCons (xC (.int 1)) (aNil)))) (aCons (xTup (aCons (xC (.int 0)) (aCons (xC (.int 1)) (aNil)))) (aCons (xC .none) (aCons (xC .none) (aNil)))))) (aCons (xTup (aCons (xTup (aCons (xC (.int 0)) (aCons (xC (.int 1)) (aNil)))) (aCons (xTup (aCons (xC (.int 5)) (aCons (xC (.int 1)) (aNil)))) (aCons (xTup (aCons (xC (.int 0)) (aCons (xC (.int 1)) (aNil)))) (aCons (xTup (aCons (xC (.int 3)) (aCons (xC (.int 1)) (aNil)))) (aNil)))))) (aCons (xTup (aCons (xTup (aCons (xC (.int 2)) (aCons (xC (.int 1)) (aNil)))) (aCons (xTup (aCons (x1 negD (xC (.int 3))) (aCons (xC (.int 1)) (aNil)))) (aCons (xTup (aCons (xC (.int 5)) (aCons (xC (.int 1)) (aNil)))) (aCons (xTup (aCons (xC (.int 5)) (aCons (xC (.int 1)) (aNil)))) (aNil)))))) (aNil)))))) (sSeq (sDrop (xApp 2 (xTup (aCons (xTup (aCons (xC (.int 1)) (aCons (xC (.int 2)) (aNil)))) (aCons (xTup (aCons (x1 negD (xC (.int 3))) (aCons (xC (.int 1)) (aNil)))) (aCons (xC .none) (aCons (xTup (aCons (xC (.int 10)) (aCons (xC (.int 1)) (aNil)))) (aNil)))))))) (sSeq (sFor (iRng (xC (.int 2))) (gNm 3) (sDrop (xApp 2 (xCall (arity 1 m_l_raw) (aSlot 1 (aNil)))))) (sSeq (sFor (iEnuA (xVar 2)) (gTp 2 (gsCons (gNm 4) (gsCons (gNm 5) (gsNil)))) (sSeq (sPar 6 7 (x1 reprD (xVar 5)) (xFz (nLc (iRng (xC (.int 12))) (gNm 15) (cYes) (xCall (arity 2 m_l_made) (aCons (xVar 15) (aCons (xVar 5) (aNil)))) [15]))) (sSeq (sFor (iRng (xC (.int 12))) (gNm 8) (sSeq (sAsg (x2 idxY (xVar 7) (xVar 8)) (gTp 3 (gsCons (gNm 9) (gsCons (gNm 10) (gsCons (gNm 11) (gsNil)))))) (sSeq (sIf (xNotT (xTru (xCall (arity 2 m_l_object_right) (aCons (xVar 9) (aCons (xVar 10) (aNil)))))) (sRet (xC (.bool false))) (sNil)) (sSeq (sIf (tst (x2 neD (x1 reprD (xFz (nLc (iOf (xVar 11)) (gTp 2 (gsCons (gNm 16) (gsCons (gNm 17) (gsNil)))) (cYes) (xCall (arity 2 m_l_read_off) (aCons (xVar 9) (aCons (xVar 16) (aNil)))) [16, 17]))) (x1 reprD (xFz (nLc (iOf (xVar 11)) (gTp 2 (gsCons (gNm 16) (gsCons (gNm 17) (gsNil)))) (cYes) (xVar 17) [16, 17]))))) (sRet (xC (.bool false))) (sNil)) (sFor (iOf (xStepF 3 (xVar 7) (oSome (x2 modD (x2 addD (xVar 8) (xVar 4)) (xC (.int 3)))))) (gNm 12) (sSeq (sPar 13 14 (x2 idxD (xVar 12) (xC (.int 0))) (x2 eqD (xCall (arity 1 m_l_chain) (aCons (xVar 10) (aNil))) (xCall (arity 1 m_l_chain) (aCons (x2 idxD (xVar 12) (xC (.int 1))) (aNil))))) (sIf (tst (x2 neD (x1 reprD (xLst (aCons (xEqO tab_eq subT false (xVar 9) (xVar 13)) (aCons (xEqO tab_eq subT true (xVar 9) (xVar 13)) (aNil))))) (x1 reprD (xLst (aCons (xVar 14) (aCons (xNot (xVar 14)) (aNil))))))) (sRet (xC (.bool false))) (sNil)))))))) (sIf (tst (x2 neD (x1 reprD (xVar 5)) (xVar 6))) (sRet (xC (.bool false))) (sNil))))) (sRet (xCall m_l_bare_right aNil))))))
def m_law : XF := runF 18 b_law
theorem ok_law (T : Txt P K mg A D) : FnG P w K mg base 13 (A 79) (D 79) ["_law_script"] m_law :=
  fn_body T.d_law.F sc_law fun cdv A outer s H room hG => ssd_cons (sd_new 1 sc_law.nd (CD.nd (cd_call (ok_l_feed T) (room.mono (by decide)) hG T.d_l_feed.g T.d_l_feed.F.kp T.d_l_feed.b (ad_slot 0 (ad_nil))))) (ssd_cons (sd_new 2 sc_law.nd (nd_lst (ad_cons (ed_tup (ad_cons (ed_tup (ad_cons (ed_int) (ad_cons (ed_int) (ad_nil)))) (ad_cons (ed_tup (ad_cons (ed_int) (ad_cons (ed_int) (ad_nil)))) (ad_cons (ed_non) (ad_cons (ed_non) (ad_nil)))))) (ad_cons (ed_tup (ad_cons (ed_tup (ad_cons (ed_int) (ad_cons (ed_int) (ad_nil)))) (ad_cons (ed_tup (ad_cons (ed_int) (ad_cons (ed_int) (ad_nil)))) (ad_cons (ed_tup (ad_cons (ed_int) (ad_cons (ed_int) (ad_nil)))) (ad_cons (ed_tup (ad_cons (ed_int) (ad_cons (ed_int) (ad_nil)))) (ad_nil)))))) (ad_cons (ed_tup (ad_cons (ed_tup (ad_cons (ed_int) (ad_cons (ed_int) (ad_nil)))) (ad_cons (ed_tup (ad_cons (ed_neg (ED.od (ed_int))) (ad_cons (ed_int) (ad_nil)))) (ad_cons (ed_tup (ad_cons (ed_int) (ad_cons (ed_int) (ad_nil)))) (ad_cons (ed_tup (ad_cons (ed_int) (ad_cons (ed_int) (ad_nil)))) (ad_nil)))))) (ad_nil)))))) (ssd_cons (sd_drop (ed_app 2 (ed_tup (ad_cons (ed_tup (ad_cons (ed_int) (ad_cons (ed_int) (ad_nil)))) (ad_cons (ed_tup (ad_cons (ed_neg (ED.od (ed_int))) (ad_cons (ed_int) (ad_nil)))) (ad_cons (ed_non) (ad_cons (ed_tup (ad_cons (ed_int) (ad_cons (ed_int) (ad_nil)))) (ad_nil)))))))) (ssd_cons (sd_for PassesOwn.never rfl (id_rng T.n_range (ed_int)) (gd_name 3 sc_law.nd) (ssd_one (sd_drop (ed_app 2 (CD.ed (cd_call (ok_l_raw T) (room.mono (by decide)) hG T.d_l_raw.g T.d_l_raw.F.kp T.d_l_raw.b (ad_slot 1 (ad_nil)))))))) (ssd_cons (sd_for PassesOwn.never rfl (id_enuA T.n_enumerate (ed_var 2)) (gd_tup rfl (gsd_cons (gd_name 4 sc_law.nd) (gsd_cons (gd_name 5 sc_law.nd) (gsd_nil)))) (ssd_cons (sd_par rfl sc_law.nd (ed_c1 (call_reprD hG room.u64) c1_repr T.n_repr b_repr (ED.od (ed_var 5))) (ND.ed (nd_lc (vs := [15]) [("_law_kind", 15)] (blkOk_by (own := [("_law_kind", 15)]) (N := N_law) (sc := defScope s_law) (by decide +kernel)) rfl rfl sc_law.nd (id_rng T.n_range (ed_int)) (fun _ _ _ _ _ => gd_name 15 sc_law.nd) (fun _ _ _ _ _ => tsd_nil) (fun _ _ _ _ _ => CD.ed (cd_call (ok_l_made T) (room.mono (by decide)) hG T.d_l_made.g T.d_l_made.F.kp T.d_l_made.b (ad_cons (ed_var 15) (ad_cons (ed_var 5) (ad_nil)))))))) (ssd_cons (sd_for PassesOwn.never rfl (id_rng T.n_range (ed_int)) (gd_name 8 sc_law.nd) (ssd_cons (sd_asg (ed_ixY room.u1 (ed_var 7) (ED.od (ed_var 8))) (gd_tup rfl (gsd_cons (gd_name 9 sc_law.nd) (gsd_cons (gd_name 10 sc_law.nd) (gsd_cons (gd_name 11 sc_law.nd) (gsd_nil)))))) (ssd_cons (sd_if (td_not (td_tru (ED.od (CD.ed (cd_call (ok_l_object_right T) (room.mono (by decide)) hG T.d_l_object_right.g T.d_l_object_right.F.kp T.d_l_object_right.b (ad_cons (ed_var 9) (ad_cons (ed_var 10) (ad_nil)))))))) (ssd_one (sd_ret (ed_bl))) (ssd_nil)) (ssd_cons (sd_if (td_cmp (op_neX room.u64) r2_ne (ed_c1 (call_reprD hG room.u64) c1_repr T.n_repr b_repr (ED.od (ND.ed (nd_lc (vs := [16, 17]) [("_law_name", 16), ("_law_size_here", 17)] (blkOk_by (own := [("_law_name", 16), ("_law_size_here", 17)]) (N := N_law) (sc := defScope s_law) (by decide +kernel)) rfl rfl sc_law.nd (id_seq (ed_var 11)) (fun _ _ _ _ _ => gd_tup rfl (gsd_cons (gd_name 16 sc_law.nd) (gsd_cons (gd_name 17 sc_law.nd) (gsd_nil)))) (fun _ _ _ _ _ => tsd_nil) (fun _ _ _ _ _ => CD.ed (cd_call (ok_l_read_off T) (room.mono (by decide)) hG T.d_l_read_off.g T.d_l_read_off.F.kp T.d_l_read_off.b (ad_cons (ed_var 9) (ad_cons (ed_var 16) (ad_nil))))))))) (ED.od (ed_c1 (call_reprD hG room.u64) c1_repr T.n_repr b_repr (ED.od (ND.ed (nd_lc (vs := [16, 17]) [("_law_name", 16), ("_law_size_here", 17)] (blkOk_by (own := [("_law_name", 16), ("_law_size_here", 17)]) (N := N_law) (sc := defScope s_law) (by decide +kernel)) rfl rfl sc_law.nd (id_seq (ed_var 11)) (fun _ _ _ _ _ => gd_tup rfl (gsd_cons (gd_name 16 sc_law.nd) (gsd_cons (gd_name 17 sc_law.nd) (gsd_nil)))) (fun _ _ _ _ _ => tsd_nil) (fun _ _ _ _ _ => ed_var 17))))))) (ssd_one (sd_ret (ed_bl))) (ssd_nil)) (ssd_one (sd_for PassesOwn.never rfl (id_seq (ed_stepF (ed_var 7) (pd_some (ed_bin op_modD r2_mod (ed_bin op_addD r2_add (ed_var 8) (ED.od (ed_var 4))) (ED.od (ed_int)))))) (gd_name 12 sc_law.nd) (ssd_cons (sd_par rfl sc_law.nd (ed_ix (ed_var 12) (ED.od (ed_int))) (ed_cmp (op_eqX room.u64) r2_eq (CD.ed (cd_call (ok_l_chain T) (room.mono (by decide)) hG T.d_l_chain.g T.d_l_chain.F.kp T.d_l_chain.b (ad_cons (ed_var 10) (ad_nil)))) (ED.od (CD.ed (cd_call (ok_l_chain T) (room.mono (by decide)) hG T.d_l_chain.g T.d_l_chain.F.kp T.d_l_chain.b (ad_cons (ed_ix (ed_var 12) (ED.od (ed_int))) (ad_nil))))))) (ssd_one (sd_if (td_cmp (op_neX room.u64) r2_ne (ed_c1 (call_reprD hG room.u64) c1_repr T.n_repr b_repr (ED.od (ed_lst (ad_cons (ed_eqO (room.mono (by decide)) hG (et_eq T rfl rfl rfl rfl rfl) (subsB_s (ck_at T.ck 126 rfl) (ck_at T.ck 93 rfl) (by decide)) (ed_var 9) (ed_var 13)) (ad_cons (ed_neO (room.mono (by decide)) hG (et_eq T rfl rfl rfl rfl rfl) (subsB_s (ck_at T.ck 126 rfl) (ck_at T.ck 93 rfl) (by decide)) (ed_var 9) (ed_var 13)) (ad_nil)))))) (ED.od (ed_c1 (call_reprD hG room.u64) c1_repr T.n_repr b_repr (ED.od (ed_lst (ad_cons (ed_var 14) (ad_cons (ed_not (ed_var 14)) (ad_nil)))))))) (ssd_one (sd_ret (ed_bl))) (ssd_nil)))))))))) (ssd_one (sd_if (td_cmp (op_neX room.u64) r2_ne (ed_c1 (call_reprD hG room.u64) c1_repr T.n_repr b_repr (ED.od (ed_var 5))) (ED.od (ed_var 6))) (ssd_one (sd_ret (ed_bl))) (ssd_nil)))))) (ssd_one (sd_ret (CD.ed (cd_call0 (ok_l_bare_right T) (room.mono (by decide)) hG T.d_l_bare_right.g T.d_l_bare_right.F.kp T.d_l_bare_right.b))))))))
end
end K05
set_option maxRecDepth 100000
set_option maxHeartbeats 2000000
namespace DL
open PySem PySem.Spec PyProof.Rows L2
section
variable {ρ : Nv} {f g a b c : XE} {r : XA} {t u : XT}
@[simp] theorem e_c (d : PyData) : xC d ρ = some (d, ρ) := rfl
@[simp] theorem e_var (i : Nat) : xVar i ρ = (match ρ[i]? with | some (.d x) => some (x, ρ) | some (.own o false) => some (odD o, ρ.set i (.d (odD o))) | _ => none) := rfl
@[simp] theorem e_bvar (i : Nat) : bVar i ρ = (match ρ[i]? with | some (.d x) => some x | some (.own o _) => some (odD o) | _ => none) := rfl
@[simp] theorem e_bc (d : PyData) : bC d ρ = some d := rfl
@[simp] theorem e_b (h : XB) : xB h ρ = (h ρ).map fun d => (d, ρ) := rfl
@[simp] theorem e_1 (h : PyData → Option PyData) : x1 h a ρ = (a ρ).bind fun p => (h p.1).map fun z => (z, p.2) := rfl
@[simp] theorem e_2 (h : PyData → PyData → Option PyData) : x2 h a b ρ = (a ρ).bind fun p => (b p.2).bind fun q => (h p.1 q.1).map fun z => (z, q.2) := rfl
@[simp] theorem e_tst : tst a ρ = (a ρ).bind fun p => match p.1 with | .bool b => some (b, p.2) | _ => none := rfl
@[simp] theorem e_tru : xTru a ρ = (a ρ).bind fun p => (truD p.1).map fun b => (b, p.2) := rfl
@[simp] theorem e_andT : xAndT t u ρ = (t ρ).bind fun p => if p.1 = true then u p.2 else some (false, p.2) := rfl
@[simp] theorem e_orT : xOrT t u ρ = (t ρ).bind fun p => if p.1 = true then some (true, p.2) else u p.2 := rfl
@[simp] theorem e_notT : xNotT t ρ = (t ρ).map fun p => (!p.1, p.2) := rfl
@[simp] theorem e_and : xAnd a b ρ = (a ρ).bind fun p => match p.1 with | .bool true => b p.2 | .bool false => some (.bool false, p.2) | _ => none := rfl
@[simp] theorem e_or : xOr a b ρ = (a ρ).bind fun p => match p.1 with | .bool true => some (.bool true, p.2) | .bool false => b p.2 | _ => none := rfl
@[simp] theorem e_not : xNot a ρ = (a ρ).bind fun p => match p.1 with | .bool b => some (.bool (!b), p.2) | _ => none := rfl
@[simp] theorem e_if : xIf t a b ρ = (t ρ).bind fun p => if p.1 = true then a p.2 else b p.2 := rfl
@[simp] theorem e_chain (h h' : PyData → PyData → Option PyData) : xChain h h' a b c ρ = (a ρ).bind fun p => (b p.2).bind fun q => (h p.1 q.1).bind fun z => match z with
  | .bool true => (c q.2).bind fun r => (h' q.1 r.1).map fun z => (z, r.2)
  | .bool false => some (.bool false, q.2)
  | _ => none := rfl
@[simp] theorem e_aNil : aNil ρ = some ([], ρ) := rfl
@[simp] theorem e_aCons : aCons f r ρ = (f ρ).bind fun p => (r p.2).map fun q => (.v p.1 :: q.1, q.2) := rfl
@[simp] theorem e_aSlot (i : Nat) : aSlot i r ρ = (match ρ[i]? with | some (.own _ _) => (r ρ).map fun q => (.s i :: q.1, q.2) | some (.scr _) => (r ρ).map fun q => (.s i :: q.1, q.2) | _ => none) := rfl
@[simp] theorem e_allV0 : allV [] = some [] := rfl
@[simp] theorem e_allV1 (d : PyData) (as : List AV) : allV (.v d :: as) = (allV as).map (d :: ·) := rfl
@[simp] theorem e_tup : xTup r ρ = (r ρ).bind fun p => (allV p.1).bind fun ds => if ds.length ≤ sizeLine then some (.tuple ds, p.2) else none := rfl
@[simp] theorem e_lst : xLst r ρ = (r ρ).bind fun p => (allV p.1).bind fun ds => if ds.length ≤ sizeLine then some (.list ds, p.2) else none := rfl
@[simp] theorem e_nlst : nLst r ρ = (r ρ).bind fun p => (allV p.1).bind fun ds => if ds.length ≤ sizeLine then some (.ol ds, p.2) else none := rfl
@[simp] theorem e_isi (h : PyData → Bool) : xIsi h f ρ = (f ρ).map fun p => (.bool (h p.1), p.2) := rfl
@[simp] theorem e_oNone : oNone ρ = some (none, ρ) := rfl
@[simp] theorem e_oSome : oSome f ρ = (f ρ).bind fun p => match p.1 with | .int i => some (some i, p.2) | _ => none := rfl
@[simp] theorem e_sl (lo hi : XO) : xSl f lo hi ρ = (f ρ).bind fun p => (lo p.2).bind fun l => (hi l.2).bind fun h => (slD p.1 l.1 h.1).map fun z => (z, h.2) := rfl
@[simp] theorem e_scr (i : Nat) (lo hi : Option Int) : xScr i lo hi ρ = (match ρ[i]? with | some (.scr (.ints ns)) => some (.list (cutD (ns.map PyData.int) lo hi), ρ) | _ => none) := rfl
@[simp] theorem e_get (i : Nat) : xGet i f ρ = if ownQ ρ i = true then (f ρ).bind fun p => match p.2[i]? with
    | some (.own (.od kvs) _) => (keyD p.1).bind fun k => (getD' kvs k).map fun z => (z, p.2)
    | some (.own (.ot kvs) _) => (keyT p.1).bind fun k => (getD' kvs k).map fun z => (z, p.2)
    | _ => none
  else none := rfl
@[simp] theorem e_put (i : Nat) (fk fv : XE) : sPut i fk fv ρ = (fv ρ).bind fun p => if ownQ p.2 i = true then (fk p.2).bind fun q => match q.2[i]? with
    | some (.own (.od kvs) io) => (keyD q.1).bind fun k => if kvs.length < sizeLine then some (.nx (q.2.set i (.own (.od (putD kvs k p.1)) io))) else none
    | some (.own (.ot kvs) io) => (keyT q.1).bind fun k => if kvs.length < sizeLine then some (.nx (q.2.set i (.own (.ot (putD kvs k p.1)) io))) else none
    | _ => none
  else none := rfl
@[simp] theorem e_put' (i : Nat) (d : PyData) : put ρ i d = if free ρ i = true then some (ρ.set i (.d d)) else none := rfl
/-- the slot may be stored -/
def Fs (e : EV) : Prop := e = .un ∨ (∃ d, e = .d d) ∨ ∃ o, e = .own o false
@[simp] theorem fs_un : Fs .un := .inl rfl
@[simp] theorem fs_d (d : PyData) : Fs (.d d) := .inr (.inl ⟨d, rfl⟩)
@[simp] theorem fs_own (o : OD) : Fs (.own o false) := .inr (.inr ⟨o, rfl⟩)
@[simp] theorem free_s (e : EV) (r : Nv) (i : Nat) : free (e :: r) (i + 1) = free r i := by simp [free]
@[simp] theorem free_un (r : Nv) : free (.un :: r) 0 = true := rfl
@[simp] theorem free_d (d : PyData) (r : Nv) : free (.d d :: r) 0 = true := rfl
@[simp] theorem free_own (o : OD) (r : Nv) : free (.own o false :: r) 0 = true := rfl
@[simp] theorem free_io (o : OD) (r : Nv) : free (.own o true :: r) 0 = false := rfl
@[simp] theorem free_scr (ns : SlP) (r : Nv) : free (.scr ns :: r) 0 = true := rfl
theorem free_fs {e : EV} (h : Fs e) (r : Nv) : free (e :: r) 0 = true := by
  rcases h with rfl | ⟨d, rfl⟩ | ⟨o, rfl⟩ <;> rfl
@[simp] theorem e_ownQ (i : Nat) : ownQ ρ i = (match ρ[i]? with | some (.own _ _) => true | _ => false) := rfl
@[simp] theorem e_sNil : sNil ρ = some (.nx ρ) := rfl
@[simp] theorem e_seq (p q : XS) : sSeq p q ρ = (p ρ).bind fun r => match r with | .nx ρ' => q ρ' | r => some r := rfl
@[simp] theorem e_ret : sRet f ρ = (f ρ).map fun p => .rt p.1 p.2 := rfl
@[simp] theorem e_retN : sRetN ρ = some (.rt .none ρ) := rfl
@[simp] theorem e_retO (n : XN) : sRetO n ρ = (n ρ).map fun p => .rn p.1 p.2 := rfl
@[simp] theorem e_sif (p q : XS) : sIf t p q ρ = (t ρ).bind fun w => if w.1 = true then p w.2 else q w.2 := rfl
@[simp] theorem e_drop : sDrop f ρ = (f ρ).map fun p => .nx p.2 := rfl
@[simp] theorem e_brk : sBrk ρ = some (.bk ρ) := rfl
@[simp] theorem e_cnt : sCnt ρ = some (.ct ρ) := rfl
@[simp] theorem e_set (i : Nat) : sSet i f ρ = (f ρ).bind fun p => (put p.2 i p.1).map .nx := rfl
@[simp] theorem e_new (i : Nat) (n : XN) : sNew i n ρ = (n ρ).bind fun p => if free p.2 i = true then some (.nx (p.2.set i (.own p.1 false))) else none := rfl
@[simp] theorem e_par (i j : Nat) : sPar i j f g ρ = (f ρ).bind fun p => (g p.2).bind fun q => (put q.2 i p.1).bind fun ρ1 => (put ρ1 j q.1).map .nx := rfl
@[simp] theorem e_asg (h : XG) : sAsg f h ρ = (f ρ).bind fun p => (h p.1 p.2).map .nx := rfl
@[simp] theorem e_gNm (i : Nat) (d : PyData) : gNm i d ρ = put ρ i d := rfl
@[simp] theorem e_gTp (n : Nat) (h : XGs) (ds : List PyData) : gTp n h (.tuple ds) ρ = if ds.length = n then h ds ρ else none := rfl
@[simp] theorem e_gsN : gsNil [] ρ = some ρ := rfl
@[simp] theorem e_gsC (h : XG) (k : XGs) (d : PyData) (ds : List PyData) : gsCons h k (d :: ds) ρ = (h d ρ).bind fun ρ' => k ds ρ' := rfl
@[simp] theorem e_for (it : XI) (h : XG) (p : XS) : sFor it h p ρ = (it ρ).bind fun w => forL h p w.1 w.2 := rfl
@[simp] theorem e_iOf : iOf f ρ = (f ρ).bind fun p => (itD p.1).map fun ds => (ds, p.2) := rfl
@[simp] theorem e_call (m : XF) : xCall m r ρ = (gCall m r ρ).bind fun p => match p.1 with | .d x => some (x, p.2) | .n _ => none := rfl
@[simp] theorem e_ncall (m : XF) : nCall m r ρ = (gCall m r ρ).bind fun p => match p.1 with | .n o => some (o, p.2) | .d _ => none := rfl
@[simp] theorem e_gcall (m : XF) : gCall m r ρ = (r ρ).bind fun p => if (slotsOf p.1).Nodup then (entN p.1 p.2).bind fun es => (m es).bind fun q => (back p.1 q.2 p.2).map fun ρ' => (q.1, ρ') else none := rfl
@[simp] theorem e_arity (n : Nat) (m : XF) (es : List EV) : arity n m es = if es.length = n then m es else none := rfl
@[simp] theorem e_slots0 : slotsOf [] = [] := rfl
@[simp] theorem e_slots1 (d : PyData) (as : List AV) : slotsOf (.v d :: as) = slotsOf as := rfl
@[simp] theorem e_slots2 (i : Nat) (as : List AV) : slotsOf (.s i :: as) = i :: slotsOf as := rfl
@[simp] theorem e_ent0 : entN [] ρ = some [] := rfl
@[simp] theorem e_ent1 (d : PyData) (as : List AV) : entN (.v d :: as) ρ = (entN as ρ).map (.d d :: ·) := rfl
@[simp] theorem e_ent2 (i : Nat) (as : List AV) : entN (.s i :: as) ρ = (match ρ[i]? with | some (.own o _) => (entN as ρ).map (.own o true :: ·) | some (.scr ns) => (entN as ρ).map (.scr ns :: ·) | _ => none) := rfl
@[simp] theorem e_back0 (es : List EV) : back [] es ρ = some ρ := by cases es <;> rfl
@[simp] theorem e_back1 (d : PyData) (as : List AV) (e : EV) (es : List EV) : back (.v d :: as) (e :: es) ρ = back as es ρ := rfl
@[simp] theorem e_back2 (i : Nat) (as : List AV) (e : EV) (es : List EV) : back (.s i :: as) (e :: es) ρ = (match ρ[i]?, e with | some (.own _ io), .own o _ => back as es (ρ.set i (.own o io)) | some (.scr _), .scr _ => back as es ρ | _, _ => none) := rfl
theorem e_run (n : Nat) (body : XS) (es : List EV) : runF n body es = (match body (es ++ List.replicate (n - es.length) .un) with
  | some (.rt d ρ) => some (.d d, finA es ρ)
  | some (.rn o ρ) => some (.n o, finA es ρ)
  | some (.nx ρ) => some (.d .none, finA es ρ)
  | _ => none) := rfl
@[simp] theorem e_fin0 : finA [] ρ = [] := rfl
@[simp] theorem e_fin1 (o : OD) (b : Bool) (es : List EV) (o' : OD) (b' : Bool) : finA (.own o b :: es) (.own o' b' :: ρ) = .own o' b' :: finA es ρ := rfl
@[simp] theorem e_fin2 (d : PyData) (es : List EV) (e : EV) : finA (.d d :: es) (e :: ρ) = .d d :: finA es ρ := rfl
@[simp] theorem e_fin3 (ns : SlP) (es : List EV) (e : EV) : finA (.scr ns :: es) (e :: ρ) = .scr ns :: finA es ρ := rfl
end

@[simp] theorem o_add (i j : Int) : addD (.int i) (.int j) = some (.int (i + j)) := rfl
@[simp] theorem o_addS (i j : Str) : addD (.str i) (.str j) = if i.length + j.length ≤ sizeLine then some (.str (i ++ j)) else none := rfl
@[simp] theorem o_addL (i j : List PyData) : addD (.list i) (.list j) = if i.length + j.length ≤ sizeLine then some (.list (i ++ j)) else none := rfl
@[simp] theorem o_addT (i j : List PyData) : addD (.tuple i) (.tuple j) = if i.length + j.length ≤ sizeLine then some (.tuple (i ++ j)) else none := rfl
@[simp] theorem o_sub (i j : Int) : subD (.int i) (.int j) = some (.int (i - j)) := rfl
theorem o_mul {i j : Int} (h : i.natAbs.log2 + j.natAbs.log2 < 1000000) : mulD (.int i) (.int j) = some (.int (i * j)) := if_pos h
theorem o_fdiv {i j : Int} (h : 0 < j) (h2 : j.natAbs.log2 < 9000) : fdivD (.int i) (.int j) = some (.int (i / j)) := if_pos ⟨h, h2⟩
theorem o_mod {i j : Int} (h : 0 < j) : modD (.int i) (.int j) = some (.int (i % j)) := if_pos h
theorem o_pow {i j : Int} (h : 0 ≤ j ∧ j ≤ 1000000 ∧ i.natAbs < 2 ^ 64) : powD (.int i) (.int j) = some (.int (i ^ j.toNat)) := if_pos h
@[simp] theorem o_lt (i j : Int) : ltD (.int i) (.int j) = some (.bool (decide (i < j))) := rfl
@[simp] theorem o_le (i j : Int) : leD (.int i) (.int j) = some (.bool (decide (i ≤ j))) := rfl
@[simp] theorem o_gt (i j : Int) : gtD (.int i) (.int j) = some (.bool (decide (j < i))) := rfl
@[simp] theorem o_ge (i j : Int) : geD (.int i) (.int j) = some (.bool (decide (j ≤ i))) := rfl
@[simp] theorem o_neg (i : Int) : negD (.int i) = some (.int (-i)) := rfl
@[simp] theorem o_isNon (x : PyData) : isNonD x .none = some (.bool (noneD x)) := rfl
@[simp] theorem o_notNon (x : PyData) : notNonD x .none = some (.bool (!noneD x)) := rfl
@[simp] theorem o_keyS (s : Str) : keyD (.str s) = some (.inr s) := rfl
@[simp] theorem o_keyI (i : Int) : keyD (.int i) = some (.inl i) := rfl
@[simp] theorem o_truB (b : Bool) : truD (.bool b) = some b := rfl
@[simp] theorem o_lenL (xs : List PyData) : lenD (.list xs) = some (.int xs.length) := rfl
@[simp] theorem o_lenT (xs : List PyData) : lenD (.tuple xs) = some (.int xs.length) := rfl
@[simp] theorem o_listT (xs : List PyData) : listD (.tuple xs) = some (.list xs) := rfl
@[simp] theorem o_listL (xs : List PyData) : listD (.list xs) = some (.list xs) := rfl
@[simp] theorem o_idxL (xs : List PyData) (i : Int) : idxD (.list xs) (.int i) = atI xs i := rfl
@[simp] theorem o_idxT (xs : List PyData) (i : Int) : idxD (.tuple xs) (.int i) = atI xs i := rfl
theorem sizeL : sizeLine = 16777216 := rfl
theorem at_nn {α : Type} {xs : List α} {i : Int} (h0 : 0 ≤ i) (h1 : i < xs.length) : atI xs i = xs[i.toNat]? := by
  unfold atI ixN
  rw [if_pos h0, if_pos h1]
  rfl
@[simp] theorem e_forN (g : XG) (b : XS) (ρ : Nv) : forL g b [] ρ = some (.nx ρ) := rfl
theorem e_forC (g : XG) (b : XS) (d : PyData) (ds : List PyData) (ρ : Nv) : forL g b (d :: ds) ρ = (g d ρ).bind fun ρ1 => (b ρ1).bind fun r => match r with
    | .nx ρ2 => forL g b ds ρ2
    | .ct ρ2 => forL g b ds ρ2
    | .bk ρ2 => some (.nx ρ2)
    | .rt x ρ2 => some (.rt x ρ2)
    | .rn x ρ2 => some (.rn x ρ2) := rfl
theorem forC_nx {g : XG} {b : XS} {d : PyData} {ds : List PyData} {ρ ρ1 ρ2 : Nv} {r : Option Fl} (h1 : g d ρ = some ρ1) (h2 : b ρ1 = some (.nx ρ2)) (h3 : forL g b ds ρ2 = r) : forL g b (d :: ds) ρ = r := by
  rw [e_forC, h1, Option.bind_some, h2, Option.bind_some]
  exact h3
theorem seq_nx {p q : XS} {ρ ρ1 : Nv} {r : Option Fl} (h : p ρ = some (.nx ρ1)) (h2 : q ρ1 = r) : sSeq p q ρ = r := by
  rw [e_seq, h, Option.bind_some]
  exact h2
theorem for_of {it : XI} {g : XG} {b : XS} {ρ ρ1 : Nv} {ds : List PyData} {r : Option Fl} (h : it ρ = some (ds, ρ1)) (h2 : forL g b ds ρ1 = r) : sFor it g b ρ = r := by
  rw [e_for, h, Option.bind_some]
  exact h2
theorem run_rt {n : Nat} {body : XS} {es ρ : List EV} {d : PyData} (h : body (es ++ List.replicate (n - es.length) .un) = some (.rt d ρ)) : runF n body es = some (.d d, finA es ρ) := by
  rw [e_run, h]
/-- ranges (not by simp: the kernel is slow at the bounds) -/
theorem e_rngN {f : XE} {ρ ρ1 : Nv} {n : Nat} (hf : f ρ = some (.int n, ρ1)) (h : n < 1000000) : iRng f ρ = some ((List.range n).map fun (j : Nat) => PyData.int j, ρ1) := by
  have e : rngD 0 n = (List.range n).map fun (j : Nat) => PyData.int j := by unfold rngD; simp
  unfold iRng
  rw [hf, Option.bind_some]
  refine (if_pos ⟨by omega, by omega⟩).trans ?_
  rw [Int.toNat_natCast, e]
end DL
set_option maxRecDepth 100000
set_option maxHeartbeats 2000000
namespace DL
open PySem PySem.Spec PyProof.Rows L2
mutual
/-- a bound of the text of d -/
def sz : PyData → Nat
  | .none => 8
  | .bool _ => 8
  | .int _ => 800
  | .str s => 12 * s.length + 12
  | .list xs => 8 + szA xs
  | .tuple xs => 8 + szA xs
  | .dict _ => 0
def szA : List PyData → Nat
  | [] => 0
  | x :: xs => sz x + 2 + szA xs
end
mutual
/-- ints up to B, plain texts, no dict -/
def ok (B : Nat) : PyData → Bool
  | .none => true
  | .bool _ => true
  | .int i => decide (i.natAbs ≤ B)
  | .str s => s.cps.toList.all fun c => decide (c < 128)
  | .list xs => okA B xs
  | .tuple xs => okA B xs
  | .dict _ => false
def okA (B : Nat) : List PyData → Bool
  | [] => true
  | x :: xs => ok B x && okA B xs
end
theorem okS {B : Nat} {s : Str} (h : ok B (.str s) = true) : ∀ c ∈ s.cps.toList, c < 128 := by
  unfold ok at h
  intro c hc
  have := List.all_eq_true.mp h c hc
  exact of_decide_eq_true this
mutual
theorem lay_ok (B : Nat) : ∀ d : PyData, ok B d = true → d.canLay0 = true ∧ d.hasDict = false
  | .none, _ => ⟨rfl, rfl⟩
  | .bool _, _ => ⟨rfl, rfl⟩
  | .int _, _ => ⟨rfl, rfl⟩
  | .str s, h => ⟨by
    have h' := okS h
    simp only [PyData.canLay0]
    unfold PySem.PyData.strOk
    rw [← Array.all_toList]
    exact List.all_eq_true.mpr fun c hc => decide_eq_true (Nat.lt_trans (h' c hc) (by decide)), rfl⟩
  | .list xs, h => by
    have := layA_ok B xs (by simpa [ok] using h)
    exact ⟨by simpa [PyData.canLay0] using this.1, by simpa [PyData.hasDict] using this.2⟩
  | .tuple xs, h => by
    have := layA_ok B xs (by simpa [ok] using h)
    exact ⟨by simpa [PyData.canLay0] using this.1, by simpa [PyData.hasDict] using this.2⟩
  | .dict _, h => by simp [ok] at h
theorem layA_ok (B : Nat) : ∀ ds : List PyData, okA B ds = true → PyData.canLayAll0 ds = true ∧ PyData.hasDictAll ds = false
  | [], _ => ⟨rfl, rfl⟩
  | x :: xs, h => by
    have h' : ok B x = true ∧ okA B xs = true := by simpa [okA] using h
    have h1 := lay_ok B x h'.1
    have h2 := layA_ok B xs h'.2
    exact ⟨by simp [PyData.canLayAll0, h1.1, h2.1], by simp [PyData.hasDictAll, h1.2, h2.2]⟩
end
mutual
theorem shows_ok (B : Nat) (hB : B < 10 ^ 60) : ∀ d : PyData, ok B d = true → d.showable = true ∧ d.shown.length ≤ sz d
  | .none, _ => ⟨rfl, by decide⟩
  | .bool b, _ => ⟨rfl, by cases b <;> decide⟩
  | .int i, h => by
    have h' : i.natAbs ≤ B := by simpa [ok] using h
    have h2 : i.natAbs < 10 ^ 60 := Nat.lt_of_le_of_lt h' hB
    refine ⟨?_, ?_⟩
    · have : i.natAbs.log2 < 1920 := by
        by_cases h0 : i.natAbs = 0
        · rw [h0]; decide
        · exact (Nat.log2_lt h0).mpr (Nat.lt_of_lt_of_le h2 (by decide +kernel))
      simpa [PyData.showable] using this
    · have := PySem.int_text_length_le10 (a := i) (k := 60) (by decide) h2
      have e : (PyData.shown (.int i)).length = (toString i).length := by
        simp only [PyData.shown]
        exact PySem.ofString_length _
      rw [e]
      simp only [sz]
      omega
  | .str s, h => ⟨rfl, by
    have h' := okS h
    have := PySem.StrLaws.reprText_len s fun c hc => Nat.lt_of_lt_of_le (h' c hc) (by decide)
    simp only [PyData.shown, sz]
    omega⟩
  | .list xs, h => by
    have h2 := showsA_ok B hB xs (by simpa [ok] using h)
    refine ⟨by simpa [PyData.showable] using h2.1, ?_⟩
    have h3 := PySem.listText_len_le (PyData.shownAll xs)
    simp only [PyData.shown, sz]
    have := h2.2
    omega
  | .tuple xs, h => by
    have h2 := showsA_ok B hB xs (by simpa [ok] using h)
    refine ⟨by simpa [PyData.showable] using h2.1, ?_⟩
    have h3 := PySem.tupleText_len_le (PyData.shownAll xs)
    simp only [PyData.shown, sz]
    have := h2.2
    omega
  | .dict _, h => by simp [ok] at h
theorem showsA_ok (B : Nat) (hB : B < 10 ^ 60) : ∀ ds : List PyData, okA B ds = true → PyData.showableAll ds = true ∧ ((PyData.shownAll ds).map (·.length)).sum + 2 * (PyData.shownAll ds).length ≤ szA ds
  | [], _ => ⟨rfl, Nat.le_refl _⟩
  | x :: xs, h => by
    have h' : ok B x = true ∧ okA B xs = true := by simpa [okA] using h
    have h1 := shows_ok B hB x h'.1
    have h2 := showsA_ok B hB xs h'.2
    refine ⟨by simp [PyData.showableAll, h1.1, h2.1], ?_⟩
    have a := h1.2
    have b := h2.2
    simp only [PyData.shownAll, List.map_cons, List.sum_cons, List.length_cons, szA]
    omega
end
theorem repr_ok {B : Nat} (hB : B < 10 ^ 60) {d : PyData} (h : ok B d = true) (hd : d.depth ≤ 60) (hs : sz d ≤ 16777216) : reprD d = some (.str d.shown) := by
  have h1 := lay_ok B d h
  have h2 := shows_ok B hB d h
  unfold reprD
  rw [if_pos ⟨h1.2, h2.1, hd, Nat.le_trans h2.2 hs⟩]
end DL
namespace RQ
structure Cl where
  f : Rat
  p : Rat
  lo : Option Rat
  hi : Option Rat
deriving DecidableEq
def bd (x : Rat) (lo hi : Option Rat) : Rat :=
  match lo, hi with
  | none, none => x
  | some l, none => if x < l then l else x
  | none, some h => if h < x then h else x
  | some l, some h => if x < l then (if h < l then h else l) else if h < x then h else x
def ap (c : Cl) (x : Rat) : Rat := bd (c.f * x + c.p) c.lo c.hi
def leO (lo hi : Option Rat) : Prop := match lo, hi with | some l, some h => l ≤ h | _, _ => True
def ltO (lo hi : Option Rat) : Prop := match lo, hi with | some l, some h => l < h | _, _ => True
def WF (c : Cl) : Prop := 0 ≤ c.f ∧ (c.f = 0 → c.lo = none ∧ c.hi = none) ∧ ltO c.lo c.hi
theorem mono {c : Cl} (h : WF c) {x y : Rat} (hxy : x ≤ y) : ap c x ≤ ap c y := by
  obtain ⟨f, p, lo, hi⟩ := c
  obtain ⟨h1, h2, h3⟩ := h
  have : f * x ≤ f * y := Rat.mul_le_mul_of_nonneg_left hxy h1
  cases lo <;> cases hi <;> simp only [ap, bd, ltO] at * <;> grind
def cst (a : Rat) : Cl := ⟨0, a, none, none⟩
def nf (f p : Rat) (lo hi : Option Rat) : Cl := if f = 0 then cst (bd p lo hi) else if lo ≠ none ∧ lo = hi then cst (lo.getD 0) else ⟨f, p, lo, hi⟩
def ea (e : Option Rat) (c : Cl) (b : Option Rat) : Option Rat := match e with | none => b | some x => some (ap c x)
def ch2 (a b : Cl) : Cl := if a.f = 0 ∨ b.f = 0 then cst (ap b a.p) else nf (a.f * b.f) (b.f * a.p + b.p) (ea a.lo b b.lo) (ea a.hi b b.hi)
theorem ap_nf (f p : Rat) (lo hi : Option Rat) (h0 : 0 ≤ f) (h : leO lo hi) (x : Rat) : ap (nf f p lo hi) x = bd (f * x + p) lo hi := by
  cases lo <;> cases hi <;> simp only [ap, bd, leO, nf, cst] at * <;> grind
theorem mulm {g y l : Rat} (h : 0 ≤ g) (h0 : g ≠ 0) : (y < l → g * y < g * l) ∧ (l < y → g * l < g * y) := by
  have hg : 0 < g := by grind
  exact ⟨fun q => Rat.mul_lt_mul_of_pos_left q hg, fun q => Rat.mul_lt_mul_of_pos_left q hg⟩
theorem ea_le {lo hi : Option Rat} {b : Cl} (h : leO lo hi) (hb : WF b) : leO (ea lo b b.lo) (ea hi b b.hi) := by
  have m := fun x y (q : x ≤ y) => mono hb q
  obtain ⟨g, q, lo', hi'⟩ := b
  obtain ⟨k1, k2, k3⟩ := hb
  cases lo with
  | none => cases hi <;> cases lo' <;> cases hi' <;> simp only [ap, bd, ltO, leO, ea] at * <;> grind
  | some l => cases hi with
    | none => cases lo' <;> cases hi' <;> simp only [ap, bd, ltO, leO, ea] at * <;> grind
    | some u => exact m _ _ h
theorem lt_le {lo hi : Option Rat} (h : ltO lo hi) : leO lo hi := by
  cases lo <;> cases hi <;> simp only [ltO, leO] at * <;> grind
theorem ap_ch2 {a b : Cl} (ha : WF a) (hb : WF b) (x : Rat) : ap (ch2 a b) x = ap b (ap a x) := by
  have le := ea_le (lt_le ha.2.2) hb
  obtain ⟨f, p, lo, hi⟩ := a
  obtain ⟨g, q, lo', hi'⟩ := b
  obtain ⟨h1, h2, h3⟩ := ha
  obtain ⟨k1, k2, k3⟩ := hb
  have e : g * (f * x + p) + q = f * g * x + (g * p + q) := by grind
  by_cases f0 : f = 0
  · subst f0
    obtain ⟨rfl, rfl⟩ := h2 rfl
    simp only [ap, bd, ltO, nf, cst, ch2, ea] at *; grind
  by_cases g0 : g = 0
  · subst g0
    obtain ⟨rfl, rfl⟩ := k2 rfl
    simp only [ap, bd, ltO, nf, cst, ch2, ea] at *; grind
  have fg : f * g ≠ 0 := by intro h; rcases Rat.mul_eq_zero.mp h with h | h <;> contradiction
  have fg0 : 0 ≤ f * g := Rat.mul_nonneg h1 k1
  have c1 : ch2 ⟨f, p, lo, hi⟩ ⟨g, q, lo', hi'⟩ = nf (f * g) (g * p + q) (ea lo ⟨g, q, lo', hi'⟩ lo') (ea hi ⟨g, q, lo', hi'⟩ hi') := by simp [ch2, f0, g0]
  rw [c1, ap_nf _ _ _ _ fg0 le]
  clear c1 le
  simp only [ap]
  generalize hy : f * x + p = y at *
  rw [← e]
  clear e hy
  cases lo with
  | none => cases hi with
    | none => cases lo' <;> cases hi' <;> simp only [ap, bd, ltO, cst, ea] at * <;> grind
    | some h => have m := mulm (y := y) (l := h) k1 g0
                cases lo' <;> cases hi' <;> simp only [ap, bd, ltO, cst, ea] at * <;> grind
  | some l => 
    have n := mulm (y := y) (l := l) k1 g0
    cases hi with
    | none => cases lo' <;> cases hi' <;> simp only [ap, bd, ltO, cst, ea] at * <;> grind
    | some h => have m := mulm (y := y) (l := h) k1 g0
                have o := mulm (y := l) (l := h) k1 g0
                by_cases y1 : y < l
                · cases lo' <;> cases hi' <;> simp only [ap, bd, ltO, cst, ea, if_pos y1] at * <;> grind
                · by_cases y2 : h < y
                  · cases lo' <;> cases hi' <;> simp only [ap, bd, ltO, cst, ea, if_neg y1, if_pos y2] at * <;> grind
                  · cases lo' <;> cases hi' <;> simp only [ap, bd, ltO, cst, ea, if_neg y1, if_neg y2] at * <;> grind
theorem wf_nf {f p : Rat} {lo hi : Option Rat} (h0 : 0 ≤ f) (h : leO lo hi) : WF (nf f p lo hi) := by
  cases lo <;> cases hi <;> simp only [leO, nf, cst, WF, ltO] at * <;> grind [ltO]
theorem wf_ch2 {a b : Cl} (ha : WF a) (hb : WF b) : WF (ch2 a b) := by
  unfold ch2
  split
  · simp [cst, WF, ltO]
  · exact wf_nf (Rat.mul_nonneg ha.1 hb.1) (ea_le (lt_le ha.2.2) hb)

/-- the amount at which the linear part reaches a bound -/
def be (c : Cl) (l : Rat) : Rat := (l - c.p) / c.f
theorem be_eq {c : Cl} (h : c.f ≠ 0) (l : Rat) : c.f * be c l + c.p = l := by
  unfold be; grind
theorem at_lo {c : Cl} (h : WF c) (h0 : c.f ≠ 0) {l : Rat} (hl : c.lo = some l) : ap c (be c l) = l ∧ ap c (be c l - 1) = l ∧ l < ap c (be c l + 1) := by
  have e := be_eq h0 l
  generalize be c l = x at *
  obtain ⟨f, p, lo, hi⟩ := c
  obtain ⟨h1, h2, h3⟩ := h
  simp only at hl e h0
  subst hl
  cases hi <;> simp only [ap, bd, ltO] at * <;> grind
theorem at_hi {c : Cl} (h : WF c) (h0 : c.f ≠ 0) {l : Rat} (hl : c.hi = some l) : ap c (be c l) = l ∧ ap c (be c l + 1) = l ∧ ap c (be c l - 1) < l := by
  have e := be_eq h0 l
  generalize be c l = x at *
  obtain ⟨f, p, lo, hi⟩ := c
  obtain ⟨h1, h2, h3⟩ := h
  simp only at hl e h0
  subst hl
  cases lo <;> simp only [ap, bd, ltO] at * <;> grind
theorem flat {c : Cl} (h : WF c) (h0 : c.f ≠ 0) {x y : Rat} (hxy : x < y) (he : ap c x = ap c y) : (∃ l, c.lo = some l ∧ c.f * y + c.p ≤ l ∧ ap c y = l) ∨ (∃ l, c.hi = some l ∧ l ≤ c.f * x + c.p ∧ ap c x = l) := by
  obtain ⟨f, p, lo, hi⟩ := c
  obtain ⟨h1, h2, h3⟩ := h
  have m := (mulm (g := f) (y := x) (l := y) h1 h0).1 hxy
  cases lo <;> cases hi <;> simp only [ap, bd, ltO] at * <;> grind
theorem cmp_be {c : Cl} (h : WF c) (h0 : c.f ≠ 0) (l x : Rat) : (c.f * x + c.p ≤ l ↔ x ≤ be c l) ∧ (l ≤ c.f * x + c.p ↔ be c l ≤ x) := by
  have e := be_eq h0 l
  generalize be c l = y at *
  have m := mulm (g := c.f) (y := x) (l := y) h.1 h0
  constructor <;> constructor <;> grind
/-- they agree at the amounts that belong to a bend -/
def AgB (a b : Cl) (x : Rat) : Prop := ap a x = ap b x ∧ ap a (x + 1) = ap b (x + 1) ∧ ap a (x - 1) = ap b (x - 1)
theorem lo_of {a b : Cl} (ha : WF a) (hb : WF b) (fa : a.f ≠ 0) (fb : b.f ≠ 0) {l : Rat} (hl : a.lo = some l) (g : AgB a b (be a l)) : b.lo = some l ∧ be a l ≤ be b l := by
  obtain ⟨g1, g2, g3⟩ := g
  obtain ⟨q1, q2, q3⟩ := at_lo ha fa hl
  rcases flat hb fb (x := be a l - 1) (y := be a l) (by grind) (by grind) with ⟨l', h1, h2, h3⟩ | ⟨l', h1, h2, h3⟩
  · have : l' = l := by grind
    subst this
    exact ⟨h1, (cmp_be hb fb _ _).1.mp h2⟩
  · have h4 := (cmp_be hb fb _ _).2.mp h2
    obtain ⟨p1, p2, p3⟩ := at_hi hb fb h1
    have m1 := mono hb (show be b l' ≤ be a l by grind)
    have m2 := mono hb (show be a l ≤ be a l + 1 by grind)
    have u : ap b (be a l + 1) ≤ l' := by
      obtain ⟨f, p, lo, hi⟩ := b
      obtain ⟨h1', h2', h3'⟩ := hb
      simp only at h1
      subst h1
      cases lo <;> simp only [ap, bd, ltO] at * <;> grind
    grind
theorem hi_of {a b : Cl} (ha : WF a) (hb : WF b) (fa : a.f ≠ 0) (fb : b.f ≠ 0) {l : Rat} (hl : a.hi = some l) (g : AgB a b (be a l)) : b.hi = some l ∧ be b l ≤ be a l := by
  obtain ⟨g1, g2, g3⟩ := g
  obtain ⟨q1, q2, q3⟩ := at_hi ha fa hl
  rcases flat hb fb (x := be a l) (y := be a l + 1) (by grind) (by grind) with ⟨l', h1, h2, h3⟩ | ⟨l', h1, h2, h3⟩
  · have h4 := (cmp_be hb fb _ _).1.mp h2
    obtain ⟨p1, p2, p3⟩ := at_lo hb fb h1
    have m1 := mono hb (show be a l ≤ be b l' by grind)
    have m2 := mono hb (show be a l - 1 ≤ be a l by grind)
    have u : l' ≤ ap b (be a l - 1) := by
      obtain ⟨f, p, lo, hi⟩ := b
      obtain ⟨h1', h2', h3'⟩ := hb
      simp only at h1
      subst h1
      cases hi <;> simp only [ap, bd, ltO] at * <;> grind
    grind
  · have : l' = l := by grind
    subst this
    exact ⟨h1, (cmp_be hb fb _ _).2.mp h2⟩
def bds (c : Cl) : List Rat := (c.lo.toList ++ c.hi.toList).map (be c)
theorem const_of {a b : Cl} (ha : WF a) (hb : WF b) (fa : a.f = 0) (h0 : ap a 0 = ap b 0) (h1 : ap a 1 = ap b 1) (h : ∀ x ∈ bds b, AgB a b x) : b.f = 0 := by
  apply Classical.byContradiction
  intro fb
  have ca : ∀ x, ap a x = a.p := fun x => by
    obtain ⟨f, p, lo, hi⟩ := a
    obtain ⟨q1, q2, q3⟩ := ha
    simp only at fa
    subst fa
    obtain ⟨r1, r2⟩ := q2 rfl
    simp only at r1 r2
    subst r1 r2
    simp only [ap, bd]; grind
  cases el : b.lo with
  | some l =>
    obtain ⟨g1, g2, g3⟩ := h (be b l) (by simp [bds, el])
    obtain ⟨q1, q2, q3⟩ := at_lo hb fb el
    simp only [ca] at *
    grind
  | none =>
    cases eh : b.hi with
    | some l =>
      obtain ⟨g1, g2, g3⟩ := h (be b l) (by simp [bds, eh])
      obtain ⟨q1, q2, q3⟩ := at_hi hb fb eh
      simp only [ca] at *
      grind
    | none =>
      simp only [ca, ap, bd, el, eh] at h0 h1
      grind
theorem agree {a b : Cl} (ha : WF a) (hb : WF b) (h0 : ap a 0 = ap b 0) (h1 : ap a 1 = ap b 1) (h : ∀ x ∈ bds a ++ bds b, AgB a b x) : a = b := by
  have hA : ∀ x ∈ bds a, AgB a b x := fun x q => h x (List.mem_append_left _ q)
  have hB : ∀ x ∈ bds b, AgB a b x := fun x q => h x (List.mem_append_right _ q)
  have hB' : ∀ x ∈ bds b, AgB b a x := fun x q => by obtain ⟨q1, q2, q3⟩ := hB x q; exact ⟨q1.symm, q2.symm, q3.symm⟩
  have hA' : ∀ x ∈ bds a, AgB b a x := fun x q => by obtain ⟨q1, q2, q3⟩ := hA x q; exact ⟨q1.symm, q2.symm, q3.symm⟩
  by_cases fa : a.f = 0
  · have fb := const_of ha hb fa h0 h1 hB
    obtain ⟨f, p, lo, hi⟩ := a
    obtain ⟨g, q, lo', hi'⟩ := b
    simp only at fa fb
    subst fa fb
    obtain ⟨r1, r2⟩ := ha.2.1 rfl
    obtain ⟨r3, r4⟩ := hb.2.1 rfl
    simp only at r1 r2 r3 r4
    subst r1 r2 r3 r4
    simp only [ap, bd] at h0
    congr 1
    grind
  by_cases fb : b.f = 0
  · exact absurd (const_of hb ha fb h0.symm h1.symm hA') fa
  have elo : a.lo = b.lo ∧ ∀ l, a.lo = some l → be a l = be b l := by
    cases e1 : a.lo with
    | some l =>
      obtain ⟨q1, q2⟩ := lo_of ha hb fa fb e1 (hA _ (by simp [bds, e1]))
      obtain ⟨q3, q4⟩ := lo_of hb ha fb fa q1 (hB' _ (by simp [bds, q1]))
      exact ⟨q1.symm, fun l' hl => by cases hl; exact Rat.le_antisymm q2 q4⟩
    | none =>
      cases e2 : b.lo with
      | none => exact ⟨rfl, fun l hl => nomatch hl⟩
      | some l =>
        obtain ⟨q3, q4⟩ := lo_of hb ha fb fa e2 (hB' _ (by simp [bds, e2]))
        rw [e1] at q3; cases q3
  have ehi : a.hi = b.hi ∧ ∀ l, a.hi = some l → be a l = be b l := by
    cases e1 : a.hi with
    | some l =>
      obtain ⟨q1, q2⟩ := hi_of ha hb fa fb e1 (hA _ (by simp [bds, e1]))
      obtain ⟨q3, q4⟩ := hi_of hb ha fb fa q1 (hB' _ (by simp [bds, q1]))
      exact ⟨q1.symm, fun l' hl => by cases hl; exact Rat.le_antisymm q4 q2⟩
    | none =>
      cases e2 : b.hi with
      | none => exact ⟨rfl, fun l hl => nomatch hl⟩
      | some l =>
        obtain ⟨q3, q4⟩ := hi_of hb ha fb fa e2 (hB' _ (by simp [bds, e2]))
        rw [e1] at q3; cases q3
  obtain ⟨l1, l2⟩ := elo
  obtain ⟨k1, k2⟩ := ehi
  have bl := fun l => be_eq fa l
  have bl' := fun l => be_eq fb l
  have key : a.f = b.f ∧ a.p = b.p := by
    cases e1 : a.lo with
    | some l =>
      have x1 := bl l
      have x2 := bl' l
      rw [← l2 l e1] at x2
      cases e2 : a.hi with
      | some h =>
        have x3 := bl h
        have x4 := bl' h
        rw [← k2 h e2] at x4
        have hlt : l < h := by have := ha.2.2; rw [e1, e2] at this; exact this
        generalize be a l = u at *
        generalize be a h = v at *
        have y : (a.f - b.f) * (u - v) = 0 := by grind
        rcases Rat.mul_eq_zero.mp y with y | y
        · constructor <;> grind
        · exfalso; have : u = v := by grind
          subst this; grind
      | none =>
        obtain ⟨g1, g2, g3⟩ := hA (be a l) (by simp [bds, e1])
        have e3 : b.lo = some l := by rw [← l1, e1]
        have e4 : b.hi = none := by rw [← k1, e2]
        have fa' : 0 < a.f := by have := ha.1; grind
        have fb' : 0 < b.f := by have := hb.1; grind
        simp only [ap, bd, e1, e2, e3, e4] at g2
        constructor <;> grind
    | none =>
      cases e2 : a.hi with
      | some h =>
        have x3 := bl h
        have x4 := bl' h
        rw [← k2 h e2] at x4
        obtain ⟨g1, g2, g3⟩ := hA (be a h) (by simp [bds, e2])
        have e3 : b.lo = none := by rw [← l1, e1]
        have e4 : b.hi = some h := by rw [← k1, e2]
        have fa' : 0 < a.f := by have := ha.1; grind
        have fb' : 0 < b.f := by have := hb.1; grind
        simp only [ap, bd, e1, e2, e3, e4] at g3
        constructor <;> grind
      | none =>
        have e3 : b.lo = none := by rw [← l1, e1]
        have e4 : b.hi = none := by rw [← k1, e2]
        simp only [ap, bd, e1, e2, e3, e4] at h0 h1
        constructor <;> grind
  obtain ⟨f, p, lo, hi⟩ := a
  obtain ⟨g, q, lo', hi'⟩ := b
  simp only at l1 k1 key
  rw [l1, k1, key.1, key.2]
theorem ext {a b : Cl} (ha : WF a) (hb : WF b) (h : ∀ x, ap a x = ap b x) : a = b := agree ha hb (h _) (h _) fun x _ => ⟨h _, h _, h _⟩
end RQ
set_option maxRecDepth 100000
set_option maxHeartbeats 2000000
namespace DL
open PySem PySem.Spec PyProof.Rows L2
def qD (q : Rat) : PyData := .tuple [.int q.num, .int (q.den : Nat)]
def oD : Option Rat → PyData
  | none => .none
  | some q => qD q
def cD (c : RQ.Cl) : PyData := .tuple [qD c.f, qD c.p, oD c.lo, oD c.hi]
/-- less than b bits -/
structure Sq (b : Nat) (q : Rat) : Prop where
  n : q.num.natAbs < 2 ^ b
  d : q.den < 2 ^ b
theorem Sq.mono {b c : Nat} {q : Rat} (h : Sq b q) (hc : b ≤ c) : Sq c q :=
  ⟨Nat.lt_of_lt_of_le h.n (Nat.pow_le_pow_right (by decide) hc), Nat.lt_of_lt_of_le h.d (Nat.pow_le_pow_right (by decide) hc)⟩
theorem qden_pos (q : Rat) : (0 : Int) < (q.den : Int) := by have := q.den_pos; omega
theorem mul_lt_pow {x y : Int} {a b : Nat} (hx : x.natAbs < 2 ^ a) (hy : y.natAbs < 2 ^ b) : (x * y).natAbs < 2 ^ (a + b) := by
  rw [Int.natAbs_mul, Nat.pow_add]
  exact Nat.mul_lt_mul'' hx hy
theorem add_lt_pow {x y : Int} {a : Nat} (hx : x.natAbs < 2 ^ a) (hy : y.natAbs < 2 ^ a) : (x + y).natAbs < 2 ^ (a + 1) := by
  have := Int.natAbs_add_le x y
  rw [Nat.pow_succ]
  omega
theorem pow_le {a b : Nat} (h : a ≤ b) : (2 : Nat) ^ a ≤ 2 ^ b := Nat.pow_le_pow_right (by decide) h
theorem lgB {n k : Nat} (h : n < 2 ^ k) (hk : 0 < k) : n.log2 < k := by
  by_cases h0 : n = 0
  · subst h0; simpa using hk
  · exact (Nat.log2_lt h0).mpr h
theorem o_mulB {i j : Int} (hi : i.natAbs < 2 ^ 4000) (hj : j.natAbs < 2 ^ 4000) : mulD (.int i) (.int j) = some (.int (i * j)) := by
  refine o_mul ?_
  have h1 := lgB hi (by decide)
  have h2 := lgB hj (by decide)
  omega
theorem o_fdivB {i j : Int} (h : 0 < j) (hj : j.natAbs < 2 ^ 4000) : fdivD (.int i) (.int j) = some (.int (i / j)) := o_fdiv h (Nat.lt_of_lt_of_le (lgB hj (by decide)) (by decide))
theorem gcd_posB {n d : Int} (hd : d ≠ 0) : (0 : Int) < Int.gcd n d := by
  have := Int.gcd_pos_of_ne_zero_right n hd
  omega
theorem gcd_ltB {n d : Int} (hd : d ≠ 0) {b : Nat} (h : d.natAbs < 2 ^ b) : ((Int.gcd n d : Nat) : Int).natAbs < 2 ^ b := by
  have h2 : Int.gcd n d ≤ d.natAbs := Nat.gcd_le_right _ (by omega)
  simpa using Nat.lt_of_le_of_lt h2 h
/-- the fraction of two ints -/
theorem num_frac {n d : Int} (hd : 0 < d) : (Rat.divInt n d).num = n / (Int.gcd n d : Int) := by
  rw [Rat.num_divInt, Int.sign_eq_one_of_pos hd, Int.one_mul, Int.gcd_comm]
theorem den_frac {n d : Int} (hd : 0 < d) : ((Rat.divInt n d).den : Int) = d / (Int.gcd n d : Int) := by
  rw [Rat.den_divInt, if_neg (by omega), Int.gcd_comm]
  rw [Int.natCast_ediv]
  congr 1
  omega
theorem qD_frac {n d : Int} (hd : 0 < d) : qD (Rat.divInt n d) = .tuple [.int (n / (Int.gcd n d : Int)), .int (d / (Int.gcd n d : Int))] := by
  unfold qD; rw [num_frac hd, den_frac hd]
theorem sq_div {n d : Int} {b : Nat} (hn : n.natAbs < 2 ^ b) (hd : d.natAbs < 2 ^ b) (h0 : 0 < d) : Sq b (Rat.divInt n d) := by
  constructor
  · rw [num_frac h0]
    exact Nat.lt_of_le_of_lt (Int.natAbs_ediv_le_natAbs _ _) hn
  · have e := den_frac (n := n) h0
    have : (Rat.divInt n d).den = (d / (Int.gcd n d : Int)).natAbs := by omega
    rw [this]
    exact Nat.lt_of_le_of_lt (Int.natAbs_ediv_le_natAbs _ _) hd
theorem add_frac (x y : Rat) : Rat.divInt (x.num * (y.den : Int) + y.num * (x.den : Int)) ((x.den : Int) * (y.den : Int)) = x + y := by
  rw [Rat.add_def', ← Rat.divInt_ofNat, Int.natCast_mul]
theorem mul_frac (x y : Rat) : Rat.divInt (x.num * y.num) ((x.den : Int) * (y.den : Int)) = x * y := by
  rw [Rat.mul_def', ← Rat.divInt_ofNat, Int.natCast_mul]
theorem den_lt {q : Rat} {b : Nat} (h : Sq b q) : ((q.den : Nat) : Int).natAbs < 2 ^ b := by simpa using h.d
theorem sq_add_parts {x y : Rat} {a b : Nat} (hx : Sq a x) (hy : Sq b y) : (x.num * (y.den : Int) + y.num * (x.den : Int)).natAbs < 2 ^ (a + b + 1) ∧ ((x.den : Int) * (y.den : Int)).natAbs < 2 ^ (a + b + 1) ∧ 0 < (x.den : Int) * (y.den : Int) := by
  refine ⟨add_lt_pow (mul_lt_pow hx.n (den_lt hy)) (by rw [Nat.add_comm]; exact mul_lt_pow hy.n (den_lt hx)), Nat.lt_of_lt_of_le (mul_lt_pow (den_lt hx) (den_lt hy)) (pow_le (by omega)), Int.mul_pos (qden_pos x) (qden_pos y)⟩
theorem sq_mul_parts {x y : Rat} {a b : Nat} (hx : Sq a x) (hy : Sq b y) : (x.num * y.num).natAbs < 2 ^ (a + b) ∧ ((x.den : Int) * (y.den : Int)).natAbs < 2 ^ (a + b) ∧ 0 < (x.den : Int) * (y.den : Int) :=
  ⟨mul_lt_pow hx.n hy.n, mul_lt_pow (den_lt hx) (den_lt hy), Int.mul_pos (qden_pos x) (qden_pos y)⟩
theorem Sq.add {x y : Rat} {a b : Nat} (hx : Sq a x) (hy : Sq b y) : Sq (a + b + 1) (x + y) := by
  obtain ⟨h1, h2, h3⟩ := sq_add_parts hx hy
  rw [← add_frac]
  exact sq_div h1 h2 h3
theorem Sq.mul {x y : Rat} {a b : Nat} (hx : Sq a x) (hy : Sq b y) : Sq (a + b) (x * y) := by
  obtain ⟨h1, h2, h3⟩ := sq_mul_parts hx hy
  rw [← mul_frac]
  exact sq_div h1 h2 h3
/-- == of fractions, of bounds, of clauses -/
theorem eqv_q (x y : Rat) : PyData.eqv (qD x) (qD y) = decide (x = y) := by
  have e : PyData.eqv (qD x) (qD y) = (x.num == y.num && (((x.den : Int) == (y.den : Int)))) := by simp [qD, PyData.eqv, PyData.eqvAll]
  rw [e]
  by_cases h : x = y
  · subst h; simp
  · rw [decide_eq_false h]
    by_cases h1 : x.num = y.num
    · by_cases h2 : (x.den : Int) = y.den
      · exact absurd (Rat.ext h1 (by omega)) h
      · simp [h2]
    · simp [h1]
theorem eqv_o (x y : Option Rat) : PyData.eqv (oD x) (oD y) = decide (x = y) := by
  cases x <;> cases y
  · rfl
  · rfl
  · rfl
  · rename_i a b
    have : PyData.eqv (oD (some a)) (oD (some b)) = PyData.eqv (qD a) (qD b) := rfl
    rw [this, eqv_q]
    simp
theorem eqv_c (x y : RQ.Cl) : PyData.eqv (cD x) (cD y) = decide (x = y) := by
  have e : PyData.eqv (cD x) (cD y) = (PyData.eqv (qD x.f) (qD y.f) && (PyData.eqv (qD x.p) (qD y.p) && (PyData.eqv (oD x.lo) (oD y.lo) && (PyData.eqv (oD x.hi) (oD y.hi) && true)))) := by simp [cD, PyData.eqv, PyData.eqvAll]
  rw [e, eqv_q, eqv_q, eqv_o, eqv_o]
  obtain ⟨f, p, l, u⟩ := x
  obtain ⟨f', p', l', u'⟩ := y
  simp only [RQ.Cl.mk.injEq, Bool.and_true]
  rw [Bool.eq_iff_iff]
  simp
theorem ix0 (q : Rat) : idxD (qD q) (.int 0) = some (.int q.num) := rfl
theorem ix1 (q : Rat) : idxD (qD q) (.int 1) = some (.int (q.den : Int)) := rfl
/-- all of a clause's numbers -/
structure Sc (b : Nat) (c : RQ.Cl) : Prop where
  f : Sq b c.f
  p : Sq b c.p
  lo : ∀ q, c.lo = some q → Sq b q
  hi : ∀ q, c.hi = some q → Sq b q
@[simp] theorem none_q (q : Rat) : noneD (qD q) = false := rfl
@[simp] theorem none_o0 : noneD (oD none) = true := rfl
@[simp] theorem none_o1 (q : Rat) : noneD (oD (some q)) = false := rfl
@[simp] theorem oD_some (q : Rat) : oD (some q) = qD q := rfl
@[simp] theorem oD_none : oD none = .none := rfl
theorem sq_bd {b : Nat} {x : Rat} {lo hi : Option Rat} (hx : Sq b x) (hl : ∀ q, lo = some q → Sq b q) (hh : ∀ q, hi = some q → Sq b q) : Sq b (RQ.bd x lo hi) := by
  unfold RQ.bd
  cases lo <;> cases hi <;> simp only
  · exact hx
  · split
    · exact hh _ rfl
    · exact hx
  · split
    · exact hl _ rfl
    · exact hx
  · split
    · split
      · exact hh _ rfl
      · exact hl _ rfl
    · split
      · exact hh _ rfl
      · exact hx
theorem sc_nf {f p : Rat} {lo hi : Option Rat} {b : Nat} (h : Sc b ⟨f, p, lo, hi⟩) (h0 : 1 ≤ b) : Sc b (RQ.nf f p lo hi) := by
  unfold RQ.nf
  have z : Sq b 0 := ⟨Nat.pow_pos (by decide), Nat.lt_of_lt_of_le (show 1 < 2 ^ 1 by decide) (pow_le h0)⟩
  split
  · exact ⟨z, sq_bd h.p h.lo h.hi, (fun q e => nomatch e), (fun q e => nomatch e)⟩
  · split
    · rename_i hh
      obtain ⟨h1, h2⟩ := hh
      cases lo with
      | none => exact absurd rfl h1
      | some l => exact ⟨z, h.lo l rfl, (fun q e => nomatch e), (fun q e => nomatch e)⟩
    · exact h
theorem eq_qq (x y : Rat) : eqD (qD x) (qD y) = some (.bool (decide (x = y))) := by
  rw [← eqv_q]
  rfl
theorem eq_oo (x y : Option Rat) : eqD (oD x) (oD y) = some (.bool (decide (x = y))) := by
  rw [← eqv_o]
  cases x <;> cases y <;> rfl
theorem eq_cc (x y : RQ.Cl) : eqD (cD x) (cD y) = some (.bool (decide (x = y))) := by
  rw [← eqv_c]
  obtain ⟨f, p, l, u⟩ := x
  obtain ⟨f', p', l', u'⟩ := y
  cases l <;> cases u <;> cases l' <;> cases u' <;> rfl
theorem ne_qq (x y : Rat) : neD (qD x) (qD y) = some (.bool (!decide (x = y))) := by
  rw [← eqv_q]
  rfl
def qB (b : Nat) : PyData → Bool
  | .tuple [.int n, .int d] => decide (0 < d) && decide (Int.gcd n d = 1) && decide (n.natAbs < 2 ^ b) && decide (d.natAbs < 2 ^ b)
  | _ => false
theorem qB_ok {b : Nat} {x : PyData} (h : qB b x = true) : ∃ q, x = qD q ∧ Sq b q := by
  unfold qB at h
  split at h
  · rename_i n d
    simp only [Bool.and_eq_true, decide_eq_true_eq] at h
    obtain ⟨⟨⟨h1, h2⟩, h3⟩, h4⟩ := h
    have e : d = (d.natAbs : Nat) := by omega
    refine ⟨⟨n, d.natAbs, by omega, h2⟩, ?_, h3, h4⟩
    unfold qD
    simp only
    rw [← e]
  · cases h
def nnB : PyData → Bool
  | .tuple [.int n, _] => decide (0 ≤ n)
  | _ => false
theorem nnB_ok {q : Rat} (h : nnB (qD q) = true) : 0 ≤ q := Rat.num_nonneg.mp (by simpa [nnB, qD] using h)
theorem menu_q {b : Nat} {xs : List PyData} (h : xs.all (qB b) = true) {x : PyData} (hx : x ∈ xs) : ∃ q, x = qD q ∧ Sq b q := qB_ok (List.all_eq_true.mp h x hx)
theorem menu_n {b : Nat} {xs : List PyData} (h : xs.all (fun x => qB b x && nnB x) = true) {x : PyData} (hx : x ∈ xs) : ∃ q, x = qD q ∧ Sq b q ∧ 0 ≤ q := by
  have := List.all_eq_true.mp h x hx
  simp only [Bool.and_eq_true] at this
  obtain ⟨q, rfl, hq⟩ := qB_ok this.1
  exact ⟨q, rfl, hq, nnB_ok this.2⟩
end DL
set_option maxRecDepth 100000
set_option maxHeartbeats 2000000
namespace DL
open PySem PySem.Spec PyProof.Rows L2
@[simp] theorem at0 (x : PyData) (xs : List PyData) : atI (x :: xs) 0 = some x := by
  rw [at_nn (by decide) (by simp only [List.length_cons]; omega)]; rfl
@[simp] theorem at1 (x y : PyData) (xs : List PyData) : atI (x :: y :: xs) 1 = some y := by
  rw [at_nn (by decide) (by simp only [List.length_cons]; omega)]; rfl
@[simp] theorem at2 (x y z : PyData) (xs : List PyData) : atI (x :: y :: z :: xs) 2 = some z := by
  rw [at_nn (by decide) (by simp only [List.length_cons]; omega)]; rfl
@[simp] theorem at3 (x y z w : PyData) (xs : List PyData) : atI (x :: y :: z :: w :: xs) 3 = some w := by
  rw [at_nn (by decide) (by simp only [List.length_cons]; omega)]; rfl
theorem atI_mem {xs : List PyData} {i : Int} (h0 : 0 ≤ i) (h1 : i < xs.length) : ∃ y, atI xs i = some y ∧ y ∈ xs := by
  refine ⟨xs[i.toNat]'(by omega), ?_, List.getElem_mem _⟩
  rw [at_nn h0 h1, List.getElem?_eq_getElem]
@[simp] theorem eqD_int (i j : Int) : eqD (.int i) (.int j) = some (.bool (i == j)) := rfl
@[simp] theorem neD_int (i j : Int) : neD (.int i) (.int j) = some (.bool (!(i == j))) := rfl
@[simp] theorem n0 : noneD .none = true := rfl
@[simp] theorem o_itT (xs : List PyData) : itD (.tuple xs) = some xs := rfl
@[simp] theorem o_itL (xs : List PyData) : itD (.list xs) = some xs := rfl
@[simp] theorem o_slT (xs : List PyData) (lo hi : Option Int) : slD (.tuple xs) lo hi = some (.tuple (cutD xs lo hi)) := rfl
@[simp] theorem o_slL (xs : List PyData) (lo hi : Option Int) : slD (.list xs) lo hi = some (.list (cutD xs lo hi)) := rfl
@[simp] theorem o_revL (xs : List PyData) : revD (.list xs) = some (.list xs.reverse) := rfl
@[simp] theorem o_revT (xs : List PyData) : revD (.tuple xs) = some (.tuple xs.reverse) := rfl
@[simp] theorem e_fz (n : XN) (ρ : Nv) : xFz n ρ = (n ρ).map fun p => (odD p.1, p.2) := rfl
@[simp] theorem e_lc (it : XI) (g : XG) (c : XT) (e : XE) (vs : List Nat) (ρ : Nv) : nLc it g c e vs ρ = (it ρ).bind fun p => if unAt p.2 vs = true then (lcL g c e vs p.1 p.2 []).map fun q => (.ol q.1, q.2) else none := rfl
@[simp] theorem e_lcN (g : XG) (c : XT) (e : XE) (vs : List Nat) (ρ : Nv) (acc : List PyData) : lcL g c e vs [] ρ acc = some (acc, ρ) := rfl
@[simp] theorem e_lcC (g : XG) (c : XT) (e : XE) (vs : List Nat) (d : PyData) (ds : List PyData) (ρ : Nv) (acc : List PyData) : lcL g c e vs (d :: ds) ρ acc = ((g d ρ).bind fun ρ1 => (c ρ1).bind fun p => if p.1 = true then (e p.2).bind fun q => if acc.length < sizeLine then (wipeN q.2 vs).bind fun ρ2 => lcL g c e vs ds ρ2 (acc ++ [q.1]) else none
    else (wipeN p.2 vs).bind fun ρ2 => lcL g c e vs ds ρ2 acc) := rfl
@[simp] theorem e_wipe0 (ρ : Nv) : wipeN ρ [] = some ρ := rfl
@[simp] theorem e_wipe1 (ρ : Nv) (v : Nat) (vs : List Nat) : wipeN ρ (v :: vs) = if free ρ v = true then wipeN (ρ.set v .un) vs else none := rfl
@[simp] theorem e_yes (ρ : Nv) : cYes ρ = some (true, ρ) := rfl
@[simp] theorem odD_ol (xs : List PyData) : odD (.ol xs) = .list xs := rfl
@[simp] theorem at4 (x y z w v : PyData) (xs : List PyData) : atI (x :: y :: z :: w :: v :: xs) 4 = some v := by
  rw [at_nn (by decide) (by simp only [List.length_cons]; omega)]; rfl
@[simp] theorem e_pickN (as : List AV) : pick [] as = some [] := rfl
@[simp] theorem e_pickL (i : Nat) (s : Sel) (as : List AV) : pick (.inl i :: s) as = (as[i]?).bind fun a => (pick s as).map (a :: ·) := rfl
@[simp] theorem e_aPick (s : Sel) (r rk : XA) (ρ : Nv) : aPick s r rk ρ = (r ρ).bind fun p => (rk p.2).bind fun q => (pick s (p.1 ++ q.1)).map fun as => (as, q.2) := rfl
@[simp] theorem e_datN : datEs [] = some [] := rfl
@[simp] theorem e_datC (x : PyData) (es : List EV) : datEs (.d x :: es) = (datEs es).map (x :: ·) := rfl
theorem dat_of : ∀ ds : List PyData, datEs (ds.map EV.d) = some ds
  | [] => rfl
  | d :: ds => by simp [dat_of ds]
theorem e_star (m : XF) (es : List EV) : starF m es = (datEs es).bind fun ds => if ds.length ≤ sizeLine then (m [.d (.tuple ds)]).map fun q => (q.1, es) else none := rfl
@[simp] theorem e_og1 (i : Nat) (g : XE) (ρ : Nv) : xOg1 i g ρ = match ρ[i]? with
  | some (.own (.od _) _) => (g ρ).bind fun q => match q.2[i]?, keyD q.1 with
    | some (.own (.od kvs) _), some k => some ((getD' kvs k).getD .none, q.2)
    | _, _ => none
  | _ => none := rfl
@[simp] theorem e_og2 (i : Nat) (g h : XE) (ρ : Nv) : xOg2 i g h ρ = match ρ[i]? with
  | some (.own (.od _) _) => (g ρ).bind fun q => (h q.2).bind fun r => match r.2[i]?, keyD q.1 with
    | some (.own (.od kvs) _), some k => some ((getD' kvs k).getD r.1, r.2)
    | _, _ => none
  | _ => none := rfl
@[simp] theorem e_chain3 (h h1 h2 : PyData → PyData → Option PyData) (a b c d : XE) (ρ : Nv) : xChain3 h h1 h2 a b c d ρ = (a ρ).bind fun p => (b p.2).bind fun q => (h p.1 q.1).bind fun z => match z with
  | .bool true => (c q.2).bind fun r => (h1 q.1 r.1).bind fun z => match z with
    | .bool true => (d r.2).bind fun s => (h2 r.1 s.1).map fun z => (z, s.2)
    | .bool false => some (.bool false, r.2)
    | _ => none
  | .bool false => some (.bool false, q.2)
  | _ => none := rfl
@[simp] theorem e_star1 (f : XE) (ρ : Nv) : aStar f ρ = (f ρ).bind fun p => match p.1 with
  | .list ds => some (ds.map .v, p.2)
  | .tuple ds => some (ds.map .v, p.2)
  | _ => none := rfl
@[simp] theorem e_parR3 (i j l : Nat) (f g h : XR) (ρ : Nv) : sParR3 i j l f g h ρ = (f ρ).bind fun p => (g p.2).bind fun q => (h q.2).bind fun s => (putR s.2 i p.1).bind fun ρ1 => (putR ρ1 j q.1).bind fun ρ2 => (putR ρ2 l s.1).map .nx := rfl
@[simp] theorem e_rD (f : XE) (ρ : Nv) : rD f ρ = (f ρ).map fun p => (.d p.1, p.2) := rfl
@[simp] theorem e_rN (f : XN) (ρ : Nv) : rN f ρ = (f ρ).map fun p => (.n p.1, p.2) := rfl
@[simp] theorem e_ncat (a b : XE) (ρ : Nv) : nCat a b ρ = (a ρ).bind fun p => (b p.2).bind fun q => match p.1, q.1 with
  | .list x, .list y => if x.length + y.length ≤ sizeLine then some (.ol (x ++ y), q.2) else none
  | _, _ => none := rfl
end DL
set_option maxRecDepth 100000
set_option maxHeartbeats 4000000
namespace P1
open PySem PySem.Spec PyProof.Rows L2 DL
def b_l_feed : XS := sRetO (nDisp [(xC (.str "cells"), x1 listD (xScr 0 none (some 63))), (xC (.str "at"), xC (.int 0)), (xC (.str "left"), xC (.int 0)), (xC (.str "count"), xC (.int 0))])
def m_l_feed : XF := runF 1 b_l_feed
def b_l_draw : XS := sSeq (sPut 0 (xC (.str "count")) (x2 addD (xGet 0 (xC (.str "count"))) (xC (.int 1)))) (sSeq (sIf (tst (x2 gtD (xGet 0 (xC (.str "left"))) (xC (.int 0)))) (sSeq (sSet 2 (x2 modD (xGet 0 (xC (.str "left"))) (xVar 1))) (sSeq (sPut 0 (xC (.str "left")) (x2 fdivD (xGet 0 (xC (.str "left"))) (xVar 1))) (sRet (xVar 2)))) (sNil)) (sSeq (sSet 3 (xGet 0 (xC (.str "at")))) (sSeq (sPut 0 (xC (.str "at")) (x2 addD (xVar 3) (xC (.int 1)))) (sSeq (sSet 4 (xIf (tst (x2 neD (xGet 0 (xC (.str "cells"))) (xLst (aNil)))) (x2 idxD (xGet 0 (xC (.str "cells"))) (x2 modD (xVar 3) (x1 lenD (xGet 0 (xC (.str "cells")))))) (xC (.int 53)))) (sSeq (sIf (xAndT (tst (x2 geD (xVar 4) (x2 powD (xC (.int 10)) (xC (.int 18))))) (tst (x2 ltD (xVar 3) (x1 lenD (xGet 0 (xC (.str "cells"))))))) (sSeq (sPut 0 (xC (.str "left")) (x2 fdivD (xVar 4) (xVar 1))) (sRet (x2 modD (xVar 4) (xVar 1)))) (sNil)) (sSeq (sSet 5 (x2 modD (x2 addD (x2 addD (x2 modD (xVar 4) (xC (.int 1000000453))) (x2 mulD (xC (.int 150011)) (xGet 0 (xC (.str "count"))))) (xC (.int 97))) (xC (.int 2147483423)))) (sSeq (sSet 5 (x2 modD (x2 addD (x2 addD (x2 mulD (xVar 5) (xVar 5)) (x2 mulD (xC (.int 3700129)) (xGet 0 (xC (.str "count"))))) (xC (.int 67))) (xC (.int 2147483399)))) (sRet (x2 modD (x2 fdivD (x2 modD (x2 addD (x2 mulD (xVar 5) (xVar 5)) (x2 mulD (xC (.int 79)) (xVar 5))) (xC (.int 2147483353))) (xC (.int 16))) (xVar 1))))))))))
def m_l_draw : XF := runF 6 b_l_draw
def b_l_sizes : XS := sSeq (sSet 0 (xLst (aCons (xTup (aCons (xC (.int 0)) (aCons (xC (.int 1)) (aNil)))) (aCons (xTup (aCons (xC (.int 1)) (aCons (xC (.int 1)) (aNil)))) (aCons (xTup (aCons (x1 negD (xC (.int 1))) (aCons (xC (.int 1)) (aNil)))) (aCons (xTup (aCons (xC (.int 2)) (aCons (xC (.int 1)) (aNil)))) (aCons (xTup (aCons (x1 negD (xC (.int 2))) (aCons (xC (.int 1)) (aNil)))) (aCons (xTup (aCons (xC (.int 5)) (aCons (xC (.int 1)) (aNil)))) (aCons (xTup (aCons (x1 negD (xC (.int 5))) (aCons (xC (.int 1)) (aNil)))) (aCons (xTup (aCons (xC (.int 10)) (aCons (xC (.int 1)) (aNil)))) (aCons (xTup (aCons (x1 negD (xC (.int 10))) (aCons (xC (.int 1)) (aNil)))) (aCons (xTup (aCons (xC (.int 20)) (aCons (xC (.int 1)) (aNil)))) (aCons (xTup (aCons (xC (.int 50)) (aCons (xC (.int 1)) (aNil)))) (aCons (xTup (aCons (xC (.int 100)) (aCons (xC (.int 1)) (aNil)))) (aNil))))))))))))))) (sRet (x2 addD (xVar 0) (xLst (aCons (xTup (aCons (x1 negD (xC (.int 100))) (aCons (xC (.int 1)) (aNil)))) (aCons (xTup (aCons (xC (.int 1)) (aCons (xC (.int 2)) (aNil)))) (aCons (xTup (aCons (x1 negD (xC (.int 1))) (aCons (xC (.int 2)) (aNil)))) (aCons (xTup (aCons (xC (.int 3)) (aCons (xC (.int 2)) (aNil)))) (aCons (xTup (aCons (x1 negD (xC (.int 7))) (aCons (xC (.int 2)) (aNil)))) (aCons (xTup (aCons (xC (.int 2)) (aCons (xC (.int 3)) (aNil)))) (aCons (xTup (aCons (xC (.int 11)) (aCons (xC (.int 10)) (aNil)))) (aCons (xTup (aCons (xC (.int 9)) (aCons (xC (.int 10)) (aNil)))) (aCons (xTup (aCons (xC (.int 9999)) (aCons (xC (.int 1)) (aNil)))) (aCons (xTup (aCons (x1 negD (xC (.int 9999))) (aCons (xC (.int 1)) (aNil)))) (aNil))))))))))))))
def m_l_sizes : XF := runF 1 b_l_sizes
def b_l_size : XS := sRet (x2 idxD (xCall m_l_sizes aNil) (xCall (arity 2 m_l_draw) (aSlot 0 (aCons (xC (.int 22)) (aNil)))))
def m_l_size : XF := runF 1 b_l_size
def b_l_less : XS := sRet (x2 ltD (x2 mulD (x2 idxD (xVar 0) (xC (.int 0))) (x2 idxD (xVar 1) (xC (.int 1)))) (x2 mulD (x2 idxD (xVar 1) (xC (.int 0))) (x2 idxD (xVar 0) (xC (.int 1)))))
def m_l_less : XF := runF 2 b_l_less
def b_l_raw : XS := sSeq (sSet 1 (x2 idxD (xLst (aCons (xTup (aCons (xC (.int 1)) (aCons (xC (.int 1)) (aNil)))) (aCons (xTup (aCons (xC (.int 1)) (aCons (xC (.int 1)) (aNil)))) (aCons (xTup (aCons (xC (.int 2)) (aCons (xC (.int 1)) (aNil)))) (aCons (xTup (aCons (xC (.int 1)) (aCons (xC (.int 2)) (aNil)))) (aCons (xTup (aCons (xC (.int 0)) (aCons (xC (.int 1)) (aNil)))) (aCons (xTup (aCons (xC (.int 3)) (aCons (xC (.int 1)) (aNil)))) (aCons (xTup (aCons (xC (.int 11)) (aCons (xC (.int 10)) (aNil)))) (aCons (xTup (aCons (xC (.int 2)) (aCons (xC (.int 3)) (aNil)))) (aCons (xTup (aCons (xC (.int 9)) (aCons (xC (.int 10)) (aNil)))) (aCons (xTup (aCons (xC (.int 10)) (aCons (xC (.int 1)) (aNil)))) (aNil)))))))))))) (xCall (arity 2 m_l_draw) (aSlot 0 (aCons (xC (.int 10)) (aNil)))))) (sSeq (sSet 2 (xIf (tst (x2 eqD (xCall (arity 2 m_l_draw) (aSlot 0 (aCons (xC (.int 2)) (aNil)))) (xC (.int 0)))) (xTup (aCons (xC (.int 0)) (aCons (xC (.int 1)) (aNil)))) (xCall (arity 1 m_l_size) (aSlot 0 (aNil))))) (sSeq (sSet 3 (xFz (nLc (iRng (xC (.int 2))) (gNm 4) (cYes) (xIf (tst (x2 eqD (xCall (arity 2 m_l_draw) (aSlot 0 (aCons (xC (.int 2)) (aNil)))) (xC (.int 0)))) (xCall (arity 1 m_l_size) (aSlot 0 (aNil))) (xC .none)) [4]))) (sSeq (sIf (xAndT (tst (x2 notNonD (x2 idxD (xVar 3) (xC (.int 0))) (xC .none))) (xAndT (tst (x2 notNonD (x2 idxD (xVar 3) (xC (.int 1))) (xC .none))) (xTru (xCall (arity 2 m_l_less) (aCons (x2 idxD (xVar 3) (xC (.int 1))) (aCons (x2 idxD (xVar 3) (xC (.int 0))) (aNil))))))) (sSet 3 (x1 revD (xVar 3))) (sNil)) (sRet (xTup (aCons (xVar 1) (aCons (xVar 2) (aCons (x2 idxD (xVar 3) (xC (.int 0))) (aCons (x2 idxD (xVar 3) (xC (.int 1))) (aNil))))))))))
def m_l_raw : XF := runF 5 b_l_raw
def b_constant_clause : XS := sRet (xTup (aCons (xTup (aCons (xC (.int 0)) (aCons (xC (.int 1)) (aNil)))) (aCons (xVar 0) (aCons (xC .none) (aCons (xC .none) (aNil))))))
def m_constant_clause : XF := runF 1 b_constant_clause
def b_is_less : XS := sRet (x2 ltD (x2 mulD (x2 idxD (xVar 0) (xC (.int 0))) (x2 idxD (xVar 1) (xC (.int 1)))) (x2 mulD (x2 idxD (xVar 1) (xC (.int 0))) (x2 idxD (xVar 0) (xC (.int 1)))))
def m_is_less : XF := runF 2 b_is_less
def b_bounded : XS := sSeq (sIf (xAndT (tst (x2 notNonD (xVar 1) (xC .none))) (xTru (xCall (arity 2 m_is_less) (aCons (xVar 0) (aCons (xVar 1) (aNil)))))) (sSet 0 (xVar 1)) (sNil)) (sSeq (sIf (xAndT (tst (x2 notNonD (xVar 2) (xC .none))) (xTru (xCall (arity 2 m_is_less) (aCons (xVar 2) (aCons (xVar 0) (aNil)))))) (sRet (xVar 2)) (sNil)) (sRet (xVar 0)))
def m_bounded : XF := runF 3 b_bounded
def b_normal_form : XS := sSeq (sIf (tst (x2 eqD (xVar 0) (xTup (aCons (xC (.int 0)) (aCons (xC (.int 1)) (aNil)))))) (sRet (xCall (arity 1 m_constant_clause) (aCons (xCall (arity 3 m_bounded) (aCons (xVar 1) (aCons (xVar 2) (aCons (xVar 3) (aNil))))) (aNil)))) (sNil)) (sSeq (sIf (xAndT (tst (x2 notNonD (xVar 2) (xC .none))) (tst (x2 eqD (xVar 2) (xVar 3)))) (sRet (xCall (arity 1 m_constant_clause) (aCons (xVar 2) (aNil)))) (sNil)) (sRet (xTup (aCons (xVar 0) (aCons (xVar 1) (aCons (xVar 2) (aCons (xVar 3) (aNil))))))))
def m_normal_form : XF := runF 4 b_normal_form
def b_common_divisor : XS := sSeq (sWh (gcdFuel) (tst (x2 neD (xVar 1) (xC (.int 0)))) (sPar 0 1 (xVar 1) (x2 modD (xVar 0) (xVar 1)))) (sRet (x1 absD (xVar 0)))
def m_common_divisor : XF := runF 2 b_common_divisor
def b_fraction : XS := sSeq (sSet 2 (xCall (arity 2 m_common_divisor) (aCons (xVar 0) (aCons (xVar 1) (aNil))))) (sSeq (sSet 3 (xIf (tst (x2 gtD (xVar 1) (xC (.int 0)))) (xC (.int 1)) (x1 negD (xC (.int 1))))) (sRet (xTup (aCons (x2 fdivD (x2 mulD (xVar 3) (xVar 0)) (xVar 2)) (aCons (x2 fdivD (x2 mulD (xVar 3) (xVar 1)) (xVar 2)) (aNil))))))
def m_fraction : XF := runF 4 b_fraction
def b_fraction_product : XS := sSeq (sSet 1 (xTup (aCons (xC (.int 1)) (aCons (xC (.int 1)) (aNil))))) (sSeq (sFor (iOf (xVar 0)) (gTp 2 (gsCons (gNm 2) (gsCons (gNm 3) (gsNil)))) (sSet 1 (xCall m_fraction (aPick [.inl 0, .inl 1] (aCons (x2 mulD (x2 idxD (xVar 1) (xC (.int 0))) (xVar 2)) (aCons (x2 mulD (x2 idxD (xVar 1) (xC (.int 1))) (xVar 3)) (aNil))) (aNil))))) (sRet (xVar 1)))
def m_fraction_product : XF := starF (runF 4 b_fraction_product)
def b_fraction_sum : XS := sSeq (sSet 1 (xTup (aCons (xC (.int 0)) (aCons (xC (.int 1)) (aNil))))) (sSeq (sFor (iOf (xVar 0)) (gTp 2 (gsCons (gNm 2) (gsCons (gNm 3) (gsNil)))) (sSet 1 (xCall m_fraction (aPick [.inl 0, .inl 1] (aCons (x2 addD (x2 mulD (x2 idxD (xVar 1) (xC (.int 0))) (xVar 3)) (x2 mulD (xVar 2) (x2 idxD (xVar 1) (xC (.int 1))))) (aCons (x2 mulD (x2 idxD (xVar 1) (xC (.int 1))) (xVar 3)) (aNil))) (aNil))))) (sRet (xVar 1)))
def m_fraction_sum : XF := starF (runF 4 b_fraction_sum)
def b_applied : XS := sSeq (sAsg (xVar 0) (gTp 4 (gsCons (gNm 2) (gsCons (gNm 3) (gsCons (gNm 4) (gsCons (gNm 5) (gsNil))))))) (sRet (xCall (arity 3 m_bounded) (aCons (xCall m_fraction_sum (aCons (xCall m_fraction_product (aCons (xVar 2) (aCons (xVar 1) (aNil)))) (aCons (xVar 3) (aNil)))) (aCons (xVar 4) (aCons (xVar 5) (aNil))))))
def m_applied : XF := runF 6 b_applied
def b_end_after : XS := sRet (xIf (tst (x2 isNonD (xVar 0) (xC .none))) (xVar 2) (xCall (arity 2 m_applied) (aCons (xVar 1) (aCons (xVar 0) (aNil)))))
def m_end_after : XF := runF 3 b_end_after
def b_chained_two : XS := sSeq (sIf (xOrT (tst (x2 eqD (x2 idxD (xVar 0) (xC (.int 0))) (xTup (aCons (xC (.int 0)) (aCons (xC (.int 1)) (aNil)))))) (tst (x2 eqD (x2 idxD (xVar 1) (xC (.int 0))) (xTup (aCons (xC (.int 0)) (aCons (xC (.int 1)) (aNil))))))) (sRet (xCall (arity 1 m_constant_clause) (aCons (xCall (arity 2 m_applied) (aCons (xVar 1) (aCons (x2 idxD (xVar 0) (xC (.int 1))) (aNil)))) (aNil)))) (sNil)) (sSeq (sSet 2 (xCall m_fraction_product (aCons (x2 idxD (xVar 0) (xC (.int 0))) (aCons (x2 idxD (xVar 1) (xC (.int 0))) (aNil))))) (sSeq (sSet 3 (xCall m_fraction_sum (aCons (xCall m_fraction_product (aCons (x2 idxD (xVar 1) (xC (.int 0))) (aCons (x2 idxD (xVar 0) (xC (.int 1))) (aNil)))) (aCons (x2 idxD (xVar 1) (xC (.int 1))) (aNil))))) (sSeq (sSet 4 (xCall (arity 3 m_end_after) (aCons (x2 idxD (xVar 0) (xC (.int 2))) (aCons (xVar 1) (aCons (x2 idxD (xVar 1) (xC (.int 2))) (aNil)))))) (sRet (xCall m_normal_form (aPick [.inl 0, .inl 1, .inl 2, .inl 3] (aCons (xVar 2) (aCons (xVar 3) (aNil))) (aCons (xVar 4) (aCons (xCall (arity 3 m_end_after) (aCons (x2 idxD (xVar 0) (xC (.int 3))) (aCons (xVar 1) (aCons (x2 idxD (xVar 1) (xC (.int 3))) (aNil))))) (aNil)))))))))
def m_chained_two : XF := runF 5 b_chained_two
def b_chained : XS := sSeq (sSet 1 (xC (.tuple [.tuple [.int 1, .int 1], .tuple [.int 0, .int 1], .none, .none]))) (sSeq (sFor (iOf (xVar 0)) (gNm 2) (sSet 1 (xCall (arity 2 m_chained_two) (aCons (xVar 1) (aCons (xVar 2) (aNil)))))) (sRet (xVar 1)))
def m_chained : XF := starF (runF 3 b_chained)
def b_l_amounts : XS := sRet (xLst (aCons (xTup (aCons (xC (.int 0)) (aCons (xC (.int 1)) (aNil)))) (aCons (xTup (aCons (xC (.int 1)) (aCons (xC (.int 1)) (aNil)))) (aCons (xTup (aCons (x1 negD (xC (.int 1))) (aCons (xC (.int 2)) (aNil)))) (aCons (xTup (aCons (xC (.int 5)) (aCons (xC (.int 1)) (aNil)))) (aCons (xTup (aCons (xC (.int 7)) (aCons (xC (.int 3)) (aNil)))) (aCons (xTup (aCons (x1 negD (xC (.int 10))) (aCons (xC (.int 1)) (aNil)))) (aCons (xTup (aCons (xC (.int 10)) (aCons (xC (.int 1)) (aNil)))) (aCons (xTup (aCons (xC (.int 49)) (aCons (xC (.int 2)) (aNil)))) (aCons (xTup (aCons (xC (.int 100)) (aCons (xC (.int 1)) (aNil)))) (aCons (xTup (aCons (x1 negD (xC (.int 9999))) (aCons (xC (.int 1)) (aNil)))) (aCons (xTup (aCons (xC (.int 10000)) (aCons (xC (.int 1)) (aNil)))) (aNil)))))))))))))
def m_l_amounts : XF := runF 0 b_l_amounts
def b_l_constant : XS := sRet (xTup (aCons (xTup (aCons (xC (.int 0)) (aCons (xC (.int 1)) (aNil)))) (aCons (xVar 0) (aCons (xC .none) (aCons (xC .none) (aNil))))))
def m_l_constant : XF := runF 1 b_l_constant
def b_l_items_by_hand : XS := sSeq (sAsg (xTup (aCons (xTup (aCons (xC (.int 1)) (aCons (xC (.int 1)) (aNil)))) (aCons (xTup (aCons (xC (.int 0)) (aCons (xC (.int 1)) (aNil)))) (aNil)))) (gTp 2 (gsCons (gNm 0) (gsCons (gNm 1) (gsNil))))) (sSeq (sNew 2 (nLst (aCons (xTup (aCons (xVar 0) (aCons (xVar 1) (aCons (xC .none) (aCons (xC .none) (aNil)))))) (aCons (xCall (arity 1 m_l_constant) (aCons (xVar 1) (aNil))) (aCons (xCall (arity 1 m_l_constant) (aCons (xTup (aCons (x1 negD (xC (.int 7))) (aCons (xC (.int 2)) (aNil)))) (aNil))) (aCons (xTup (aCons (xVar 0) (aCons (xTup (aCons (xC (.int 5)) (aCons (xC (.int 1)) (aNil)))) (aCons (xC .none) (aCons (xC .none) (aNil)))))) (aNil))))))) (sSeq (sDrop (xExt 2 (xLst (aCons (xTup (aCons (xTup (aCons (xC (.int 2)) (aCons (xC (.int 1)) (aNil)))) (aCons (xVar 1) (aCons (xC .none) (aCons (xC .none) (aNil)))))) (aCons (xTup (aCons (xTup (aCons (xC (.int 1)) (aCons (xC (.int 2)) (aNil)))) (aCons (xTup (aCons (x1 negD (xC (.int 3))) (aCons (xC (.int 1)) (aNil)))) (aCons (xC .none) (aCons (xC .none) (aNil)))))) (aCons (xTup (aCons (xVar 0) (aCons (xVar 1) (aCons (xTup (aCons (xC (.int 0)) (aCons (xC (.int 1)) (aNil)))) (aCons (xC .none) (aNil)))))) (aNil))))))) (sRet (x2 addD (xVar 2) (xLst (aCons (xTup (aCons (xVar 0) (aCons (xVar 1) (aCons (xC .none) (aCons (xTup (aCons (xC (.int 10)) (aCons (xC (.int 1)) (aNil)))) (aNil)))))) (aCons (xTup (aCons (xVar 0) (aCons (xVar 1) (aCons (xTup (aCons (x1 negD (xC (.int 5))) (aCons (xC (.int 1)) (aNil)))) (aCons (xTup (aCons (xC (.int 5)) (aCons (xC (.int 1)) (aNil)))) (aNil)))))) (aCons (xTup (aCons (xTup (aCons (xC (.int 3)) (aCons (xC (.int 1)) (aNil)))) (aCons (xTup (aCons (xC (.int 1)) (aCons (xC (.int 1)) (aNil)))) (aCons (xTup (aCons (xC (.int 2)) (aCons (xC (.int 1)) (aNil)))) (aCons (xTup (aCons (xC (.int 20)) (aCons (xC (.int 1)) (aNil)))) (aNil)))))) (aNil)))))))))
def m_l_items_by_hand : XF := runF 3 b_l_items_by_hand
def b_l_bounded : XS := sSeq (sIf (xAndT (tst (x2 notNonD (xVar 1) (xC .none))) (xTru (xCall (arity 2 m_l_less) (aCons (xVar 0) (aCons (xVar 1) (aNil)))))) (sRet (xVar 1)) (sNil)) (sRet (xIf (xAndT (tst (x2 notNonD (xVar 2) (xC .none))) (xTru (xCall (arity 2 m_l_less) (aCons (xVar 2) (aCons (xVar 0) (aNil)))))) (xVar 2) (xVar 0)))
def m_l_bounded : XF := runF 3 b_l_bounded
def b_l_normal : XS := sSeq (sIf (tst (x2 eqD (xVar 0) (xTup (aCons (xC (.int 0)) (aCons (xC (.int 1)) (aNil)))))) (sRet (xCall (arity 1 m_l_constant) (aCons (xCall (arity 3 m_l_bounded) (aCons (xVar 1) (aCons (xVar 2) (aCons (xVar 3) (aNil))))) (aNil)))) (sNil)) (sRet (xIf (xAndT (tst (x2 notNonD (xVar 2) (xC .none))) (tst (x2 eqD (xVar 2) (xVar 3)))) (xCall (arity 1 m_l_constant) (aCons (xVar 2) (aNil))) (xTup (aCons (xVar 0) (aCons (xVar 1) (aCons (xVar 2) (aCons (xVar 3) (aNil))))))))
def m_l_normal : XF := runF 4 b_l_normal
end P1
set_option exponentiation.threshold 5000
set_option maxRecDepth 100000
set_option maxHeartbeats 4000000
namespace P1
open PySem PySem.Spec PyProof.Rows L2 DL
theorem gcd_step (i j : Int) : Int.gcd j (i % j) = Int.gcd i j := by
  have e : i % j = i + j * (-(i / j)) := by have := Int.emod_def i j; rw [Int.mul_neg]; omega
  rw [e, Int.gcd_add_mul_left_right, Int.gcd_comm]
abbrev gC : XT := tst (x2 neD (xVar 1) (xC (.int 0)))
abbrev gB : XS := sPar 0 1 (xVar 1) (x2 modD (xVar 0) (xVar 1))
theorem gcd_loop : ∀ (n : Nat) (i j : Int), 0 ≤ j → j.natAbs < n → ∃ g : Int, whL gC gB n [.d (.int i), .d (.int j)] = some (.nx [.d (.int g), .d (.int 0)]) ∧ g.natAbs = Int.gcd i j
  | 0, _, _, _, h => absurd h (Nat.not_lt_zero _)
  | n + 1, i, j, h0, h => by
    by_cases hj : j = 0
    · subst hj
      refine ⟨i, by simp [whL, gC], by simp⟩
    · have hp : 0 < j := by omega
      have h1 := Int.emod_nonneg i hj
      have h2 := Int.emod_lt_of_pos i hp
      obtain ⟨g, e, q1⟩ := gcd_loop n j (i % j) h1 (by omega)
      refine ⟨g, ?_, by rw [q1, gcd_step]⟩
      rw [← e]
      simp [whL, gC, gB, hj, o_mod hp]
theorem t_cd (i j : Int) (h : 0 ≤ j) : m_common_divisor [.d (.int i), .d (.int j)] = some (.d (.int (Int.gcd i j)), [.d (.int i), .d (.int j)]) := by
  obtain ⟨g, e, q1⟩ := gcd_loop (j.natAbs + 1) i j h (by omega)
  have ea : (if g < 0 then -g else g) = (Int.gcd i j : Int) := by omega
  simp [m_common_divisor, e_run, b_common_divisor, sWh, gcdFuel, e, absD, ea]
theorem o1 {n : Int} (hn : n.natAbs < 2 ^ 4000) : mulD (.int 1) (.int n) = some (.int n) := by
  have := o_mulB (i := 1) (j := n) (Nat.lt_of_lt_of_le (show 1 < 2 ^ 1 by decide) (pow_le (by decide))) hn
  rwa [Int.one_mul] at this
theorem t_fraction {n d : Int} (hd : 0 < d) (hn : n.natAbs < 2 ^ 4000) (hb : d.natAbs < 2 ^ 4000) : m_fraction [.d (.int n), .d (.int d)] = some (.d (qD (Rat.divInt n d)), [.d (.int n), .d (.int d)]) := by
  have f := fun i => o_fdivB (i := i) (gcd_posB (n := n) (d := d) (by omega)) (gcd_ltB (n := n) (by omega) hb)
  rw [qD_frac hd]
  simp [m_fraction, e_run, b_fraction, t_cd n d (by omega), hd, o1 hn, o1 hb, f, sizeL]
abbrev sumB : XS := sSet 1 (xCall m_fraction (aPick [.inl 0, .inl 1] (aCons (x2 addD (x2 mulD (x2 idxD (xVar 1) (xC (.int 0))) (xVar 3)) (x2 mulD (xVar 2) (x2 idxD (xVar 1) (xC (.int 1))))) (aCons (x2 mulD (x2 idxD (xVar 1) (xC (.int 1))) (xVar 3)) (aNil))) (aNil)))
abbrev proB : XS := sSet 1 (xCall m_fraction (aPick [.inl 0, .inl 1] (aCons (x2 mulD (x2 idxD (xVar 1) (xC (.int 0))) (xVar 2)) (aCons (x2 mulD (x2 idxD (xVar 1) (xC (.int 1))) (xVar 3)) (aNil))) (aNil)))
abbrev g23 : XG := gTp 2 (gsCons (gNm 2) (gsCons (gNm 3) (gsNil)))
theorem t_sumS {x y : Rat} {a b : Nat} (hx : Sq a x) (hy : Sq b y) (h : a + b + 1 ≤ 4000) {e0 : EV} :
    sumB [e0, .d (qD x), .d (.int y.num), .d (.int (y.den : Int))] = some (.nx [e0, .d (qD (x + y)), .d (.int y.num), .d (.int (y.den : Int))]) := by
  obtain ⟨h1, h2, h3⟩ := sq_add_parts hx hy
  have hx' := hx.mono (show a ≤ 4000 by omega)
  have hy' := hy.mono (show b ≤ 4000 by omega)
  have e := t_fraction h3 (Nat.lt_of_lt_of_le h1 (pow_le h)) (Nat.lt_of_lt_of_le h2 (pow_le h))
  rw [add_frac] at e
  simp [ix0, ix1, o_mulB hx'.n (den_lt hy'), o_mulB hy'.n (den_lt hx'), o_mulB (den_lt hx') (den_lt hy'), e]
theorem t_proS {x y : Rat} {a b : Nat} (hx : Sq a x) (hy : Sq b y) (h : a + b + 1 ≤ 4000) {e0 : EV} :
    proB [e0, .d (qD x), .d (.int y.num), .d (.int (y.den : Int))] = some (.nx [e0, .d (qD (x * y)), .d (.int y.num), .d (.int (y.den : Int))]) := by
  obtain ⟨h1, h2, h3⟩ := sq_mul_parts hx hy
  have hx' := hx.mono (show a ≤ 4000 by omega)
  have hy' := hy.mono (show b ≤ 4000 by omega)
  have e := t_fraction h3 (Nat.lt_of_lt_of_le h1 (pow_le (show a + b ≤ 4000 by omega))) (Nat.lt_of_lt_of_le h2 (pow_le (show a + b ≤ 4000 by omega)))
  rw [mul_frac] at e
  simp [ix0, ix1, o_mulB hx'.n hy'.n, o_mulB (den_lt hx') (den_lt hy'), e]
theorem g23_q {e0 e1 e2 e3 : EV} (y : Rat) (h2 : Fs e2) (h3 : Fs e3) : g23 (qD y) [e0, e1, e2, e3] = some [e0, e1, .d (.int y.num), .d (.int (y.den : Int))] := by
  simp [qD, free_fs h2, free_fs h3]
theorem t_sumL {e0 : EV} {b : Nat} : ∀ (qs : List Rat) {x : Rat} {a : Nat} {e2 e3 : EV}, Fs e2 → Fs e3 → Sq a x → (∀ q ∈ qs, Sq b q) → a + (b + 1) * qs.length ≤ 4000 →
    ∃ f2 f3, forL g23 sumB (qs.map qD) [e0, .d (qD x), e2, e3] = some (.nx [e0, .d (qD (qs.foldl (· + ·) x)), f2, f3])
  | [], x, a, e2, e3, _, _, _, _, _ => ⟨e2, e3, rfl⟩
  | q :: qs, x, a, e2, e3, h2, h3, hx, hq, hl => by
    rw [List.length_cons, Nat.mul_add] at hl
    have q0 := hq q List.mem_cons_self
    have s := hx.add q0
    obtain ⟨f2, f3, e⟩ := t_sumL qs (e2 := .d (.int q.num)) (e3 := .d (.int (q.den : Int))) (by simp) (by simp) s (fun y hy => hq y (List.mem_cons_of_mem _ hy)) (by omega)
    exact ⟨f2, f3, forC_nx (g23_q q h2 h3) (t_sumS hx q0 (by omega)) e⟩
theorem t_proL {e0 : EV} {b : Nat} : ∀ (qs : List Rat) {x : Rat} {a : Nat} {e2 e3 : EV}, Fs e2 → Fs e3 → Sq a x → (∀ q ∈ qs, Sq b q) → a + (b + 1) * qs.length ≤ 4000 →
    ∃ f2 f3, forL g23 proB (qs.map qD) [e0, .d (qD x), e2, e3] = some (.nx [e0, .d (qD (qs.foldl (· * ·) x)), f2, f3])
  | [], x, a, e2, e3, _, _, _, _, _ => ⟨e2, e3, rfl⟩
  | q :: qs, x, a, e2, e3, h2, h3, hx, hq, hl => by
    rw [List.length_cons, Nat.mul_add] at hl
    have q0 := hq q List.mem_cons_self
    have s := hx.mul q0
    obtain ⟨f2, f3, e⟩ := t_proL qs (e2 := .d (.int q.num)) (e3 := .d (.int (q.den : Int))) (by simp) (by simp) s (fun y hy => hq y (List.mem_cons_of_mem _ hy)) (by omega)
    exact ⟨f2, f3, forC_nx (g23_q q h2 h3) (t_proS hx q0 (by omega)) e⟩
theorem s0 : Sq 1 (0 : Rat) := ⟨by decide, by decide⟩
theorem s1 : Sq 1 (1 : Rat) := ⟨by decide, by decide⟩
theorem q0 : (.tuple [.int 0, .int 1] : PyData) = qD 0 := rfl
theorem q1 : (.tuple [.int 1, .int 1] : PyData) = qD 1 := rfl
theorem t_fsum {b : Nat} {qs : List Rat} (hq : ∀ q ∈ qs, Sq b q) (hl : 1 + (b + 1) * qs.length ≤ 4000) : m_fraction_sum (qs.map fun q => .d (qD q)) = some (.d (qD (qs.foldl (· + ·) 0)), qs.map fun q => .d (qD q)) := by
  obtain ⟨f2, f3, e⟩ := t_sumL (e0 := .d (.tuple (qs.map qD))) qs (e2 := .un) (e3 := .un) (by simp) (by simp) s0 hq hl
  have hd : datEs (qs.map fun q => .d (qD q)) = some (qs.map qD) := by
    have := dat_of (qs.map qD)
    rwa [List.map_map] at this
  have hlen : (qs.map qD).length ≤ sizeLine := by
    rw [List.length_map, sizeL]
    have : qs.length ≤ (b + 1) * qs.length := Nat.le_mul_of_pos_left _ (by omega)
    omega
  have main : b_fraction_sum [.d (.tuple (qs.map qD)), .un, .un, .un] = some (.rt (qD (qs.foldl (· + ·) 0)) [.d (.tuple (qs.map qD)), .d (qD (qs.foldl (· + ·) 0)), f2, f3]) := by
    unfold b_fraction_sum
    refine seq_nx (ρ1 := [.d (.tuple (qs.map qD)), .d (qD 0), .un, .un]) (by simp [q0, sizeL]) ?_
    refine seq_nx (for_of (ds := qs.map qD) (by simp) e) ?_
    simp
  rw [m_fraction_sum, e_star, hd, Option.bind_some, if_pos hlen, run_rt (n := 4) (es := [.d (.tuple (qs.map qD))]) main]
  rfl
theorem t_fpro {b : Nat} {qs : List Rat} (hq : ∀ q ∈ qs, Sq b q) (hl : 1 + (b + 1) * qs.length ≤ 4000) : m_fraction_product (qs.map fun q => .d (qD q)) = some (.d (qD (qs.foldl (· * ·) 1)), qs.map fun q => .d (qD q)) := by
  obtain ⟨f2, f3, e⟩ := t_proL (e0 := .d (.tuple (qs.map qD))) qs (e2 := .un) (e3 := .un) (by simp) (by simp) s1 hq hl
  have hd : datEs (qs.map fun q => .d (qD q)) = some (qs.map qD) := by
    have := dat_of (qs.map qD)
    rwa [List.map_map] at this
  have hlen : (qs.map qD).length ≤ sizeLine := by
    rw [List.length_map, sizeL]
    have : qs.length ≤ (b + 1) * qs.length := Nat.le_mul_of_pos_left _ (by omega)
    omega
  have main : b_fraction_product [.d (.tuple (qs.map qD)), .un, .un, .un] = some (.rt (qD (qs.foldl (· * ·) 1)) [.d (.tuple (qs.map qD)), .d (qD (qs.foldl (· * ·) 1)), f2, f3]) := by
    unfold b_fraction_product
    refine seq_nx (ρ1 := [.d (.tuple (qs.map qD)), .d (qD 1), .un, .un]) (by simp [q1, sizeL]) ?_
    refine seq_nx (for_of (ds := qs.map qD) (by simp) e) ?_
    simp
  rw [m_fraction_product, e_star, hd, Option.bind_some, if_pos hlen, run_rt (n := 4) (es := [.d (.tuple (qs.map qD))]) main]
  rfl
section
variable {x y : Rat} {b : Nat} (hx : Sq b x) (hy : Sq b y) (h : 2 * b + 3 ≤ 4000)
include hx hy h
theorem t_sum2 : m_fraction_sum [.d (qD x), .d (qD y)] = some (.d (qD (x + y)), [.d (qD x), .d (qD y)]) := by
  have := t_fsum (b := b) (qs := [x, y]) (fun q hq => by simp at hq; rcases hq with rfl | rfl <;> assumption) (by simp; omega)
  simpa [Rat.zero_add] using this
theorem t_pro2 : m_fraction_product [.d (qD x), .d (qD y)] = some (.d (qD (x * y)), [.d (qD x), .d (qD y)]) := by
  have := t_fpro (b := b) (qs := [x, y]) (fun q hq => by simp at hq; rcases hq with rfl | rfl <;> assumption) (by simp; omega)
  simpa [Rat.one_mul] using this
theorem t_less : m_is_less [.d (qD x), .d (qD y)] = some (.d (.bool (decide (x < y))), [.d (qD x), .d (qD y)]) := by
  have hx' := hx.mono (show b ≤ 4000 by omega)
  have hy' := hy.mono (show b ≤ 4000 by omega)
  have e : decide (x < y) = decide (x.num * (y.den : Int) < y.num * (x.den : Int)) := decide_eq_decide.mpr (Rat.lt_iff x y)
  simp [m_is_less, e_run, b_is_less, ix0, ix1, o_mulB hx'.n (den_lt hy'), o_mulB hy'.n (den_lt hx'), e]
theorem t_l_less : m_l_less [.d (qD x), .d (qD y)] = some (.d (.bool (decide (x < y))), [.d (qD x), .d (qD y)]) := by
  have hx' := hx.mono (show b ≤ 4000 by omega)
  have hy' := hy.mono (show b ≤ 4000 by omega)
  have e : decide (x < y) = decide (x.num * (y.den : Int) < y.num * (x.den : Int)) := decide_eq_decide.mpr (Rat.lt_iff x y)
  simp [m_l_less, e_run, b_l_less, ix0, ix1, o_mulB hx'.n (den_lt hy'), o_mulB hy'.n (den_lt hx'), e]
end
end P1
set_option exponentiation.threshold 5000
set_option maxRecDepth 100000
set_option maxHeartbeats 4000000
namespace P1
open PySem PySem.Spec PyProof.Rows L2 DL
def so (b : Nat) (o : Option Rat) : Prop := ∀ q, o = some q → Sq b q
theorem so_none (b : Nat) : so b none := fun q e => nomatch e
theorem so_some {b : Nat} {x : Rat} (h : Sq b x) : so b (some x) := fun q e => by cases e; exact h
theorem t_bounded {x : Rat} {lo hi : Option Rat} {b : Nat} (hx : Sq b x) (hl : so b lo) (hh : so b hi) (h : 2 * b + 3 ≤ 4000) :
    m_bounded [.d (qD x), .d (oD lo), .d (oD hi)] = some (.d (qD (RQ.bd x lo hi)), [.d (qD x), .d (oD lo), .d (oD hi)]) := by
  cases lo with
  | none =>
    cases hi with
    | none => simp [m_bounded, e_run, b_bounded, RQ.bd]
    | some u =>
      have e1 := t_less (hh u rfl) hx h
      by_cases c : u < x <;> simp [m_bounded, e_run, b_bounded, RQ.bd, e1, c]
  | some l =>
    have e1 := t_less hx (hl l rfl) h
    cases hi with
    | none => by_cases c : x < l <;> simp [m_bounded, e_run, b_bounded, RQ.bd, e1, c]
    | some u =>
      have e2 := t_less (hh u rfl) hx h
      have e3 := t_less (hh u rfl) (hl l rfl) h
      by_cases c : x < l
      · by_cases d : u < l <;> simp [m_bounded, e_run, b_bounded, RQ.bd, e1, e3, c, d]
      · by_cases d : u < x <;> simp [m_bounded, e_run, b_bounded, RQ.bd, e1, e2, c, d]
theorem t_const (x : PyData) : m_constant_clause [.d x] = some (.d (.tuple [qD 0, x, .none, .none]), [.d x]) := by
  simp [m_constant_clause, e_run, b_constant_clause, sizeL, q0]
theorem nn_o (z : Option Rat) : noneD (oD z) = decide (z = none) := by cases z <;> rfl
theorem t_normal {f p : Rat} {lo hi : Option Rat} {b : Nat} (hp : Sq b p) (hl : so b lo) (hh : so b hi) (h : 2 * b + 3 ≤ 4000) :
    m_normal_form [.d (qD f), .d (qD p), .d (oD lo), .d (oD hi)] = some (.d (cD (RQ.nf f p lo hi)), [.d (qD f), .d (qD p), .d (oD lo), .d (oD hi)]) := by
  have e1 := t_bounded hp hl hh h
  by_cases h1 : f = 0
  · subst h1
    simp [-oD_none, m_normal_form, e_run, b_normal_form, eq_qq, sizeL, q0, e1, t_const, RQ.nf, cD, RQ.cst]
    rfl
  · cases lo with
    | none => simp [m_normal_form, e_run, b_normal_form, eq_qq, q0, sizeL, h1, RQ.nf, cD]
    | some l =>
      have eo := eq_oo (some l) hi
      simp only [oD_some] at eo
      by_cases h3 : some l = hi
      · subst h3
        simp [m_normal_form, e_run, b_normal_form, eq_qq, sizeL, q0, t_const, h1, eo, RQ.nf, cD, RQ.cst]
      · simp [m_normal_form, e_run, b_normal_form, eq_qq, q0, sizeL, h1, h3, eo, RQ.nf, cD]
theorem ixc0 (c : RQ.Cl) : idxD (cD c) (.int 0) = some (qD c.f) := rfl
theorem ixc1 (c : RQ.Cl) : idxD (cD c) (.int 1) = some (qD c.p) := rfl
theorem ixc2 (c : RQ.Cl) : idxD (cD c) (.int 2) = some (oD c.lo) := rfl
theorem ixc3 (c : RQ.Cl) : idxD (cD c) (.int 3) = some (oD c.hi) := rfl
theorem t_applied {c : RQ.Cl} {x : Rat} {b : Nat} (hc : Sc b c) (hx : Sq b x) (h : 6 * b + 20 ≤ 4000) : m_applied [.d (cD c), .d (qD x)] = some (.d (qD (RQ.ap c x)), [.d (cD c), .d (qD x)]) := by
  obtain ⟨f, p, lo, hi⟩ := c
  have e1 := t_pro2 hc.f hx (by omega)
  have s1 := hc.f.mul hx
  have e2 := t_sum2 (s1) (hc.p.mono (show b ≤ b + b by omega)) (by omega)
  have s2 := s1.add hc.p
  have e3 := t_bounded s2 (fun q e => (hc.lo q e).mono (show b ≤ b + b + b + 1 by omega)) (fun q e => (hc.hi q e).mono (show b ≤ b + b + b + 1 by omega)) (by omega)
  simp only at e1 e2 e3
  simp [m_applied, e_run, b_applied, cD, e1, e2, e3, RQ.ap]
theorem sq_ap {c : RQ.Cl} {x : Rat} {a b : Nat} (hc : Sc b c) (hx : Sq a x) : Sq (a + 2 * b + 1) (RQ.ap c x) := by
  have s2 := (hc.f.mul hx).add hc.p
  exact sq_bd (s2.mono (by omega)) (fun q e => (hc.lo q e).mono (by omega)) (fun q e => (hc.hi q e).mono (by omega))
theorem t_end {e : Option Rat} {c : RQ.Cl} {o : Option Rat} {b : Nat} (hc : Sc b c) (he : so b e) (h : 6 * b + 20 ≤ 4000) : m_end_after [.d (oD e), .d (cD c), .d (oD o)] = some (.d (oD (RQ.ea e c o)), [.d (oD e), .d (cD c), .d (oD o)]) := by
  cases e with
  | none => simp [m_end_after, e_run, b_end_after, RQ.ea]
  | some q =>
    have e1 := t_applied hc (he q rfl) h
    simp [m_end_after, e_run, b_end_after, RQ.ea, e1]
theorem so_ea {e : Option Rat} {c : RQ.Cl} {a b : Nat} (hc : Sc b c) (he : so a e) : so (a + 2 * b + 1) (RQ.ea e c c.lo) ∧ so (a + 2 * b + 1) (RQ.ea e c c.hi) := by
  cases e with
  | none => exact ⟨fun q e => (hc.lo q e).mono (by omega), fun q e => (hc.hi q e).mono (by omega)⟩
  | some q => exact ⟨so_some (sq_ap hc (he q rfl)), so_some (sq_ap hc (he q rfl))⟩
theorem sc_ch2 {c d : RQ.Cl} {a b : Nat} (hc : Sc a c) (hd : Sc b d) : Sc (a + 2 * b + 1) (RQ.ch2 c d) := by
  have z : Sq (a + 2 * b + 1) (0 : Rat) := s0.mono (by omega)
  unfold RQ.ch2
  split
  · exact ⟨z, sq_ap hd hc.p, (fun q e => nomatch e), (fun q e => nomatch e)⟩
  · refine sc_nf ⟨(hc.f.mul hd.f).mono (by omega), ((hd.f.mul hc.p).add hd.p).mono (by omega), (so_ea hd hc.lo).1, (so_ea hd hc.hi).2⟩ (by omega)
theorem t_ch2 {c d : RQ.Cl} {b : Nat} (hc : Sc b c) (hd : Sc b d) (h : 8 * b + 20 ≤ 4000) : m_chained_two [.d (cD c), .d (cD d)] = some (.d (cD (RQ.ch2 c d)), [.d (cD c), .d (cD d)]) := by
  have e1 := t_applied hd hc.p (by omega)
  have e2 := t_pro2 hc.f hd.f (by omega)
  have e3 := t_pro2 hd.f hc.p (by omega)
  have s3 := hd.f.mul hc.p
  have e4 := t_sum2 s3 (hd.p.mono (show b ≤ b + b by omega)) (by omega)
  have s4 := s3.add hd.p
  have e5 := t_end (o := d.lo) hd hc.lo (by omega)
  have e6 := t_end (o := d.hi) hd hc.hi (by omega)
  have e7 := t_normal (f := c.f * d.f) (s4.mono (show b + b + b + 1 ≤ b + 2 * b + 1 by omega)) (so_ea hd hc.lo).1 (so_ea hd hc.hi).2 (by omega)
  by_cases h1 : c.f = 0
  · have hz : RQ.ch2 c d = RQ.cst (RQ.ap d c.p) := by simp [RQ.ch2, h1]
    rw [hz]
    simp [m_chained_two, e_run, b_chained_two, sizeL, ixc0, ixc1, eq_qq, q0, e1, t_const, h1]
    rfl
  · by_cases h2 : d.f = 0
    · have hz : RQ.ch2 c d = RQ.cst (RQ.ap d c.p) := by simp [RQ.ch2, h2]
      rw [hz]
      simp [m_chained_two, e_run, b_chained_two, sizeL, ixc0, ixc1, eq_qq, q0, e1, t_const, h1, h2]
      rfl
    · have hz : RQ.ch2 c d = RQ.nf (c.f * d.f) (d.f * c.p + d.p) (RQ.ea c.lo d d.lo) (RQ.ea c.hi d d.hi) := by simp [RQ.ch2, h1, h2]
      rw [hz]
      simp [m_chained_two, e_run, b_chained_two, sizeL, ixc0, ixc1, ixc2, ixc3, eq_qq, q0, e2, e3, e4, e5, e6, e7, h1, h2]
def idC : RQ.Cl := ⟨1, 0, none, none⟩
theorem wf_id : RQ.WF idC := ⟨by decide, fun h => absurd h (by decide), trivial⟩
theorem sc_id : Sc 1 idC := ⟨s1, s0, (fun q e => nomatch e), (fun q e => nomatch e)⟩
theorem cD_id : (.tuple [.tuple [.int 1, .int 1], .tuple [.int 0, .int 1], .none, .none] : PyData) = cD idC := rfl
def chL (cs : List RQ.Cl) : RQ.Cl := cs.foldl RQ.ch2 idC
theorem t_chL {e0 : EV} {b : Nat} : ∀ (cs : List RQ.Cl) {x : RQ.Cl} {a : Nat} {e2 : EV}, Fs e2 → Sc a x → (∀ c ∈ cs, Sc b c) → b ≤ a → 8 * (a + (2 * b + 1) * cs.length) + 20 ≤ 4000 →
    ∃ f2, forL (gNm 2) (sSet 1 (xCall (arity 2 m_chained_two) (aCons (xVar 1) (aCons (xVar 2) (aNil))))) (cs.map cD) [e0, .d (cD x), e2] = some (.nx [e0, .d (cD (cs.foldl RQ.ch2 x)), f2])
  | [], x, a, e2, _, _, _, _, _ => ⟨e2, rfl⟩
  | c :: cs, x, a, e2, h2, hx, hc, hb, hl => by
    have hm : (2 * b + 1) * (c :: cs).length = (2 * b + 1) * cs.length + (2 * b + 1) := Nat.mul_succ _ _
    have c0 := hc c List.mem_cons_self
    have e1 := t_ch2 hx (⟨c0.f.mono hb, c0.p.mono hb, fun q e => (c0.lo q e).mono hb, fun q e => (c0.hi q e).mono hb⟩) (by omega)
    obtain ⟨f2, e⟩ := t_chL (e0 := e0) cs (e2 := .d (cD c)) (by simp) (sc_ch2 hx c0) (fun y hy => hc y (List.mem_cons_of_mem _ hy)) (by omega) (by omega)
    exact ⟨f2, forC_nx (ρ1 := [e0, .d (cD x), .d (cD c)]) (by simp [free_fs h2]) (by simp [e1]) e⟩
theorem Sc.mono {a b : Nat} {c : RQ.Cl} (h : Sc a c) (hb : a ≤ b) : Sc b c := ⟨h.f.mono hb, h.p.mono hb, fun q e => (h.lo q e).mono hb, fun q e => (h.hi q e).mono hb⟩
theorem sc_chL {b : Nat} : ∀ (cs : List RQ.Cl) {x : RQ.Cl} {a : Nat}, Sc a x → (∀ c ∈ cs, Sc b c) → Sc (a + (2 * b + 1) * cs.length) (cs.foldl RQ.ch2 x)
  | [], x, a, hx, _ => Sc.mono hx (by simp)
  | c :: cs, x, a, hx, hc => by
    have h := sc_chL cs (sc_ch2 hx (hc c List.mem_cons_self)) fun y hy => hc y (List.mem_cons_of_mem _ hy)
    have hm : (2 * b + 1) * (c :: cs).length = (2 * b + 1) * cs.length + (2 * b + 1) := Nat.mul_succ _ _
    exact Sc.mono h (by omega)
theorem wf_chL : ∀ (cs : List RQ.Cl) {x : RQ.Cl}, RQ.WF x → (∀ c ∈ cs, RQ.WF c) → RQ.WF (cs.foldl RQ.ch2 x)
  | [], x, hx, _ => hx
  | c :: cs, x, hx, hc => wf_chL cs (RQ.wf_ch2 hx (hc c List.mem_cons_self)) fun y hy => hc y (List.mem_cons_of_mem _ hy)
theorem t_chained {b : Nat} {cs : List RQ.Cl} (hc : ∀ c ∈ cs, Sc b c) (hb : 1 ≤ b) (hl : 8 * (b + (2 * b + 1) * cs.length) + 20 ≤ 4000) : m_chained (cs.map fun c => .d (cD c)) = some (.d (cD (chL cs)), cs.map fun c => .d (cD c)) := by
  obtain ⟨f2, e⟩ := t_chL (e0 := .d (.tuple (cs.map cD))) cs (e2 := .un) (by simp) (Sc.mono sc_id hb) hc (Nat.le_refl _) hl
  have hd : datEs (cs.map fun c => .d (cD c)) = some (cs.map cD) := by
    have := dat_of (cs.map cD)
    rwa [List.map_map] at this
  have hlen : (cs.map cD).length ≤ sizeLine := by
    rw [List.length_map, sizeL]
    have : cs.length ≤ (2 * b + 1) * cs.length := Nat.le_mul_of_pos_left _ (by omega)
    omega
  have main : b_chained [.d (.tuple (cs.map cD)), .un, .un] = some (.rt (cD (chL cs)) [.d (.tuple (cs.map cD)), .d (cD (chL cs)), f2]) := by
    unfold b_chained
    refine seq_nx (ρ1 := [.d (.tuple (cs.map cD)), .d (cD idC), .un]) (by simp [cD_id]) ?_
    refine seq_nx (for_of (ds := cs.map cD) (by simp) e) ?_
    simp [chL]
  rw [m_chained, e_star, hd, Option.bind_some, if_pos hlen, run_rt (n := 3) (es := [.d (.tuple (cs.map cD))]) main]
  rfl
end P1
set_option exponentiation.threshold 5000
set_option maxRecDepth 100000
set_option maxHeartbeats 4000000
namespace P1
open PySem PySem.Spec PyProof.Rows L2 DL
def FL (c : List PyData) (a l n : Int) : List (Key × PyData) := [(.inr "cells", .list c), (.inr "at", .int a), (.inr "left", .int l), (.inr "count", .int n)]
section
variable (c : List PyData) (a l n : Int)
@[simp] theorem fg1 : getD' (FL c a l n) (.inr "cells") = some (.list c) := rfl
@[simp] theorem fg2 : getD' (FL c a l n) (.inr "at") = some (.int a) := rfl
@[simp] theorem fg3 : getD' (FL c a l n) (.inr "left") = some (.int l) := rfl
@[simp] theorem fg4 : getD' (FL c a l n) (.inr "count") = some (.int n) := rfl
@[simp] theorem fp2 (x : Int) : putD (FL c a l n) (.inr "at") (.int x) = FL c x l n := rfl
@[simp] theorem fp3 (x : Int) : putD (FL c a l n) (.inr "left") (.int x) = FL c a x n := rfl
@[simp] theorem fp4 (x : Int) : putD (FL c a l n) (.inr "count") (.int x) = FL c a l x := rfl
@[simp] theorem fl_inj (c' : List PyData) (a' l' n' : Int) : (FL c a l n = FL c' a' l' n') ↔ c = c' ∧ a = a' ∧ l = l' ∧ n = n' := by simp [FL]
@[simp] theorem fln : (FL c a l n).length = 4 := rfl
theorem t_draw1 (k : Int) (io : Bool) (hl : 0 < l) (hk : 0 < k) (hk2 : k.natAbs.log2 < 9000) : m_l_draw [.own (.od (FL c a l n)) io, .d (.int k)] = some (.d (.int (l % k)), [.own (.od (FL c a (l / k) (n + 1))) io, .d (.int k)]) := by
  simp [m_l_draw, e_run, b_l_draw, sizeL, hl, o_mod hk, o_fdiv hk hk2]

theorem lg {n k : Nat} (h : n < 2 ^ k) (hk : 0 < k) : n.log2 < k := by
  by_cases h0 : n = 0
  · subst h0; simpa using hk
  · exact (Nat.log2_lt h0).mpr h
theorem o_mulS {i j : Int} (hi : i.natAbs < 2 ^ 200) (hj : j.natAbs < 2 ^ 200) : mulD (.int i) (.int j) = some (.int (i * j)) := by
  refine o_mul ?_
  have h1 := lg hi (by decide)
  have h2 := lg hj (by decide)
  omega
theorem sm_mod {x j : Int} (h : 0 < j) (h2 : j < 2 ^ 100) : (x % j).natAbs < 2 ^ 200 := by
  have h1 := Int.emod_nonneg x (show j ≠ 0 by omega)
  have h3 := Int.emod_lt_of_pos x h
  omega
theorem ne_ints (ns : List Int) : neD (.list (ns.map .int)) (.list []) = some (.bool (!ns.isEmpty)) := by
  rw [neD_of (PySem.W.ke_shaped_ints ns) rfl]
  cases ns <;> rfl
theorem at_ints {ns : List Int} (h : ns ≠ []) {a : Int} (ha : 0 ≤ a) : ∃ q, atI (ns.map PyData.int) (a % (ns.length : Int)) = some (.int q) := by
  have hl : 0 < ns.length := List.length_pos_iff.mpr h
  have h1 := Int.emod_nonneg a (show (ns.length : Int) ≠ 0 by omega)
  have h2 := Int.emod_lt_of_pos a (show (0 : Int) < ns.length by omega)
  refine ⟨ns[(a % (ns.length : Int)).toNat]'(by omega), ?_⟩
  rw [at_nn h1 (by rw [List.length_map]; exact h2), List.getElem?_map, List.getElem?_eq_getElem (by omega)]
  rfl
theorem t_draw2 (ns : List Int) (k : Int) (io : Bool) (ha : 0 ≤ a) (hn0 : 0 ≤ n) (hn : n < 2 ^ 50) (hk : 0 < k) (hk2 : k.natAbs.log2 < 9000) (hl : ¬ 0 < l) :
    ∃ r l', m_l_draw [.own (.od (FL (ns.map .int) a l n)) io, .d (.int k)] = some (.d (.int r), [.own (.od (FL (ns.map .int) (a + 1) l' (n + 1))) io, .d (.int k)]) ∧ 0 ≤ r ∧ r < k := by
  have hc : (n + 1).natAbs < 2 ^ 200 := by omega
  have h10 : powD (.int 10) (.int 18) = some (.int (10 ^ 18)) := o_pow ⟨by decide, by decide, by decide⟩
  have m1 : ∀ x y : Int, mulD (.int (x % 2147483423)) (.int (y % 2147483423)) = some (.int (x % 2147483423 * (y % 2147483423))) := fun x y => o_mulS (sm_mod (by decide) (by decide)) (sm_mod (by decide) (by decide))
  have m2 : ∀ x y : Int, mulD (.int (x % 2147483399)) (.int (y % 2147483399)) = some (.int (x % 2147483399 * (y % 2147483399))) := fun x y => o_mulS (sm_mod (by decide) (by decide)) (sm_mod (by decide) (by decide))
  have m3 : mulD (.int 150011) (.int (n + 1)) = some (.int (150011 * (n + 1))) := o_mulS (by decide) hc
  have m4 : mulD (.int 3700129) (.int (n + 1)) = some (.int (3700129 * (n + 1))) := o_mulS (by decide) hc
  have m5 : ∀ x : Int, mulD (.int 79) (.int (x % 2147483399)) = some (.int (79 * (x % 2147483399))) := fun x => o_mulS (by decide) (sm_mod (by decide) (by decide))
  have md : ∀ x y : Int, 0 < y → modD (.int x) (.int y) = some (.int (x % y)) := fun x y h => o_mod h
  have fx : ∀ x : Int, fdivD (.int x) (.int 16) = some (.int (x / 16)) := fun x => o_fdiv (by decide) (by decide)
  by_cases h : ns = []
  · subst h
    have p1 : ¬ (10 : Int) ^ 18 ≤ 53 := by decide
    simp [m_l_draw, e_run, b_l_draw, sizeL, hl, (show neD (.list []) (.list []) = some (.bool false) from rfl), h10, md, m1, m2, m3, m4, m5, fx, hk]
    exact ⟨Int.emod_nonneg _ (Int.ne_of_gt hk), Int.emod_lt_of_pos _ hk⟩
  · obtain ⟨q, hq⟩ := at_ints h ha
    have hne := ne_ints ns
    have he : ns.isEmpty = false := by cases ns <;> simp_all
    have hlen : (0 : Int) < ns.length := by have := List.length_pos_iff.mpr h; omega
    by_cases hg : (1000000000000000000 : Int) ≤ q
    · by_cases hg2 : a < ns.length
      · simp [m_l_draw, e_run, b_l_draw, sizeL, hl, hne, he, o_mod hlen, hq, hg, hg2, h10, o_mod hk, o_fdiv hk hk2, md]
        exact ⟨Int.emod_nonneg _ (Int.ne_of_gt hk), Int.emod_lt_of_pos _ hk⟩
      · simp [m_l_draw, e_run, b_l_draw, sizeL, hl, hne, he, o_mod hlen, hq, hg, hg2, h10, md, m1, m2, m3, m4, m5, fx, hk]
        exact ⟨Int.emod_nonneg _ (Int.ne_of_gt hk), Int.emod_lt_of_pos _ hk⟩
    · simp [m_l_draw, e_run, b_l_draw, sizeL, hl, hne, he, o_mod hlen, hq, hg, h10, md, m1, m2, m3, m4, m5, fx, hk]
      exact ⟨Int.emod_nonneg _ (Int.ne_of_gt hk), Int.emod_lt_of_pos _ hk⟩
end
/-- the feed is good: k draws at most -/
def Fd (N : Nat) (o : OD) : Prop := ∃ (ns : List Int) (a l n : Int), o = .od (FL (ns.map .int) a l n) ∧ 0 ≤ a ∧ 0 ≤ n ∧ n ≤ N
theorem Fd.mono {N M : Nat} {o : OD} (h : Fd N o) (hm : N ≤ M) : Fd M o := by
  obtain ⟨ns, a, l, n, rfl, h1, h2, h3⟩ := h
  exact ⟨ns, a, l, n, rfl, h1, h2, by omega⟩
theorem t_draw {N : Nat} {o : OD} (h : Fd N o) (hN : N < 2 ^ 50) {k : Int} (hk : 0 < k) (hk2 : k < 2 ^ 50) (io : Bool) :
    ∃ r o', m_l_draw [.own o io, .d (.int k)] = some (.d (.int r), [.own o' io, .d (.int k)]) ∧ 0 ≤ r ∧ r < k ∧ Fd (N + 1) o' := by
  obtain ⟨ns, a, l, n, rfl, h1, h2, h3⟩ := h
  have hk3 : k.natAbs.log2 < 9000 := lg (Nat.lt_of_lt_of_le (show k.natAbs < 2 ^ 50 by omega) (Nat.pow_le_pow_right (by decide) (by decide))) (by decide)
  by_cases hl : 0 < l
  · exact ⟨l % k, _, t_draw1 (ns.map .int) a l n k io hl hk hk3, Int.emod_nonneg _ (Int.ne_of_gt hk), Int.emod_lt_of_pos _ hk, ns, a, l / k, n + 1, rfl, h1, by omega, by omega⟩
  · obtain ⟨r, l', e, q1, q2⟩ := t_draw2 a l n ns k io h1 h2 (by omega) hk hk3 hl
    exact ⟨r, _, e, q1, q2, ns, a + 1, l', n + 1, rfl, by omega, by omega, by omega⟩
theorem t_feed (ns : List Int) : ∃ o, m_l_feed [.scr ns] = some (.n o, [.scr ns]) ∧ Fd 0 o := by
  refine ⟨.od (FL ((ns.take 63).map .int) 0 0 0), ?_, ns.take 63, 0, 0, 0, rfl, by decide, by decide, by decide⟩
  have h : DL.cutD (ns.map PyData.int) none (some 63) = (ns.take 63).map PyData.int := by
    unfold DL.cutD HT.sIx
    have hi : ¬ (63 : Int) < 0 := by decide
    simp only [if_neg hi, List.drop_zero, Nat.sub_zero, List.length_map]
    rw [← List.map_take]
    congr 1
    have : min (63 : Int).toNat ns.length = min 63 ns.length := rfl
    rw [this, ← List.take_take, List.take_length]
  simp [m_l_feed, e_run, b_l_feed, nDisp, prX, h, mergeD]
  rfl

def sizesL : List PyData := match m_l_sizes [] with
  | some (.d (.list xs), _) => xs
  | _ => []
theorem t_l_sizes : m_l_sizes [] = some (.d (.list sizesL), []) := by kernel_rfl
theorem sizes_q : sizesL.all (qB 14) = true := by decide +kernel
theorem sizes_len : sizesL.length = 22 := by decide +kernel
theorem t_l_size {N : Nat} {o : OD} (h : Fd N o) (hN : N < 2 ^ 40) (io : Bool) : ∃ q o', m_l_size [.own o io] = some (.d (qD q), [.own o' io]) ∧ Sq 14 q ∧ Fd (N + 1) o' := by
  obtain ⟨r, o', e, h1, h2, h3⟩ := t_draw h (by omega) (k := 22) (by decide) (by decide) true
  obtain ⟨y, ey, hy⟩ := atI_mem (xs := sizesL) h1 (by rw [sizes_len]; exact h2)
  obtain ⟨q, rfl, hq⟩ := menu_q sizes_q hy
  exact ⟨q, o', by simp [m_l_size, e_run, b_l_size, e, t_l_sizes, ey], hq, h3⟩
abbrev xOpt (a b : XE) : XE := xIf (tst (x2 eqD (xCall (arity 2 m_l_draw) (aSlot 0 (aCons (xC (.int 2)) (aNil)))) (xC (.int 0)))) a b
theorem t_opt1 {N : Nat} {o : OD} (h : Fd N o) (hN : N < 2 ^ 35) (io : Bool) (ρ : Nv) : ∃ x o', xOpt (xCall (arity 1 m_l_size) (aSlot 0 (aNil))) (xC .none) (.own o io :: ρ) = some (oD x, .own o' io :: ρ) ∧ so 14 x ∧ Fd (N + 2) o' := by
  obtain ⟨r, o1, e1, h1, h2, f1⟩ := t_draw h (by omega) (k := 2) (by decide) (by decide) true
  by_cases h0 : r = 0
  · obtain ⟨x, o2, e2, hx, f2⟩ := t_l_size f1 (by omega) true
    exact ⟨some x, o2, by simp [xOpt, e1, h0, e2], so_some hx, f2⟩
  · exact ⟨none, o1, by simp [xOpt, e1, h0], so_none _, f1.mono (by omega)⟩
theorem t_opt2 {N : Nat} {o : OD} (h : Fd N o) (hN : N < 2 ^ 35) (io : Bool) (ρ : Nv) : ∃ x o', xOpt (xTup (aCons (xC (.int 0)) (aCons (xC (.int 1)) (aNil)))) (xCall (arity 1 m_l_size) (aSlot 0 (aNil))) (.own o io :: ρ) = some (qD x, .own o' io :: ρ) ∧ Sq 14 x ∧ Fd (N + 2) o' := by
  obtain ⟨r, o1, e1, h1, h2, f1⟩ := t_draw h (by omega) (k := 2) (by decide) (by decide) true
  by_cases h0 : r = 0
  · exact ⟨0, o1, by simp [xOpt, e1, h0, sizeL, q0], s0.mono (by decide), f1.mono (by omega)⟩
  · obtain ⟨x, o2, e2, hx, f2⟩ := t_l_size f1 (by omega) true
    exact ⟨x, o2, by simp [xOpt, e1, h0, e2], hx, f2⟩
def ratL : List PyData := [.tuple [.int 1, .int 1], .tuple [.int 1, .int 1], .tuple [.int 2, .int 1], .tuple [.int 1, .int 2], .tuple [.int 0, .int 1], .tuple [.int 3, .int 1], .tuple [.int 11, .int 10], .tuple [.int 2, .int 3], .tuple [.int 9, .int 10], .tuple [.int 10, .int 1]]
theorem rat_n : ratL.all (fun x => qB 14 x && nnB x) = true := by decide +kernel
theorem rng2 (ρ : Nv) : iRng (xC (.int 2)) ρ = some ([.int 0, .int 1], ρ) := e_rngN (n := 2) rfl (by decide)
/-- a raw form: factor at least 0, low at most high -/
structure Raw (f p : Rat) (lo hi : Option Rat) : Prop where
  f0 : 0 ≤ f
  le : RQ.leO lo hi
  sc : Sc 14 ⟨f, p, lo, hi⟩
theorem t_l_raw {N : Nat} {o : OD} (h : Fd N o) (hN : N < 2 ^ 30) (io : Bool) : ∃ f p lo hi o', m_l_raw [.own o io] = some (.d (.tuple [qD f, qD p, oD lo, oD hi]), [.own o' io]) ∧ Raw f p lo hi ∧ Fd (N + 10) o' := by
  obtain ⟨r, o1, e1, h1, h2, f1⟩ := t_draw h (by omega) (k := 10) (by decide) (by decide) true
  obtain ⟨y, ey, hy⟩ := atI_mem (xs := ratL) h1 h2
  obtain ⟨f, rfl, sf, f0⟩ := menu_n rat_n hy
  obtain ⟨m, o2, e2, hm, f2⟩ := t_opt2 f1 (by omega) io [.d (qD f), .un, .un, .un]
  obtain ⟨a, o3, e3, ha, f3⟩ := t_opt1 f2 (by omega) io [.d (qD f), .d (qD m), .un, .d (.int 0)]
  obtain ⟨b, o4, e4, hb, f4⟩ := t_opt1 f3 (by omega) io [.d (qD f), .d (qD m), .un, .d (.int 1)]
  simp only [ratL] at ey
  have f5 := f4.mono (show N + 1 + 2 + 2 + 2 ≤ N + 10 by omega)
  have noneb : ∀ z : Option Rat, noneD (oD z) = decide (z = none) := nn_o
  cases a with
  | none =>
    refine ⟨f, m, none, b, o4, ?_, ⟨f0, by cases b <;> trivial, ⟨sf, hm, so_none _, hb⟩⟩, f5⟩
    simp [m_l_raw, e_run, b_l_raw, -e_if, e1, ey, sizeL, e2, e3, e4, rng2, unAt]
  | some l =>
    cases b with
    | none =>
      refine ⟨f, m, some l, none, o4, ?_, ⟨f0, trivial, ⟨sf, hm, ha, so_none _⟩⟩, f5⟩
      simp [m_l_raw, e_run, b_l_raw, -e_if, e1, ey, sizeL, e2, e3, e4, rng2, unAt]
    | some u =>
      have e5 := t_l_less (hb u rfl) (ha l rfl) (by decide)
      by_cases c : u < l
      · refine ⟨f, m, some u, some l, o4, ?_, ⟨f0, by show u ≤ l; grind, ⟨sf, hm, hb, ha⟩⟩, f5⟩
        simp [m_l_raw, e_run, b_l_raw, -e_if, e1, ey, sizeL, e2, e3, e4, rng2, unAt, e5, c]
      · refine ⟨f, m, some l, some u, o4, ?_, ⟨f0, by show l ≤ u; grind, ⟨sf, hm, ha, hb⟩⟩, f5⟩
        simp [m_l_raw, e_run, b_l_raw, -e_if, e1, ey, sizeL, e2, e3, e4, rng2, unAt, e5, c]
theorem t_l_const (x : PyData) : m_l_constant [.d x] = some (.d (.tuple [qD 0, x, .none, .none]), [.d x]) := by
  simp [m_l_constant, e_run, b_l_constant, sizeL, q0]
theorem t_l_bounded {x : Rat} {lo hi : Option Rat} {b : Nat} (hx : Sq b x) (hl : so b lo) (hh : so b hi) (h : 2 * b + 3 ≤ 4000) (hle : RQ.leO lo hi) :
    m_l_bounded [.d (qD x), .d (oD lo), .d (oD hi)] = some (.d (qD (RQ.bd x lo hi)), [.d (qD x), .d (oD lo), .d (oD hi)]) := by
  cases lo with
  | none =>
    cases hi with
    | none => simp [m_l_bounded, e_run, b_l_bounded, RQ.bd]
    | some u =>
      have e1 := t_l_less (hh u rfl) hx h
      by_cases c : u < x <;> simp [m_l_bounded, e_run, b_l_bounded, RQ.bd, e1, c]
  | some l =>
    have e1 := t_l_less hx (hl l rfl) h
    cases hi with
    | none => by_cases c : x < l <;> simp [m_l_bounded, e_run, b_l_bounded, RQ.bd, e1, c]
    | some u =>
      have e2 := t_l_less (hh u rfl) hx h
      have hlu : l ≤ u := hle
      by_cases c : x < l
      · have d : ¬ u < l := by grind
        simp [m_l_bounded, e_run, b_l_bounded, RQ.bd, e1, c, d]
      · by_cases d : u < x <;> simp [m_l_bounded, e_run, b_l_bounded, RQ.bd, e1, e2, c, d]
theorem t_l_normal {f p : Rat} {lo hi : Option Rat} {b : Nat} (hp : Sq b p) (hl : so b lo) (hh : so b hi) (h : 2 * b + 3 ≤ 4000) (hle : RQ.leO lo hi) :
    m_l_normal [.d (qD f), .d (qD p), .d (oD lo), .d (oD hi)] = some (.d (cD (RQ.nf f p lo hi)), [.d (qD f), .d (qD p), .d (oD lo), .d (oD hi)]) := by
  have e1 := t_l_bounded hp hl hh h hle
  by_cases h1 : f = 0
  · subst h1
    simp [-oD_none, m_l_normal, e_run, b_l_normal, eq_qq, sizeL, q0, e1, t_l_const, RQ.nf, cD, RQ.cst]
    rfl
  · cases lo with
    | none => simp [m_l_normal, e_run, b_l_normal, eq_qq, q0, sizeL, h1, RQ.nf, cD]
    | some l =>
      have eo := eq_oo (some l) hi
      simp only [oD_some] at eo
      by_cases h3 : some l = hi
      · subst h3
        simp [m_l_normal, e_run, b_l_normal, eq_qq, sizeL, q0, t_l_const, h1, eo, RQ.nf, cD, RQ.cst]
      · simp [m_l_normal, e_run, b_l_normal, eq_qq, q0, sizeL, h1, h3, eo, RQ.nf, cD]
def handL : List PyData := match m_l_items_by_hand [] with
  | some (.d (.list xs), _) => xs
  | _ => []
def handC : List RQ.Cl := [⟨1, 0, none, none⟩, ⟨0, 0, none, none⟩, ⟨0, -7 / 2, none, none⟩, ⟨1, 5, none, none⟩, ⟨2, 0, none, none⟩, ⟨1 / 2, -3, none, none⟩, ⟨1, 0, some 0, none⟩, ⟨1, 0, none, some 10⟩, ⟨1, 0, some (-5), some 5⟩, ⟨3, 1, some 2, some 20⟩]
theorem hand_eq : handL = handC.map cD := by kernel_rfl
theorem hand_ok : ∀ c ∈ handC, RQ.WF c ∧ Sc 14 c := by
  intro c hc
  simp only [handC, List.mem_cons, List.not_mem_nil, or_false] at hc
  rcases hc with rfl | rfl | rfl | rfl | rfl | rfl | rfl | rfl | rfl | rfl <;>
  exact ⟨⟨by decide +kernel, by decide +kernel, by first | trivial | (show (_ : Rat) < _; decide +kernel)⟩, ⟨by decide +kernel, by decide +kernel⟩, ⟨by decide +kernel, by decide +kernel⟩, fun q e => by first | (cases e; done) | (cases e; exact ⟨by decide +kernel, by decide +kernel⟩), fun q e => by first | (cases e; done) | (cases e; exact ⟨by decide +kernel, by decide +kernel⟩)⟩
def amtQ : List Rat := [0, 1, -1 / 2, 5, 7 / 3, -10, 10, 49 / 2, 100, -9999, 10000]
theorem t_l_amounts : m_l_amounts [] = some (.d (.list (amtQ.map qD)), []) := by kernel_rfl
theorem amt_ok : ∀ x ∈ amtQ, Sq 14 x := by
  intro c hc
  simp only [amtQ, List.mem_cons, List.not_mem_nil, or_false] at hc
  rcases hc with rfl | rfl | rfl | rfl | rfl | rfl | rfl | rfl | rfl | rfl | rfl <;> exact ⟨by decide +kernel, by decide +kernel⟩
end P1
set_option exponentiation.threshold 5000
set_option maxRecDepth 100000
set_option maxHeartbeats 4000000
namespace P1
open PySem PySem.Spec PyProof.Rows L2 DL
section
variable {f p : Rat} {lo hi : Option Rat} {b : Nat} (hb : 2 * b + 6 ≤ 4000)
include hb
end
end P1
set_option exponentiation.threshold 5000
set_option maxRecDepth 100000
set_option maxHeartbeats 4000000
namespace P1
open PySem PySem.Spec PyProof.Rows L2 DL
theorem ap_id (x : Rat) : RQ.ap idC x = x := by
  simp [RQ.ap, RQ.bd, idC, Rat.add_zero]
theorem wf_ch {cs : List RQ.Cl} (h : ∀ c ∈ cs, RQ.WF c) : RQ.WF (chL cs) := wf_chL cs wf_id h
theorem id_ch {c : RQ.Cl} (h : RQ.WF c) : RQ.ch2 idC c = c := RQ.ext (RQ.wf_ch2 wf_id h) h fun x => by rw [RQ.ap_ch2 wf_id h, ap_id]
end P1
set_option maxRecDepth 100000
set_option maxHeartbeats 2000000
namespace DL
open PySem PySem.Spec PyProof.Rows L2
/-- one round of a for -/
def stepF (g : XG) (b : XS) (d : PyData) (ρ : Nv) : Option Fl := (g d ρ).bind b
theorem e_stepF (g : XG) (b : XS) (d : PyData) (ρ : Nv) : stepF g b d ρ = (g d ρ).bind fun ρ1 => b ρ1 := rfl
/-- p ends, and Q holds of how -/
def Wp (p : XS) (ρ : Nv) (Q : Fl → Prop) : Prop := ∃ r, p ρ = some r ∧ Q r
def We (f : XE) (ρ : Nv) (Q : PyData → Nv → Prop) : Prop := ∃ d ρ', f ρ = some (d, ρ') ∧ Q d ρ'
def Wt (f : XT) (ρ : Nv) (Q : Bool → Nv → Prop) : Prop := ∃ d ρ', f ρ = some (d, ρ') ∧ Q d ρ'
theorem wp_of {p : XS} {ρ : Nv} {Q : Fl → Prop} {r : Fl} (h : p ρ = some r) (q : Q r) : Wp p ρ Q := ⟨r, h, q⟩
theorem Wp.imp {p : XS} {ρ : Nv} {Q R : Fl → Prop} (h : Wp p ρ Q) (i : ∀ r, Q r → R r) : Wp p ρ R := by
  obtain ⟨r, e, q⟩ := h
  exact ⟨r, e, i r q⟩
theorem wp_seq {p q : XS} {ρ : Nv} {Q : Fl → Prop} (h : Wp p ρ fun r => match r with | .nx ρ1 => Wp q ρ1 Q | r => Q r) : Wp (sSeq p q) ρ Q := by
  obtain ⟨r, e, i⟩ := h
  rw [Wp, e_seq, e, Option.bind_some]
  cases r with
  | nx ρ1 => exact i
  | _ => exact ⟨_, rfl, i⟩
theorem wp_nx {p q : XS} {ρ ρ1 : Nv} {Q : Fl → Prop} (h : p ρ = some (.nx ρ1)) (k : Wp q ρ1 Q) : Wp (sSeq p q) ρ Q := wp_seq ⟨_, h, k⟩
theorem wp_ret {f : XE} {ρ : Nv} {Q : Fl → Prop} (h : We f ρ fun d ρ' => Q (.rt d ρ')) : Wp (sRet f) ρ Q := by
  obtain ⟨d, ρ', e, q⟩ := h
  exact ⟨_, by rw [e_ret, e]; rfl, q⟩
theorem wp_if {t : XT} {p q : XS} {ρ : Nv} {Q : Fl → Prop} (h : Wt t ρ fun b ρ' => if b = true then Wp p ρ' Q else Wp q ρ' Q) : Wp (sIf t p q) ρ Q := by
  obtain ⟨b, ρ', e, i⟩ := h
  rw [Wp, e_sif, e, Option.bind_some]
  cases b <;> exact i
theorem wt_of {t : XT} {b : Bool} {ρ ρ' : Nv} {Q : Bool → Nv → Prop} (h : t ρ = some (b, ρ')) (q : Q b ρ') : Wt t ρ Q := ⟨b, ρ', h, q⟩
theorem we_of {t : XE} {b : PyData} {ρ ρ' : Nv} {Q : PyData → Nv → Prop} (h : t ρ = some (b, ρ')) (q : Q b ρ') : We t ρ Q := ⟨b, ρ', h, q⟩
/-- a for whose rounds end -/
theorem for_J {α : Type} {g : XG} {b : XS} (k : α → PyData) (J : List α → Nv → Prop) (hs : ∀ x xs ρ, J (x :: xs) ρ → ∃ ρ1, stepF g b (k x) ρ = some (.nx ρ1) ∧ J xs ρ1) :
    ∀ (xs : List α) (ρ : Nv), J xs ρ → ∃ ρ1, forL g b (xs.map k) ρ = some (.nx ρ1) ∧ J [] ρ1
  | [], ρ, h => ⟨ρ, rfl, h⟩
  | x :: xs, ρ, h => by
    obtain ⟨ρ1, e, h1⟩ := hs x xs ρ h
    obtain ⟨ρ2, e2, h2⟩ := for_J k J hs xs ρ1 h1
    refine ⟨ρ2, ?_, h2⟩
    unfold stepF at e
    rw [List.map_cons, e_forC]
    cases hg : g (k x) ρ with
    | none => rw [hg] at e; cases e
    | some ρ3 => rw [hg, Option.bind_some] at e; rw [Option.bind_some, e, Option.bind_some]; exact e2
theorem wp_for {α : Type} {it : XI} {g : XG} {b : XS} {ρ ρ0 : Nv} {Q : Fl → Prop} (k : α → PyData) (xs : List α) (J : List α → Nv → Prop) (hi : it ρ = some (xs.map k, ρ0)) (h0 : J xs ρ0)
    (hs : ∀ x xs ρ, J (x :: xs) ρ → ∃ ρ1, stepF g b (k x) ρ = some (.nx ρ1) ∧ J xs ρ1) (hk : ∀ ρ1, J [] ρ1 → Q (.nx ρ1)) : Wp (sFor it g b) ρ Q := by
  obtain ⟨ρ1, e, h⟩ := for_J k J hs xs ρ0 h0
  exact ⟨_, by rw [e_for, hi, Option.bind_some]; exact e, hk ρ1 h⟩
/-- the same, with rounds shown by Wp -/
theorem wp_forW {α : Type} {it : XI} {g : XG} {b : XS} {ρ ρ0 : Nv} {Q : Fl → Prop} (k : α → PyData) (xs : List α) (J : List α → Nv → Prop) (hi : it ρ = some (xs.map k, ρ0)) (h0 : J xs ρ0)
    (hs : ∀ x xs ρ, J (x :: xs) ρ → ∃ ρ1, g (k x) ρ = some ρ1 ∧ Wp b ρ1 fun r => ∃ ρ2, r = .nx ρ2 ∧ J xs ρ2) (hk : ∀ ρ1, J [] ρ1 → Q (.nx ρ1)) : Wp (sFor it g b) ρ Q :=
  wp_for k xs J hi h0 (fun x xs ρ h => by
    obtain ⟨ρ1, e1, r, e2, ρ2, rfl, j⟩ := hs x xs ρ h
    exact ⟨ρ2, by rw [e_stepF, e1, Option.bind_some]; exact e2, j⟩) hk
/-- one round of a comprehension: what it adds, and the slots behind it -/
def lcS (g : XG) (c : XT) (e : XE) (vs : List Nat) (d : PyData) (ρ : Nv) : Option (Option PyData × Nv) :=
  (g d ρ).bind fun ρ1 => (c ρ1).bind fun p => if p.1 = true then (e p.2).bind fun q => (wipeN q.2 vs).map fun ρ2 => (some q.1, ρ2) else (wipeN p.2 vs).map fun ρ2 => (none, ρ2)
theorem e_lcS (g : XG) (c : XT) (e : XE) (vs : List Nat) (d : PyData) (ρ : Nv) : lcS g c e vs d ρ =
  (g d ρ).bind fun ρ1 => (c ρ1).bind fun p => if p.1 = true then (e p.2).bind fun q => (wipeN q.2 vs).map fun ρ2 => (some q.1, ρ2) else (wipeN p.2 vs).map fun ρ2 => (none, ρ2) := rfl
theorem lc_step {g : XG} {c : XT} {e : XE} {vs : List Nat} {d : PyData} {ρ ρ1 : Nv} {o : Option PyData} (h : lcS g c e vs d ρ = some (o, ρ1)) {acc : List PyData} (hl : acc.length < 16777216) (ds : List PyData) :
    lcL g c e vs (d :: ds) ρ acc = lcL g c e vs ds ρ1 (acc ++ o.toList) := by
  unfold lcS at h
  rw [e_lcC]
  cases hg : g d ρ with
  | none => rw [hg] at h; cases h
  | some ρ2 =>
    rw [hg, Option.bind_some] at h
    rw [Option.bind_some]
    cases hc : c ρ2 with
    | none => rw [hc] at h; cases h
    | some p =>
      rw [hc, Option.bind_some] at h
      rw [Option.bind_some]
      by_cases hp : p.1 = true
      · rw [if_pos hp] at h ⊢
        cases he : e p.2 with
        | none => rw [he] at h; cases h
        | some q =>
          rw [he, Option.bind_some] at h
          rw [Option.bind_some, if_pos (by rw [sizeL]; exact hl)]
          cases hw : wipeN q.2 vs with
          | none => rw [hw] at h; cases h
          | some ρ3 =>
            rw [hw, Option.map_some] at h
            cases h
            rfl
      · rw [if_neg hp] at h ⊢
        cases hw : wipeN p.2 vs with
        | none => rw [hw] at h; cases h
        | some ρ3 =>
          rw [hw, Option.map_some] at h
          cases h
          rw [Option.bind_some, Option.toList_none, List.append_nil]
/-- a comprehension that changes nothing -/
theorem lc_pure {α : Type} {g : XG} {c : XT} {e : XE} {vs : List Nat} {ρ : Nv} {k : α → PyData} (f : α → Option PyData) :
    ∀ (xs : List α) (acc : List PyData), (∀ x ∈ xs, lcS g c e vs (k x) ρ = some (f x, ρ)) → acc.length + xs.length < 16777216 → lcL g c e vs (xs.map k) ρ acc = some (acc ++ xs.filterMap f, ρ)
  | [], acc, _, _ => by simp
  | x :: xs, acc, h, hl => by
    rw [List.length_cons] at hl
    rw [List.map_cons, lc_step (h x List.mem_cons_self) (by omega)]
    have hk : (f x).toList.length ≤ 1 := by cases f x <;> simp
    rw [lc_pure f xs _ (fun y hy => h y (List.mem_cons_of_mem _ hy)) (by rw [List.length_append]; omega)]
    cases hf : f x with
    | none => simp [List.filterMap_cons, hf]
    | some v => simp [List.filterMap_cons, hf]
theorem lc_map {α : Type} {g : XG} {c : XT} {e : XE} {vs : List Nat} {ρ : Nv} {k : α → PyData} (f : α → PyData) (xs : List α) (acc : List PyData) (h : ∀ x ∈ xs, lcS g c e vs (k x) ρ = some (some (f x), ρ)) (hl : acc.length + xs.length < 16777216) :
    lcL g c e vs (xs.map k) ρ acc = some (acc ++ xs.map f, ρ) := by
  rw [lc_pure (fun x => some (f x)) xs acc h hl]
  congr 3
  induction xs with
  | nil => rfl
  | cons x xs ih => simp [List.filterMap_cons]
@[simp] theorem e_pickR (d : PyData) (s : Sel) (as : List AV) : pick (.inr d :: s) as = if flatD d = true then (pick s as).map (.v d :: ·) else none := rfl
@[simp] theorem fl_none : flatD .none = true := rfl
@[simp] theorem fl_bool (b : Bool) : flatD (.bool b) = true := rfl
@[simp] theorem fl_int (i : Int) : flatD (.int i) = true := rfl
@[simp] theorem fl_str (s : Str) : flatD (.str s) = true := rfl
section
variable {α : Type} {it : XI} {g : XG} {c : XT} {e : XE} {vs : List Nat} {ρ ρ1 : Nv} {k : α → PyData} {xs : List α}
theorem fz_lc {ds zs : List PyData} {ρ2 : Nv} (hi : it ρ = some (ds, ρ1)) (hu : unAt ρ1 vs = true) (h : lcL g c e vs ds ρ1 [] = some (zs, ρ2)) : xFz (nLc it g c e vs) ρ = some (.list zs, ρ2) := by
  rw [e_fz, e_lc, hi, Option.bind_some, if_pos hu, h]; rfl
theorem fz_map (f : α → PyData) (hi : it ρ = some (xs.map k, ρ1)) (hu : unAt ρ1 vs = true) (h : ∀ x ∈ xs, lcS g c e vs (k x) ρ1 = some (some (f x), ρ1)) (hl : xs.length < 1000000) : xFz (nLc it g c e vs) ρ = some (.list (xs.map f), ρ1) :=
  fz_lc hi hu (lc_map f xs [] h (by rw [List.length_nil]; omega))
end
section
variable {α : Type} {it : XI} {g : XG} {c : XT} {e : XE} {vs : List Nat} {ρ ρ1 : Nv} {k : α → PyData} {xs : List α}
theorem lc_E {β : Type} (kb : β → PyData) (G : β → Prop) : ∀ (xs : List α) (acc : List β), (∀ x ∈ xs, ∃ y, lcS g c e vs (k x) ρ = some (some (kb y), ρ) ∧ G y) → acc.length + xs.length < 16777216 →
    ∃ ys, lcL g c e vs (xs.map k) ρ (acc.map kb) = some ((acc ++ ys).map kb, ρ) ∧ ys.length = xs.length ∧ ∀ y ∈ ys, G y
  | [], acc, _, _ => ⟨[], by simp, rfl, fun y hy => nomatch hy⟩
  | x :: xs, acc, h, hl => by
    rw [List.length_cons] at hl
    obtain ⟨y, e1, gy⟩ := h x List.mem_cons_self
    obtain ⟨ys, e2, h2, h3⟩ := lc_E kb G xs (acc ++ [y]) (fun z hz => h z (List.mem_cons_of_mem _ hz)) (by rw [List.length_append, List.length_singleton]; omega)
    refine ⟨y :: ys, ?_, by rw [List.length_cons, List.length_cons, h2], fun z hz => ?_⟩
    · rw [List.map_cons, lc_step e1 (by rw [List.length_map]; omega), Option.toList_some]
      rw [List.map_append] at e2
      simp only [List.map_cons, List.map_nil] at e2
      rw [e2, List.append_assoc]
      rfl
    · rcases List.mem_cons.mp hz with rfl | hz
      · exact gy
      · exact h3 z hz
theorem we_lcE {β : Type} {Q : PyData → Nv → Prop} (kb : β → PyData) (G : β → Prop) (hi : it ρ = some (xs.map k, ρ1)) (hu : unAt ρ1 vs = true)
    (hs : ∀ x ∈ xs, ∃ y, lcS g c e vs (k x) ρ1 = some (some (kb y), ρ1) ∧ G y) (hl : xs.length < 1000000)
    (q : ∀ ys : List β, ys.length = xs.length → (∀ y ∈ ys, G y) → Q (.list (ys.map kb)) ρ1) : We (xFz (nLc it g c e vs)) ρ Q := by
  obtain ⟨ys, e1, h1, h2⟩ := lc_E kb G xs [] hs (by rw [List.length_nil]; omega)
  exact ⟨_, _, fz_lc hi hu e1, q ys h1 h2⟩
end
section
variable {α β : Type} {it : XI} {g : XG} {c : XT} {it1 : XI} {g1 : XG} {c1 : XT} {e : XE} {vs vs1 : List Nat} {ρ ρ1 : Nv} {k : α → PyData} {k1 : β → PyData} {xs : List α}
end
/-- the slot holds nothing or a datum -/
def Ud (e : EV) : Prop := e = .un ∨ ∃ d, e = .d d
@[simp] theorem ud_un : Ud .un := .inl rfl
@[simp] theorem ud_d (d : PyData) : Ud (.d d) := .inr ⟨d, rfl⟩
theorem Ud.fs {e : EV} (h : Ud e) : Fs e := by rcases h with rfl | ⟨d, rfl⟩ <;> simp
section
variable {α : Type} {it : XI} {g : XG} {c : XT} {e : XE} {v : Nat} {ρ : Nv} {k : α → PyData} {xs : List α} {x0 : EV}
end
@[simp] theorem e_parR2 (i j : Nat) (f g : XR) (ρ : Nv) : sParR i j f g ρ = (f ρ).bind fun p => (g p.2).bind fun q => (putR q.2 i p.1).bind fun ρ1 => (putR ρ1 j q.1).map .nx := rfl
theorem slots_v : ∀ ds : List PyData, slotsOf (ds.map .v) = []
  | [] => rfl
  | d :: ds => by rw [List.map_cons, e_slots1, slots_v ds]
theorem ent_v (ρ : Nv) : ∀ ds : List PyData, entN (ds.map .v) ρ = some (ds.map .d)
  | [] => rfl
  | d :: ds => by rw [List.map_cons, e_ent1, ent_v ρ ds]; rfl
theorem back_v (ρ : Nv) : ∀ ds : List PyData, back (ds.map .v) (ds.map .d) ρ = some ρ
  | [] => rfl
  | d :: ds => by rw [List.map_cons, List.map_cons, e_back1, back_v ρ ds]
theorem call_v {m : XF} {r : XA} {ρ ρ1 : Nv} {ds : List PyData} {x : PyData} (hr : r ρ = some (ds.map .v, ρ1)) (hm : m (ds.map .d) = some (.d x, ds.map .d)) : xCall m r ρ = some (x, ρ1) := by
  rw [e_call, e_gcall, hr, Option.bind_some]
  simp only [slots_v, List.nodup_nil, if_true, ent_v, Option.bind_some, hm, back_v, Option.map_some]
theorem call_starT {m : XF} {f : XE} {ρ ρ1 : Nv} {ds : List PyData} {x : PyData} (hf : f ρ = some (.tuple ds, ρ1)) (hm : m (ds.map .d) = some (.d x, ds.map .d)) : xCall m (aStar f) ρ = some (x, ρ1) :=
  call_v (by rw [e_star1, hf]; rfl) hm
theorem run_wp {n : Nat} {body : XS} {es es' : List EV} {d : PyData} (h : Wp body (es ++ List.replicate (n - es.length) .un) fun r => ∃ ρ, r = .rt d ρ ∧ finA es ρ = es') : runF n body es = some (.d d, es') := by
  obtain ⟨r, e, ρ, rfl, h⟩ := h
  rw [run_rt e, h]
end DL
namespace RQ
end RQ
set_option maxRecDepth 100000
set_option maxHeartbeats 4000000
namespace DL
open PySem L2
section
variable {f : XE} {r : XA} {q : XJ} {ρ : Nv}
@[simp] theorem e_xJ : xJ q ρ = (q Str.empty ρ).map fun p => (.str p.1, p.2) := rfl
@[simp] theorem e_jNil (acc : Str) : jNil acc ρ = some (acc, ρ) := rfl
@[simp] theorem e_jCons (acc : Str) : jCons f q acc ρ = (f ρ).bind fun p => match p.1 with
  | .str y => if (acc ++ y).length ≤ sizeLine then q (acc ++ y) p.2 else none
  | _ => none := rfl
@[simp] theorem e_aSpl : aSpl f r ρ = (f ρ).bind fun p => match p.1 with
  | .list ds => (r p.2).map fun q => (ds.map AV.v ++ q.1, q.2)
  | .tuple ds => (r p.2).map fun q => (ds.map AV.v ++ q.1, q.2)
  | _ => none := rfl
@[simp] theorem e_ofS2 (g : Str → PyData → Option PyData) (a : Str) (y : PyData) : ofS2 g (.str a) y = g a y := rfl
@[simp] theorem e_ofS1 (g : Str → Option PyData) (a : Str) : ofS1 g (.str a) = g a := rfl
@[simp] theorem e_sMatch (m : PyData → XS) : sMatch f m ρ = (f ρ).bind fun p => m p.1 p.2 := rfl
@[simp] theorem e_mNil (d : PyData) : mNil d ρ = some (.nx ρ) := rfl
@[simp] theorem e_mWild (b : XS) (d : PyData) : mWild b d ρ = b ρ := rfl
@[simp] theorem e_mSeq (n : Nat) (g : XGs) (b : XS) (m : PyData → XS) (ds : List PyData) : mSeq n g b m (.list ds) ρ = if ds.length = n then (g ds ρ).bind b else m (.list ds) ρ := rfl
@[simp] theorem e_revL (xs : List PyData) : revD (.list xs) = some (.list xs.reverse) := rfl
end
def T (l : List Nat) : Str := ⟨l.toArray⟩
@[simp] theorem tl_T (l : List Nat) : TL.tl (T l) = l := rfl
@[simp] theorem cps_T (l : List Nat) : (T l).cps.toList = l := rfl
@[simp] theorem len_Tx (l : List Nat) : (T l).length = l.length := by simp [T, Str.length]
theorem T_tl (x : Str) : T (TL.tl x) = x := TL.mk_tl x
theorem T_eq {x : Str} {l : List Nat} (h : TL.tl x = l) : x = T l := by rw [← h, T_tl]
theorem T_app (a b : List Nat) : T a ++ T b = T (a ++ b) := T_eq (by rw [TL.tl_append]; rfl)
@[simp] theorem T_inj {a b : List Nat} : T a = T b ↔ a = b := ⟨fun h => by simpa using congrArg TL.tl h, fun h => by rw [h]⟩
theorem T_num (n : Nat) : Str.ofString (toString ((n : Nat) : Int)) = T (TL.numL n) := T_eq (TL.tl_num n)
@[simp] theorem it_T (l : List Nat) : itD (.str (T l)) = some (l.map fun c => PyData.str ⟨#[c]⟩) := rfl
theorem numL_in {n c : Nat} (h : c ∈ TL.numL n) : 48 ≤ c ∧ c ≤ 57 := TL.numL_digits n c h
end DL
set_option maxRecDepth 100000
set_option maxHeartbeats 4000000
namespace DL
open PySem PySem.Spec PyProof.Rows L2
section
variable {ρ : Nv} {f : XE} {r : XA} {t : XT} {a b : XSX} {p : XS}
@[simp] theorem x_lf : xLf p ρ = (p ρ).map .fl := rfl
@[simp] theorem x_seq : xSeq a b ρ = (a ρ).bind fun r => match r with
  | .fl (.nx ρ') => b ρ'
  | r => some r := rfl
@[simp] theorem x_sif : xSIf t a b ρ = (t ρ).bind fun p => if p.1 = true then a p.2 else b p.2 := rfl
@[simp] theorem x_for0 {g : XG} : forLX g b [] ρ = some (.fl (.nx ρ)) := rfl
@[simp] theorem x_raise {c : Nat} {names : List Str} : xRaise c names r ρ = (r ρ).bind fun p => (datA p.1).bind fun ds => if ds.length = names.length then some (.ex c (names.zip ds).reverse p.2) else none := rfl
@[simp] theorem x_datA0 : datA [] = some [] := rfl
@[simp] theorem x_datA1 {d : PyData} {as : List AV} : datA (.v d :: as) = (datA as).map (d :: ·) := rfl
@[simp] theorem x_gcall {m : XFX} : gCallX m r ρ = (r ρ).bind fun p => if (slotsOf p.1).Nodup then (entN p.1 p.2).bind fun es => (m es).bind fun q => match q with
    | .ok v es' => (back p.1 es' p.2).map fun ρ' => .ok v ρ'
    | .ex c fs es' => (back p.1 es' p.2).map fun ρ' => .ex c fs ρ'
  else none := rfl
@[simp] theorem x_arity {n : Nat} {m : XFX} {es : List EV} : arityX n m es = if es.length = n then m es else none := rfl
@[simp] theorem x_said {sd : CxR → Option PyData} {g : Nv → Option CxR} : xSaid sd g ρ = (g ρ).bind fun r => (sd r).map fun d => (d, r.env) := rfl
@[simp] theorem x_envO {v : Rv} : (CxR.ok v ρ).env = ρ := rfl
@[simp] theorem x_envX {c : Nat} {fs : List (Str × PyData)} : (CxR.ex c fs ρ).env = ρ := rfl
@[simp] theorem x_do {m : XFX} : xDo m r ρ = (gCallX m r ρ).bind fun q => match q with
  | .ok (.d _) ρ' => some (.fl (.nx ρ'))
  | .ok (.n _) _ => none
  | .ex c fs ρ' => some (.ex c fs ρ') := rfl
@[simp] theorem x_retC {m : XFX} : xRetC m r ρ = (gCallX m r ρ).bind fun q => match q with
  | .ok (.d d) ρ' => some (.fl (.rt d ρ'))
  | .ok (.n _) _ => none
  | .ex c fs ρ' => some (.ex c fs ρ') := rfl
@[simp] theorem x_setC {i : Nat} {m : XFX} : xSetC i m r ρ = (gCallX m r ρ).bind fun q => match q with
  | .ok (.d d) ρ' => (put ρ' i d).map fun ρ2 => .fl (.nx ρ2)
  | .ok (.n _) _ => none
  | .ex c fs ρ' => some (.ex c fs ρ') := rfl
@[simp] theorem x_nOne : nOne f ρ = (f ρ).map fun p => (.ol [p.1], p.2) := rfl
end
end DL
set_option maxRecDepth 100000
set_option maxHeartbeats 2000000
namespace DL
open PySem PySem.Spec PyProof.Rows L2
theorem get_end (ρ : Nv) (e : EV) : (ρ ++ [e])[ρ.length]? = some e := by simp
theorem t_make {n : Str} {m : XF} {r : XA} {ρ ρ1 : Nv} {ds : List PyData} {fs : List (Str × PyData)} {es : List EV} (hr : r ρ = some (ds.map .v, ρ1)) (hm : m (.own (.oi n []) true :: ds.map .d) = some (.d .none, .own (.oi n fs) true :: es)) (hl : es.length = ds.length) :
    nMake n m r ρ = some (.oi n fs, ρ1) := by
  unfold nMake
  rw [hr, Option.bind_some]
  have e1 : entN (ds.map AV.v) (ρ1 ++ [.own (.oi n []) false]) = some (ds.map .d) := by
    clear hr hm hl
    induction ds with
    | nil => rfl
    | cons d ds ih => rw [List.map_cons, List.map_cons, e_ent1, ih]; rfl
  have e2 : slotsOf (ds.map AV.v) = [] := by
    clear hr hm hl e1
    induction ds with
    | nil => rfl
    | cons d ds ih => rw [List.map_cons, e_slots1, ih]
  have e3 : ∀ ρ : Nv, back (ds.map AV.v) es ρ = some ρ := by
    clear hr hm e1 e2
    induction ds generalizing es with
    | nil => exact fun ρ => e_back0 es
    | cons d ds ih =>
      cases es with
      | nil => cases hl
      | cons e es => exact fun ρ => ih (by simpa using hl) ρ
  have e4 : gCall m (fun ρ => some (AV.s ρ1.length :: ds.map .v, ρ)) (ρ1 ++ [.own (.oi n []) false]) = some (.d .none, ρ1 ++ [.own (.oi n fs) false]) := by
    rw [e_gcall]
    simp only [Option.bind_some, e_slots2, e2, List.nodup_cons, List.not_mem_nil, not_false_eq_true, List.nodup_nil, and_self, if_true]
    have e5 : entN (AV.s ρ1.length :: ds.map .v) (ρ1 ++ [.own (.oi n []) false]) = some (.own (.oi n []) true :: ds.map .d) := by
      rw [e_ent2, get_end, e1]
      rfl
    rw [e5, Option.bind_some, hm, Option.bind_some]
    have e6 : back (AV.s ρ1.length :: ds.map .v) (.own (.oi n fs) true :: es) (ρ1 ++ [.own (.oi n []) false]) = some (ρ1 ++ [.own (.oi n fs) false]) := by
      rw [e_back2, get_end]
      simp only [e3]
      simp
    rw [e6]
    rfl
  rw [e4, Option.bind_some]
  simp
/-- a method's answer -/
def MCall (tab : MTab) (mn : Str) (o : PyData) (as : List PyData) (z : PyData) : Prop :=
  ∃ n r m es, o = .dict ((.none, .str n) :: r) ∧ lookF mn r = none ∧ tab.lookup n = some m ∧ m (.d o :: as.map .d) = some (.d z, es) ∧ es.length = as.length + 1
theorem ent_vs (ds : List PyData) (ρ : Nv) : entN (ds.map AV.v) ρ = some (ds.map .d) := by
  induction ds with
  | nil => rfl
  | cons d ds ih => rw [List.map_cons, List.map_cons, e_ent1, ih]; rfl
theorem slots_vs (ds : List PyData) : slotsOf (ds.map AV.v) = [] := by
  induction ds with
  | nil => rfl
  | cons d ds ih => rw [List.map_cons, e_slots1, ih]
theorem back_vs : ∀ (ds : List PyData) (es : List EV) (ρ : Nv), es.length = ds.length → back (ds.map AV.v) es ρ = some ρ
  | [], es, ρ, _ => e_back0 es
  | d :: ds, [], ρ, h => by cases h
  | d :: ds, e :: es, ρ, h => back_vs ds es ρ (by simpa using h)
theorem gc_vs {m : XF} {ds : List PyData} {z : PyData} {es : List EV} (hm : m (ds.map .d) = some (.d z, es)) (hl : es.length = ds.length) {ρ : Nv} : gCall m (fun ρ => some (ds.map .v, ρ)) ρ = some (.d z, ρ) := by
  rw [e_gcall]
  simp only [Option.bind_some, slots_vs, List.nodup_nil, if_true, ent_vs, hm]
  rw [back_vs ds es ρ hl]
  rfl
theorem t_mS {tab : MTab} {mn : Str} {o z : PyData} {as : List PyData} (h : MCall tab mn o as z) {i : Nat} {ρ ρ1 : Nv} {r rk : XA} (hi : ρ[i]? = some (.d o)) (hr : aBoth r rk ρ = some (as.map .v, ρ1)) : xOf (gMeth tab (rvS mn i) (aBoth r rk)) ρ = some (z, ρ1) := by
  obtain ⟨n, fs, m, es, rfl, h1, h2, h3, h4⟩ := h
  have e : rvS mn i ρ = some (.v (.dict ((.none, .str n) :: fs)), n, ρ) := by
    unfold rvS
    rw [hi]
    simp [h1]
  unfold xOf gMeth
  rw [e, Option.bind_some, h2, Option.bind_some, hr, Option.bind_some]
  have g := gc_vs (m := m) (ds := PyData.dict ((.none, .str n) :: fs) :: as) h3 (by simpa using h4) (ρ := ρ1)
  rw [List.map_cons] at g
  have g' : gCall m (fun ρ => some (AV.v (PyData.dict ((.none, .str n) :: fs)) :: as.map .v, ρ)) ρ1 = some (.d z, ρ1) := g
  rw [g']
  rfl
/-- o.m() -/
theorem t_mS0 {tab : MTab} {mn : Str} {o z : PyData} (h : MCall tab mn o [] z) {i : Nat} {ρ : Nv} (hi : ρ[i]? = some (.d o)) : xOf (gMeth tab (rvS mn i) (aBoth aNil aNil)) ρ = some (z, ρ) := t_mS h hi rfl
theorem t_mS1 {tab : MTab} {mn : Str} {o z a : PyData} (h : MCall tab mn o [a] z) {i : Nat} {ρ ρ1 : Nv} {f : XE} (hi : ρ[i]? = some (.d o)) (ha : f ρ = some (a, ρ1)) : xOf (gMeth tab (rvS mn i) (aBoth (aCons f aNil) aNil)) ρ = some (z, ρ1) := t_mS h hi (by simp [aBoth, ha])
theorem t_mSk {tab : MTab} {mn : Str} {o z a : PyData} (h : MCall tab mn o [a] z) {i : Nat} {ρ ρ1 : Nv} {f : XE} (hi : ρ[i]? = some (.d o)) (ha : f ρ = some (a, ρ1)) : xOf (gMeth tab (rvS mn i) (aBoth aNil (aCons f aNil))) ρ = some (z, ρ1) := t_mS h hi (by simp [aBoth, ha])
/-- super().m() + e, in the def of a class -/
theorem t_sup {n : Str} {m : XF} {o z : PyData} {r : List (PyData × PyData)} {es : List EV} (ho : o = .dict ((.none, .str n) :: r)) (hm : m [.d o] = some (.d z, es)) (hl : es.length = 1) {ρ : Nv} : xSup n m aNil (.d o :: ρ) = some (z, .d o :: ρ) := by
  subst ho
  have e : selfA n (.d (.dict ((.none, .str n) :: r)) :: ρ) = some (.v (.dict ((.none, .str n) :: r))) := by unfold selfA; simp
  unfold xSup
  rw [e_aNil, Option.bind_some, e, Option.bind_some, e_call]
  have g := gc_vs (m := m) (ds := [PyData.dict ((.none, .str n) :: r)]) hm hl (ρ := .d (.dict ((.none, .str n) :: r)) :: ρ)
  simp only [List.map_cons, List.map_nil] at g
  rw [g]
  rfl
theorem t_isO {tab : List (Str × Bool)} {n : Str} {o : PyData} {b : Bool} {r : List (PyData × PyData)} (ho : o = .dict ((.none, .str n) :: r)) (hb : tab.lookup n = some b) {f : XE} {ρ ρ1 : Nv} (hf : f ρ = some (o, ρ1)) : xIsO tab f ρ = some (.bool b, ρ1) := by
  subst ho
  unfold xIsO
  rw [hf, Option.bind_some]
  simp [hb]
theorem ne_ins {d : PyData} (hd : isI d = false) (x : PyData) (r : List (PyData × PyData)) : d ≠ .dict ((.none, x) :: r) := fun e => by
  rw [e] at hd
  cases hd
theorem t_isN {tab : List (Str × Bool)} {d : PyData} (hd : isI d = false) {f : XE} {ρ ρ1 : Nv} (hf : f ρ = some (d, ρ1)) : xIsO tab f ρ = some (.bool false, ρ1) := by
  unfold xIsO
  rw [hf, Option.bind_some]
  split
  · rename_i e
    exact absurd e (ne_ins hd _ _)
  · simp [hd]
/-- == and != of an instance and any other value -/
theorem t_eqN {tab : MTab} {sub : STab} {ne : Bool} {n : Str} {o d : PyData} {m : XF} {c : Bool} {es : List EV} {r : List (PyData × PyData)} (ho : o = .dict ((.none, .str n) :: r)) (hd : isI d = false) (hm : tab.lookup n = some m) (h : m [.d o, .d d] = some (.d (.bool c), es)) (hl : es.length = 2)
    {fa fb : XE} {ρ ρ1 ρ2 : Nv} (ha : fa ρ = some (o, ρ1)) (hb : fb ρ1 = some (d, ρ2)) : xEqO tab sub ne fa fb ρ = some (.bool (c != ne), ρ2) := by
  subst ho
  unfold xEqO
  rw [ha, Option.bind_some, hb, Option.bind_some]
  unfold eqM
  have e : ordO sub (.dict ((.none, .str n) :: r)) d = some (n, .dict ((.none, .str n) :: r), d) := by
    cases d with
    | dict l =>
      cases l with
      | nil => rfl
      | cons p l =>
        obtain ⟨k, v⟩ := p
        cases k <;> first | rfl | exact absurd rfl (ne_ins hd _ _)
    | _ => rfl
  rw [e, Option.bind_some, hm, Option.bind_some]
  have g := gc_vs (m := m) (ds := [PyData.dict ((.none, .str n) :: r), d]) h hl (ρ := ρ2)
  simp only [List.map_cons, List.map_nil] at g
  rw [g]
  rfl
/-- two instances whose == is that of one value each -/
theorem t_eqI {tab : MTab} {sub : STab} {ne c : Bool} {n1 n2 : Str} {o1 o2 : PyData} {m : XF} {r1 r2 : List (PyData × PyData)} (h1 : o1 = .dict ((.none, .str n1) :: r1)) (h2 : o2 = .dict ((.none, .str n2) :: r2)) (m1 : tab.lookup n1 = some m) (m2 : tab.lookup n2 = some m) (hs : n2 = n1 ∨ (sub.lookup (n2, n1)).isSome = true)
    (g1 : ∃ es, m [.d o1, .d o2] = some (.d (.bool c), es) ∧ es.length = 2) (g2 : ∃ es, m [.d o2, .d o1] = some (.d (.bool c), es) ∧ es.length = 2)
    {fa fb : XE} {ρ ρ1 ρ2 : Nv} (ha : fa ρ = some (o1, ρ1)) (hb : fb ρ1 = some (o2, ρ2)) : xEqO tab sub ne fa fb ρ = some (.bool (c != ne), ρ2) := by
  subst h1 h2
  obtain ⟨e1, g1, l1⟩ := g1
  obtain ⟨e2, g2, l2⟩ := g2
  unfold xEqO
  rw [ha, Option.bind_some, hb, Option.bind_some]
  unfold eqM
  have a1 := gc_vs (m := m) (ds := [PyData.dict ((.none, .str n1) :: r1), PyData.dict ((.none, .str n2) :: r2)]) g1 l1 (ρ := ρ2)
  have a2 := gc_vs (m := m) (ds := [PyData.dict ((.none, .str n2) :: r2), PyData.dict ((.none, .str n1) :: r1)]) g2 l2 (ρ := ρ2)
  simp only [List.map_cons, List.map_nil] at a1 a2
  have k1 : ∀ x, x = some (n1, PyData.dict ((.none, .str n1) :: r1), PyData.dict ((.none, .str n2) :: r2)) → ((x.bind fun o => (tab.lookup o.1).bind fun m => (gCall m (fun ρ => some ([.v o.2.1, .v o.2.2], ρ)) ρ2).bind fun w => match w.1 with
    | .d (.bool c) => some (PyData.bool (c != ne), w.2)
    | _ => none) = some (.bool (c != ne), ρ2)) := fun x hx => by
    rw [hx, Option.bind_some, m1, Option.bind_some, a1]
    rfl
  have k2 : ∀ x, x = some (n2, PyData.dict ((.none, .str n2) :: r2), PyData.dict ((.none, .str n1) :: r1)) → ((x.bind fun o => (tab.lookup o.1).bind fun m => (gCall m (fun ρ => some ([.v o.2.1, .v o.2.2], ρ)) ρ2).bind fun w => match w.1 with
    | .d (.bool c) => some (PyData.bool (c != ne), w.2)
    | _ => none) = some (.bool (c != ne), ρ2)) := fun x hx => by
    rw [hx, Option.bind_some, m2, Option.bind_some, a2]
    rfl
  by_cases hn : n2 = n1
  · exact k1 _ (by unfold ordO; simp [hn])
  · have hs := hs.resolve_left hn
    obtain ⟨b, hb⟩ := Option.isSome_iff_exists.mp hs
    cases b with
    | true => exact k2 _ (by unfold ordO; simp [hn, hb])
    | false => exact k1 _ (by unfold ordO; simp [hn, hb])
theorem t_strO {tab : MTab} {n : Str} {o : PyData} {m : XF} {y : Str} {es : List EV} {r : List (PyData × PyData)} (ho : o = .dict ((.none, .str n) :: r)) (hm : tab.lookup n = some m) (h : m [.d o] = some (.d (.str y), es)) (hl : es.length = 1)
    {fa : XE} {ρ ρ1 : Nv} (ha : fa ρ = some (o, ρ1)) : xStrO tab fa ρ = some (.str y, ρ1) := by
  subst ho
  unfold xStrO
  rw [ha, Option.bind_some]
  have g := gc_vs (m := m) (ds := [PyData.dict ((.none, .str n) :: r)]) h hl (ρ := ρ1)
  simp only [List.map_cons, List.map_nil] at g
  show (List.lookup n tab).bind _ = _
  rw [hm, Option.bind_some, g]
  rfl
end DL
set_option exponentiation.threshold 5000
set_option maxRecDepth 100000
set_option maxHeartbeats 4000000
namespace K05
open PySem PySem.Spec PyProof.Rows L2 DL
def sg (n : Int) : List Nat := if n < 0 then [45] else []
def iw (n : Int) : List Nat := sg n ++ TL.numL n.natAbs
def P60 : Nat := 10 ^ 60
theorem natAbs_if (n : Int) : (if n < 0 then -n else n) = (n.natAbs : Int) := by split <;> omega
theorem log_of {n : Nat} (h : n < P60) : n.log2 < 1920 := by
  by_cases h0 : n = 0
  · subst h0; decide
  · exact (Nat.log2_lt h0).mpr (Nat.lt_trans h (by decide +kernel))
theorem num60 {n : Nat} (h : n < P60) : (TL.numL n).length ≤ 60 := TL.numL_len (by decide) h
theorem wh_no {c : XT} {b : XS} {n : Nat} {ρ ρ' : Nv} (h : c ρ = some (false, ρ')) : sWh (fun _ => n + 1) c b ρ = some (.nx ρ') := by
  show whL c b (n + 1) ρ = _
  unfold whL
  rw [h]
  rfl
theorem t_word {n : Int} (h : n.natAbs < P60) : m_long_word [.d (.int n)] = some (.d (.str (T (iw n))), [.d (.int n)]) := by
  have a1 : absD (.int n) = some (.int (n.natAbs : Int)) := by simp [absD, natAbs_if]
  have a2 : geD (.int (n.natAbs : Int)) (.int 1000000000000000000000000000000000000000000000000000000000000) = some (.bool false) := by
    have : ¬ (1000000000000000000000000000000000000000000000000000000000000 : Int) ≤ n.natAbs := by
      have e : (1000000000000000000000000000000000000000000000000000000000000 : Int) = (P60 : Nat) := by decide +kernel
      rw [e]
      omega
    simp [geD, this]
  have a3 : fmtD (.int (n.natAbs : Int)) = some (.str (T (TL.numL n.natAbs))) := by
    have : ((n.natAbs : Int)).natAbs.log2 < 1920 := by simpa using log_of h
    simp only [fmtD, if_pos this]
    rw [show ((toString (n.natAbs : Int) : String) : Str) = Str.ofString (toString (n.natAbs : Int)) from rfl, T_num]
  have hl := num60 h
  have a4 : joinO "" [.str (T (TL.numL n.natAbs))] = some (.str (T (TL.numL n.natAbs))) := by
    have e : Txt.join "" [T (TL.numL n.natAbs)] = T (TL.numL n.natAbs) := by rw [TL.join_eq]; apply TL.ext_tl; rw [TL.tl_join]; rfl
    have : (TL.numL n.natAbs).length ≤ 16777216 := by omega
    simp [joinO, strsJ, e, this, show (("" : Str).length) = 0 from rfl]
  have a5 : neD (.str (if n < 0 then ("-" : Str) else "")) (.str "") = some (.bool (decide (n < 0))) := by
    by_cases h0 : n < 0 <;> simp [h0, neD] <;> decide
  have a6 : addD (.str (if n < 0 then ("-" : Str) else "")) (.str (T (TL.numL n.natAbs))) = some (.str (T (iw n))) := by
    have e : (if n < 0 then ("-" : Str) else "") = T (sg n) := by unfold sg; split <;> rfl
    have e2 : (T (sg n)).length + (T (TL.numL n.natAbs)).length ≤ 16777216 := by
      rw [len_Tx, len_Tx]
      have : (sg n).length ≤ 1 := by unfold sg; split <;> simp
      omega
    rw [e]
    unfold addD
    simp only []
    rw [if_pos (by rw [sizeL]; exact e2), T_app]
    rfl
  refine run_wp ?_
  unfold b_long_word
  refine wp_nx (ρ1 := [.d (.int n), .d (.int n.natAbs), .un, .un]) (by simp [a1]) ?_
  refine wp_nx (ρ1 := [.d (.int n), .d (.int n.natAbs), .own (.ol []) false, .un]) (by simp [nLst, allV, sizeL]) ?_
  refine wp_nx (ρ1 := [.d (.int n), .d (.int n.natAbs), .own (.ol []) false, .un]) (wh_no (by simp [a2])) ?_
  refine wp_nx (ρ1 := [.d (.int n), .d (.int n.natAbs), .own (.ol []) false, .d (.str (if n < 0 then ("-" : Str) else ""))]) (by
    by_cases h0 : n < 0 <;> simp [h0]) ?_
  generalize (if n < 0 then ("-" : Str) else "") = S at *
  exact wp_ret (we_of (b := .str (T (iw n))) (ρ' := [.d (.int n), .d (.int n.natAbs), .own (.ol []) false, .d (.str S)]) (by simp [a3, joinS, a4, a6, sizeL]) ⟨_, rfl, rfl⟩)
def ft (q : Rat) : List Nat := if q.den = 1 then iw q.num else iw q.num ++ 47 :: TL.numL q.den
structure Sm (q : Rat) : Prop where
  n : q.num.natAbs < P60
  d : q.den < P60
theorem iw_len {n : Int} (h : n.natAbs < P60) : (iw n).length ≤ 61 := by
  have := num60 h
  have : (sg n).length ≤ 1 := by unfold sg; split <;> simp
  simp only [iw, List.length_append]
  omega
theorem fmtT {l : List Nat} (h : l.length ≤ 16777216) : fmtD (.str (T l)) = some (.str (T l)) := by
  unfold fmtD
  simp only []
  rw [if_pos (by rw [sizeL, len_Tx]; exact h)]
theorem t_ftext {q : Rat} (h : Sm q) : m_fraction_text [.d (qD q)] = some (.d (.str (T (ft q))), [.d (qD q)]) := by
  have e1 := t_word h.n
  have hd : ((q.den : Int)).natAbs < P60 := by simpa using h.d
  have e2 := t_word hd
  have l1 := iw_len h.n
  have l2 := num60 h.d
  have i2 : iw (q.den : Int) = TL.numL q.den := by simp [iw, sg]
  rw [i2] at e2
  have f1 := fmtT (l := iw q.num) (by omega)
  have f2 := fmtT (l := TL.numL q.den) (by omega)
  refine run_wp ?_
  unfold b_fraction_text
  refine wp_nx (ρ1 := [.d (qD q), .d (.str (T (iw q.num))), .d (.int q.den)]) (by simp [qD, e1]) ?_
  refine wp_ret (we_of (b := .str (T (ft q))) (ρ' := [.d (qD q), .d (.str (T (iw q.num))), .d (.int q.den)]) ?_ ⟨_, rfl, rfl⟩)
  by_cases h1 : q.den = 1
  · simp [h1, f1, ft]
  · have h1' : ¬ ((q.den : Int) = 1) := by omega
    have e3 : (("/" : Str)) = T [47] := rfl
    have e4 : Str.empty = T [] := rfl
    have s1 : (iw q.num).length ≤ sizeLine := by rw [sizeL]; omega
    have s2 : (iw q.num).length + 1 ≤ sizeLine := by rw [sizeL]; omega
    have s3 : (iw q.num).length + ((TL.numL q.den).length + 1) ≤ sizeLine := by rw [sizeL]; omega
    simp [h1, h1', f1, e2, f2, e3, e4, T_app, s1, s2, s3, ft]
def SmO (o : Option Rat) : Prop := ∀ q, o = some q → Sm q
theorem comma : TL.tl ("," : Str) = 44 :: [] := rfl
abbrev sT (p : List Nat) : PyData := .str (T p)
theorem noneQ (q : Rat) : noneD (qD q) = false := rfl
theorem addT {a b : List Nat} (h : a.length + b.length ≤ 16777216) : addD (sT a) (sT b) = some (sT (a ++ b)) := by
  show (if (T a).length + (T b).length ≤ sizeLine then some (PyData.str (T a ++ T b)) else none) = _
  rw [len_Tx, len_Tx, if_pos (by rw [sizeL]; exact h), T_app]
def bt : Option Rat → List Nat
  | none => [45]
  | some q => ft q
theorem t_bt {o : Option Rat} (h : SmO o) : m_bound_text [.d (oD o)] = some (.d (.str (T (bt o))), [.d (oD o)]) := by
  cases o with
  | none => simp [m_bound_text, e_run, b_bound_text, bt]; rfl
  | some q =>
    have e := t_ftext (h q rfl)
    simp [m_bound_text, e_run, b_bound_text, bt, noneQ, e]
def ct (f p : Rat) (lo hi : Option Rat) : List Nat := TL.joinL [44] [ft f, ft p, bt lo, bt hi]
theorem ft_len {q : Rat} (h : Sm q) : (ft q).length ≤ 122 := by
  have := iw_len h.n
  have := num60 h.d
  unfold ft
  split
  · omega
  · rw [List.length_append, List.length_cons]; omega
theorem bt_len {o : Option Rat} (h : SmO o) : (bt o).length ≤ 122 := by
  cases o with
  | none => simp [bt]
  | some q => exact ft_len (h q rfl)
theorem join_T (ps : List (List Nat)) : Txt.join "," (ps.map T) = T (TL.joinL [44] ps) := by
  apply TL.ext_tl
  rw [TL.join_eq, TL.tl_join, List.map_map, comma, tl_T]
  congr 1
  exact (List.map_congr_left fun x _ => rfl).trans (List.map_id ps)
theorem joinS_T {ps : List (List Nat)} (h : (ps.map List.length).sum + ps.length ≤ 16777216) : joinS "," (.list (ps.map fun p => .str (T p))) = some (.str (T (TL.joinL [44] ps))) := by
  have e : strsJ (ps.map fun p => PyData.str (T p)) = some (ps.map T) := by
    have := strsJ_map (ps.map T)
    rwa [List.map_map] at this
  show joinO "," _ = _
  unfold joinO
  rw [e, Option.bind_some, join_T, if_pos]
  have e1 : ((ps.map T).map (·.length)) = ps.map List.length := by
    rw [List.map_map]
    exact List.map_congr_left fun x _ => len_Tx x
  rw [e1, List.length_map]
  have : (("," : Str)).length = 1 := rfl
  rw [this]
  omega
theorem t_ct {f p : Rat} {lo hi : Option Rat} (hf : Sm f) (hp : Sm p) (hl : SmO lo) (hh : SmO hi) : m_clause_text [.d (.tuple [qD f, qD p, oD lo, oD hi])] = some (.d (.str (T (ct f p lo hi))), [.d (.tuple [qD f, qD p, oD lo, oD hi])]) := by
  have e1 := t_ftext hf
  have e2 := t_ftext hp
  have e3 := t_bt hl
  have e4 := t_bt hh
  have l1 := ft_len hf
  have l2 := ft_len hp
  have l3 := bt_len hl
  have l4 := bt_len hh
  have ej := joinS_T (ps := [ft f, ft p, bt lo, bt hi]) (by simp; omega)
  simp only [List.map_cons, List.map_nil] at ej
  unfold ct
  generalize TL.joinL [44] [ft f, ft p, bt lo, bt hi] = J at *
  generalize T (ft f) = A at *
  generalize T (ft p) = B at *
  generalize T (bt lo) = C at *
  generalize T (bt hi) = D at *
  generalize oD lo = LO at *
  generalize oD hi = HI at *
  refine run_wp ?_
  unfold b_clause_text
  refine wp_nx (ρ1 := [.d (.tuple [qD f, qD p, LO, HI]), .d (qD f), .d (qD p), .d LO, .d HI]) (by simp) ?_
  exact wp_ret (we_of (b := .str (T J)) (ρ' := [.d (.tuple [qD f, qD p, LO, HI]), .d (qD f), .d (qD p), .d LO, .d HI]) (by simp [e1, e2, e3, e4, ej, sizeL]) ⟨_, rfl, rfl⟩)
/-- a clause that was read has the text that was read -/
theorem T_int (i : Int) : Str.ofString (toString i) = T (iw i) := by
  by_cases h : i < 0
  · obtain ⟨n, rfl⟩ : ∃ n : Nat, i = Int.negSucc n := by
      cases i with
      | ofNat n => exact absurd h (by simp)
      | negSucc n => exact ⟨n, rfl⟩
    apply T_eq
    have e : toString (Int.negSucc n) = "-" ++ toString (((n + 1 : Nat)) : Int) := rfl
    have e2 := TL.tl_num (n + 1)
    rw [TL.tl_ofString] at e2
    rw [e, TL.tl_ofString, String.toList_append, List.map_append, e2]
    have e3 : (Int.negSucc n).natAbs = n + 1 := rfl
    unfold iw sg
    rw [if_pos h, e3]
    rfl
  · have e : i = ((i.natAbs : Nat) : Int) := by omega
    unfold iw sg
    rw [if_neg h]
    conv => lhs; rw [e]
    rw [T_num]
    rfl
theorem strT {i : Int} (h : i.natAbs < P60) : strD (.int i) = some (sT (iw i)) := by
  unfold strD
  simp only []
  rw [if_pos (log_of h)]
  exact congrArg (fun s => some (PyData.str s)) (T_int i)
theorem t_rt {q : Rat} (h : Sm q) : m_l_ratio_text [.d (qD q)] = some (.d (sT (ft q)), [.d (qD q)]) := by
  have e1 := strT h.n
  have e2 := strT (i := (q.den : Int)) (by simpa using h.d)
  have i2 : iw (q.den : Int) = TL.numL q.den := by simp [iw, sg]
  rw [i2] at e2
  have l1 := iw_len h.n
  have l2 := num60 h.d
  have e3 : (PyData.str ("/" : Str)) = sT [47] := rfl
  have d1 := addT (a := iw q.num) (b := [47]) (by simp only [List.length_cons, List.length_nil]; omega)
  have d2 := addT (a := iw q.num ++ [47]) (b := TL.numL q.den) (by simp only [List.length_append, List.length_cons, List.length_nil]; omega)
  refine run_wp ?_
  unfold b_l_ratio_text
  refine wp_ret (we_of (b := sT (ft q)) (ρ' := [.d (qD q)]) ?_ ⟨_, rfl, rfl⟩)
  by_cases h1 : q.den = 1
  · have : ft q = iw q.num := by simp [ft, h1]
    rw [this]
    simp [ix0, ix1, h1, e1]
  · have h1' : ¬ ((q.den : Int) = 1) := by omega
    have : ft q = iw q.num ++ [47] ++ TL.numL q.den := by simp [ft, h1]
    rw [this]
    generalize iw q.num ++ [47] ++ TL.numL q.den = R at *
    generalize iw q.num ++ [47] = R2 at *
    generalize iw q.num = R3 at *
    generalize TL.numL q.den = R4 at *
    rw [e3]
    simp [ix0, ix1, h1', e1, e2, d1, d2]
theorem t_it {f p : Rat} {lo hi : Option Rat} (hf : Sm f) (hp : Sm p) (hl : SmO lo) (hh : SmO hi) : m_l_item_text [.d (.tuple [qD f, qD p, oD lo, oD hi])] = some (.d (sT (ct f p lo hi)), [.d (.tuple [qD f, qD p, oD lo, oD hi])]) := by
  have l1 := ft_len hf
  have l2 := ft_len hp
  have l3 := bt_len hl
  have l4 := bt_len hh
  have ej := joinS_T (ps := [ft f, ft p, bt lo, bt hi]) (by simp; omega)
  have lc : xFz (nLc (iOf (xVar 0)) (gNm 1) (cYes) (xIf (tst (x2 isNonD (xVar 1) (xC .none))) (xC (.str "-")) (xCall (arity 1 m_l_ratio_text) (aCons (xVar 1) (aNil)))) [1]) [.d (.tuple [qD f, qD p, oD lo, oD hi]), .un] = some (.list ([some f, some p, lo, hi].map fun o => sT (bt o)), [.d (.tuple [qD f, qD p, oD lo, oD hi]), .un]) := by
    refine fz_map (k := oD) (xs := [some f, some p, lo, hi]) (fun o => sT (bt o)) (by simp) (by simp [unAt]) (fun o ho => ?_) (by simp)
    have so : SmO o := by
      simp only [List.mem_cons, List.not_mem_nil, or_false] at ho
      rcases ho with rfl | rfl | rfl | rfl
      · intro q h; cases h; exact hf
      · intro q h; cases h; exact hp
      · exact hl
      · exact hh
    cases o with
    | none => simp [e_lcS, wipeN, bt]; rfl
    | some q =>
      have e := t_rt (so q rfl)
      simp [e_lcS, wipeN, bt, noneQ, e]
  refine run_wp ?_
  unfold b_l_item_text
  generalize xFz (nLc (iOf (xVar 0)) (gNm 1) (cYes) (xIf (tst (x2 isNonD (xVar 1) (xC .none))) (xC (.str "-")) (xCall (arity 1 m_l_ratio_text) (aCons (xVar 1) (aNil)))) [1]) = LC at *
  have e2 : ct f p lo hi = TL.joinL [44] [ft f, ft p, bt lo, bt hi] := rfl
  rw [e2]
  simp only [List.map_cons, List.map_nil] at ej lc
  have lc : LC [.d (.tuple [qD f, qD p, oD lo, oD hi]), .un] = some (.list [sT (ft f), sT (ft p), sT (bt lo), sT (bt hi)], [.d (.tuple [qD f, qD p, oD lo, oD hi]), .un]) := lc
  generalize TL.joinL [44] [ft f, ft p, bt lo, bt hi] = J at *
  exact wp_ret (we_of (b := sT J) (ρ' := [.d (.tuple [qD f, qD p, oD lo, oD hi]), .un]) (by simp [lc, ej]) ⟨_, rfl, rfl⟩)
end K05
set_option exponentiation.threshold 5000
set_option maxRecDepth 100000
set_option maxHeartbeats 4000000
namespace K05
open PySem PySem.Spec PyProof.Rows L2 DL
open P1 (s0 s1 q0 q1 so so_none so_some idC chL sq_ap so_ea sc_ch2 sc_id nn_o Raw)
theorem p_chained : m_chained = P1.m_chained := rfl
theorem p_fraction_product : m_fraction_product = P1.m_fraction_product := rfl
theorem p_applied : m_applied = P1.m_applied := rfl
theorem p_normal : m_normal_form = P1.m_normal_form := rfl
theorem p_const : m_constant_clause = P1.m_constant_clause := rfl
theorem p_l_raw : m_l_raw = P1.m_l_raw := rfl
theorem p_l_const : m_l_constant = P1.m_l_constant := rfl
theorem p_l_bounded : m_l_bounded = P1.m_l_bounded := rfl
theorem p_l_amounts : m_l_amounts = P1.m_l_amounts := rfl
theorem p_l_feed : m_l_feed = P1.m_l_feed := rfl
abbrev gC : XT := tst (x2 neD (xVar 1) (xC (.int 0)))
abbrev gB : XS := sPar 0 1 (xVar 1) (x2 modD (xVar 0) (xVar 1))
theorem gcd_loopS : ∀ (n : Nat) (i j : Int), 0 ≤ j → j.natAbs < n → ∃ g : Int, whL gC gB n [.d (.int i), .d (.int j)] = some (.nx [.d (.int g), .d (.int 0)]) ∧ g.natAbs = Int.gcd i j ∧ (0 ≤ i → 0 ≤ g)
  | 0, _, _, _, h => absurd h (Nat.not_lt_zero _)
  | n + 1, i, j, h0, h => by
    by_cases hj : j = 0
    · subst hj
      refine ⟨i, by simp [whL, gC], by simp, fun h => h⟩
    · have hp : 0 < j := by omega
      have h1 := Int.emod_nonneg i hj
      have h2 := Int.emod_lt_of_pos i hp
      obtain ⟨g, e, q1, q2⟩ := gcd_loopS n j (i % j) h1 (by omega)
      refine ⟨g, ?_, by rw [q1, P1.gcd_step], fun _ => q2 (by omega)⟩
      rw [← e]
      simp [whL, gC, gB, hj, o_mod hp]
theorem t_gcd (i j : Int) : m_l_gcd [.d (.int i), .d (.int j)] = some (.d (.int (Int.gcd i j)), [.d (.int i), .d (.int j)]) := by
  have a1 : 0 ≤ (if i < 0 then -i else i) := by omega
  have a2 : 0 ≤ (if j < 0 then -j else j) := by omega
  obtain ⟨g, e, q1, q2⟩ := gcd_loopS ((if j < 0 then -j else j).natAbs + 1) (if i < 0 then -i else i) (if j < 0 then -j else j) a2 (by omega)
  have eg : g = (Int.gcd i j : Int) := by
    have q3 := q2 a1
    have e1 : Int.gcd (if i < 0 then -i else i) (if j < 0 then -j else j) = Int.gcd i j := by
      have n1 : (if i < 0 then -i else i).natAbs = i.natAbs := by omega
      have n2 : (if j < 0 then -j else j).natAbs = j.natAbs := by omega
      unfold Int.gcd
      rw [n1, n2]
    rw [e1] at q1
    omega
  subst eg
  simp [m_l_gcd, e_run, b_l_gcd, sWh, gcdFuel, e, absD]
theorem t_l_ratio {n d : Int} (hd : 0 < d) (hb : d.natAbs < 2 ^ 4000) : m_l_ratio [.d (.int n), .d (.int d)] = some (.d (qD (Rat.divInt n d)), [.d (.int n), .d (.int d)]) := by
  have f := fun i => o_fdivB (i := i) (gcd_posB (n := n) (d := d) (by omega)) (gcd_ltB (n := n) (by omega) hb)
  rw [qD_frac hd]
  simp [m_l_ratio, e_run, b_l_ratio, t_gcd, hd, f, sizeL]
section
variable {x y : Rat} {a b : Nat} (hx : Sq a x) (hy : Sq b y)
include hx hy
theorem t_l_add (h : a + b + 1 ≤ 4000) : m_l_add [.d (qD x), .d (qD y)] = some (.d (qD (x + y)), [.d (qD x), .d (qD y)]) := by
  obtain ⟨h1, h2, h3⟩ := sq_add_parts hx hy
  have hx' := hx.mono (show a ≤ 4000 by omega)
  have hy' := hy.mono (show b ≤ 4000 by omega)
  have e := t_l_ratio (n := x.num * (y.den : Int) + y.num * (x.den : Int)) h3 (Nat.lt_of_lt_of_le h2 (pow_le h))
  rw [add_frac] at e
  simp [m_l_add, e_run, b_l_add, ix0, ix1, o_mulB hx'.n (den_lt hy'), o_mulB hy'.n (den_lt hx'), o_mulB (den_lt hx') (den_lt hy'), e]
theorem t_l_times (h : a + b + 1 ≤ 4000) : m_l_times [.d (qD x), .d (qD y)] = some (.d (qD (x * y)), [.d (qD x), .d (qD y)]) := by
  obtain ⟨h1, h2, h3⟩ := sq_mul_parts hx hy
  have hx' := hx.mono (show a ≤ 4000 by omega)
  have hy' := hy.mono (show b ≤ 4000 by omega)
  have e := t_l_ratio (n := x.num * y.num) h3 (Nat.lt_of_lt_of_le h2 (pow_le (show a + b ≤ 4000 by omega)))
  rw [mul_frac] at e
  simp [m_l_times, e_run, b_l_times, ix0, ix1, o_mulB hx'.n hy'.n, o_mulB (den_lt hx') (den_lt hy'), e]
end
theorem t_l_apply {c : RQ.Cl} {x : Rat} {b : Nat} (hc : Sc b c) (hx : Sq b x) (wc : RQ.WF c) (h : 6 * b + 20 ≤ 4000) : m_l_apply [.d (cD c), .d (qD x)] = some (.d (qD (RQ.ap c x)), [.d (cD c), .d (qD x)]) := by
  have e1 := t_l_times hc.f hx (by omega)
  have s1 := hc.f.mul hx
  have e2 := t_l_add s1 hc.p (by omega)
  have s2 := s1.add hc.p
  have e3 := P1.t_l_bounded (b := b + b + b + 1) (s2.mono (by omega)) (fun q e => (hc.lo q e).mono (by omega)) (fun q e => (hc.hi q e).mono (by omega)) (by omega) (RQ.lt_le wc.2.2)
  simp [m_l_apply, e_run, b_l_apply, P1.ixc0, P1.ixc1, P1.ixc2, P1.ixc3, e1, e2, p_l_bounded, e3, RQ.ap]
theorem t_l_normal {f p : Rat} {lo hi : Option Rat} {b : Nat} (hp : Sq b p) (hl : so b lo) (hh : so b hi) (h : 2 * b + 3 ≤ 4000) (hle : RQ.leO lo hi) :
    m_l_normal [.d (qD f), .d (qD p), .d (oD lo), .d (oD hi)] = some (.d (cD (RQ.nf f p lo hi)), [.d (qD f), .d (qD p), .d (oD lo), .d (oD hi)]) := P1.t_l_normal hp hl hh h hle
theorem t_l_then {a c : RQ.Cl} {b : Nat} (ha : Sc b a) (hc : Sc b c) (wa : RQ.WF a) (wc : RQ.WF c) (h : 9 * b + 30 ≤ 4000) : m_l_then [.d (cD a), .d (cD c)] = some (.d (cD (RQ.ch2 a c)), [.d (cD a), .d (cD c)]) := by
  have e1 := t_l_apply hc ha.p wc (by omega)
  have e2 := t_l_times hc.f ha.p (by omega)
  have s2 := hc.f.mul ha.p
  have e3 := t_l_add s2 hc.p (by omega)
  have s3 := s2.add hc.p
  have e4 := t_l_times ha.f hc.f (by omega)
  have e7 := t_l_normal (f := a.f * c.f) (p := c.f * a.p + c.p) (lo := RQ.ea a.lo c c.lo) (hi := RQ.ea a.hi c c.hi) (b := b + 2 * b + 1)
    (s3.mono (by omega)) (so_ea hc ha.lo).1 (so_ea hc ha.hi).2 (by omega) (RQ.ea_le (RQ.lt_le wa.2.2) wc)
  by_cases h1 : a.f = 0
  · have hz : RQ.ch2 a c = RQ.cst (RQ.ap c a.p) := by simp [RQ.ch2, h1]
    rw [hz]
    simp [m_l_then, e_run, b_l_then, P1.ixc0, P1.ixc1, eq_qq, h1, e1, sizeL, q0, p_l_const, P1.t_l_const]
    rfl
  by_cases h2 : c.f = 0
  · have hz : RQ.ch2 a c = RQ.cst (RQ.ap c a.p) := by simp [RQ.ch2, h2]
    rw [hz]
    simp [m_l_then, e_run, b_l_then, P1.ixc0, P1.ixc1, eq_qq, h1, h2, e1, sizeL, q0, p_l_const, P1.t_l_const]
    rfl
  have hz : RQ.ch2 a c = RQ.nf (a.f * c.f) (c.f * a.p + c.p) (RQ.ea a.lo c c.lo) (RQ.ea a.hi c c.hi) := by simp [RQ.ch2, h1, h2]
  rw [hz]
  have el : xIf (tst (x2 isNonD (x2 idxD (xVar 0) (xC (.int 2))) (xC .none))) (x2 idxD (xVar 1) (xC (.int 2))) (xCall (arity 2 m_l_apply) (aCons (xVar 1) (aCons (x2 idxD (xVar 0) (xC (.int 2))) (aNil)))) [.d (cD a), .d (cD c), .un, .un, .un] = some (oD (RQ.ea a.lo c c.lo), [.d (cD a), .d (cD c), .un, .un, .un]) := by
    cases e : a.lo with
    | none => simp [P1.ixc2, e, RQ.ea]
    | some l =>
      have := t_l_apply hc (ha.lo l e) wc (by omega)
      simp [P1.ixc2, e, RQ.ea, this]
  have eh : ∀ z, xIf (tst (x2 isNonD (x2 idxD (xVar 0) (xC (.int 3))) (xC .none))) (x2 idxD (xVar 1) (xC (.int 3))) (xCall (arity 2 m_l_apply) (aCons (xVar 1) (aCons (x2 idxD (xVar 0) (xC (.int 3))) (aNil)))) [.d (cD a), .d (cD c), z, .un, .un] = some (oD (RQ.ea a.hi c c.hi), [.d (cD a), .d (cD c), z, .un, .un]) := fun z => by
    cases e : a.hi with
    | none => simp [P1.ixc3, e, RQ.ea]
    | some l =>
      have := t_l_apply hc (ha.hi l e) wc (by omega)
      simp [P1.ixc3, e, RQ.ea, this]
  generalize RQ.ea a.lo c c.lo = LO at *
  generalize RQ.ea a.hi c c.hi = HI at *
  unfold m_l_then
  rw [e_run]
  unfold b_l_then
  generalize xIf (tst (x2 isNonD (x2 idxD (xVar 0) (xC (.int 2))) (xC .none))) (x2 idxD (xVar 1) (xC (.int 2))) (xCall (arity 2 m_l_apply) (aCons (xVar 1) (aCons (x2 idxD (xVar 0) (xC (.int 2))) (aNil)))) = EL at *
  generalize xIf (tst (x2 isNonD (x2 idxD (xVar 0) (xC (.int 3))) (xC .none))) (x2 idxD (xVar 1) (xC (.int 3))) (xCall (arity 2 m_l_apply) (aCons (xVar 1) (aCons (x2 idxD (xVar 0) (xC (.int 3))) (aNil)))) = EH at *
  simp [P1.ixc0, P1.ixc1, eq_qq, h1, h2, q0, sizeL, el, eh, e2, e3, e4, e7]
theorem t_lchL {e0 : EV} {b : Nat} : ∀ (cs : List RQ.Cl) {x : RQ.Cl} {a : Nat} {e2 : EV}, Fs e2 → Sc a x → RQ.WF x → (∀ c ∈ cs, Sc b c ∧ RQ.WF c) → b ≤ a → 9 * (a + (2 * b + 1) * cs.length) + 30 ≤ 4000 →
    ∃ f2, forL (gNm 2) (sSet 1 (xCall (arity 2 m_l_then) (aCons (xVar 1) (aCons (xVar 2) (aNil))))) (cs.map cD) [e0, .d (cD x), e2] = some (.nx [e0, .d (cD (cs.foldl RQ.ch2 x)), f2])
  | [], x, a, e2, _, _, _, _, _, _ => ⟨e2, rfl⟩
  | c :: cs, x, a, e2, h2, hx, wx, hc, hb, hl => by
    have hm : (2 * b + 1) * (c :: cs).length = (2 * b + 1) * cs.length + (2 * b + 1) := Nat.mul_succ _ _
    obtain ⟨c0, w0⟩ := hc c List.mem_cons_self
    have e1 := t_l_then hx (P1.Sc.mono c0 hb) wx w0 (by omega)
    obtain ⟨f2, e⟩ := t_lchL (e0 := e0) cs (e2 := .d (cD c)) (by simp) (sc_ch2 hx c0) (RQ.wf_ch2 wx w0) (fun y hy => hc y (List.mem_cons_of_mem _ hy)) (by omega) (by omega)
    exact ⟨f2, forC_nx (ρ1 := [e0, .d (cD x), .d (cD c)]) (by simp [free_fs h2]) (by simp [e1]) e⟩
/-- the law's chain of a tuple of clauses -/
theorem t_l_chain {b : Nat} {cs : List RQ.Cl} (hc : ∀ c ∈ cs, Sc b c ∧ RQ.WF c) (hb : 1 ≤ b) (hl : 9 * (b + (2 * b + 1) * cs.length) + 30 ≤ 4000) : m_l_chain [.d (.tuple (cs.map cD))] = some (.d (cD (chL cs)), [.d (.tuple (cs.map cD))]) := by
  obtain ⟨f2, e⟩ := t_lchL (e0 := .d (.tuple (cs.map cD))) cs (e2 := .un) (by simp) (P1.Sc.mono sc_id hb) P1.wf_id hc (Nat.le_refl _) hl
  refine run_rt (ρ := [.d (.tuple (cs.map cD)), .d (cD (chL cs)), f2]) ?_
  show b_l_chain [.d (.tuple (cs.map cD)), .un, .un] = _
  unfold b_l_chain
  refine seq_nx (ρ1 := [.d (.tuple (cs.map cD)), .d (cD idC), .un]) (by simp [sizeL]; rfl) ?_
  refine seq_nx (for_of (ds := cs.map cD) (by simp) e) ?_
  simp [chL]
end K05
set_option exponentiation.threshold 5000
set_option maxRecDepth 100000
set_option maxHeartbeats 4000000
namespace K05
open PySem PySem.Spec PyProof.Rows L2 DL
open P1 (s0 s1 q0 q1 so so_none so_some idC chL sq_ap so_ea sc_ch2 sc_id nn_o Raw)
section
variable {n : Str} {m2 : XF} {o : PyData} {r : List (PyData × PyData)} {cs : List RQ.Cl} {b : Nat} (ho : o = .dict ((.none, .str n) :: r)) (h2 : m2 [.d o] = some (.d (.tuple (cs.map cD)), [.d o])) (hl : cs.length ≤ 10)
include ho h2 hl
theorem pt_Scaled {f : Rat} (hf : fldD clsN "factor" o = some (qD f)) : runF 2 (b_Scaled_parts n m2) [.d o] = some (.d (.tuple ((cs ++ [RQ.nf f 0 none none]).map cD)), [.d o]) := by
  have e1 := t_sup ho h2 rfl (ρ := [.un])
  have e2 := P1.t_normal (f := f) (p := 0) (lo := none) (hi := none) (b := 1) s0 (so_none _) (so_none _) (by decide)
  simp only [oD_none] at e2
  have hz : cs.length + 1 ≤ 16777216 := by omega
  generalize RQ.nf f 0 none none = C at *
  simp [e_run, b_Scaled_parts, e1, hf, q0, p_normal, e2, addD, sizeL, hz]
theorem pt_Shifted {p : Rat} (hp : Sq b p) (hb : 2 * b + 3 ≤ 4000) (hf : fldD clsN "plus" o = some (qD p)) : runF 2 (b_Shifted_parts n m2) [.d o] = some (.d (.tuple ((cs ++ [RQ.nf 1 p none none]).map cD)), [.d o]) := by
  have e1 := t_sup ho h2 rfl (ρ := [.un])
  have e2 := P1.t_normal (f := 1) (p := p) (lo := none) (hi := none) (b := b) hp (so_none _) (so_none _) hb
  simp only [oD_none] at e2
  have hz : cs.length + 1 ≤ 16777216 := by omega
  generalize RQ.nf 1 p none none = C at *
  simp [e_run, b_Shifted_parts, e1, hf, q1, p_normal, e2, addD, sizeL, hz]
theorem pt_Bounded {lo hi : Option Rat} (s1' : so b lo) (s2' : so b hi) (hb : 2 * b + 3 ≤ 4000) (h1 : 1 ≤ b) (hf : fldD clsN "low" o = some (oD lo)) (hg : fldD clsN "high" o = some (oD hi)) : runF 2 (b_Bounded_parts n m2) [.d o] = some (.d (.tuple ((cs ++ [RQ.nf 1 0 lo hi]).map cD)), [.d o]) := by
  have e1 := t_sup ho h2 rfl (ρ := [.un])
  have e2 := P1.t_normal (f := 1) (p := 0) (lo := lo) (hi := hi) (b := b) (s0.mono h1) s1' s2' hb
  have hz : cs.length + 1 ≤ 16777216 := by omega
  generalize RQ.nf 1 0 lo hi = C at *
  simp [e_run, b_Bounded_parts, e1, hf, hg, q0, q1, p_normal, e2, addD, sizeL, hz]
theorem pt_Fixed {p : Rat} (hf : fldD clsN "constant" o = some (qD p)) : runF 2 (b_Fixed_parts n m2) [.d o] = some (.d (.tuple ((cs ++ [RQ.cst p]).map cD)), [.d o]) := by
  have e1 := t_sup ho h2 rfl (ρ := [.un])
  have e2 : P1.m_constant_clause [.d (qD p)] = some (.d (cD (RQ.cst p)), [.d (qD p)]) := P1.t_const _
  have hz : cs.length + 1 ≤ 16777216 := by omega
  generalize RQ.cst p = C at *
  simp [e_run, b_Fixed_parts, e1, hf, p_const, e2, addD, sizeL, hz]
end
theorem pt_Clause (o : PyData) : m_Clause_parts [.d o] = some (.d (.tuple ((([] : List RQ.Cl)).map cD)), [.d o]) := by
  simp [m_Clause_parts, e_run, b_Clause_parts, sizeL]
structure Ob (o : PyData) (cs : List RQ.Cl) : Prop where
  ex : ∃ n r m, o = .dict ((.none, .str n) :: r) ∧ clsN.contains n = true ∧ lookF "parts" r = none ∧ lookF "form" r = none ∧ lookF "result_of" r = none ∧ tab_parts.lookup n = some m ∧ m [.d o] = some (.d (.tuple (cs.map cD)), [.d o])
  len : cs.length ≤ 3
  ok : ∀ c ∈ cs, Sc 22 c ∧ RQ.WF c
  sc : Sc 88 (chL cs)
theorem Ob.wf {o : PyData} {cs : List RQ.Cl} (h : Ob o cs) : RQ.WF (chL cs) := P1.wf_ch fun c hc => (h.ok c hc).2
theorem Ob.parts {o : PyData} {cs : List RQ.Cl} (h : Ob o cs) : MCall tab_parts "parts" o [] (.tuple (cs.map cD)) := by
  obtain ⟨n, r, m, e, _, h1, _, _, h4, h5⟩ := h.ex
  exact ⟨n, r, m, _, e, h1, h4, h5, rfl⟩
theorem look_same {tab : MTab} {m : XF} (h : tab.all (fun p => clsN.contains p.1) = true) (hm : ∀ p ∈ tab, p.2 = m) (hk : tab.map (·.1) = clsN) {n : Str} (hn : clsN.contains n = true) : tab.lookup n = some m := by
  have : n ∈ tab.map (·.1) := by rw [hk]; simpa using hn
  cases e : tab.lookup n with
  | none =>
    exfalso
    have := List.lookup_eq_none_iff.mp e
    rename_i h1 
    obtain ⟨p, hp, rfl⟩ := List.mem_map.mp h1
    have := this p hp
    simp at this
  | some m' =>
    have := PySem.mem_of_lookup e
    rw [← hm _ this]
theorem f_form {n : Str} (hn : clsN.contains n = true) : tab_form.lookup n = some m_Clause_form := look_same (by decide +kernel) (by intro p hp; simp only [tab_form, List.mem_cons, List.not_mem_nil, or_false] at hp; rcases hp with rfl | rfl | rfl | rfl | rfl | rfl | rfl | rfl | rfl | rfl | rfl | rfl <;> rfl) rfl hn
theorem f_res {n : Str} (hn : clsN.contains n = true) : tab_result_of.lookup n = some m_Clause_result_of := look_same (by decide +kernel) (by intro p hp; simp only [tab_result_of, List.mem_cons, List.not_mem_nil, or_false] at hp; rcases hp with rfl | rfl | rfl | rfl | rfl | rfl | rfl | rfl | rfl | rfl | rfl | rfl <;> rfl) rfl hn
theorem f_resk {n : Str} (hn : clsN.contains n = true) : tab_result_of_amount.lookup n = some m_Clause_result_of_k_amount := look_same (by decide +kernel) (by intro p hp; simp only [tab_result_of_amount, List.mem_cons, List.not_mem_nil, or_false] at hp; rcases hp with rfl | rfl | rfl | rfl | rfl | rfl | rfl | rfl | rfl | rfl | rfl | rfl <;> rfl) rfl hn
theorem f_eq {n : Str} (hn : clsN.contains n = true) : tab_eq.lookup n = some m_Clause_eq := look_same (by decide +kernel) (by intro p hp; simp only [tab_eq, List.mem_cons, List.not_mem_nil, or_false] at hp; rcases hp with rfl | rfl | rfl | rfl | rfl | rfl | rfl | rfl | rfl | rfl | rfl | rfl <;> rfl) rfl hn
theorem f_str {n : Str} (hn : clsN.contains n = true) : tab_str.lookup n = some m_Clause_str := look_same (by decide +kernel) (by intro p hp; simp only [tab_str, List.mem_cons, List.not_mem_nil, or_false] at hp; rcases hp with rfl | rfl | rfl | rfl | rfl | rfl | rfl | rfl | rfl | rfl | rfl | rfl <;> rfl) rfl hn
theorem f_is {n : Str} (hn : clsN.contains n = true) : isT_Clause.lookup n = some true := by
  have h : ∀ x ∈ clsN, isT_Clause.lookup x = some true := List.forall_mem_iff_forall_getElem.mpr (by decide +kernel)
  exact h n (by simpa using hn)
theorem f_sub {n1 n2 : Str} (h1 : clsN.contains n1 = true) (h2 : clsN.contains n2 = true) : n2 = n1 ∨ (subT.lookup (n2, n1)).isSome = true := by
  have h : (clsN.all fun x => clsN.all fun y => y == x || (subT.lookup (y, x)).isSome) = true := by decide +kernel
  have := List.all_eq_true.mp (List.all_eq_true.mp h n1 (by simpa using h1)) n2 (by simpa using h2)
  simpa using this
theorem t_form {o : PyData} {cs : List RQ.Cl} (h : Ob o cs) : m_Clause_form [.d o] = some (.d (cD (chL cs)), [.d o]) := by
  have e1 := t_mS0 h.parts (i := 0) (ρ := [.d o, .un]) rfl
  have e2 := P1.t_chained (b := 22) (cs := cs) (fun c hc => (h.ok c hc).1) (by decide) (by have := h.len; omega)
  generalize chL cs = C at *
  have e3 : xCall m_chained (aStar (xVar 1)) [.d o, .d (.tuple (cs.map cD))] = some (cD C, [.d o, .d (.tuple (cs.map cD))]) := call_starT (ds := cs.map cD) (by simp) (by rw [p_chained, List.map_map]; exact e2)
  refine run_wp ?_
  unfold b_Clause_form
  refine wp_nx (ρ1 := [.d o, .d (.tuple (cs.map cD))]) (by simp [e1]) ?_
  exact wp_ret (we_of e3 ⟨_, rfl, rfl⟩)
theorem Ob.form {o : PyData} {cs : List RQ.Cl} (h : Ob o cs) : MCall tab_form "form" o [] (cD (chL cs)) := by
  obtain ⟨n, r, m, e, hn, _, h2, _, h4, h5⟩ := h.ex
  exact ⟨n, r, _, _, e, h2, f_form hn, t_form h, rfl⟩
theorem t_res {o : PyData} {cs : List RQ.Cl} {x : Rat} (h : Ob o cs) (hx : Sq 88 x) : m_Clause_result_of [.d o, .d (qD x)] = some (.d (qD (RQ.ap (chL cs) x)), [.d o, .d (qD x)]) := by
  have e1 := t_mS0 h.form (i := 0) (ρ := [.d o, .d (qD x)]) rfl
  have e2 := P1.t_applied h.sc hx (by decide)
  generalize chL cs = C at *
  simp [m_Clause_result_of, e_run, b_Clause_result_of, e1, p_applied, e2]
theorem Ob.res {o : PyData} {cs : List RQ.Cl} {x : Rat} (h : Ob o cs) (hx : Sq 88 x) : MCall tab_result_of "result_of" o [qD x] (qD (RQ.ap (chL cs) x)) := by
  obtain ⟨n, r, m, e, hn, _, _, h2, h4, h5⟩ := h.ex
  exact ⟨n, r, _, _, e, h2, f_res hn, t_res h hx, rfl⟩
theorem Ob.resk {o : PyData} {cs : List RQ.Cl} {x : Rat} (h : Ob o cs) (hx : Sq 88 x) : MCall tab_result_of_amount "result_of" o [qD x] (qD (RQ.ap (chL cs) x)) := by
  obtain ⟨n, r, m, e, hn, _, _, h2, h4, h5⟩ := h.ex
  refine ⟨n, r, _, [.d o, .d (qD x)], e, h2, f_resk hn, ?_, rfl⟩
  have e1 := t_res h hx
  unfold m_Clause_result_of_k_amount selF
  simp only [List.map_cons, List.map_nil, avs, Option.map_some, Option.bind_some, e_pickL, e_pickN, List.getElem?_cons_zero, List.getElem?_cons_succ, e_slots0, e_slots1, List.nodup_nil, if_true, e_ent0, e_ent1, e1]
  rfl
end K05
set_option exponentiation.threshold 5000
set_option maxRecDepth 100000
set_option maxHeartbeats 4000000
namespace K05
open PySem PySem.Spec PyProof.Rows L2 DL
open P1 (s0 s1 q0 q1 so so_none so_some idC chL sq_ap so_ea sc_ch2 sc_id nn_o Raw)
abbrev rawD (f p : Rat) (lo hi : Option Rat) : PyData := .tuple [qD f, qD p, oD lo, oD hi]
def AS (l : List Nat) : Prop := ∀ c ∈ l, c < 128
def ASs (L : List (List Nat)) : Prop := ∀ p ∈ L, AS p
def tot (L : List (List Nat)) : Nat := (L.map List.length).sum + L.length
theorem join_le : ∀ L : List (List Nat), (TL.joinL [44] L).length ≤ tot L
  | [] => by simp [TL.joinL]
  | [p] => by simp [TL.joinL, tot]
  | p :: q :: r => by
    have := join_le (q :: r)
    have e : tot (p :: q :: r) = p.length + 1 + tot (q :: r) := by simp [tot]; omega
    show (p ++ ([44] ++ TL.joinL [44] (q :: r))).length ≤ _
    simp only [List.length_append, List.length_cons, List.length_nil] at *
    omega
theorem join_as : ∀ {L : List (List Nat)}, ASs L → AS (TL.joinL [44] L)
  | [], h => fun c hc => by simp [TL.joinL] at hc
  | [p], h => h p (by simp)
  | p :: q :: r, h => fun c hc => by
    have i := join_as (L := q :: r) fun x hx => h x (List.mem_cons_of_mem _ hx)
    have hc : c ∈ p ++ ([44] ++ TL.joinL [44] (q :: r)) := hc
    rcases List.mem_append.mp hc with hc | hc
    · exact h p (by simp) c hc
    · rcases List.mem_append.mp hc with hc | hc
      · rw [List.mem_singleton.mp hc]; decide
      · exact i c hc
theorem num_as {n : Nat} : AS (TL.numL n) := fun c hc => by have := numL_in hc; omega
theorem ft_as (q : Rat) : AS (ft q) := by
  have a : AS (iw q.num) := fun c hc => by
    rcases List.mem_append.mp hc with h | h
    · unfold sg at h
      split at h
      · rw [List.mem_singleton.mp h]; decide
      · simp at h
    · exact num_as c h
  unfold ft
  split
  · exact a
  · intro c hc
    rcases List.mem_append.mp hc with h | h
    · exact a c h
    · rcases List.mem_cons.mp h with rfl | h
      · decide
      · exact num_as c h
theorem bt_as (o : Option Rat) : AS (bt o) := by
  cases o with
  | none => exact fun c hc => by rw [List.mem_singleton.mp hc]; decide
  | some q => exact ft_as q
theorem ct_as (f p : Rat) (lo hi : Option Rat) : AS (ct f p lo hi) := join_as fun x hx => by
  simp only [List.mem_cons, List.not_mem_nil, or_false] at hx
  rcases hx with rfl | rfl | rfl | rfl
  · exact ft_as _
  · exact ft_as _
  · exact bt_as _
  · exact bt_as _
theorem ct_len {f p : Rat} {lo hi : Option Rat} (hf : Sm f) (hp : Sm p) (hl : SmO lo) (hh : SmO hi) : (ct f p lo hi).length ≤ 500 := by
  have l1 := ft_len hf
  have l2 := ft_len hp
  have l3 := bt_len hl
  have l4 := bt_len hh
  have := join_le [ft f, ft p, bt lo, bt hi]
  have e : tot [ft f, ft p, bt lo, bt hi] = (ft f).length + ((ft p).length + ((bt lo).length + (bt hi).length)) + 4 := by simp [tot]
  unfold ct
  omega
/-- what may be shown -/
structure Nz (D S : Nat) (x : PyData) : Prop where
  o : ok (10 ^ 59) x = true
  d : x.depth ≤ D
  s : sz x ≤ S
structure NzA (D S : Nat) (xs : List PyData) : Prop where
  o : okA (10 ^ 59) xs = true
  d : PyData.depthAll xs ≤ D
  s : szA xs ≤ S
theorem Nz.rep {D S : Nat} {x : PyData} (h : Nz D S x) (hD : D ≤ 60) (hS : S ≤ 16777216) : reprD x = some (.str x.shown) := repr_ok (show (10 : Nat) ^ 59 < 10 ^ 60 by decide +kernel) h.o (Nat.le_trans h.d hD) (Nat.le_trans h.s hS)
theorem NzA.nil {D : Nat} : NzA D 0 [] := ⟨by simp [okA], by simp [PyData.depthAll], by simp [szA]⟩
theorem NzA.cons {D S T : Nat} {x : PyData} {xs : List PyData} (h : Nz D S x) (t : NzA D T xs) : NzA D (S + 2 + T) (x :: xs) := by
  refine ⟨by simp [okA, h.o, t.o], ?_, ?_⟩
  · have h1 := h.d
    have h2 := t.d
    simp only [PyData.depthAll]
    omega
  · have h1 := h.s
    have h2 := t.s
    simp only [szA]
    omega
theorem NzA.tup {D S : Nat} {xs : List PyData} (h : NzA D S xs) : Nz (D + 1) (S + 8) (.tuple xs) := by
  refine ⟨by simp [ok, h.o], ?_, ?_⟩
  · have h1 := h.d
    simp only [PyData.depth]
    omega
  · have h1 := h.s
    simp only [sz]
    omega
theorem NzA.lst {D S : Nat} {xs : List PyData} (h : NzA D S xs) : Nz (D + 1) (S + 8) (.list xs) := by
  refine ⟨by simp [ok, h.o], ?_, ?_⟩
  · have h1 := h.d
    simp only [PyData.depth]
    omega
  · have h1 := h.s
    simp only [sz]
    omega
theorem Nz.mono {D E S T : Nat} {x : PyData} (h : Nz D S x) (hD : D ≤ E) (hS : S ≤ T) : Nz E T x := ⟨h.o, Nat.le_trans h.d hD, Nat.le_trans h.s hS⟩
theorem nz_q {q : Rat} {b : Nat} (h : Sq b q) (hb : b ≤ 195) : Nz 2 2000 (qD q) := by
  have h1 : q.num.natAbs ≤ 10 ^ 59 := Nat.le_trans (Nat.le_of_lt (Nat.lt_of_lt_of_le h.n (pow_le hb))) (by decide +kernel)
  have h2 : q.den ≤ 10 ^ 59 := Nat.le_trans (Nat.le_of_lt (Nat.lt_of_lt_of_le h.d (pow_le hb))) (by decide +kernel)
  refine ⟨?_, ?_, ?_⟩
  · simp only [qD, ok, okA, Bool.and_true, Bool.and_eq_true, decide_eq_true_eq]
    exact ⟨h1, h2⟩
  · simp [qD, PyData.depth, PyData.depthAll]
  · simp [qD, sz, szA]
theorem nz_o {q : Option Rat} {b : Nat} (h : so b q) (hb : b ≤ 195) : Nz 2 2000 (oD q) := by
  cases q with
  | none => exact ⟨by simp [ok], by simp [PyData.depth], by simp [sz]⟩
  | some q => exact nz_q (h q rfl) hb
theorem nz_c {c : RQ.Cl} {b : Nat} (h : Sc b c) (hb : b ≤ 195) : Nz 3 9000 (cD c) :=
  (NzA.cons (nz_q h.f hb) (.cons (nz_q h.p hb) (.cons (nz_o h.lo hb) (.cons (nz_o h.hi hb) .nil)))).tup.mono (by decide) (by decide)
theorem nz_raw {f p : Rat} {lo hi : Option Rat} (r : P1.Raw f p lo hi) : Nz 3 9000 (rawD f p lo hi) := nz_c (b := 14) (c := ⟨f, p, lo, hi⟩) r.sc (by decide)
theorem ne_ss (s : Str) : neD (.str s) (.str s) = some (.bool false) := by simp [neD]
theorem eq_ss (s : Str) : eqD (.str s) (.str s) = some (.bool true) := by simp [eqD]
end K05
set_option exponentiation.threshold 5000
set_option maxRecDepth 100000
set_option maxHeartbeats 4000000
namespace K05
open PySem PySem.Spec PyProof.Rows L2 DL
open P1 (s0 s1 q0 q1 so so_none so_some idC chL sq_ap so_ea sc_ch2 sc_id nn_o Raw)
theorem sm_sq {q : Rat} {b : Nat} (h : Sq b q) (hb : b ≤ 190) : Sm q := by
  have e : 2 ^ 190 < P60 := by decide +kernel
  exact ⟨Nat.lt_trans (Nat.lt_of_lt_of_le h.n (pow_le hb)) e, Nat.lt_trans (Nat.lt_of_lt_of_le h.d (pow_le hb)) e⟩
theorem smo {o : Option Rat} {b : Nat} (h : so b o) (hb : b ≤ 190) : SmO o := fun q e => sm_sq (h q e) hb
def ctC (c : RQ.Cl) : List Nat := ct c.f c.p c.lo c.hi
theorem nz_t {c : RQ.Cl} {b : Nat} (h : Sc b c) (hb : b ≤ 190) : Nz 1 7000 (sT (ctC c)) := by
  have hl := ct_len (sm_sq h.f hb) (sm_sq h.p hb) (smo h.lo hb) (smo h.hi hb)
  have ha := ct_as c.f c.p c.lo c.hi
  refine ⟨?_, by simp [PyData.depth], ?_⟩
  · simp only [ok]
    exact List.all_eq_true.mpr fun x hx => decide_eq_true (ha x hx)
  · simp only [sz, len_Tx]
    show 12 * (ctC c).length + 12 ≤ _
    unfold ctC
    omega
theorem t_ctC {c : RQ.Cl} {b : Nat} (h : Sc b c) (hb : b ≤ 190) : m_clause_text [.d (cD c)] = some (.d (sT (ctC c)), [.d (cD c)]) := t_ct (sm_sq h.f hb) (sm_sq h.p hb) (smo h.lo hb) (smo h.hi hb)
theorem t_itC {c : RQ.Cl} {b : Nat} (h : Sc b c) (hb : b ≤ 190) : m_l_item_text [.d (cD c)] = some (.d (sT (ctC c)), [.d (cD c)]) := t_it (sm_sq h.f hb) (sm_sq h.p hb) (smo h.lo hb) (smo h.hi hb)
theorem t_str {o : PyData} {cs : List RQ.Cl} (h : Ob o cs) : m_Clause_str [.d o] = some (.d (sT (ctC (chL cs))), [.d o]) := by
  have e1 := t_mS0 h.form (i := 0) (ρ := [.d o]) rfl
  have e2 := t_ctC h.sc (by decide)
  have e3 := fmtT (l := ctC (chL cs)) (by
    have := ct_len (sm_sq h.sc.f (by decide)) (sm_sq h.sc.p (by decide)) (smo h.sc.lo (by decide)) (smo h.sc.hi (by decide))
    unfold ctC
    omega)
  generalize ctC (chL cs) = CT at *
  generalize chL cs = C at *
  simp [m_Clause_str, e_run, b_Clause_str, e1, e2, e3]
theorem Ob.str {o : PyData} {cs : List RQ.Cl} (h : Ob o cs) {fa : XE} {ρ ρ1 : Nv} (ha : fa ρ = some (o, ρ1)) : xStrO tab_str fa ρ = some (sT (ctC (chL cs)), ρ1) := by
  obtain ⟨n, r, m, e, hn, _, _, h2, h4, h5⟩ := h.ex
  exact t_strO e (f_str hn) (t_str h) rfl ha
theorem t_eq {o1 o2 : PyData} {c1 c2 : List RQ.Cl} (h1 : Ob o1 c1) (h2 : Ob o2 c2) : m_Clause_eq [.d o1, .d o2] = some (.d (.bool (decide (chL c1 = chL c2))), [.d o1, .d o2]) := by
  obtain ⟨n, r, m, e, hn, _⟩ := h2.ex
  have e0 := t_isO (tab := isT_Clause) e (f_is hn) (f := xVar 1) (ρ := [.d o1, .d o2]) (ρ1 := [.d o1, .d o2]) rfl
  have e1 := t_mS0 h1.form (i := 0) (ρ := [.d o1, .d o2]) rfl
  have e2 := t_mS0 h2.form (i := 1) (ρ := [.d o1, .d o2]) rfl
  generalize chL c1 = C1 at *
  generalize chL c2 = C2 at *
  simp [m_Clause_eq, e_run, b_Clause_eq, e0, e1, e2, eq_cc]
theorem t_eqd {o d : PyData} {cs : List RQ.Cl} (h : Ob o cs) (hd : isI d = false) : m_Clause_eq [.d o, .d d] = some (.d (.bool false), [.d o, .d d]) := by
  have e0 := t_isN (tab := isT_Clause) hd (f := xVar 1) (ρ := [.d o, .d d]) (ρ1 := [.d o, .d d]) rfl
  simp [m_Clause_eq, e_run, b_Clause_eq, e0]
theorem Ob.eqO {o1 o2 : PyData} {c1 c2 : List RQ.Cl} (h1 : Ob o1 c1) (h2 : Ob o2 c2) {ne : Bool} {fa fb : XE} {ρ ρ1 ρ2 : Nv} (ha : fa ρ = some (o1, ρ1)) (hb : fb ρ1 = some (o2, ρ2)) : xEqO tab_eq subT ne fa fb ρ = some (.bool (decide (chL c1 = chL c2) != ne), ρ2) := by
  obtain ⟨n1, r1, m1, e1, hn1, _⟩ := h1.ex
  obtain ⟨n2, r2, m2, e2, hn2, _⟩ := h2.ex
  have g2 := t_eq h2 h1
  have : decide (chL c2 = chL c1) = decide (chL c1 = chL c2) := decide_eq_decide.mpr eq_comm
  rw [this] at g2
  exact t_eqI e1 e2 (f_eq hn1) (f_eq hn2) (f_sub hn1 hn2) ⟨_, t_eq h1 h2, rfl⟩ ⟨_, g2, rfl⟩ ha hb
theorem Ob.eqN {o d : PyData} {cs : List RQ.Cl} (h : Ob o cs) (hd : isI d = false) {ne : Bool} {fa fb : XE} {ρ ρ1 ρ2 : Nv} (ha : fa ρ = some (o, ρ1)) (hb : fb ρ1 = some (d, ρ2)) : xEqO tab_eq subT ne fa fb ρ = some (.bool (false != ne), ρ2) := by
  obtain ⟨n1, r1, m1, e1, hn1, _⟩ := h.ex
  exact t_eqN e1 hd (f_eq hn1) (t_eqd h hd) rfl ha hb
theorem nz_cs {cs : List RQ.Cl} {b : Nat} (h : ∀ c ∈ cs, Sc b c) (hb : b ≤ 195) : NzA 3 (9002 * cs.length) (cs.map cD) := by
  induction cs with
  | nil => exact NzA.nil
  | cons c cs ih =>
    have i := ih fun x hx => h x (List.mem_cons_of_mem _ hx)
    have := NzA.cons (nz_c (h c List.mem_cons_self) hb) i
    refine ⟨this.o, this.d, Nat.le_trans this.s ?_⟩
    rw [List.length_cons]
    omega
theorem Ob.nz {o : PyData} {cs : List RQ.Cl} (h : Ob o cs) : Nz 4 30000 (.tuple (cs.map cD)) := (nz_cs (fun c hc => (h.ok c hc).1) (by decide)).tup.mono (by decide) (by have := h.len; omega)
theorem rp_ne {x : PyData} {D S : Nat} (h : Nz D S x) (hD : D ≤ 60) (hS : S ≤ 16777216) : ∃ s, reprD x = some (.str s) := ⟨_, h.rep hD hS⟩
end K05
set_option exponentiation.threshold 5000
set_option maxRecDepth 100000
set_option maxHeartbeats 4000000
namespace K05
open PySem PySem.Spec PyProof.Rows L2 DL
open P1 (s0 s1 q0 q1 so so_none so_some idC chL sq_ap so_ea sc_ch2 sc_id nn_o Raw)
def am2 : List Rat := [0, -1 / 2, 7 / 3, 10, 100, 10000]
theorem am2_eq : stepD 2 (.list (P1.amtQ.map qD)) = some (.list (am2.map qD)) := by kernel_rfl
theorem am2_ok : ∀ x ∈ am2, Sq 14 x := fun x hx => P1.amt_ok x (by
  have : ∀ y ∈ am2, y ∈ P1.amtQ := by decide +kernel
  exact this x hx)
theorem q73 : (.tuple [.int 7, .int 3] : PyData) = qD (7 / 3) := by kernel_rfl
theorem sq73 : Sq 14 (7 / 3 : Rat) := am2_ok _ (by decide +kernel)
theorem rep_bb (a b : Bool) : ∃ s, reprD (.list [.bool a, .bool b]) = some (.str s) := ⟨_, repr_ok (B := 10 ^ 59) (by decide +kernel) rfl (by simp [PyData.depth, PyData.depthAll]) (by simp [sz, szA])⟩
def orB1 : XS := sIf (tst (x2 neD (x1 reprD (xLst (aCons (xOf (gMeth tab_parts (rvS "parts" 0) (aBoth aNil aNil))) (aCons (xOf (gMeth tab_form (rvS "form" 0) (aBoth aNil aNil))) (aCons (xStrO tab_str (xVar 0)) (aNil)))))) (x1 reprD (xLst (aCons (xVar 1) (aCons (xVar 2) (aCons (xCall (arity 1 m_l_item_text) (aCons (xVar 2) (aNil))) (aNil)))))))) (sRet (xC (.bool false))) (sNil)
def orB2 : XS := sFor (iOf (x1 (stepD 2) (xCall m_l_amounts aNil))) (gNm 3) (sIf (tst (x2 neD (x1 reprD (xOf (gMeth tab_result_of (rvS "result_of" 0) (aBoth (aCons (xVar 3) (aNil)) aNil)))) (x1 reprD (xCall (arity 2 m_l_apply) (aCons (xVar 2) (aCons (xVar 3) (aNil))))))) (sRet (xC (.bool false))) (sNil))
def orB3 : XS := sIf (tst (x2 neD (xOf (gMeth tab_result_of_amount (rvS "result_of" 0) (aBoth aNil (aCons (xTup (aCons (xC (.int 7)) (aCons (xC (.int 3)) (aNil)))) (aNil))))) (xCall (arity 2 m_l_apply) (aCons (xVar 2) (aCons (xTup (aCons (xC (.int 7)) (aCons (xC (.int 3)) (aNil)))) (aNil)))))) (sRet (xC (.bool false))) (sNil)
def orI : XI := iOf (xTup (aCons (xVar 2) (aCons (xVar 1) (aCons (xStrO tab_str (xVar 0)) (aCons (xC .none) (aCons (xC (.int 0)) (aCons (xLst (aCons (xVar 2) (aNil))) (aCons (x2 idxD (xVar 2) (xC (.int 1))) (aNil)))))))))
def orB4 : XS := sFor orI (gNm 4) (sIf (tst (x2 neD (x1 reprD (xLst (aCons (xEqO tab_eq subT false (xVar 0) (xVar 4)) (aCons (xEqO tab_eq subT true (xVar 0) (xVar 4)) (aNil))))) (x1 reprD (xLst (aCons (xC (.bool false)) (aCons (xC (.bool true)) (aNil))))))) (sRet (xC (.bool false))) (sNil))
def orE : XE := x2 eqD (x1 reprD (xLst (aCons (xOf (gMeth tab_parts (rvS "parts" 0) (aBoth aNil aNil))) (aCons (xOf (gMeth tab_form (rvS "form" 0) (aBoth aNil aNil))) (aNil))))) (x1 reprD (xLst (aCons (xVar 1) (aCons (xVar 2) (aNil)))))
theorem or_eq : b_l_object_right = sSeq (sSet 2 (xCall (arity 1 m_l_chain) (aCons (xVar 1) (aNil)))) (sSeq orB1 (sSeq orB2 (sSeq orB3 (sSeq orB4 (sRet orE))))) := rfl
section
variable {o : PyData} {cs : List RQ.Cl} (h : Ob o cs)
include h
theorem Ob.rp3 : ∃ s, reprD (.list [.tuple (cs.map cD), cD (chL cs), sT (ctC (chL cs))]) = some (.str s) :=
  rp_ne (NzA.cons h.nz (.cons ((nz_c h.sc (by decide)).mono (by decide) (Nat.le_refl _)) (.cons ((nz_t h.sc (by decide)).mono (by decide) (Nat.le_refl _)) .nil))).lst (by decide) (by decide)
theorem Ob.rp2 : ∃ s, reprD (.list [.tuple (cs.map cD), cD (chL cs)]) = some (.str s) :=
  rp_ne (NzA.cons h.nz (.cons ((nz_c h.sc (by decide)).mono (by decide) (Nat.le_refl _)) .nil)).lst (by decide) (by decide)
theorem or1 {e3 e4 : EV} : orB1 [.d o, .d (.tuple (cs.map cD)), .d (cD (chL cs)), e3, e4] = some (.nx [.d o, .d (.tuple (cs.map cD)), .d (cD (chL cs)), e3, e4]) := by
  obtain ⟨s, es⟩ := h.rp3
  have e1 := t_mS0 h.parts (i := 0) (ρ := [.d o, .d (.tuple (cs.map cD)), .d (cD (chL cs)), e3, e4]) rfl
  have e2 := t_mS0 h.form (i := 0) (ρ := [.d o, .d (.tuple (cs.map cD)), .d (cD (chL cs)), e3, e4]) rfl
  have e5 := h.str (fa := xVar 0) (ρ := [.d o, .d (.tuple (cs.map cD)), .d (cD (chL cs)), e3, e4]) rfl
  have e6 := t_itC h.sc (by decide)
  generalize ctC (chL cs) = CT at *
  generalize chL cs = C at *
  generalize PyData.tuple (cs.map cD) = D at *
  simp [orB1, e1, e2, e5, e6, sizeL, es, ne_ss]
theorem or2 {e3 e4 : EV} (h3 : Fs e3) : ∃ f3, Fs f3 ∧ orB2 [.d o, .d (.tuple (cs.map cD)), .d (cD (chL cs)), e3, e4] = some (.nx [.d o, .d (.tuple (cs.map cD)), .d (cD (chL cs)), f3, e4]) := by
  have key : Wp orB2 [.d o, .d (.tuple (cs.map cD)), .d (cD (chL cs)), e3, e4] fun r => ∃ f3, Fs f3 ∧ r = .nx [.d o, .d (.tuple (cs.map cD)), .d (cD (chL cs)), f3, e4] := by
    unfold orB2
    refine wp_for qD am2 (fun xs ρ => (∀ x ∈ xs, Sq 14 x) ∧ ∃ f3, Fs f3 ∧ ρ = [.d o, .d (.tuple (cs.map cD)), .d (cD (chL cs)), f3, e4]) (ρ0 := [.d o, .d (.tuple (cs.map cD)), .d (cD (chL cs)), e3, e4]) ?_ ⟨am2_ok, e3, h3, rfl⟩ ?_ ?_
    · have ea := P1.t_l_amounts
      have e2 := am2_eq
      generalize P1.amtQ.map qD = A at *
      generalize am2.map qD = B at *
      simp [p_l_amounts, ea, e2, itD]
    · rintro x xs ρ ⟨hx, f3, h3, rfl⟩
      have sx := hx x List.mem_cons_self
      have e1 := fun a => t_mS1 (h.res (sx.mono (show 14 ≤ 88 by decide))) (i := 0) (f := xVar 3) (ρ := [.d o, .d (.tuple (cs.map cD)), .d (cD (chL cs)), .d (qD x), a]) (ρ1 := [.d o, .d (.tuple (cs.map cD)), .d (cD (chL cs)), .d (qD x), a]) rfl rfl
      have e2 := t_l_apply h.sc (sx.mono (show 14 ≤ 88 by decide)) h.wf (by decide)
      obtain ⟨s, es⟩ := rp_ne (nz_q (sq_ap h.sc sx) (by decide)) (by decide) (by decide)
      refine ⟨[.d o, .d (.tuple (cs.map cD)), .d (cD (chL cs)), .d (qD x), e4], ?_, fun y hy => hx y (List.mem_cons_of_mem _ hy), _, by simp, rfl⟩
      generalize RQ.ap (chL cs) x = Z at *
      generalize chL cs = C at *
      generalize PyData.tuple (cs.map cD) = D at *
      simp [e_stepF, free_fs h3, e1, e2, es, ne_ss]
    · rintro ρ ⟨-, f3, h3, rfl⟩
      exact ⟨f3, h3, rfl⟩
  obtain ⟨r, e, f3, h3, rfl⟩ := key
  exact ⟨f3, h3, e⟩
theorem or3 {e3 e4 : EV} : orB3 [.d o, .d (.tuple (cs.map cD)), .d (cD (chL cs)), e3, e4] = some (.nx [.d o, .d (.tuple (cs.map cD)), .d (cD (chL cs)), e3, e4]) := by
  have e1 := t_mSk (h.resk (sq73.mono (show 14 ≤ 88 by decide))) (i := 0) (f := xTup (aCons (xC (.int 7)) (aCons (xC (.int 3)) (aNil)))) (ρ := [.d o, .d (.tuple (cs.map cD)), .d (cD (chL cs)), e3, e4]) (ρ1 := [.d o, .d (.tuple (cs.map cD)), .d (cD (chL cs)), e3, e4]) rfl (by rw [← q73]; simp [sizeL])
  have e2 := t_l_apply h.sc (sq73.mono (show 14 ≤ 88 by decide)) h.wf (by decide)
  have e3' := ne_qq (RQ.ap (chL cs) (7 / 3)) (RQ.ap (chL cs) (7 / 3))
  generalize RQ.ap (chL cs) (7 / 3) = Z at *
  generalize chL cs = C at *
  generalize PyData.tuple (cs.map cD) = D at *
  have hq := q73
  generalize qD (7 / 3) = Q at *
  simp [orB3, e1, hq, sizeL, e2, e3']
theorem or4 {e3 e4 : EV} (h4 : Fs e4) : ∃ f4, orB4 [.d o, .d (.tuple (cs.map cD)), .d (cD (chL cs)), e3, e4] = some (.nx [.d o, .d (.tuple (cs.map cD)), .d (cD (chL cs)), e3, f4]) := by
  have key : Wp orB4 [.d o, .d (.tuple (cs.map cD)), .d (cD (chL cs)), e3, e4] fun r => ∃ f4, r = .nx [.d o, .d (.tuple (cs.map cD)), .d (cD (chL cs)), e3, f4] := by
    unfold orB4
    refine wp_for (α := PyData) id [cD (chL cs), .tuple (cs.map cD), sT (ctC (chL cs)), .none, .int 0, .list [cD (chL cs)], qD (chL cs).p] (fun xs ρ => (∀ x ∈ xs, isI x = false) ∧ ∃ f4, Fs f4 ∧ ρ = [.d o, .d (.tuple (cs.map cD)), .d (cD (chL cs)), e3, f4]) (ρ0 := [.d o, .d (.tuple (cs.map cD)), .d (cD (chL cs)), e3, e4]) ?_ ⟨?_, e4, h4, rfl⟩ ?_ ?_
    · have e5 := h.str (fa := xVar 0) (ρ := [.d o, .d (.tuple (cs.map cD)), .d (cD (chL cs)), e3, e4]) rfl
      have ex := P1.ixc1 (chL cs)
      generalize ctC (chL cs) = CT at *
      generalize (chL cs).p = P at *
      generalize chL cs = C at *
      generalize PyData.tuple (cs.map cD) = D at *
      simp [orI, e5, ex, sizeL, itD]
    · intro x hx
      simp only [List.mem_cons, List.not_mem_nil, or_false] at hx
      rcases hx with rfl | rfl | rfl | rfl | rfl | rfl | rfl <;> rfl
    · rintro x xs ρ ⟨hx, f4, h4, rfl⟩
      have hI := hx x List.mem_cons_self
      have e1 := fun ne => h.eqN hI (ne := ne) (fa := xVar 0) (fb := xVar 4) (ρ := [.d o, .d (.tuple (cs.map cD)), .d (cD (chL cs)), e3, .d x]) rfl rfl
      obtain ⟨s, es⟩ := rep_bb false true
      refine ⟨[.d o, .d (.tuple (cs.map cD)), .d (cD (chL cs)), e3, .d x], ?_, fun y hy => hx y (List.mem_cons_of_mem _ hy), _, by simp, rfl⟩
      generalize chL cs = C at *
      generalize PyData.tuple (cs.map cD) = D at *
      generalize subT = ST at *
      simp [e_stepF, free_fs h4, e1, sizeL, es, ne_ss]
    · rintro ρ ⟨-, f4, h4, rfl⟩
      exact ⟨f4, rfl⟩
  obtain ⟨r, e, f4, rfl⟩ := key
  exact ⟨f4, e⟩
theorem t_right : m_l_object_right [.d o, .d (.tuple (cs.map cD))] = some (.d (.bool true), [.d o, .d (.tuple (cs.map cD))]) := by
  have e0 := t_l_chain (b := 22) h.ok (by decide) (by have := h.len; omega)
  refine run_wp ?_
  rw [or_eq]
  refine wp_nx (ρ1 := [.d o, .d (.tuple (cs.map cD)), .d (cD (chL cs)), .un, .un]) (by
    generalize chL cs = C at *
    generalize PyData.tuple (cs.map cD) = D at *
    simp [e0]) ?_
  refine wp_nx (or1 h) ?_
  obtain ⟨f3, h3, e2⟩ := or2 h (e3 := .un) (e4 := .un) (by simp)
  refine wp_nx e2 ?_
  refine wp_nx (or3 h) ?_
  obtain ⟨f4, e4⟩ := or4 h (e3 := f3) (e4 := .un) (by simp)
  refine wp_nx e4 ?_
  obtain ⟨s, es⟩ := h.rp2
  have e1 := t_mS0 h.parts (i := 0) (ρ := [.d o, .d (.tuple (cs.map cD)), .d (cD (chL cs)), f3, f4]) rfl
  have e2 := t_mS0 h.form (i := 0) (ρ := [.d o, .d (.tuple (cs.map cD)), .d (cD (chL cs)), f3, f4]) rfl
  refine wp_ret (we_of (b := .bool true) (ρ' := [.d o, .d (.tuple (cs.map cD)), .d (cD (chL cs)), f3, f4]) ?_ ⟨_, rfl, rfl⟩)
  generalize chL cs = C at *
  generalize PyData.tuple (cs.map cD) = D at *
  simp [orE, e1, e2, sizeL, es, eq_ss]
end
end K05
set_option exponentiation.threshold 5000
set_option maxRecDepth 100000
set_option maxHeartbeats 4000000
namespace K05
open PySem PySem.Spec PyProof.Rows L2 DL
open P1 (s0 s1 q0 q1 so so_none so_some idC chL sq_ap so_ea sc_ch2 sc_id nn_o Raw)
section
variable {n : Str} {m : XF} {ρ : Nv} {f g h k : XE}
theorem mkF {r : XA} {ρ1 : Nv} {ds : List PyData} {fs : List (Str × PyData)} {es : List EV} (hr : r ρ = some (ds.map .v, ρ1)) (hm : m (.own (.oi n []) true :: ds.map .d) = some (.d .none, .own (.oi n fs) true :: es)) (hl : es.length = ds.length) :
    xFz (nMake n m r) ρ = some (insD n fs, ρ1) := by
  unfold xFz
  rw [t_make hr hm hl]
  rfl
theorem mk0 {fs : List (Str × PyData)} (hm : m [.own (.oi n []) true] = some (.d .none, [.own (.oi n fs) true])) : xFz (nMake n m aNil) ρ = some (insD n fs, ρ) := mkF (ds := []) rfl hm rfl
theorem mk1 {F : PyData → List (Str × PyData)} (hm : ∀ a, m [.own (.oi n []) true, .d a] = some (.d .none, [.own (.oi n (F a)) true, .d a])) : xFz (nMake n m (aCons f aNil)) ρ = (f ρ).map fun p => (insD n (F p.1), p.2) := by
  cases e : f ρ with
  | none => simp [xFz, nMake, e]
  | some p => exact mkF (ds := [p.1]) (by simp [e]) (hm p.1) rfl
theorem mk2 {F : PyData → PyData → List (Str × PyData)} (hm : ∀ a b, m [.own (.oi n []) true, .d a, .d b] = some (.d .none, [.own (.oi n (F a b)) true, .d a, .d b])) : xFz (nMake n m (aCons f (aCons g aNil))) ρ = (f ρ).bind fun p => (g p.2).map fun q => (insD n (F p.1 q.1), q.2) := by
  cases e : f ρ with
  | none => simp [xFz, nMake, e]
  | some p =>
    cases e2 : g p.2 with
    | none => simp [xFz, nMake, e, e2]
    | some q => rw [Option.bind_some, e2]; exact mkF (ds := [p.1, q.1]) (by simp [e, e2]) (hm p.1 q.1) rfl
theorem mk3 {F : PyData → PyData → PyData → List (Str × PyData)} (hm : ∀ a b c, m [.own (.oi n []) true, .d a, .d b, .d c] = some (.d .none, [.own (.oi n (F a b c)) true, .d a, .d b, .d c])) : xFz (nMake n m (aCons f (aCons g (aCons h aNil)))) ρ = (f ρ).bind fun p => (g p.2).bind fun q => (h q.2).map fun r => (insD n (F p.1 q.1 r.1), r.2) := by
  cases e : f ρ with
  | none => simp [xFz, nMake, e]
  | some p =>
    cases e2 : g p.2 with
    | none => simp [xFz, nMake, e, e2]
    | some q =>
      rw [Option.bind_some, e2, Option.bind_some]
      cases e3 : h q.2 with
      | none => simp [xFz, nMake, e, e2, e3]
      | some r => exact mkF (ds := [p.1, q.1, r.1]) (by simp [e, e2, e3]) (hm p.1 q.1 r.1) rfl
theorem mk4 {F : PyData → PyData → PyData → PyData → List (Str × PyData)} (hm : ∀ a b c d, m [.own (.oi n []) true, .d a, .d b, .d c, .d d] = some (.d .none, [.own (.oi n (F a b c d)) true, .d a, .d b, .d c, .d d])) : xFz (nMake n m (aCons f (aCons g (aCons h (aCons k aNil))))) ρ = (f ρ).bind fun p => (g p.2).bind fun q => (h q.2).bind fun r => (k r.2).map fun s => (insD n (F p.1 q.1 r.1 s.1), s.2) := by
  cases e : f ρ with
  | none => simp [xFz, nMake, e]
  | some p =>
    cases e2 : g p.2 with
    | none => simp [xFz, nMake, e, e2]
    | some q =>
      rw [Option.bind_some, e2, Option.bind_some]
      cases e3 : h q.2 with
      | none => simp [xFz, nMake, e, e2, e3]
      | some r =>
        rw [Option.bind_some]
        cases e4 : k r.2 with
        | none => simp [xFz, nMake, e, e2, e3, e4]
        | some s => exact mkF (ds := [p.1, q.1, r.1, s.1]) (by simp [e, e2, e3, e4]) (hm p.1 q.1 r.1 s.1) rfl
end
abbrev ico : Str × PyData := ("is_clause_object", .bool true)
def oClause : PyData := insD "Clause" [ico]
def oScaled (a : PyData) : PyData := insD "Scaled" [ico, ("factor", a)]
def oShifted (b : PyData) : PyData := insD "Shifted" [ico, ("plus", b)]
def oBounded (c d : PyData) : PyData := insD "Bounded" [ico, ("low", c), ("high", d)]
def oFixed (b : PyData) : PyData := insD "Fixed" [ico, ("constant", b)]
def oPercent (a : PyData) : PyData := insD "Percent" [ico, ("factor", a)]
def oFloor (b : PyData) : PyData := insD "Floor" [ico, ("low", b), ("high", .none)]
def oCap (b : PyData) : PyData := insD "Cap" [ico, ("low", .none), ("high", b)]
def oClaim (a b c d : PyData) : PyData := insD "Claim" [ico, ("plus", b), ("factor", a), ("low", c), ("high", d)]
def oFee (a b : PyData) : PyData := insD "Fee" [ico, ("factor", a), ("plus", b)]
def oVoucher (b c d : PyData) : PyData := insD "Voucher" [ico, ("plus", b), ("low", c), ("high", d)]
def oGeneral (a b c d : PyData) : PyData := insD "General" [ico, ("factor", a), ("plus", b), ("low", c), ("high", d)]
section
variable {ρ : Nv} {f g h k : XE}
theorem mkClause : xFz (nMake "Clause" m_Clause_init aNil) ρ = some (oClause, ρ) := mk0 rfl
theorem mkScaled : xFz (nMake "Scaled" mi_16 (aCons f aNil)) ρ = (f ρ).map fun p => (oScaled p.1, p.2) := mk1 (F := fun a => [ico, ("factor", a)]) fun _ => rfl
theorem mkShifted : xFz (nMake "Shifted" mi_18 (aCons f aNil)) ρ = (f ρ).map fun p => (oShifted p.1, p.2) := mk1 (F := fun a => [ico, ("plus", a)]) fun _ => rfl
theorem mkBounded : xFz (nMake "Bounded" mi_28 (aCons f (aCons g aNil))) ρ = (f ρ).bind fun p => (g p.2).map fun q => (oBounded q.1 p.1, q.2) := mk2 (F := fun d c => [ico, ("low", c), ("high", d)]) fun _ _ => rfl
theorem mkFixed : xFz (nMake "Fixed" mi_20 (aCons f aNil)) ρ = (f ρ).map fun p => (oFixed p.1, p.2) := mk1 (F := fun a => [ico, ("constant", a)]) fun _ => rfl
theorem mkFloor : xFz (nMake "Floor" mi_26 (aCons f aNil)) ρ = (f ρ).map fun p => (oFloor p.1, p.2) := mk1 (F := fun b => [ico, ("low", b), ("high", .none)]) fun _ => rfl
theorem mkCap : xFz (nMake "Cap" mi_31 (aCons f aNil)) ρ = (f ρ).map fun p => (oCap p.1, p.2) := mk1 (F := fun b => [ico, ("low", .none), ("high", b)]) fun _ => rfl
theorem mkClaim : xFz (nMake "Claim" mi_3 (aCons f (aCons g (aCons h (aCons k aNil))))) ρ = (f ρ).bind fun p => (g p.2).bind fun q => (h q.2).bind fun r => (k r.2).map fun s => (oClaim r.1 p.1 q.1 s.1, s.2) := mk4 (F := fun b c a d => [ico, ("plus", b), ("factor", a), ("low", c), ("high", d)]) fun _ _ _ _ => rfl
theorem mkFee : xFz (nMake "Fee" mi_6 (aCons f (aCons g aNil))) ρ = (f ρ).bind fun p => (g p.2).map fun q => (oFee q.1 p.1, q.2) := mk2 (F := fun b a => [ico, ("factor", a), ("plus", b)]) fun _ _ => rfl
theorem mkVoucher : xFz (nMake "Voucher" mi_9 (aCons f (aCons g (aCons h aNil)))) ρ = (f ρ).bind fun p => (g p.2).bind fun q => (h q.2).map fun r => (oVoucher q.1 r.1 p.1, r.2) := mk3 (F := fun d b c => [ico, ("plus", b), ("low", c), ("high", d)]) fun _ _ _ => rfl
theorem mkGeneral : xFz (nMake "General" mi_13 (aCons f (aCons g (aCons h (aCons k aNil))))) ρ = (f ρ).bind fun p => (g p.2).bind fun q => (h q.2).bind fun r => (k r.2).map fun s => (oGeneral p.1 s.1 r.1 q.1, s.2) := mk4 (F := fun a d c b => [ico, ("factor", a), ("plus", b), ("low", c), ("high", d)]) fun _ _ _ _ => rfl
theorem mkScaled0 : xFz (nMake "Scaled" mi_32 aNil) ρ = some (oScaled (qD 1), ρ) := mk0 rfl
theorem mkShifted0 : xFz (nMake "Shifted" mi_33 aNil) ρ = some (oShifted (qD 0), ρ) := mk0 rfl
theorem mkBounded0 : xFz (nMake "Bounded" mi_34 aNil) ρ = some (oBounded .none .none, ρ) := mk0 rfl
theorem mkClaim0 : xFz (nMake "Claim" mi_37 aNil) ρ = some (oClaim (qD 1) (qD 0) .none .none, ρ) := mk0 rfl
theorem mkFee0 : xFz (nMake "Fee" mi_39 aNil) ρ = some (oFee (qD 1) (qD 0), ρ) := mk0 rfl
theorem mkVoucher0 : xFz (nMake "Voucher" mi_41 aNil) ρ = some (oVoucher (qD 0) .none .none, ρ) := mk0 rfl
theorem mkGeneral0 : xFz (nMake "General" mi_44 aNil) ρ = some (oGeneral (qD 1) (qD 0) .none .none, ρ) := mk0 rfl
theorem q100 : (.tuple [.int 1, .int 100] : PyData) = qD (1 / 100) := by kernel_rfl
theorem sq100 : Sq 14 (1 / 100 : Rat) := ⟨by decide +kernel, by decide +kernel⟩
theorem mi22 (a : PyData) : mi_22 [.own (.oi "Percent" []) true, .d a] = some (.d .none, [.own (.oi "Percent" [ico, ("factor", a)]) true, .d a]) := rfl
theorem mi23 {x : Rat} {b : Nat} (hx : Sq b x) (hb : 14 ≤ b) (h : 2 * b + 3 ≤ 4000) : mi_23 [.own (.oi "Percent" []) true, .d (qD x)] = some (.d .none, [.own (.oi "Percent" [ico, ("factor", qD (x * (1 / 100)))]) true, .d (qD x)]) := by
  have e1 := P1.t_pro2 hx (sq100.mono hb) h
  have e2 := mi22 (qD (x * (1 / 100)))
  have eq := q100
  generalize qD (x * (1 / 100)) = Z at *
  generalize qD (1 / 100) = Y at *
  generalize qD x = X at *
  have e3 : xSupK "Percent" mi_22 (aCons (xCall m_fraction_product (aPick [.inl 0] (aNil) (aNil))) aNil) = xSupK "Percent" mi_22 (aCons (xCall m_fraction_product (aPick [.inl 0] (aNil) (aNil))) aNil) := rfl
  unfold mi_23 selF
  simp [avs, e_run, b_Percent_init, xSupK, xSup, selfA, p_fraction_product, eq, sizeL, e1, e2]
theorem mkPercent {x : Rat} {b : Nat} {ρ1 : Nv} (hx : Sq b x) (hb : 14 ≤ b) (h : 2 * b + 3 ≤ 4000) (e : f ρ = some (qD x, ρ1)) : xFz (nMake "Percent" mi_23 (aCons f aNil)) ρ = some (oPercent (qD (x * (1 / 100))), ρ1) := mkF (ds := [qD x]) (by simp [e]) (mi23 hx hb h) rfl
end
end K05
set_option exponentiation.threshold 5000
set_option maxRecDepth 100000
set_option maxHeartbeats 4000000
namespace K05
open PySem PySem.Spec PyProof.Rows L2 DL
open P1 (s0 s1 q0 q1 so so_none so_some idC chL sq_ap so_ea sc_ch2 sc_id nn_o Raw)
theorem chs {cs : List RQ.Cl} {b : Nat} (h : ∀ c ∈ cs, Sc b c) (hl : 1 + (2 * b + 1) * cs.length ≤ 88) : Sc 88 (chL cs) := P1.Sc.mono (P1.sc_chL cs sc_id h) hl
theorem mk_ob {n : Str} {r : List (PyData × PyData)} {m : XF} {o : PyData} {cs : List RQ.Cl} (ho : o = .dict ((.none, .str n) :: r)) (hn : clsN.contains n = true) (h1 : lookF "parts" r = none) (h2 : lookF "form" r = none) (h3 : lookF "result_of" r = none) (hm : tab_parts.lookup n = some m) (hp : m [.d o] = some (.d (.tuple (cs.map cD)), [.d o]))
    {b : Nat} (hl : cs.length ≤ 3) (hs : ∀ c ∈ cs, Sc b c) (hb : b ≤ 22) (hw : ∀ c ∈ cs, RQ.WF c) (hz : 1 + (2 * b + 1) * cs.length ≤ 88) : Ob o cs :=
  ⟨⟨n, r, m, ho, hn, h1, h2, h3, hm, hp⟩, hl, fun c hc => ⟨P1.Sc.mono (hs c hc) hb, hw c hc⟩, chs hs hz⟩
def cF (f : Rat) : RQ.Cl := RQ.nf f 0 none none
def cP (p : Rat) : RQ.Cl := RQ.nf 1 p none none
def cB (lo hi : Option Rat) : RQ.Cl := RQ.nf 1 0 lo hi
section
variable {b : Nat} {f p : Rat} {lo hi : Option Rat}
theorem scF (h : Sq b f) (hb : 1 ≤ b) : Sc b (cF f) := sc_nf ⟨h, s0.mono hb, so_none _, so_none _⟩ hb
theorem scP (h : Sq b p) (hb : 1 ≤ b) : Sc b (cP p) := sc_nf ⟨s1.mono hb, h, so_none _, so_none _⟩ hb
theorem scB (h1 : so b lo) (h2 : so b hi) (hb : 1 ≤ b) : Sc b (cB lo hi) := sc_nf ⟨s1.mono hb, s0.mono hb, h1, h2⟩ hb
theorem wfF (h : 0 ≤ f) : RQ.WF (cF f) := RQ.wf_nf h trivial
theorem wfP : RQ.WF (cP p) := RQ.wf_nf (by decide) trivial
theorem wfB (h : RQ.leO lo hi) : RQ.WF (cB lo hi) := RQ.wf_nf (by decide) h
theorem scC (h : Sq b p) (hb : 1 ≤ b) : Sc b (RQ.cst p) := ⟨s0.mono hb, h, so_none _, so_none _⟩
theorem wfC : RQ.WF (RQ.cst p) := ⟨by show (0 : Rat) ≤ 0; decide, fun _ => ⟨rfl, rfl⟩, trivial⟩
theorem al1 {P : RQ.Cl → Prop} {x : RQ.Cl} (hx : P x) : ∀ c ∈ [x], P c := fun c hc => by rw [List.mem_singleton.mp hc]; exact hx
theorem al2 {P : RQ.Cl → Prop} {x y : RQ.Cl} (hx : P x) (hy : P y) : ∀ c ∈ [x, y], P c := fun c hc => by
  simp only [List.mem_cons, List.not_mem_nil, or_false] at hc
  rcases hc with rfl | rfl <;> assumption
theorem al3 {P : RQ.Cl → Prop} {x y z : RQ.Cl} (hx : P x) (hy : P y) (hz : P z) : ∀ c ∈ [x, y, z], P c := fun c hc => by
  simp only [List.mem_cons, List.not_mem_nil, or_false] at hc
  rcases hc with rfl | rfl | rfl <;> assumption
theorem obClause : Ob oClause [] := mk_ob (b := 1) rfl (by decide) rfl rfl rfl rfl (pt_Clause _) (by decide) (fun c hc => nomatch hc) (by decide) (fun c hc => nomatch hc) (by decide)
theorem obScaled (hf : Sq 14 f) (h0 : 0 ≤ f) : Ob (oScaled (qD f)) [cF f] :=
  mk_ob (b := 14) rfl (by first | decide | simp) rfl rfl rfl rfl (pt_Scaled (cs := []) rfl (pt_Clause _) (by first | decide | simp) rfl) (by first | decide | simp) (al1 (scF hf (by first | decide | simp))) (by first | decide | simp) (al1 (wfF h0)) (by simp)
theorem obShifted (hp : Sq 14 p) : Ob (oShifted (qD p)) [cP p] :=
  mk_ob (b := 14) rfl (by first | decide | simp) rfl rfl rfl rfl (pt_Shifted (cs := []) rfl (pt_Clause _) (by first | decide | simp) hp (by first | decide | simp) rfl) (by first | decide | simp) (al1 (scP hp (by first | decide | simp))) (by first | decide | simp) (al1 wfP) (by simp)
theorem obBounded (hl : so 14 lo) (hh : so 14 hi) (le : RQ.leO lo hi) : Ob (oBounded (oD lo) (oD hi)) [cB lo hi] :=
  mk_ob (b := 14) rfl (by first | decide | simp) rfl rfl rfl rfl (pt_Bounded (cs := []) rfl (pt_Clause _) (by first | decide | simp) hl hh (by first | decide | simp) (by first | decide | simp) rfl rfl) (by first | decide | simp) (al1 (scB hl hh (by first | decide | simp))) (by first | decide | simp) (al1 (wfB le)) (by simp)
theorem obFixed (hp : Sq 14 p) : Ob (oFixed (qD p)) [RQ.cst p] :=
  mk_ob (b := 14) rfl (by first | decide | simp) rfl rfl rfl rfl (pt_Fixed (cs := []) rfl (pt_Clause _) (by first | decide | simp) rfl) (by first | decide | simp) (al1 (scC hp (by first | decide | simp))) (by first | decide | simp) (al1 wfC) (by simp)
theorem obPercent (hf : Sq 22 f) (h0 : 0 ≤ f) : Ob (oPercent (qD f)) [cF f] :=
  mk_ob (b := 22) rfl (by first | decide | simp) rfl rfl rfl rfl (pt_Scaled (cs := []) rfl (pt_Clause _) (by first | decide | simp) rfl) (by first | decide | simp) (al1 (scF hf (by first | decide | simp))) (by first | decide | simp) (al1 (wfF h0)) (by simp)
theorem obFloor (hp : Sq 14 p) : Ob (oFloor (qD p)) [cB (some p) none] :=
  mk_ob (b := 14) rfl (by first | decide | simp) rfl rfl rfl rfl (pt_Bounded (cs := []) rfl (pt_Clause _) (by first | decide | simp) (so_some hp) (so_none _) (by first | decide | simp) (by first | decide | simp) rfl rfl) (by first | decide | simp) (al1 (scB (so_some hp) (so_none _) (by first | decide | simp))) (by first | decide | simp) (al1 (wfB trivial)) (by simp)
theorem obCap (hp : Sq 14 p) : Ob (oCap (qD p)) [cB none (some p)] :=
  mk_ob (b := 14) rfl (by first | decide | simp) rfl rfl rfl rfl (pt_Bounded (cs := []) rfl (pt_Clause _) (by first | decide | simp) (so_none _) (so_some hp) (by first | decide | simp) (by first | decide | simp) rfl rfl) (by first | decide | simp) (al1 (scB (so_none _) (so_some hp) (by first | decide | simp))) (by first | decide | simp) (al1 (wfB trivial)) (by simp)
theorem obClaim (r : Raw f p lo hi) : Ob (oClaim (qD f) (qD p) (oD lo) (oD hi)) [cP p, cF f, cB lo hi] :=
  mk_ob (b := 14) rfl (by first | decide | simp) rfl rfl rfl rfl (pt_Bounded (cs := [cP p, cF f]) rfl (pt_Scaled (cs := [cP p]) rfl (pt_Shifted (cs := []) rfl (pt_Clause _) (by first | decide | simp) r.sc.p (by first | decide | simp) rfl) (by first | decide | simp) rfl) (by first | decide | simp) r.sc.lo r.sc.hi (by first | decide | simp) (by first | decide | simp) rfl rfl) (by first | decide | simp)
    (al3 (scP r.sc.p (by first | decide | simp)) (scF r.sc.f (by first | decide | simp)) (scB r.sc.lo r.sc.hi (by first | decide | simp))) (by first | decide | simp) (al3 wfP (wfF r.f0) (wfB r.le)) (by simp)
theorem obFee (hf : Sq 14 f) (h0 : 0 ≤ f) (hp : Sq 14 p) : Ob (oFee (qD f) (qD p)) [cF f, cP p] :=
  mk_ob (b := 14) rfl (by first | decide | simp) rfl rfl rfl rfl (pt_Shifted (cs := [cF f]) rfl (pt_Scaled (cs := []) rfl (pt_Clause _) (by first | decide | simp) rfl) (by first | decide | simp) hp (by first | decide | simp) rfl) (by first | decide | simp)
    (al2 (scF hf (by first | decide | simp)) (scP hp (by first | decide | simp))) (by first | decide | simp) (al2 (wfF h0) wfP) (by simp)
theorem obVoucher (hp : Sq 14 p) (hl : so 14 lo) (hh : so 14 hi) (le : RQ.leO lo hi) : Ob (oVoucher (qD p) (oD lo) (oD hi)) [cP p, cB lo hi] :=
  mk_ob (b := 14) rfl (by first | decide | simp) rfl rfl rfl rfl (pt_Bounded (cs := [cP p]) rfl (pt_Shifted (cs := []) rfl (pt_Clause _) (by first | decide | simp) hp (by first | decide | simp) rfl) (by first | decide | simp) hl hh (by first | decide | simp) (by first | decide | simp) rfl rfl) (by first | decide | simp)
    (al2 (scP hp (by first | decide | simp)) (scB hl hh (by first | decide | simp))) (by first | decide | simp) (al2 wfP (wfB le)) (by simp)
theorem obGeneral (r : Raw f p lo hi) : Ob (oGeneral (qD f) (qD p) (oD lo) (oD hi)) [cF f, cP p, cB lo hi] :=
  mk_ob (b := 14) rfl (by first | decide | simp) rfl rfl rfl rfl (pt_Bounded (cs := [cF f, cP p]) rfl (pt_Shifted (cs := [cF f]) rfl (pt_Scaled (cs := []) rfl (pt_Clause _) (by first | decide | simp) rfl) (by first | decide | simp) r.sc.p (by first | decide | simp) rfl) (by first | decide | simp) r.sc.lo r.sc.hi (by first | decide | simp) (by first | decide | simp) rfl rfl) (by first | decide | simp)
    (al3 (scF r.sc.f (by first | decide | simp)) (scP r.sc.p (by first | decide | simp)) (scB r.sc.lo r.sc.hi (by first | decide | simp))) (by first | decide | simp) (al3 (wfF r.f0) wfP (wfB r.le)) (by simp)
end
end K05
set_option exponentiation.threshold 5000
set_option maxRecDepth 100000
set_option maxHeartbeats 4000000
namespace K05
open PySem PySem.Spec PyProof.Rows L2 DL
open P1 (s0 s1 q0 q1 so so_none so_some idC chL sq_ap so_ea sc_ch2 sc_id nn_o Raw)
abbrev hD (h : Str × PyData) : PyData := .tuple [.str h.1, h.2]
def rowD (o : PyData) (cs : List RQ.Cl) (held : List (Str × PyData)) : PyData := .tuple [o, .tuple (cs.map cD), .list (held.map hD)]
def five : List Str := ["factor", "plus", "low", "high", "constant"]
structure Rw (o : PyData) (cs : List RQ.Cl) (held : List (Str × PyData)) : Prop where
  ob : Ob o cs
  hd : ∀ h ∈ held, h.1 ∈ five ∧ fldD clsN h.1 o = some h.2 ∧ Nz 2 2000 h.2
  len : held.length ≤ 4
theorem t_off {o v : PyData} {n : Str} (hn : n ∈ five) (h : fldD clsN n o = some v) : m_l_read_off [.d o, .d (.str n)] = some (.d v, [.d o, .d (.str n)]) := by
  have a1 : inY (.str "factor") (.tuple [.str "factor", .str "plus"]) = some (.bool true) := by kernel_rfl
  have a2 : inY (.str "plus") (.tuple [.str "factor", .str "plus"]) = some (.bool true) := by kernel_rfl
  have a3 : inY (.str "low") (.tuple [.str "factor", .str "plus"]) = some (.bool false) := by kernel_rfl
  have a4 : inY (.str "high") (.tuple [.str "factor", .str "plus"]) = some (.bool false) := by kernel_rfl
  have a5 : inY (.str "constant") (.tuple [.str "factor", .str "plus"]) = some (.bool false) := by kernel_rfl
  have b3 : inY (.str "low") (.tuple [.str "low", .str "high"]) = some (.bool true) := by kernel_rfl
  have b4 : inY (.str "high") (.tuple [.str "low", .str "high"]) = some (.bool true) := by kernel_rfl
  have b5 : inY (.str "constant") (.tuple [.str "low", .str "high"]) = some (.bool false) := by kernel_rfl
  have c1 : eqD (.str "factor") (.str "factor") = some (.bool true) := by kernel_rfl
  have c2 : eqD (.str "plus") (.str "factor") = some (.bool false) := by kernel_rfl
  have c3 : eqD (.str "low") (.str "low") = some (.bool true) := by kernel_rfl
  have c4 : eqD (.str "high") (.str "low") = some (.bool false) := by kernel_rfl
  simp only [five, List.mem_cons, List.not_mem_nil, or_false] at hn
  generalize hc : clsN = CN at *
  rcases hn with rfl | rfl | rfl | rfl | rfl <;> simp [m_l_read_off, e_run, b_l_read_off, sizeL, a1, a2, a3, a4, a5, b3, b4, b5, c1, c2, c3, c4, hc, h]
section
variable {f p : Rat} {lo hi : Option Rat}
theorem cP_eq (p : Rat) : (.tuple [qD 1, qD p, .none, .none] : PyData) = cD (cP p) := by
  have : RQ.nf 1 p none none = ⟨1, p, none, none⟩ := by simp [RQ.nf]
  unfold cP
  rw [this]
  rfl
def pre1 (f p : Rat) (lo hi : Option Rat) (k : Nat) : Nv := [.d (.int k), .d (rawD f p lo hi), .d (qD f), .d (qD p), .d (oD lo), .d (oD hi), .d (cD (cF f)), .d (cD (cP p)), .d (cD (cB lo hi)), .un, .un, .un, .un, .un]
def bm0 : XS := sAsg (xVar 1) (gTp 4 (gsCons (gNm 2) (gsCons (gNm 3) (gsCons (gNm 4) (gsCons (gNm 5) (gsNil))))))
def bm1 : XS := sPar 6 7 (xCall (arity 4 m_l_normal) (aCons (xVar 2) (aCons (xTup (aCons (xC (.int 0)) (aCons (xC (.int 1)) (aNil)))) (aCons (xC .none) (aCons (xC .none) (aNil)))))) (xTup (aCons (xTup (aCons (xC (.int 1)) (aCons (xC (.int 1)) (aNil)))) (aCons (xVar 3) (aCons (xC .none) (aCons (xC .none) (aNil))))))
def bm2 : XS := sSet 8 (xCall (arity 4 m_l_normal) (aCons (xTup (aCons (xC (.int 1)) (aCons (xC (.int 1)) (aNil)))) (aCons (xTup (aCons (xC (.int 0)) (aCons (xC (.int 1)) (aNil)))) (aCons (xVar 4) (aCons (xVar 5) (aNil))))))
def g1 : XS := sSeq (sNew 9 (nLst (aCons (xTup (aCons (xFz (nMake "Clause" m_Clause_init (aNil))) (aCons (xTup (aNil)) (aCons (xLst (aNil)) (aNil))))) (aCons (xTup (aCons (xFz (nMake "Scaled" mi_16 (aCons (xVar 2) (aNil)))) (aCons (xTup (aCons (xVar 6) (aNil))) (aCons (xLst (aCons (xTup (aCons (xC (.str "factor")) (aCons (xVar 2) (aNil)))) (aNil))) (aNil))))) (aNil))))) (sSeq (sDrop (xApp 9 (xTup (aCons (xFz (nMake "Shifted" mi_18 (aCons (xVar 3) (aNil)))) (aCons (xTup (aCons (xVar 7) (aNil))) (aCons (xLst (aCons (xTup (aCons (xC (.str "plus")) (aCons (xVar 3) (aNil)))) (aNil))) (aNil))))))) (sRet (x2 idxY (x2 addD (xVar 9) (xLst (aCons (xTup (aCons (xFz (nMake "Bounded" mi_28 (aCons (xVar 5) (aCons (xVar 4) (aNil))))) (aCons (xTup (aCons (xVar 8) (aNil))) (aCons (xLst (aCons (xTup (aCons (xC (.str "low")) (aCons (xVar 4) (aNil)))) (aCons (xTup (aCons (xC (.str "high")) (aCons (xVar 5) (aNil)))) (aNil)))) (aNil))))) (aNil)))) (xVar 0))))
def g2 : XS := sSeq (sPar 10 11 (xCall (arity 4 m_l_normal) (aCons (xTup (aCons (xC (.int 1)) (aCons (xC (.int 1)) (aNil)))) (aCons (xTup (aCons (xC (.int 0)) (aCons (xC (.int 1)) (aNil)))) (aCons (xVar 3) (aCons (xC .none) (aNil)))))) (xCall (arity 4 m_l_normal) (aCons (xTup (aCons (xC (.int 1)) (aCons (xC (.int 1)) (aNil)))) (aCons (xTup (aCons (xC (.int 0)) (aCons (xC (.int 1)) (aNil)))) (aCons (xC .none) (aCons (xVar 3) (aNil))))))) (sSeq (sSet 12 (xCall (arity 2 m_l_times) (aCons (xVar 2) (aCons (xTup (aCons (xC (.int 1)) (aCons (xC (.int 100)) (aNil)))) (aNil))))) (sSeq (sNew 9 (nLst (aCons (xTup (aCons (xFz (nMake "Fixed" mi_20 (aCons (xVar 3) (aNil)))) (aCons (xTup (aCons (xCall (arity 1 m_l_constant) (aCons (xVar 3) (aNil))) (aNil))) (aCons (xLst (aCons (xTup (aCons (xC (.str "constant")) (aCons (xVar 3) (aNil)))) (aNil))) (aNil))))) (aNil)))) (sSeq (sDrop (xApp 9 (xTup (aCons (xFz (nMake "Percent" mi_23 (aCons (xVar 2) (aNil)))) (aCons (xTup (aCons (xCall (arity 4 m_l_normal) (aCons (xVar 12) (aCons (xTup (aCons (xC (.int 0)) (aCons (xC (.int 1)) (aNil)))) (aCons (xC .none) (aCons (xC .none) (aNil)))))) (aNil))) (aCons (xLst (aCons (xTup (aCons (xC (.str "factor")) (aCons (xVar 12) (aNil)))) (aNil))) (aNil))))))) (sSeq (sDrop (xApp 9 (xTup (aCons (xFz (nMake "Floor" mi_26 (aCons (xVar 3) (aNil)))) (aCons (xTup (aCons (xVar 10) (aNil))) (aCons (xLst (aCons (xTup (aCons (xC (.str "low")) (aCons (xVar 3) (aNil)))) (aCons (xTup (aCons (xC (.str "high")) (aCons (xC .none) (aNil)))) (aNil)))) (aNil))))))) (sRet (x2 idxY (x2 addD (xVar 9) (xLst (aCons (xTup (aCons (xFz (nMake "Cap" mi_31 (aCons (xVar 3) (aNil)))) (aCons (xTup (aCons (xVar 11) (aNil))) (aCons (xLst (aCons (xTup (aCons (xC (.str "low")) (aCons (xC .none) (aNil)))) (aCons (xTup (aCons (xC (.str "high")) (aCons (xVar 3) (aNil)))) (aNil)))) (aNil))))) (aNil)))) (x2 subD (xVar 0) (xC (.int 4)))))))))
def g3 : XS := sSeq (sNew 9 (nLst (aCons (xTup (aCons (xFz (nMake "Claim" mi_3 (aCons (xVar 3) (aCons (xVar 4) (aCons (xVar 2) (aCons (xVar 5) (aNil))))))) (aCons (xTup (aCons (xVar 7) (aCons (xVar 6) (aCons (xVar 8) (aNil))))) (aNil)))) (aNil)))) (sSeq (sDrop (xApp 9 (xTup (aCons (xFz (nMake "Fee" mi_6 (aCons (xVar 3) (aCons (xVar 2) (aNil))))) (aCons (xTup (aCons (xVar 6) (aCons (xVar 7) (aNil)))) (aNil)))))) (sSeq (sDrop (xApp 9 (xTup (aCons (xFz (nMake "Voucher" mi_9 (aCons (xVar 5) (aCons (xVar 3) (aCons (xVar 4) (aNil)))))) (aCons (xTup (aCons (xVar 7) (aCons (xVar 8) (aNil)))) (aNil)))))) (sSeq (sDrop (xApp 9 (xTup (aCons (xFz (nMake "General" mi_13 (aCons (xVar 2) (aCons (xVar 5) (aCons (xVar 4) (aCons (xVar 3) (aNil))))))) (aCons (xTup (aCons (xVar 6) (aCons (xVar 7) (aCons (xVar 8) (aNil))))) (aNil)))))) (sSeq (sSet 13 (xLst (aCons (xTup (aCons (xC (.str "factor")) (aCons (xVar 2) (aNil)))) (aCons (xTup (aCons (xC (.str "plus")) (aCons (xVar 3) (aNil)))) (aCons (xTup (aCons (xC (.str "low")) (aCons (xVar 4) (aNil)))) (aCons (xTup (aCons (xC (.str "high")) (aCons (xVar 5) (aNil)))) (aNil))))))) (sRet (x2 addD (x2 idxY (xVar 9) (x2 subD (xVar 0) (xC (.int 8)))) (xTup (aCons (x2 idxY (xLst (aCons (xVar 13) (aCons (xSl (xVar 13) (oNone) (oSome (xC (.int 2)))) (aCons (xSl (xVar 13) (oSome (xC (.int 1))) (oNone)) (aCons (xVar 13) (aNil)))))) (x2 subD (xVar 0) (xC (.int 8)))) (aNil)))))))))
theorem made_eq : b_l_made = sSeq bm0 (sSeq bm1 (sSeq bm2 (sSeq (sIf (tst (x2 ltD (xVar 0) (xC (.int 4)))) g1 sNil) (sSeq (sIf (tst (x2 ltD (xVar 0) (xC (.int 8)))) g2 sNil) g3)))) := rfl
theorem ix4k {k : Nat} (hk : k < 4) (a b c d : PyData) : idxY (.list [a, b, c, d]) (.int k) = [a, b, c, d][k]? := by
  match k, hk with
  | 0, _ => rfl
  | 1, _ => rfl
  | 2, _ => rfl
  | 3, _ => rfl
theorem pre_ok (r : Raw f p lo hi) {k : Nat} {q : XS} {Q : Fl → Prop} (h : Wp q (pre1 f p lo hi k) Q) : Wp (sSeq bm0 (sSeq bm1 (sSeq bm2 q))) [.d (.int k), .d (rawD f p lo hi), .un, .un, .un, .un, .un, .un, .un, .un, .un, .un, .un, .un] Q := by
  have e1 := t_l_normal (f := f) (p := 0) (lo := none) (hi := none) (b := 14) (s0.mono (by decide)) (so_none _) (so_none _) (by decide) trivial
  have e2 := t_l_normal (f := 1) (p := 0) (lo := lo) (hi := hi) (b := 14) (s0.mono (by decide)) r.sc.lo r.sc.hi (by decide) r.le
  have e3 := cP_eq p
  simp only [oD_none] at e1
  refine wp_nx (ρ1 := [.d (.int k), .d (rawD f p lo hi), .d (qD f), .d (qD p), .d (oD lo), .d (oD hi), .un, .un, .un, .un, .un, .un, .un, .un]) (by simp [bm0, rawD]) ?_
  refine wp_nx (ρ1 := [.d (.int k), .d (rawD f p lo hi), .d (qD f), .d (qD p), .d (oD lo), .d (oD hi), .d (cD (cF f)), .d (cD (cP p)), .un, .un, .un, .un, .un, .un]) (by simp [bm1, q0, q1, e1, sizeL, e3, cF]) ?_
  exact wp_nx (ρ1 := pre1 f p lo hi k) (by simp [bm2, q0, q1, e2, sizeL, pre1, cB]) h
def rows1 (f p : Rat) (lo hi : Option Rat) : List PyData := [rowD oClause [] [], rowD (oScaled (qD f)) [cF f] [("factor", qD f)], rowD (oShifted (qD p)) [cP p] [("plus", qD p)], rowD (oBounded (oD lo) (oD hi)) [cB lo hi] [("low", oD lo), ("high", oD hi)]]
theorem t_g1 {k : Nat} (hk : k < 4) {r : PyData} (hr : (rows1 f p lo hi)[k]? = some r) : Wp g1 (pre1 f p lo hi k) fun x => ∃ ρ, x = .rt r ρ ∧ ρ.take 2 = [.d (.int k), .d (rawD f p lo hi)] := by
  unfold g1 pre1
  refine wp_nx (ρ1 := [.d (.int k), .d (rawD f p lo hi), .d (qD f), .d (qD p), .d (oD lo), .d (oD hi), .d (cD (cF f)), .d (cD (cP p)), .d (cD (cB lo hi)), .own (.ol [rowD oClause [] [], rowD (oScaled (qD f)) [cF f] [("factor", qD f)]]) false, .un, .un, .un, .un]) (by simp [-e_fz, mkClause, mkScaled, sizeL, rowD]) ?_
  refine wp_nx (ρ1 := [.d (.int k), .d (rawD f p lo hi), .d (qD f), .d (qD p), .d (oD lo), .d (oD hi), .d (cD (cF f)), .d (cD (cP p)), .d (cD (cB lo hi)), .own (.ol [rowD oClause [] [], rowD (oScaled (qD f)) [cF f] [("factor", qD f)], rowD (oShifted (qD p)) [cP p] [("plus", qD p)]]) false, .un, .un, .un, .un]) (by simp [-e_fz, mkShifted, sizeL, rowD, xApp]) ?_
  have e := ix4k hk (rowD oClause [] []) (rowD (oScaled (qD f)) [cF f] [("factor", qD f)]) (rowD (oShifted (qD p)) [cP p] [("plus", qD p)]) (rowD (oBounded (oD lo) (oD hi)) [cB lo hi] [("low", oD lo), ("high", oD hi)])
  replace e := e.trans hr
  have e2 : (.tuple [oBounded (oD lo) (oD hi), .tuple [cD (cB lo hi)], .list [.tuple [.str "low", oD lo], .tuple [.str "high", oD hi]]] : PyData) = rowD (oBounded (oD lo) (oD hi)) [cB lo hi] [("low", oD lo), ("high", oD hi)] := rfl
  generalize rowD (oBounded (oD lo) (oD hi)) [cB lo hi] [("low", oD lo), ("high", oD hi)] = R4 at *
  generalize rowD oClause [] [] = R1 at *
  generalize rowD (oScaled (qD f)) [cF f] [("factor", qD f)] = R2 at *
  generalize rowD (oShifted (qD p)) [cP p] [("plus", qD p)] = R3 at *
  clear hr
  refine wp_ret (we_of (b := r) (ρ' := [.d (.int k), .d (rawD f p lo hi), .d (qD f), .d (qD p), .d (oD lo), .d (oD hi), .d (cD (cF f)), .d (cD (cP p)), .d (cD (cB lo hi)), .d (.list [R1, R2, R3]), .un, .un, .un, .un]) ?_ ⟨_, rfl, rfl⟩)
  simp [-e_fz, mkBounded, sizeL, e2, addD, odD, rowD]
  exact e
def rows2 (f p : Rat) : List PyData := [rowD (oFixed (qD p)) [RQ.cst p] [("constant", qD p)], rowD (oPercent (qD (f * (1 / 100)))) [cF (f * (1 / 100))] [("factor", qD (f * (1 / 100)))], rowD (oFloor (qD p)) [cB (some p) none] [("low", qD p), ("high", .none)], rowD (oCap (qD p)) [cB none (some p)] [("low", .none), ("high", qD p)]]
abbrev L2' (f p : Rat) (lo hi : Option Rat) (k : Nat) (a b c d e : EV) : Nv := [.d (.int k), .d (rawD f p lo hi), .d (qD f), .d (qD p), .d (oD lo), .d (oD hi), .d (cD (cF f)), .d (cD (cP p)), .d (cD (cB lo hi)), a, b, c, d, e]
theorem sub4 {k m : Nat} (h : m ≤ k) : subD (.int k) (.int m) = some (.int ((k - m : Nat) : Int)) := by
  have : ((k : Int) - (m : Int)) = ((k - m : Nat) : Int) := by omega
  simp [subD, this]
theorem t_g2 (r : Raw f p lo hi) {k : Nat} (h4 : 4 ≤ k) (hk : k < 8) {w : PyData} (hr : (rows2 f p)[k - 4]? = some w) : Wp g2 (pre1 f p lo hi k) fun x => ∃ ρ, x = .rt w ρ ∧ ρ.take 2 = [.d (.int k), .d (rawD f p lo hi)] := by
  have e1 := t_l_normal (f := 1) (p := 0) (lo := some p) (hi := none) (b := 14) (s0.mono (by decide)) (so_some r.sc.p) (so_none _) (by decide) trivial
  have e2 := t_l_normal (f := 1) (p := 0) (lo := none) (hi := some p) (b := 14) (s0.mono (by decide)) (so_none _) (so_some r.sc.p) (by decide) trivial
  have e3 := t_l_times r.sc.f sq100 (by decide)
  have e4 := t_l_normal (f := f * (1 / 100)) (p := 0) (lo := none) (hi := none) (b := 14) (s0.mono (by decide)) (so_none _) (so_none _) (by decide) trivial
  have e5 : m_l_constant [.d (qD p)] = some (.d (cD (RQ.cst p)), [.d (qD p)]) := P1.t_l_const _
  have e6 := q100
  simp only [oD_none, oD_some] at e1 e2 e4
  have e7 := sub4 h4
  unfold g2 pre1
  refine wp_nx (ρ1 := L2' f p lo hi k .un (.d (cD (cB (some p) none))) (.d (cD (cB none (some p)))) .un .un) (by simp [q0, q1, e1, e2, sizeL, cB]) ?_
  refine wp_nx (ρ1 := L2' f p lo hi k .un (.d (cD (cB (some p) none))) (.d (cD (cB none (some p)))) (.d (qD (f * (1 / 100)))) .un) (by
    simp only at e3
    generalize qD (f * (1 / 100)) = Z at *
    generalize qD (1 / 100) = Y at *
    simp [e6, sizeL, e3]) ?_
  refine wp_nx (ρ1 := L2' f p lo hi k (.own (.ol [rowD (oFixed (qD p)) [RQ.cst p] [("constant", qD p)]]) false) (.d (cD (cB (some p) none))) (.d (cD (cB none (some p)))) (.d (qD (f * (1 / 100)))) .un) (by simp [-e_fz, mkFixed, sizeL, rowD, e5]) ?_
  have e8 := mkPercent r.sc.f (by decide) (by decide) (f := xVar 2) (ρ := L2' f p lo hi k (.own (.ol [rowD (oFixed (qD p)) [RQ.cst p] [("constant", qD p)]]) false) (.d (cD (cB (some p) none))) (.d (cD (cB none (some p)))) (.d (qD (f * (1 / 100)))) .un) rfl
  refine wp_nx (ρ1 := L2' f p lo hi k (.own (.ol [rowD (oFixed (qD p)) [RQ.cst p] [("constant", qD p)], rowD (oPercent (qD (f * (1 / 100)))) [cF (f * (1 / 100))] [("factor", qD (f * (1 / 100)))]]) false) (.d (cD (cB (some p) none))) (.d (cD (cB none (some p)))) (.d (qD (f * (1 / 100)))) .un) (by
    generalize rowD (oFixed (qD p)) [RQ.cst p] [("constant", qD p)] = R1 at *
    have ew : ∀ x, (.tuple [oPercent (qD (f * (1 / 100))), .tuple [x], .list [.tuple [.str "factor", qD (f * (1 / 100))]]] : PyData) = .tuple [oPercent (qD (f * (1 / 100))), .tuple ([x]), .list [hD ("factor", qD (f * (1 / 100)))]] := fun _ => rfl
    simp only at e8 e4
    have ec : RQ.nf (f * (1 / 100)) 0 none none = cF (f * (1 / 100)) := rfl
    rw [ec] at e4
    simp only [rowD, List.map_cons, List.map_nil]
    generalize cF (f * (1 / 100)) = CF at *
    generalize qD (f * (1 / 100)) = Z at *
    simp [-e_fz, e8, sizeL, xApp, q0, e4]) ?_
  refine wp_nx (ρ1 := L2' f p lo hi k (.own (.ol [rowD (oFixed (qD p)) [RQ.cst p] [("constant", qD p)], rowD (oPercent (qD (f * (1 / 100)))) [cF (f * (1 / 100))] [("factor", qD (f * (1 / 100)))], rowD (oFloor (qD p)) [cB (some p) none] [("low", qD p), ("high", .none)]]) false) (.d (cD (cB (some p) none))) (.d (cD (cB none (some p)))) (.d (qD (f * (1 / 100)))) .un) (by
    generalize rowD (oFixed (qD p)) [RQ.cst p] [("constant", qD p)] = R1 at *
    generalize rowD (oPercent (qD (f * (1 / 100)))) [cF (f * (1 / 100))] [("factor", qD (f * (1 / 100)))] = R2 at *
    generalize qD (f * (1 / 100)) = Z at *
    simp [-e_fz, mkFloor, sizeL, rowD, xApp]) ?_
  have e := ix4k (show k - 4 < 4 by omega) (rowD (oFixed (qD p)) [RQ.cst p] [("constant", qD p)]) (rowD (oPercent (qD (f * (1 / 100)))) [cF (f * (1 / 100))] [("factor", qD (f * (1 / 100)))]) (rowD (oFloor (qD p)) [cB (some p) none] [("low", qD p), ("high", .none)]) (rowD (oCap (qD p)) [cB none (some p)] [("low", .none), ("high", qD p)])
  replace e := e.trans hr
  rw [show ((k - 4 : Nat) : Int) = (k : Int) - 4 by omega] at e
  have e9 : (.tuple [oCap (qD p), .tuple [cD (cB none (some p))], .list [.tuple [.str "low", .none], .tuple [.str "high", qD p]]] : PyData) = rowD (oCap (qD p)) [cB none (some p)] [("low", .none), ("high", qD p)] := rfl
  clear hr e8
  generalize rowD (oFixed (qD p)) [RQ.cst p] [("constant", qD p)] = R1 at *
  generalize rowD (oPercent (qD (f * (1 / 100)))) [cF (f * (1 / 100))] [("factor", qD (f * (1 / 100)))] = R2 at *
  generalize rowD (oFloor (qD p)) [cB (some p) none] [("low", qD p), ("high", .none)] = R3 at *
  generalize rowD (oCap (qD p)) [cB none (some p)] [("low", .none), ("high", qD p)] = R4 at *
  generalize qD (f * (1 / 100)) = Z at *
  refine wp_ret (we_of (b := w) (ρ' := L2' f p lo hi k (.d (.list [R1, R2, R3])) (.d (cD (cB (some p) none))) (.d (cD (cB none (some p)))) (.d Z) .un) ?_ ⟨_, rfl, rfl⟩)
  simp [-e_fz, mkCap, sizeL, e9, addD, odD, e7, e]
def held4 (f p : Rat) (lo hi : Option Rat) : List (Str × PyData) := [("factor", qD f), ("plus", qD p), ("low", oD lo), ("high", oD hi)]
def rows3 (f p : Rat) (lo hi : Option Rat) : List PyData := [rowD (oClaim (qD f) (qD p) (oD lo) (oD hi)) [cP p, cF f, cB lo hi] (held4 f p lo hi), rowD (oFee (qD f) (qD p)) [cF f, cP p] ((held4 f p lo hi).take 2), rowD (oVoucher (qD p) (oD lo) (oD hi)) [cP p, cB lo hi] ((held4 f p lo hi).drop 1), rowD (oGeneral (qD f) (qD p) (oD lo) (oD hi)) [cF f, cP p, cB lo hi] (held4 f p lo hi)]
def two (o : PyData) (cs : List RQ.Cl) : PyData := .tuple [o, .tuple (cs.map cD)]
theorem t_g3 {k : Nat} (h8 : 8 ≤ k) (hk : k < 12) {w : PyData} (hr : (rows3 f p lo hi)[k - 8]? = some w) : Wp g3 (pre1 f p lo hi k) fun x => ∃ ρ, x = .rt w ρ ∧ ρ.take 2 = [.d (.int k), .d (rawD f p lo hi)] := by
  have e7 := sub4 h8
  unfold g3 pre1
  refine wp_nx (ρ1 := L2' f p lo hi k (.own (.ol [two (oClaim (qD f) (qD p) (oD lo) (oD hi)) [cP p, cF f, cB lo hi]]) false) .un .un .un .un) (by simp [-e_fz, mkClaim, sizeL, two]) ?_
  refine wp_nx (ρ1 := L2' f p lo hi k (.own (.ol [two (oClaim (qD f) (qD p) (oD lo) (oD hi)) [cP p, cF f, cB lo hi], two (oFee (qD f) (qD p)) [cF f, cP p]]) false) .un .un .un .un) (by simp [-e_fz, mkFee, sizeL, two, xApp]) ?_
  refine wp_nx (ρ1 := L2' f p lo hi k (.own (.ol [two (oClaim (qD f) (qD p) (oD lo) (oD hi)) [cP p, cF f, cB lo hi], two (oFee (qD f) (qD p)) [cF f, cP p], two (oVoucher (qD p) (oD lo) (oD hi)) [cP p, cB lo hi]]) false) .un .un .un .un) (by simp [-e_fz, mkVoucher, sizeL, two, xApp]) ?_
  refine wp_nx (ρ1 := L2' f p lo hi k (.own (.ol [two (oClaim (qD f) (qD p) (oD lo) (oD hi)) [cP p, cF f, cB lo hi], two (oFee (qD f) (qD p)) [cF f, cP p], two (oVoucher (qD p) (oD lo) (oD hi)) [cP p, cB lo hi], two (oGeneral (qD f) (qD p) (oD lo) (oD hi)) [cF f, cP p, cB lo hi]]) false) .un .un .un .un) (by simp [-e_fz, mkGeneral, sizeL, two, xApp]) ?_
  refine wp_nx (ρ1 := L2' f p lo hi k (.own (.ol [two (oClaim (qD f) (qD p) (oD lo) (oD hi)) [cP p, cF f, cB lo hi], two (oFee (qD f) (qD p)) [cF f, cP p], two (oVoucher (qD p) (oD lo) (oD hi)) [cP p, cB lo hi], two (oGeneral (qD f) (qD p) (oD lo) (oD hi)) [cF f, cP p, cB lo hi]]) false) .un .un .un (.d (.list ((held4 f p lo hi).map hD)))) (by simp [sizeL, held4]) ?_
  have e := ix4k (show k - 8 < 4 by omega) (two (oClaim (qD f) (qD p) (oD lo) (oD hi)) [cP p, cF f, cB lo hi]) (two (oFee (qD f) (qD p)) [cF f, cP p]) (two (oVoucher (qD p) (oD lo) (oD hi)) [cP p, cB lo hi]) (two (oGeneral (qD f) (qD p) (oD lo) (oD hi)) [cF f, cP p, cB lo hi])
  have e2 := ix4k (show k - 8 < 4 by omega) (.list ((held4 f p lo hi).map hD)) (.list (((held4 f p lo hi).take 2).map hD)) (.list (((held4 f p lo hi).drop 1).map hD)) (.list ((held4 f p lo hi).map hD))
  have s1 : slD (.list ((held4 f p lo hi).map hD)) none (some 2) = some (.list (((held4 f p lo hi).take 2).map hD)) := rfl
  have s2 : slD (.list ((held4 f p lo hi).map hD)) (some 1) none = some (.list (((held4 f p lo hi).drop 1).map hD)) := rfl
  have hs : ∃ o cs held, two o cs = ([two (oClaim (qD f) (qD p) (oD lo) (oD hi)) [cP p, cF f, cB lo hi], two (oFee (qD f) (qD p)) [cF f, cP p], two (oVoucher (qD p) (oD lo) (oD hi)) [cP p, cB lo hi], two (oGeneral (qD f) (qD p) (oD lo) (oD hi)) [cF f, cP p, cB lo hi]].getD (k - 8) .none) ∧
      some (two o cs) = [two (oClaim (qD f) (qD p) (oD lo) (oD hi)) [cP p, cF f, cB lo hi], two (oFee (qD f) (qD p)) [cF f, cP p], two (oVoucher (qD p) (oD lo) (oD hi)) [cP p, cB lo hi], two (oGeneral (qD f) (qD p) (oD lo) (oD hi)) [cF f, cP p, cB lo hi]][k - 8]? ∧
      some (.list (held.map hD)) = [PyData.list ((held4 f p lo hi).map hD), .list (((held4 f p lo hi).take 2).map hD), .list (((held4 f p lo hi).drop 1).map hD), .list ((held4 f p lo hi).map hD)][k - 8]? ∧ w = rowD o cs held := by
    generalize k - 8 = j at *
    have hj : j = 0 ∨ j = 1 ∨ j = 2 ∨ j = 3 := by
      rcases j with _ | _ | _ | _ | j
      · simp
      · simp
      · simp
      · simp
      · simp [rows3] at hr
    rcases hj with rfl | rfl | rfl | rfl <;> cases hr <;> exact ⟨_, _, _, rfl, rfl, rfl, rfl⟩
  obtain ⟨o, cs, held, -, q1', q2', rfl⟩ := hs
  rw [← q1', show ((k - 8 : Nat) : Int) = (k : Int) - 8 by omega] at e
  rw [← q2', show ((k - 8 : Nat) : Int) = (k : Int) - 8 by omega] at e2
  have ad : addD (two o cs) (.tuple [.list (held.map hD)]) = some (rowD o cs held) := by simp [two, rowD, addD, sizeL]
  clear hr q1' q2'
  generalize rowD o cs held = W at *
  generalize two o cs = O at *
  generalize two (oClaim (qD f) (qD p) (oD lo) (oD hi)) [cP p, cF f, cB lo hi] = R1 at *
  generalize two (oFee (qD f) (qD p)) [cF f, cP p] = R2 at *
  generalize two (oVoucher (qD p) (oD lo) (oD hi)) [cP p, cB lo hi] = R3 at *
  generalize two (oGeneral (qD f) (qD p) (oD lo) (oD hi)) [cF f, cP p, cB lo hi] = R4 at *
  generalize PyData.list (((held4 f p lo hi).take 2).map hD) = H2 at *
  generalize PyData.list (((held4 f p lo hi).drop 1).map hD) = H3 at *
  generalize PyData.list ((held4 f p lo hi).map hD) = H1 at *
  refine wp_ret (we_of (b := W) (ρ' := L2' f p lo hi k (.d (.list [R1, R2, R3, R4])) .un .un .un (.d H1)) ?_ ⟨_, rfl, rfl⟩)
  simp [e7, e, e2, s1, s2, sizeL, ad, odD]
end
end K05
set_option exponentiation.threshold 5000
set_option maxRecDepth 100000
set_option maxHeartbeats 4000000
namespace K05
open PySem PySem.Spec PyProof.Rows L2 DL
open P1 (s0 s1 q0 q1 so so_none so_some idC chL sq_ap so_ea sc_ch2 sc_id nn_o Raw)
section
variable {f p : Rat} {lo hi : Option Rat}
theorem nz_no : Nz 2 2000 .none := nz_o (q := none) (b := 14) (so_none _) (by decide)
theorem hd_nil {o : PyData} : ∀ h ∈ ([] : List (Str × PyData)), h.1 ∈ five ∧ fldD clsN h.1 o = some h.2 ∧ Nz 2 2000 h.2 := fun h hh => nomatch hh
theorem hd_cons {o v : PyData} {n : Str} {l : List (Str × PyData)} (h1 : n ∈ five) (h2 : fldD clsN n o = some v) (h3 : Nz 2 2000 v) (t : ∀ h ∈ l, h.1 ∈ five ∧ fldD clsN h.1 o = some h.2 ∧ Nz 2 2000 h.2) : ∀ h ∈ (n, v) :: l, h.1 ∈ five ∧ fldD clsN h.1 o = some h.2 ∧ Nz 2 2000 h.2 := fun h hh => by
  rcases List.mem_cons.mp hh with rfl | hh
  · exact ⟨h1, h2, h3⟩
  · exact t h hh
theorem n1 : ("factor" : Str) ∈ five := by decide
theorem n2 : ("plus" : Str) ∈ five := by decide
theorem n3 : ("low" : Str) ∈ five := by decide
theorem n4 : ("high" : Str) ∈ five := by decide
theorem n5 : ("constant" : Str) ∈ five := by decide
theorem sq22 (h : Sq 14 f) : Sq 22 (f * (1 / 100)) := ⟨by
  have := (h.mul (show Sq 8 (1 / 100 : Rat) from ⟨by decide +kernel, by decide +kernel⟩))
  exact (this.mono (by decide)).n, by
  have := (h.mul (show Sq 8 (1 / 100 : Rat) from ⟨by decide +kernel, by decide +kernel⟩))
  exact (this.mono (by decide)).d⟩
theorem t_made (r : Raw f p lo hi) {k : Nat} (hk : k < 12) : ∃ o cs held, m_l_made [.d (.int k), .d (rawD f p lo hi)] = some (.d (rowD o cs held), [.d (.int k), .d (rawD f p lo hi)]) ∧ Rw o cs held := by
  have key : ∀ {o cs held}, (k < 4 ∧ (rows1 f p lo hi)[k]? = some (rowD o cs held) ∨ (4 ≤ k ∧ k < 8) ∧ (rows2 f p)[k - 4]? = some (rowD o cs held) ∨ 8 ≤ k ∧ (rows3 f p lo hi)[k - 8]? = some (rowD o cs held)) → m_l_made [.d (.int k), .d (rawD f p lo hi)] = some (.d (rowD o cs held), [.d (.int k), .d (rawD f p lo hi)]) := by
    intro o cs held hc
    refine run_wp ?_
    rw [made_eq]
    refine pre_ok r ?_
    have fin : ∀ {x}, (∃ ρ, x = Fl.rt (rowD o cs held) ρ ∧ ρ.take 2 = [.d (.int k), .d (rawD f p lo hi)]) → ∃ ρ, x = Fl.rt (rowD o cs held) ρ ∧ finA [.d (.int k), .d (rawD f p lo hi)] ρ = [.d (.int k), .d (rawD f p lo hi)] := by
      rintro x ⟨ρ, rfl, h⟩
      refine ⟨ρ, rfl, ?_⟩
      match ρ, h with
      | a :: b :: ρ, h => rfl
    have lt : ∀ m : Nat, tst (x2 ltD (xVar 0) (xC (.int m))) (pre1 f p lo hi k) = some (decide ((k : Int) < m), pre1 f p lo hi k) := fun m => by simp [pre1]
    have l4 := lt 4
    have l8 := lt 8
    rcases hc with ⟨h1, hr⟩ | ⟨⟨h1, h2⟩, hr⟩ | ⟨h1, hr⟩
    · have d4 : decide ((k : Int) < (4 : Nat)) = true := decide_eq_true (by omega)
      rw [d4] at l4
      refine wp_seq (wp_if (wt_of l4 ?_))
      rw [if_pos rfl]
      refine (t_g1 h1 hr).imp ?_
      rintro x hx
      obtain ⟨ρ, rfl, h⟩ := hx
      exact fin ⟨ρ, rfl, h⟩
    · have d4 : decide ((k : Int) < (4 : Nat)) = false := decide_eq_false (by omega)
      rw [d4] at l4
      refine wp_nx (ρ1 := pre1 f p lo hi k) (by rw [e_sif]; erw [l4]; rfl) ?_
      have d8 : decide ((k : Int) < (8 : Nat)) = true := decide_eq_true (by omega)
      rw [d8] at l8
      refine wp_seq (wp_if (wt_of l8 ?_))
      rw [if_pos rfl]
      refine (t_g2 r h1 h2 hr).imp ?_
      rintro x hx
      obtain ⟨ρ, rfl, h⟩ := hx
      exact fin ⟨ρ, rfl, h⟩
    · have d4 : decide ((k : Int) < (4 : Nat)) = false := decide_eq_false (by omega)
      rw [d4] at l4
      refine wp_nx (ρ1 := pre1 f p lo hi k) (by rw [e_sif]; erw [l4]; rfl) ?_
      have d8 : decide ((k : Int) < (8 : Nat)) = false := decide_eq_false (by omega)
      rw [d8] at l8
      refine wp_nx (ρ1 := pre1 f p lo hi k) (by rw [e_sif]; erw [l8]; rfl) ?_
      exact (t_g3 h1 hk hr).imp fun x hx => fin hx
  have vf := nz_q r.sc.f (by decide)
  have vp := nz_q r.sc.p (by decide)
  have vl := nz_o r.sc.lo (by decide)
  have vh := nz_o r.sc.hi (by decide)
  have hc : k = 0 ∨ k = 1 ∨ k = 2 ∨ k = 3 ∨ k = 4 ∨ k = 5 ∨ k = 6 ∨ k = 7 ∨ k = 8 ∨ k = 9 ∨ k = 10 ∨ k = 11 := by omega
  rcases hc with rfl | rfl | rfl | rfl | rfl | rfl | rfl | rfl | rfl | rfl | rfl | rfl
  · exact ⟨_, _, _, key (.inl ⟨by decide, rfl⟩), obClause, hd_nil, by simp⟩
  · exact ⟨_, _, _, key (.inl ⟨by decide, rfl⟩), obScaled r.sc.f r.f0, hd_cons n1 rfl vf hd_nil, by simp⟩
  · exact ⟨_, _, _, key (.inl ⟨by decide, rfl⟩), obShifted r.sc.p, hd_cons n2 rfl vp hd_nil, by simp⟩
  · exact ⟨_, _, _, key (.inl ⟨by decide, rfl⟩), obBounded r.sc.lo r.sc.hi r.le, hd_cons n3 rfl vl (hd_cons n4 rfl vh hd_nil), by simp⟩
  · exact ⟨_, _, _, key (.inr (.inl ⟨⟨by decide, by decide⟩, rfl⟩)), obFixed r.sc.p, hd_cons n5 rfl vp hd_nil, by simp⟩
  · exact ⟨_, _, _, key (.inr (.inl ⟨⟨by decide, by decide⟩, rfl⟩)), obPercent (sq22 r.sc.f) (Rat.mul_nonneg r.f0 (by decide +kernel)), hd_cons n1 rfl (nz_q (sq22 r.sc.f) (by decide)) hd_nil, by simp⟩
  · exact ⟨_, _, _, key (.inr (.inl ⟨⟨by decide, by decide⟩, rfl⟩)), obFloor r.sc.p, hd_cons n3 rfl vp (hd_cons n4 rfl nz_no hd_nil), by simp⟩
  · exact ⟨_, _, _, key (.inr (.inl ⟨⟨by decide, by decide⟩, rfl⟩)), obCap r.sc.p, hd_cons n3 rfl nz_no (hd_cons n4 rfl vp hd_nil), by simp⟩
  · exact ⟨_, _, _, key (.inr (.inr ⟨by decide, rfl⟩)), obClaim r, hd_cons n1 rfl vf (hd_cons n2 rfl vp (hd_cons n3 rfl vl (hd_cons n4 rfl vh hd_nil))), by simp [held4]⟩
  · exact ⟨_, _, _, key (.inr (.inr ⟨by decide, rfl⟩)), obFee r.sc.f r.f0 r.sc.p, hd_cons n1 rfl vf (hd_cons n2 rfl vp hd_nil), by simp [held4]⟩
  · exact ⟨_, _, _, key (.inr (.inr ⟨by decide, rfl⟩)), obVoucher r.sc.p r.sc.lo r.sc.hi r.le, hd_cons n2 rfl vp (hd_cons n3 rfl vl (hd_cons n4 rfl vh hd_nil)), by simp [held4]⟩
  · exact ⟨_, _, _, key (.inr (.inr ⟨by decide, rfl⟩)), obGeneral r, hd_cons n1 rfl vf (hd_cons n2 rfl vp (hd_cons n3 rfl vl (hd_cons n4 rfl vh hd_nil))), by simp [held4]⟩
end
end K05
set_option exponentiation.threshold 5000
set_option maxRecDepth 100000
set_option maxHeartbeats 4000000
namespace K05
open PySem PySem.Spec PyProof.Rows L2 DL
open P1 (s0 s1 q0 q1 so so_none so_some idC chL sq_ap so_ea sc_ch2 sc_id nn_o Raw)
def oB0 : XS := sPar 13 14 (x2 idxD (xVar 12) (xC (.int 0))) (x2 eqD (xCall (arity 1 m_l_chain) (aCons (xVar 10) (aNil))) (xCall (arity 1 m_l_chain) (aCons (x2 idxD (xVar 12) (xC (.int 1))) (aNil))))
def oB1 : XS := sIf (tst (x2 neD (x1 reprD (xLst (aCons (xEqO tab_eq subT false (xVar 9) (xVar 13)) (aCons (xEqO tab_eq subT true (xVar 9) (xVar 13)) (aNil))))) (x1 reprD (xLst (aCons (xVar 14) (aCons (xNot (xVar 14)) (aNil))))))) (sRet (xC (.bool false))) (sNil)
def aB0 : XS := sAsg (x2 idxY (xVar 7) (xVar 8)) (gTp 3 (gsCons (gNm 9) (gsCons (gNm 10) (gsCons (gNm 11) (gsNil)))))
def aB1 : XS := sIf (xNotT (xTru (xCall (arity 2 m_l_object_right) (aCons (xVar 9) (aCons (xVar 10) (aNil)))))) (sRet (xC (.bool false))) (sNil)
def aB2 : XS := sIf (tst (x2 neD (x1 reprD (xFz (nLc (iOf (xVar 11)) (gTp 2 (gsCons (gNm 16) (gsCons (gNm 17) (gsNil)))) (cYes) (xCall (arity 2 m_l_read_off) (aCons (xVar 9) (aCons (xVar 16) (aNil)))) [16, 17]))) (x1 reprD (xFz (nLc (iOf (xVar 11)) (gTp 2 (gsCons (gNm 16) (gsCons (gNm 17) (gsNil)))) (cYes) (xVar 17) [16, 17]))))) (sRet (xC (.bool false))) (sNil)
def aI : XI := iOf (xStepF 3 (xVar 7) (oSome (x2 modD (x2 addD (xVar 8) (xVar 4)) (xC (.int 3)))))
def aB : XS := sSeq aB0 (sSeq aB1 (sSeq aB2 (sFor aI (gNm 12) (sSeq oB0 oB1))))
def rB0 : XS := sPar 6 7 (x1 reprD (xVar 5)) (xFz (nLc (iRng (xC (.int 12))) (gNm 15) (cYes) (xCall (arity 2 m_l_made) (aCons (xVar 15) (aCons (xVar 5) (aNil)))) [15]))
def rB2 : XS := sIf (tst (x2 neD (x1 reprD (xVar 5)) (xVar 6))) (sRet (xC (.bool false))) (sNil)
def rB : XS := sSeq rB0 (sSeq (sFor (iRng (xC (.int 12))) (gNm 8) aB) rB2)
def lw0 : XS := sNew 1 (nCall (arity 1 m_l_feed) (aSlot 0 (aNil)))
def lw1 : XS := sNew 2 (nLst (aCons (xTup (aCons (xTup (aCons (xC (.int 1)) (aCons (xC (.int 1)) (aNil)))) (aCons (xTup (aCons (xC (.int 0)) (aCons (xC (.int 1)) (aNil)))) (aCons (xC .none) (aCons (xC .none) (aNil)))))) (aCons (xTup (aCons (xTup (aCons (xC (.int 0)) (aCons (xC (.int 1)) (aNil)))) (aCons (xTup (aCons (xC (.int 5)) (aCons (xC (.int 1)) (aNil)))) (aCons (xTup (aCons (xC (.int 0)) (aCons (xC (.int 1)) (aNil)))) (aCons (xTup (aCons (xC (.int 3)) (aCons (xC (.int 1)) (aNil)))) (aNil)))))) (aCons (xTup (aCons (xTup (aCons (xC (.int 2)) (aCons (xC (.int 1)) (aNil)))) (aCons (xTup (aCons (x1 negD (xC (.int 3))) (aCons (xC (.int 1)) (aNil)))) (aCons (xTup (aCons (xC (.int 5)) (aCons (xC (.int 1)) (aNil)))) (aCons (xTup (aCons (xC (.int 5)) (aCons (xC (.int 1)) (aNil)))) (aNil)))))) (aNil)))))
def lw2 : XS := sDrop (xApp 2 (xTup (aCons (xTup (aCons (xC (.int 1)) (aCons (xC (.int 2)) (aNil)))) (aCons (xTup (aCons (x1 negD (xC (.int 3))) (aCons (xC (.int 1)) (aNil)))) (aCons (xC .none) (aCons (xTup (aCons (xC (.int 10)) (aCons (xC (.int 1)) (aNil)))) (aNil)))))))
def lw3 : XS := sFor (iRng (xC (.int 2))) (gNm 3) (sDrop (xApp 2 (xCall (arity 1 m_l_raw) (aSlot 1 (aNil)))))
def lwG : XG := gTp 2 (gsCons (gNm 4) (gsCons (gNm 5) (gsNil)))
theorem law_eq : b_law = sSeq lw0 (sSeq lw1 (sSeq lw2 (sSeq lw3 (sSeq (sFor (iEnuA (xVar 2)) lwG rB) (sRet (xCall m_l_bare_right aNil)))))) := rfl
abbrev Ro := PyData × List RQ.Cl × List (Str × PyData)
def kb (r : Ro) : PyData := rowD r.1 r.2.1 r.2.2
def Gr (r : Ro) : Prop := Rw r.1 r.2.1 r.2.2
abbrev LS (a b c d e4 e5 e6 e7 e8 e9 e10 e11 e12 e13 e14 : EV) : Nv := [a, b, c, d, e4, e5, e6, e7, e8, e9, e10, e11, e12, e13, e14, .un, .un, .un]
section
variable {a b c d e4 e5 e6 e7 e8 e9 e10 e11 e12 e13 e14 : EV}
theorem o_round {r1 r2 : Ro} (g1 : Gr r1) (g2 : Gr r2) (h13 : Fs e13) (h14 : Fs e14) : ∃ bb, sSeq oB0 oB1 (LS a b c d e4 e5 e6 e7 e8 (.d r1.1) (.d (.tuple (r1.2.1.map cD))) e11 (.d (kb r2)) e13 e14) = some (.nx (LS a b c d e4 e5 e6 e7 e8 (.d r1.1) (.d (.tuple (r1.2.1.map cD))) e11 (.d (kb r2)) (.d r2.1) (.d (.bool bb)))) := by
  obtain ⟨o1, c1, h1⟩ := r1
  obtain ⟨o2, c2, h2⟩ := r2
  simp only [Gr] at g1 g2
  refine ⟨decide (chL c1 = chL c2), ?_⟩
  have x1 := t_l_chain (b := 22) g1.ob.ok (by decide) (by have := g1.ob.len; omega)
  have x2 := t_l_chain (b := 22) g2.ob.ok (by decide) (by have := g2.ob.len; omega)
  have i0 : idxD (kb (o2, c2, h2)) (.int 0) = some o2 := rfl
  have i1 : idxD (kb (o2, c2, h2)) (.int 1) = some (.tuple (c2.map cD)) := rfl
  have q := eq_cc (chL c1) (chL c2)
  have z : ∀ bb, ∀ ne, xEqO tab_eq subT ne (xVar 9) (xVar 13) (LS a b c d e4 e5 e6 e7 e8 (.d o1) (.d (.tuple (c1.map cD))) e11 (.d (kb (o2, c2, h2))) (.d o2) (.d (.bool bb))) = some (.bool (decide (chL c1 = chL c2) != ne), LS a b c d e4 e5 e6 e7 e8 (.d o1) (.d (.tuple (c1.map cD))) e11 (.d (kb (o2, c2, h2))) (.d o2) (.d (.bool bb))) := fun bb ne => g1.ob.eqO g2.ob rfl rfl
  generalize decide (chL c1 = chL c2) = BB at *
  obtain ⟨s, es⟩ := rep_bb BB (!BB)
  generalize chL c1 = C1 at *
  generalize chL c2 = C2 at *
  generalize kb (o2, c2, h2) = K2 at *
  generalize PyData.tuple (c1.map cD) = D1 at *
  generalize PyData.tuple (c2.map cD) = D2 at *
  have y0 : oB0 (LS a b c d e4 e5 e6 e7 e8 (.d o1) (.d D1) e11 (.d K2) e13 e14) = some (.nx (LS a b c d e4 e5 e6 e7 e8 (.d o1) (.d D1) e11 (.d K2) (.d o2) (.d (.bool BB)))) := by
    simp [oB0, free_fs h13, free_fs h14, i0, i1, x1, x2, q]
  have z1 := z BB false
  have z2 := z BB true
  have y1 : oB1 (LS a b c d e4 e5 e6 e7 e8 (.d o1) (.d D1) e11 (.d K2) (.d o2) (.d (.bool BB))) = some (.nx (LS a b c d e4 e5 e6 e7 e8 (.d o1) (.d D1) e11 (.d K2) (.d o2) (.d (.bool BB)))) := by
    unfold oB1
    generalize xEqO tab_eq subT false (xVar 9) (xVar 13) = E1 at *
    generalize xEqO tab_eq subT true (xVar 9) (xVar 13) = E2 at *
    simp [z1, z2, sizeL, es, ne_ss]
  rw [e_seq, y0, Option.bind_some]
  exact y1
theorem stepFL_map {α β : Type} (g : α → β) (i k : Int) (xs : List α) : stepFL i k (xs.map g) = (stepFL i k xs).map g := by
  unfold stepFL
  rw [List.length_map, List.map_filterMap]
  congr 1
  funext j
  simp
theorem stepFL_mem {α : Type} {i k : Int} {xs : List α} {x : α} (h : x ∈ stepFL i k xs) : x ∈ xs := by
  unfold stepFL at h
  obtain ⟨j, _, e⟩ := List.mem_filterMap.mp h
  exact List.mem_of_getElem? e
theorem stepFL_len {α : Type} (i : Int) (xs : List α) : (stepFL i 3 xs).length ≤ xs.length := by
  unfold stepFL
  refine Nat.le_trans (List.length_filterMap_le _ _) ?_
  refine Nat.le_trans (PySem.sliceRange_len_le _ _ 3 (by decide)) ?_
  rw [if_pos (by decide)]
  unfold loFrom
  omega
theorem a_round {R : List Ro} {r : Ro} {k t : Nat} (hR : ∀ x ∈ R, Gr x) (hl : R.length = 12) (hr : R[k]? = some r) (h9 : Fs e9) (h10 : Fs e10) (h11 : Fs e11) (h12 : Fs e12) (h13 : Fs e13) (h14 : Fs e14) :
    Wp aB (LS a b c d (.d (.int t)) e5 e6 (.d (.list (R.map kb))) (.d (.int k)) e9 e10 e11 e12 e13 e14) fun x => ∃ f9 f10 f11 f12 f13 f14, Fs f9 ∧ Fs f10 ∧ Fs f11 ∧ Fs f12 ∧ Fs f13 ∧ Fs f14 ∧ x = .nx (LS a b c d (.d (.int t)) e5 e6 (.d (.list (R.map kb))) (.d (.int k)) f9 f10 f11 f12 f13 f14) := by
  have hk : k < R.length := (List.getElem?_eq_some_iff.mp hr).1
  have g := hR r (List.mem_of_getElem? hr)
  obtain ⟨o, cs, held⟩ := r
  have g' : Rw o cs held := g
  have at_ : atI (R.map kb) (k : Int) = some (kb (o, cs, held)) := by
    have hn : ¬ ((k : Int) < 0) := by omega
    have : ixN (R.map kb).length (k : Int) = some k := by
      unfold ixN
      have hk' : (k : Int) < (R.length : Int) := by omega
      simp [hn, hk']
    unfold atI
    rw [this]
    simp [hr]
  have ix : idxY (.list (R.map kb)) (.int k) = some (kb (o, cs, held)) := by simp [orD, idxD, at_]
  have kr : kb (o, cs, held) = .tuple [o, .tuple (cs.map cD), .list (held.map hD)] := rfl
  unfold aB
  refine wp_nx (ρ1 := LS a b c d (.d (.int t)) e5 e6 (.d (.list (R.map kb))) (.d (.int k)) (.d o) (.d (.tuple (cs.map cD))) (.d (.list (held.map hD))) e12 e13 e14) (by
    rw [kr] at ix
    generalize PyData.tuple (cs.map cD) = D at *
    generalize PyData.list (held.map hD) = H at *
    generalize PyData.list (R.map kb) = RR at *
    have ix' : x2 idxY (xVar 7) (xVar 8) (LS a b c d (.d (.int t)) e5 e6 (.d RR) (.d (.int k)) e9 e10 e11 e12 e13 e14) = some (.tuple [o, D, H], LS a b c d (.d (.int t)) e5 e6 (.d RR) (.d (.int k)) e9 e10 e11 e12 e13 e14) := by
      rw [e_2]
      simp only [e_var, LS, List.getElem?_cons_succ, List.getElem?_cons_zero, Option.bind_some, ix, Option.map_some]
    unfold aB0
    rw [e_asg, ix']
    simp [free_fs h9, free_fs h10, free_fs h11]) ?_
  have er := t_right g'.ob
  refine wp_nx (ρ1 := LS a b c d (.d (.int t)) e5 e6 (.d (.list (R.map kb))) (.d (.int k)) (.d o) (.d (.tuple (cs.map cD))) (.d (.list (held.map hD))) e12 e13 e14) (by
    generalize PyData.tuple (cs.map cD) = D at *
    generalize PyData.list (held.map hD) = H at *
    generalize PyData.list (R.map kb) = RR at *
    simp [aB1, er]) ?_
  have hh := g'.hd
  have hlen := g'.len
  have l1 : xFz (nLc (iOf (xVar 11)) (gTp 2 (gsCons (gNm 16) (gsCons (gNm 17) (gsNil)))) (cYes) (xCall (arity 2 m_l_read_off) (aCons (xVar 9) (aCons (xVar 16) (aNil)))) [16, 17]) (LS a b c d (.d (.int t)) e5 e6 (.d (.list (R.map kb))) (.d (.int k)) (.d o) (.d (.tuple (cs.map cD))) (.d (.list (held.map hD))) e12 e13 e14) = some (.list (held.map (·.2)), LS a b c d (.d (.int t)) e5 e6 (.d (.list (R.map kb))) (.d (.int k)) (.d o) (.d (.tuple (cs.map cD))) (.d (.list (held.map hD))) e12 e13 e14) := by
    refine fz_map (k := hD) (xs := held) (·.2) (by simp [itD]) (by simp [unAt]) (fun x hx => ?_) (by omega)
    have e := t_off (hh x hx).1 (hh x hx).2.1
    obtain ⟨n, v⟩ := x
    generalize PyData.tuple (cs.map cD) = D at *
    generalize PyData.list (held.map hD) = H at *
    generalize PyData.list (R.map kb) = RR at *
    simp only at e
    simp [e_lcS, wipeN, e]
  have l2 : xFz (nLc (iOf (xVar 11)) (gTp 2 (gsCons (gNm 16) (gsCons (gNm 17) (gsNil)))) (cYes) (xVar 17) [16, 17]) (LS a b c d (.d (.int t)) e5 e6 (.d (.list (R.map kb))) (.d (.int k)) (.d o) (.d (.tuple (cs.map cD))) (.d (.list (held.map hD))) e12 e13 e14) = some (.list (held.map (·.2)), LS a b c d (.d (.int t)) e5 e6 (.d (.list (R.map kb))) (.d (.int k)) (.d o) (.d (.tuple (cs.map cD))) (.d (.list (held.map hD))) e12 e13 e14) := by
    refine fz_map (k := hD) (xs := held) (·.2) (by simp [itD]) (by simp [unAt]) (fun x hx => ?_) (by omega)
    obtain ⟨n, v⟩ := x
    generalize PyData.tuple (cs.map cD) = D at *
    generalize PyData.list (held.map hD) = H at *
    generalize PyData.list (R.map kb) = RR at *
    simp [e_lcS, wipeN]
  have rp : ∃ s, reprD (.list (held.map (·.2))) = some (.str s) := by
    have : NzA 2 (2002 * held.length) (held.map (·.2)) := by
      clear l1 l2 hlen g' g er ix at_ kr hr
      induction held with
      | nil => exact NzA.nil
      | cons x xs ih =>
        have i := ih fun y hy => hh y (List.mem_cons_of_mem _ hy)
        have := NzA.cons (hh x List.mem_cons_self).2.2 i
        refine ⟨this.o, this.d, Nat.le_trans this.s ?_⟩
        rw [List.length_cons]
        omega
    exact rp_ne this.lst (by decide) (by omega)
  obtain ⟨s, es⟩ := rp
  refine wp_nx (ρ1 := LS a b c d (.d (.int t)) e5 e6 (.d (.list (R.map kb))) (.d (.int k)) (.d o) (.d (.tuple (cs.map cD))) (.d (.list (held.map hD))) e12 e13 e14) (by
    unfold aB2
    generalize xFz (nLc (iOf (xVar 11)) (gTp 2 (gsCons (gNm 16) (gsCons (gNm 17) (gsNil)))) (cYes) (xCall (arity 2 m_l_read_off) (aCons (xVar 9) (aCons (xVar 16) (aNil)))) [16, 17]) = X1 at *
    generalize xFz (nLc (iOf (xVar 11)) (gTp 2 (gsCons (gNm 16) (gsCons (gNm 17) (gsNil)))) (cYes) (xVar 17) [16, 17]) = X2 at *
    generalize PyData.list (held.map (·.2)) = V at *
    simp [l1, l2, es, ne_ss]) ?_
  refine wp_for kb (stepFL (((k : Int) + t) % 3) 3 R) (fun xs ρ => (∀ x ∈ xs, Gr x) ∧ ∃ f12 f13 f14, Fs f12 ∧ Fs f13 ∧ Fs f14 ∧ ρ = LS a b c d (.d (.int t)) e5 e6 (.d (.list (R.map kb))) (.d (.int k)) (.d o) (.d (.tuple (cs.map cD))) (.d (.list (held.map hD))) f12 f13 f14)
    (ρ0 := LS a b c d (.d (.int t)) e5 e6 (.d (.list (R.map kb))) (.d (.int k)) (.d o) (.d (.tuple (cs.map cD))) (.d (.list (held.map hD))) e12 e13 e14) ?_ ⟨fun x hx => hR x (stepFL_mem hx), e12, e13, e14, h12, h13, h14, rfl⟩ ?_ ?_
  · have hz : (stepFL (((k : Int) + t) % 3) 3 (R.map kb)).length ≤ sizeLine := by
      have := stepFL_len (((k : Int) + t) % 3) (R.map kb)
      rw [List.length_map, hl] at this
      rw [sizeL]
      omega
    have e : stepFD 3 (.list (R.map kb)) (some (((k : Int) + t) % 3)) = some (.list ((stepFL (((k : Int) + t) % 3) 3 R).map kb)) := by
      show (if (stepFL (((k : Int) + t) % 3) 3 (R.map kb)).length ≤ sizeLine then some (PyData.list (stepFL (((k : Int) + t) % 3) 3 (R.map kb))) else none) = _
      rw [if_pos hz, stepFL_map]
    generalize (stepFL (((k : Int) + t) % 3) 3 R).map kb = Y at *
    generalize PyData.list (R.map kb) = RR at *
    generalize PyData.tuple (cs.map cD) = D at *
    generalize PyData.list (held.map hD) = H at *
    have m3 : modD (.int ((k : Int) + t)) (.int 3) = some (.int (((k : Int) + t) % 3)) := o_mod (by decide)
    simp [aI, xStepF, addD, m3, e, itD]
  · rintro x xs ρ ⟨hx, f12, f13, f14, q12, q13, q14, rfl⟩
    have gx := hx x List.mem_cons_self
    obtain ⟨bb, e⟩ := o_round (a := a) (b := b) (c := c) (d := d) (e4 := .d (.int t)) (e5 := e5) (e6 := e6) (e7 := .d (.list (R.map kb))) (e8 := .d (.int k)) (e11 := .d (.list (held.map hD))) (r1 := (o, cs, held)) (r2 := x) g gx q13 q14
    refine ⟨_, ?_, fun y hy => hx y (List.mem_cons_of_mem _ hy), .d (kb x), .d x.1, .d (.bool bb), by simp, by simp, by simp, rfl⟩
    rw [e_stepF]
    generalize sSeq oB0 oB1 = B at *
    generalize kb x = KX at *
    generalize PyData.list (R.map kb) = RR at *
    generalize PyData.tuple (cs.map cD) = D at *
    generalize PyData.list (held.map hD) = H at *
    simp [free_fs q12]
    exact e
  · rintro ρ ⟨-, f12, f13, f14, q12, q13, q14, rfl⟩
    exact ⟨_, _, _, _, _, _, by simp, by simp, by simp, q12, q13, q14, rfl⟩
end
end K05
set_option exponentiation.threshold 5000
set_option maxRecDepth 100000
set_option maxHeartbeats 4000000
namespace K05
open PySem PySem.Spec PyProof.Rows L2 DL
open P1 (s0 s1 q0 q1 so so_none so_some idC chL sq_ap so_ea sc_ch2 sc_id nn_o Raw)
def b0 : XS := sSet 0 (xTup (aCons (xTup (aCons (xC (.int 1)) (aCons (xC (.int 1)) (aNil)))) (aCons (xTup (aCons (xC (.int 0)) (aCons (xC (.int 1)) (aNil)))) (aCons (xC .none) (aCons (xC .none) (aNil))))))
def b1 : XS := sSet 1 (xLst (aCons (xTup (aCons (xFz (nMake "Clause" m_Clause_init (aNil))) (aCons (xC (.int 0)) (aNil)))) (aCons (xTup (aCons (xFz (nMake "Scaled" mi_32 (aNil))) (aCons (xC (.int 1)) (aNil)))) (aCons (xTup (aCons (xFz (nMake "Shifted" mi_33 (aNil))) (aCons (xC (.int 1)) (aNil)))) (aCons (xTup (aCons (xFz (nMake "Bounded" mi_34 (aNil))) (aCons (xC (.int 1)) (aNil)))) (aCons (xTup (aCons (xFz (nMake "Claim" mi_37 (aNil))) (aCons (xC (.int 3)) (aNil)))) (aCons (xTup (aCons (xFz (nMake "Fee" mi_39 (aNil))) (aCons (xC (.int 2)) (aNil)))) (aCons (xTup (aCons (xFz (nMake "Voucher" mi_41 (aNil))) (aCons (xC (.int 2)) (aNil)))) (aNil)))))))))
def bI : XI := iOf (x2 addD (xVar 1) (xLst (aCons (xTup (aCons (xFz (nMake "General" mi_44 (aNil))) (aCons (xC (.int 3)) (aNil)))) (aNil))))
def bG : XG := gTp 2 (gsCons (gNm 2) (gsCons (gNm 3) (gsNil)))
def bS : XS := sIf (xOrT (tst (x2 neD (x1 reprD (xLst (aCons (xOf (gMeth tab_parts (rvS "parts" 2) (aBoth aNil aNil))) (aCons (xOf (gMeth tab_form (rvS "form" 2) (aBoth aNil aNil))) (aNil))))) (x1 reprD (xLst (aCons (x2 mulY (xTup (aCons (xVar 0) (aNil))) (xVar 3)) (aCons (xVar 0) (aNil))))))) (tst (xEqO tab_eq subT true (xVar 2) (xFz (nMake "Clause" m_Clause_init (aNil)))))) (sRet (xC (.bool false))) (sNil)
def b3 : XS := sRet (x2 eqD (x1 reprD (xC (.tuple [.tuple [.int 1, .int 1], .tuple [.int 0, .int 1], .none, .none]))) (x1 reprD (xVar 0)))
theorem bare_eq : b_l_bare_right = sSeq b0 (sSeq b1 (sSeq (sFor bI bG bS) b3)) := rfl
theorem raw1 : Raw 1 0 none none := ⟨by decide, trivial, s1.mono (by decide), s0.mono (by decide), so_none _, so_none _⟩
theorem cF1 : cF 1 = idC := by kernel_rfl
theorem cP0 : cP 0 = idC := by kernel_rfl
theorem cB0 : cB none none = idC := by kernel_rfl
theorem ch_ids : ∀ n : Nat, chL (List.replicate n idC) = idC
  | 0 => rfl
  | n + 1 => by
    show (List.replicate n idC).foldl RQ.ch2 (RQ.ch2 idC idC) = idC
    rw [P1.id_ch P1.wf_id]
    exact ch_ids n
abbrev Br := PyData × Nat
def kB (r : Br) : PyData := .tuple [r.1, .int r.2]
def bares : List Br := [(oClause, 0), (oScaled (qD 1), 1), (oShifted (qD 0), 1), (oBounded .none .none, 1), (oClaim (qD 1) (qD 0) .none .none, 3), (oFee (qD 1) (qD 0), 2), (oVoucher (qD 0) .none .none, 2), (oGeneral (qD 1) (qD 0) .none .none, 3)]
theorem bares_ok : ∀ x ∈ bares, Ob x.1 (List.replicate x.2 idC) ∧ x.2 ≤ 3 := by
  have a1 := obScaled raw1.sc.f raw1.f0
  have a2 := obShifted raw1.sc.p
  have a3 := obBounded raw1.sc.lo raw1.sc.hi raw1.le
  have a4 := obClaim raw1
  have a5 := obFee raw1.sc.f raw1.f0 raw1.sc.p
  have a6 := obVoucher raw1.sc.p raw1.sc.lo raw1.sc.hi raw1.le
  have a7 := obGeneral raw1
  simp only [cF1, cP0, cB0] at a1 a2 a3 a4 a5 a6 a7
  intro x hx
  simp only [bares, List.mem_cons, List.not_mem_nil, or_false] at hx
  rcases hx with rfl | rfl | rfl | rfl | rfl | rfl | rfl | rfl
  · exact ⟨obClause, by decide⟩
  · exact ⟨a1, by decide⟩
  · exact ⟨a2, by decide⟩
  · exact ⟨a3, by decide⟩
  · exact ⟨a4, by decide⟩
  · exact ⟨a5, by decide⟩
  · exact ⟨a6, by decide⟩
  · exact ⟨a7, by decide⟩
theorem mulT (n : Nat) (h : n ≤ 3) : mulY (.tuple [cD idC]) (.int (n : Int)) = some (.tuple ((List.replicate n idC).map cD)) := by
  have : n = 0 ∨ n = 1 ∨ n = 2 ∨ n = 3 := by omega
  rcases this with rfl | rfl | rfl | rfl <;> rfl
theorem id_eq : (.tuple [.tuple [.int 1, .int 1], .tuple [.int 0, .int 1], .none, .none] : PyData) = cD idC := rfl
theorem t_bare : m_l_bare_right [] = some (.d (.bool true), []) := by
  refine run_wp ?_
  rw [bare_eq]
  refine wp_nx (ρ1 := [.d (cD idC), .un, .un, .un]) (by simp [b0, sizeL, id_eq]) ?_
  refine wp_nx (ρ1 := [.d (cD idC), .d (.list ((bares.take 7).map kB)), .un, .un]) (by
    simp [-e_fz, b1, sizeL, mkClause, mkScaled0, mkShifted0, mkBounded0, mkClaim0, mkFee0, mkVoucher0, bares, kB]) ?_
  refine wp_seq (wp_for kB bares (fun xs ρ => (∀ x ∈ xs, Ob x.1 (List.replicate x.2 idC) ∧ x.2 ≤ 3) ∧ ∃ f2 f3, Fs f2 ∧ Fs f3 ∧ ρ = [.d (cD idC), .d (.list ((bares.take 7).map kB)), f2, f3]) (ρ0 := [.d (cD idC), .d (.list ((bares.take 7).map kB)), .un, .un]) ?_ ⟨bares_ok, .un, .un, by simp, by simp, rfl⟩ ?_ ?_)
  · have e : (bares.take 7).map kB ++ [.tuple [oGeneral (qD 1) (qD 0) .none .none, .int 3]] = bares.map kB := rfl
    have hl : ((bares.take 7).map kB).length = 7 := rfl
    generalize bares.map kB = B at *
    generalize (bares.take 7).map kB = B7 at *
    simp [-e_fz, bI, mkGeneral0, sizeL, addD, hl, e, itD]
  · rintro ⟨o, n⟩ xs ρ ⟨hx, f2, f3, q2, q3, rfl⟩
    obtain ⟨ob, hn⟩ := hx _ List.mem_cons_self
    simp only at ob hn
    have hz := ch_ids n
    have e1 := t_mS0 ob.parts (i := 2) (ρ := [.d (cD idC), .d (.list ((bares.take 7).map kB)), .d o, .d (.int n)]) rfl
    have e2 := t_mS0 ob.form (i := 2) (ρ := [.d (cD idC), .d (.list ((bares.take 7).map kB)), .d o, .d (.int n)]) rfl
    have e3 := ob.eqO obClause (ne := true) (fa := xVar 2) (fb := xFz (nMake "Clause" m_Clause_init aNil)) (ρ := [.d (cD idC), .d (.list ((bares.take 7).map kB)), .d o, .d (.int n)]) rfl mkClause
    have e4 := mulT n hn
    obtain ⟨s, es⟩ := ob.rp2
    have ez : chL [] = idC := rfl
    rw [hz, ez] at e3
    rw [hz] at e2 es
    have d1 : decide (idC = idC) = true := decide_eq_true rfl
    rw [d1] at e3
    refine ⟨[.d (cD idC), .d (.list ((bares.take 7).map kB)), .d o, .d (.int n)], ?_, fun y hy => hx y (List.mem_cons_of_mem _ hy), _, _, by simp, by simp, rfl⟩
    generalize PyData.list ((bares.take 7).map kB) = B7 at *
    generalize (PyData.tuple ((List.replicate n idC).map cD)) = D at *
    generalize cD idC = I at *
    unfold bS
    generalize xEqO tab_eq subT true (xVar 2) (xFz (nMake "Clause" m_Clause_init aNil)) = EQ at *
    generalize mulY = MY at *
    simp [e_stepF, bG, kB, free_fs q2, free_fs q3, e1, e2, e3, e4, sizeL, es, ne_ss]
  · rintro ρ ⟨-, f2, f3, q2, q3, rfl⟩
    obtain ⟨s, es⟩ := rp_ne (nz_c sc_id (by decide)) (by decide) (by decide)
    refine wp_ret (we_of (b := .bool true) (ρ' := [.d (cD idC), .d (.list ((bares.take 7).map kB)), f2, f3]) ?_ ⟨_, rfl, rfl⟩)
    rw [id_eq]
    generalize PyData.list ((bares.take 7).map kB) = B7 at *
    generalize cD idC = I at *
    simp [es, eq_ss]
abbrev Rt := Rat × Rat × Option Rat × Option Rat
def rT (x : Rt) : PyData := rawD x.1 x.2.1 x.2.2.1 x.2.2.2
def Rk (x : Rt) : Prop := Raw x.1 x.2.1 x.2.2.1 x.2.2.2
def hand : List Rt := [(1, 0, none, none), (0, 5, some 0, some 3), (2, -3, some 5, some 5)]
def hand4 : Rt := (1 / 2, -3, none, some 10)
theorem sqd {q : Rat} (h : q.num.natAbs < 2 ^ 14 ∧ q.den < 2 ^ 14) : Sq 14 q := ⟨h.1, h.2⟩
theorem hand_ok : ∀ x ∈ hand ++ [hand4], Rk x := by
  intro x hx
  simp only [hand, hand4, List.cons_append, List.nil_append, List.mem_cons, List.not_mem_nil, or_false] at hx
  rcases hx with rfl | rfl | rfl | rfl
  · exact raw1
  · exact ⟨by decide +kernel, by show (0 : Rat) ≤ 3; decide +kernel, sqd (by decide +kernel), sqd (by decide +kernel), so_some (sqd (by decide +kernel)), so_some (sqd (by decide +kernel))⟩
  · exact ⟨by decide +kernel, by show (5 : Rat) ≤ 5; decide +kernel, sqd (by decide +kernel), sqd (by decide +kernel), so_some (sqd (by decide +kernel)), so_some (sqd (by decide +kernel))⟩
  · exact ⟨by decide +kernel, trivial, sqd (by decide +kernel), sqd (by decide +kernel), so_none _, so_some (sqd (by decide +kernel))⟩
theorem hand_eq : (.list (hand.map rT) : PyData) = .list [.tuple [.tuple [.int 1, .int 1], .tuple [.int 0, .int 1], .none, .none], .tuple [.tuple [.int 0, .int 1], .tuple [.int 5, .int 1], .tuple [.int 0, .int 1], .tuple [.int 3, .int 1]], .tuple [.tuple [.int 2, .int 1], .tuple [.int (-3), .int 1], .tuple [.int 5, .int 1], .tuple [.int 5, .int 1]]] := by kernel_rfl
theorem hand4_eq : rT hand4 = .tuple [.tuple [.int 1, .int 2], .tuple [.int (-3), .int 1], .none, .tuple [.int 10, .int 1]] := by kernel_rfl
abbrev F12 := (List.finRange 12)
theorem rng12 {ρ : Nv} : iRng (xC (.int 12)) ρ = some (F12.map fun j : Fin 12 => PyData.int (j.val : Int), ρ) := by
  rw [e_rngN (f := xC (.int 12)) (n := 12) (ρ1 := ρ) rfl (by decide)]
  rfl
section
variable {a b c d : EV}
theorem r_round {x : Rt} (hx : Rk x) {t : Nat} {e6 e7 e8 e9 e10 e11 e12 e13 e14 : EV} (h6 : Fs e6) (h7 : Fs e7) (h8 : Fs e8) (h9 : Fs e9) (h10 : Fs e10) (h11 : Fs e11) (h12 : Fs e12) (h13 : Fs e13) (h14 : Fs e14) :
    Wp rB (LS a b c d (.d (.int t)) (.d (rT x)) e6 e7 e8 e9 e10 e11 e12 e13 e14) fun r => ∃ f6 f7 f8 f9 f10 f11 f12 f13 f14, Fs f6 ∧ Fs f7 ∧ Fs f8 ∧ Fs f9 ∧ Fs f10 ∧ Fs f11 ∧ Fs f12 ∧ Fs f13 ∧ Fs f14 ∧ r = .nx (LS a b c d (.d (.int t)) (.d (rT x)) f6 f7 f8 f9 f10 f11 f12 f13 f14) := by
  obtain ⟨f, p, lo, hi⟩ := x
  have hx' : Raw f p lo hi := hx
  obtain ⟨s, es⟩ := rp_ne (nz_raw hx') (by decide) (by decide)
  have es' : reprD (rT (f, p, lo, hi)) = some (.str s) := es
  have eM : We (xFz (nLc (iRng (xC (.int 12))) (gNm 15) (cYes) (xCall (arity 2 m_l_made) (aCons (xVar 15) (aCons (xVar 5) (aNil)))) [15])) (LS a b c d (.d (.int t)) (.d (rT (f, p, lo, hi))) e6 e7 e8 e9 e10 e11 e12 e13 e14) fun z ρ => ∃ R : List Ro, z = .list (R.map kb) ∧ (∀ y ∈ R, Gr y) ∧ R.length = 12 ∧ ρ = LS a b c d (.d (.int t)) (.d (rT (f, p, lo, hi))) e6 e7 e8 e9 e10 e11 e12 e13 e14 := by
    refine we_lcE kb Gr rng12 (by simp [unAt]) (fun j hj => ?_) (by simp) (fun ys hl hy => ⟨ys, rfl, hy, by rw [hl]; simp, rfl⟩)
    obtain ⟨o, cs, held, e, g⟩ := t_made hx' j.isLt
    refine ⟨(o, cs, held), ?_, g⟩
    have e' : m_l_made [.d (.int (j.val : Int)), .d (rT (f, p, lo, hi))] = some (.d (kb (o, cs, held)), [.d (.int (j.val : Int)), .d (rT (f, p, lo, hi))]) := e
    generalize kb (o, cs, held) = K at *
    generalize rT (f, p, lo, hi) = X at *
    simp [e_lcS, wipeN, e']
  obtain ⟨z, ρ1, ez, R, rfl, hR, hl, rfl⟩ := eM
  unfold rB
  refine wp_nx (ρ1 := LS a b c d (.d (.int t)) (.d (rT (f, p, lo, hi))) (.d (.str s)) (.d (.list (R.map kb))) e8 e9 e10 e11 e12 e13 e14) (by
    unfold rB0
    generalize xFz (nLc (iRng (xC (.int 12))) (gNm 15) (cYes) (xCall (arity 2 m_l_made) (aCons (xVar 15) (aCons (xVar 5) (aNil)))) [15]) = E at *
    generalize rT (f, p, lo, hi) = X at *
    generalize PyData.list (R.map kb) = RR at *
    simp [es', ez, free_fs h6, free_fs h7]) ?_
  refine wp_seq (wp_forW (fun j : Fin 12 => PyData.int (j.val : Int)) F12 (fun _ ρ => ∃ f8 f9 f10 f11 f12 f13 f14, Fs f8 ∧ Fs f9 ∧ Fs f10 ∧ Fs f11 ∧ Fs f12 ∧ Fs f13 ∧ Fs f14 ∧ ρ = LS a b c d (.d (.int t)) (.d (rT (f, p, lo, hi))) (.d (.str s)) (.d (.list (R.map kb))) f8 f9 f10 f11 f12 f13 f14)
    rng12 ⟨e8, e9, e10, e11, e12, e13, e14, h8, h9, h10, h11, h12, h13, h14, rfl⟩ ?_ ?_)
  · rintro j xs ρ ⟨f8, f9, f10, f11, f12, f13, f14, q8, q9, q10, q11, q12, q13, q14, rfl⟩
    obtain ⟨r, hr⟩ : ∃ r, R[j.val]? = some r := ⟨_, List.getElem?_eq_getElem (by rw [hl]; exact j.isLt)⟩
    refine ⟨LS a b c d (.d (.int t)) (.d (rT (f, p, lo, hi))) (.d (.str s)) (.d (.list (R.map kb))) (.d (.int (j.val : Int))) f9 f10 f11 f12 f13 f14, by simp [free_fs q8], ?_⟩
    refine (a_round hR hl hr q9 q10 q11 q12 q13 q14).imp ?_
    rintro r ⟨g9, g10, g11, g12, g13, g14, w9, w10, w11, w12, w13, w14, rfl⟩
    exact ⟨_, rfl, _, _, _, _, _, _, _, by simp, w9, w10, w11, w12, w13, w14, rfl⟩
  · rintro ρ ⟨f8, f9, f10, f11, f12, f13, f14, q8, q9, q10, q11, q12, q13, q14, rfl⟩
    refine wp_of (r := .nx (LS a b c d (.d (.int t)) (.d (rT (f, p, lo, hi))) (.d (.str s)) (.d (.list (R.map kb))) f8 f9 f10 f11 f12 f13 f14)) (by
      generalize rT (f, p, lo, hi) = X at *
      generalize PyData.list (R.map kb) = RR at *
      simp [rB2, es', ne_ss]) ⟨_, _, _, _, _, _, _, _, _, by simp, by simp, q8, q9, q10, q11, q12, q13, q14, rfl⟩
end
theorem enu_map {α : Type} (k : α → PyData) (xs : List α) : enuD (xs.map k) = (List.zip (List.range xs.length) xs).map fun p => PyData.tuple [.int (p.1 : Int), k p.2] := by
  unfold enuD List.zip
  rw [List.length_map, List.map_zipWith, List.zipWith_map_right]
theorem law_true (ns : List Int) (hl : ns.length ≤ sizeLine) : m_law [.scr ns] = some (.d (.bool true), [.scr ns]) := by
  obtain ⟨o, ef, f0⟩ := P1.t_feed ns
  refine run_wp ?_
  rw [law_eq]
  refine wp_nx (ρ1 := LS (.scr ns) (.own o false) .un .un .un .un .un .un .un .un .un .un .un .un .un) (by simp [lw0, p_l_feed, ef]) ?_
  refine wp_nx (ρ1 := LS (.scr ns) (.own o false) (.own (.ol (hand.map rT)) false) .un .un .un .un .un .un .un .un .un .un .un .un) (by
    have := hand_eq
    injection this with this
    rw [this]
    simp [lw1, sizeL, negD]) ?_
  refine wp_nx (ρ1 := LS (.scr ns) (.own o false) (.own (.ol ((hand ++ [hand4]).map rT)) false) .un .un .un .un .un .un .un .un .un .un .un .un) (by
    have h4 := hand4_eq
    rw [List.map_append, List.map_cons, List.map_nil, h4]
    have hl : (hand.map rT).length = 3 := rfl
    generalize hand.map rT = H at *
    simp [lw2, sizeL, negD, xApp, hl]) ?_
  refine wp_seq (wp_for (fun j : Nat => PyData.int (j : Int)) [0, 1] (fun xs ρ => ∃ (N : Nat) (o1 : OD) (rs : List Rt) (e3 : EV), P1.Fd N o1 ∧ N + 10 * xs.length ≤ 100 ∧ (∀ x ∈ rs, Rk x) ∧ rs.length + xs.length = 6 ∧ Fs e3 ∧ ρ = LS (.scr ns) (.own o1 false) (.own (.ol (rs.map rT)) false) e3 .un .un .un .un .un .un .un .un .un .un .un)
    (ρ0 := LS (.scr ns) (.own o false) (.own (.ol ((hand ++ [hand4]).map rT)) false) .un .un .un .un .un .un .un .un .un .un .un .un) (by rw [P1.rng2]; rfl) ⟨0, o, hand ++ [hand4], .un, f0, by decide, hand_ok, rfl, by simp, rfl⟩ ?_ ?_)
  · rintro j xs ρ ⟨N, o1, rs, e3, fo, hN, hr, hlen, q3, rfl⟩
    rw [List.length_cons] at hN hlen
    obtain ⟨f, p, lo, hi, o2, e, w, f2⟩ := P1.t_l_raw fo (by omega) true
    refine ⟨LS (.scr ns) (.own o2 false) (.own (.ol ((rs ++ [(f, p, lo, hi)]).map rT)) false) (.d (.int (j : Int))) .un .un .un .un .un .un .un .un .un .un .un, ?_, N + 10, o2, rs ++ [(f, p, lo, hi)], _, f2, by omega, ?_, by rw [List.length_append, List.length_singleton]; omega, by simp, rfl⟩
    · have hz : (rs.map rT).length < 16777216 := by rw [List.length_map]; omega
      have ex : (.tuple [qD f, qD p, oD lo, oD hi] : PyData) = rT (f, p, lo, hi) := rfl
      rw [ex] at e
      rw [List.map_append, List.map_cons, List.map_nil]
      generalize rT (f, p, lo, hi) = X at *
      generalize rs.map rT = RS at *
      simp [e_stepF, free_fs q3, p_l_raw, e, xApp, sizeL, hz]
    · intro x hx
      rcases List.mem_append.mp hx with h | h
      · exact hr x h
      · rw [List.mem_singleton.mp h]; exact w
  · rintro ρ ⟨N, o1, rs, e3, fo, hN, hr, hlen, q3, rfl⟩
    refine wp_seq (wp_forW (fun q : Nat × Rt => PyData.tuple [.int (q.1 : Int), rT q.2]) (List.zip (List.range rs.length) rs) (fun xs ρ => (∀ x ∈ xs, Rk x.2) ∧ ∃ e4 e5 e6 e7 e8 e9 e10 e11 e12 e13 e14, Fs e4 ∧ Fs e5 ∧ Fs e6 ∧ Fs e7 ∧ Fs e8 ∧ Fs e9 ∧ Fs e10 ∧ Fs e11 ∧ Fs e12 ∧ Fs e13 ∧ Fs e14 ∧ ρ = LS (.scr ns) (.own o1 false) (.d (.list (rs.map rT))) e3 e4 e5 e6 e7 e8 e9 e10 e11 e12 e13 e14)
      (ρ0 := LS (.scr ns) (.own o1 false) (.d (.list (rs.map rT))) e3 .un .un .un .un .un .un .un .un .un .un .un) ?_ ⟨fun x hx => hr _ (List.of_mem_zip hx).2, .un, .un, .un, .un, .un, .un, .un, .un, .un, .un, .un, by simp, by simp, by simp, by simp, by simp, by simp, by simp, by simp, by simp, by simp, by simp, rfl⟩ ?_ ?_)
    · have := enu_map rT rs
      rw [← this]
      generalize rs.map rT = RS at *
      simp [iEnuA]
    · rintro ⟨t, x⟩ xs ρ ⟨hx, e4, e5, e6, e7, e8, e9, e10, e11, e12, e13, e14, h4, h5, h6, h7, h8, h9, h10, h11, h12, h13, h14, rfl⟩
      have hk := hx _ List.mem_cons_self
      refine ⟨LS (.scr ns) (.own o1 false) (.d (.list (rs.map rT))) e3 (.d (.int (t : Int))) (.d (rT x)) e6 e7 e8 e9 e10 e11 e12 e13 e14, by simp [lwG, free_fs h4, free_fs h5], ?_⟩
      refine (r_round hk h6 h7 h8 h9 h10 h11 h12 h13 h14).imp ?_
      rintro r ⟨g6, g7, g8, g9, g10, g11, g12, g13, g14, w6, w7, w8, w9, w10, w11, w12, w13, w14, rfl⟩
      exact ⟨_, rfl, fun y hy => hx y (List.mem_cons_of_mem _ hy), _, _, _, _, _, _, _, _, _, _, _, by simp, by simp, w6, w7, w8, w9, w10, w11, w12, w13, w14, rfl⟩
    · rintro ρ ⟨-, e4, e5, e6, e7, e8, e9, e10, e11, e12, e13, e14, h4, h5, h6, h7, h8, h9, h10, h11, h12, h13, h14, rfl⟩
      exact wp_ret (we_of (b := .bool true) (ρ' := LS (.scr ns) (.own o1 false) (.d (.list (rs.map rT))) e3 e4 e5 e6 e7 e8 e9 e10 e11 e12 e13 e14) (by
        generalize rs.map rT = RS at *
        simp [t_bare]) ⟨_, rfl, rfl⟩)
end K05
namespace K05
open PySem PySem.Spec PyProof.Rows L2 DL
theorem all_mk {P : Program} {w : World} {K : PySem.W.Frag} {h : Heap} {mg : Str → Option Value} {fa : Addr} (X : K.In h) (G : h.Ns mainGlobals mg) (hfa : mg "law" = some (.ref fa))
    (e_l_feed : DefEx K "_law_feed" (topS 56))
    (e_common_divisor : DefEx K "common_divisor" (topS 6))
    (e_fraction : DefExD K "fraction" (topS 12) [.int 1] [])
    (e_fraction_product : DefEx K "fraction_product" (topS 14))
    (e_constant_clause : DefEx K "constant_clause" (topS 18))
    (e_is_less : DefEx K "is_less" (topS 8))
    (e_bounded : DefEx K "bounded" (topS 15))
    (e_normal_form : DefExD K "normal_form" (topS 19) [] [("low", .non), ("high", .non)])
    (e_fraction_sum : DefEx K "fraction_sum" (topS 13))
    (e_applied : DefEx K "applied" (topS 20))
    (e_end_after : DefEx K "end_after" (topS 21))
    (e_chained_two : DefEx K "chained_two" (topS 22))
    (e_chained : DefEx K "chained" (topS 23))
    (e_long_word : DefEx K "long_word" (topS 27))
    (e_fraction_text : DefEx K "fraction_text" (topS 30))
    (e_bound_text : DefEx K "bound_text" (topS 31))
    (e_clause_text : DefEx K "clause_text" (topS 32))
    (e_l_bare_right : DefEx K "_law_bare_right" (topS 78))
    (e_l_draw : DefEx K "_law_draw" (topS 57))
    (e_l_sizes : DefEx K "_law_sizes" (topS 69))
    (e_l_size : DefEx K "_law_size" (topS 70))
    (e_l_less : DefEx K "_law_less" (topS 62))
    (e_l_raw : DefEx K "_law_raw" (topS 71))
    (e_l_constant : DefEx K "_law_constant" (topS 65))
    (e_l_bounded : DefEx K "_law_bounded" (topS 63))
    (e_l_normal : DefEx K "_law_normal" (topS 66))
    (e_l_gcd : DefEx K "_law_gcd" (topS 58))
    (e_l_ratio : DefEx K "_law_ratio" (topS 59))
    (e_l_times : DefEx K "_law_times" (topS 61))
    (e_l_made : DefEx K "_law_made" (topS 73))
    (e_l_add : DefEx K "_law_add" (topS 60))
    (e_l_apply : DefEx K "_law_apply" (topS 64))
    (e_l_then : DefEx K "_law_then" (topS 67))
    (e_l_chain : DefEx K "_law_chain" (topS 68))
    (e_l_amounts : DefEx K "_law_amounts" (topS 72))
    (e_l_ratio_text : DefEx K "_law_ratio_text" (topS 75))
    (e_l_item_text : DefEx K "_law_item_text" (topS 76))
    (e_l_object_right : DefEx K "_law_object_right" (topS 77))
    (e_l_read_off : DefEx K "_law_read_off" (topS 74))
    (e_law : DefEx K "law" (topS 79))
    (n_abs : PySem.W.nsIn K mainGlobals "abs" = some none)
    (n_enumerate : PySem.W.nsIn K mainGlobals "enumerate" = some none)
    (n_isinstance : PySem.W.nsIn K mainGlobals "isinstance" = some none)
    (n_len : PySem.W.nsIn K mainGlobals "len" = some none)
    (n_list : PySem.W.nsIn K mainGlobals "list" = some none)
    (n_range : PySem.W.nsIn K mainGlobals "range" = some none)
    (n_repr : PySem.W.nsIn K mainGlobals "repr" = some none)
    (n_str : PySem.W.nsIn K mainGlobals "str" = some none)
    (c_IDENTITY : ConT K "IDENTITY" (.tuple [.tuple [.int 1, .int 1], .tuple [.int 0, .int 1], .none, .none]))
    (c_NO_BOUND : ConEx K "NO_BOUND" (.str "-"))
    (c_PIECE : ConEx K "PIECE" (.int 1000000000000000000000000000000000000000000000000000000000000))
    (u_Clause_init : MetEx K "Clause" "__init__" "Clause.__init__" (inCls (topS 43) 1))
    (u_Clause_parts : MetEx K "Clause" "parts" "Clause.parts" (inCls (topS 43) 2))
    (u_Clause_form : MetEx K "Clause" "form" "Clause.form" (inCls (topS 43) 3))
    (u_Clause_result_of : MetEx K "Clause" "result_of" "Clause.result_of" (inCls (topS 43) 4))
    (u_Clause_eq : MetEx K "Clause" "__eq__" "Clause.__eq__" (inCls (topS 43) 5))
    (u_Clause_str : MetEx K "Clause" "__str__" "Clause.__str__" (inCls (topS 43) 6))
    (u_Scaled_init : SupEx P K "Scaled" "__init__" "Scaled.__init__" "self" (inCls (topS 44) 0) [("factor", .tuple [.int 1, .int 1])])
    (u_Shifted_init : SupEx P K "Shifted" "__init__" "Shifted.__init__" "self" (inCls (topS 45) 0) [("plus", .tuple [.int 0, .int 1])])
    (u_Bounded_init : SupEx P K "Bounded" "__init__" "Bounded.__init__" "self" (inCls (topS 46) 0) [("low", .none), ("high", .none)])
    (u_Fixed_init : SupEx P K "Fixed" "__init__" "Fixed.__init__" "self" (inCls (topS 47) 0) [])
    (u_Percent_init : SupEx P K "Percent" "__init__" "Percent.__init__" "self" (inCls (topS 48) 0) [])
    (u_Floor_init : SupEx P K "Floor" "__init__" "Floor.__init__" "self" (inCls (topS 49) 0) [])
    (u_Cap_init : SupEx P K "Cap" "__init__" "Cap.__init__" "self" (inCls (topS 50) 0) [])
    (u_Scaled_parts : SupEx P K "Scaled" "parts" "Scaled.parts" "self" (inCls (topS 44) 1) [])
    (u_Shifted_parts : SupEx P K "Shifted" "parts" "Shifted.parts" "self" (inCls (topS 45) 1) [])
    (u_Bounded_parts : SupEx P K "Bounded" "parts" "Bounded.parts" "self" (inCls (topS 46) 1) [])
    (u_Fixed_parts : SupEx P K "Fixed" "parts" "Fixed.parts" "self" (inCls (topS 47) 1) [])
    (cv_Clause_IDENTITY : CvEx K "Clause" "IDENTITY" (.tuple [.tuple [.int 1, .int 1], .tuple [.int 0, .int 1], .none, .none]))
    (ck : (cksL K).all id = true)
    : ∃ fd : FuncData, (∀ (s : Shared) (u : Value), BindsTo s fd ⟨[u], []⟩ [("_law_script", u)]) ∧ ∀ base : Heap, K.In base → base.Ns mainGlobals mg → FnG P w K mg base 13 fa fd ["_law_script"] m_law := by
  obtain ⟨f56, fd56, d56⟩ := def_at (ps := ["_law_script"]) X G e_l_feed fun _ _ _ _ _ _ us hl => match us, hl with | [_], _ => rfl
  obtain ⟨f6, fd6, d6⟩ := def_at (ps := ["one", "other"]) X G e_common_divisor fun _ _ _ _ _ _ us hl => match us, hl with | [_, _], _ => rfl
  obtain ⟨f12, fd12, d12⟩ := def_atD X G e_fraction
  obtain ⟨f14, fd14, d14⟩ := def_atV (pv := "fractions") X G e_fraction_product fun _ _ _ _ _ _ us => match us with | [] => rfl | _ :: _ => rfl
  obtain ⟨f18, fd18, d18⟩ := def_at (ps := ["amount"]) X G e_constant_clause fun _ _ _ _ _ _ us hl => match us, hl with | [_], _ => rfl
  obtain ⟨f8, fd8, d8⟩ := def_at (ps := ["one", "other"]) X G e_is_less fun _ _ _ _ _ _ us hl => match us, hl with | [_, _], _ => rfl
  obtain ⟨f15, fd15, d15⟩ := def_at (ps := ["amount", "low", "high"]) X G e_bounded fun _ _ _ _ _ _ us hl => match us, hl with | [_, _, _], _ => rfl
  obtain ⟨f19, fd19, d19⟩ := def_atD X G e_normal_form
  obtain ⟨f13, fd13, d13⟩ := def_atV (pv := "fractions") X G e_fraction_sum fun _ _ _ _ _ _ us => match us with | [] => rfl | _ :: _ => rfl
  obtain ⟨f20, fd20, d20⟩ := def_at (ps := ["clause", "amount"]) X G e_applied fun _ _ _ _ _ _ us hl => match us, hl with | [_, _], _ => rfl
  obtain ⟨f21, fd21, d21⟩ := def_at (ps := ["end", "clause", "bound"]) X G e_end_after fun _ _ _ _ _ _ us hl => match us, hl with | [_, _, _], _ => rfl
  obtain ⟨f22, fd22, d22⟩ := def_at (ps := ["one", "other"]) X G e_chained_two fun _ _ _ _ _ _ us hl => match us, hl with | [_, _], _ => rfl
  obtain ⟨f23, fd23, d23⟩ := def_atV (pv := "clauses") X G e_chained fun _ _ _ _ _ _ us => match us with | [] => rfl | _ :: _ => rfl
  obtain ⟨f27, fd27, d27⟩ := def_at (ps := ["number"]) X G e_long_word fun _ _ _ _ _ _ us hl => match us, hl with | [_], _ => rfl
  obtain ⟨f30, fd30, d30⟩ := def_at (ps := ["fraction"]) X G e_fraction_text fun _ _ _ _ _ _ us hl => match us, hl with | [_], _ => rfl
  obtain ⟨f31, fd31, d31⟩ := def_at (ps := ["bound"]) X G e_bound_text fun _ _ _ _ _ _ us hl => match us, hl with | [_], _ => rfl
  obtain ⟨f32, fd32, d32⟩ := def_at (ps := ["clause"]) X G e_clause_text fun _ _ _ _ _ _ us hl => match us, hl with | [_], _ => rfl
  obtain ⟨f78, fd78, d78⟩ := def_at (ps := []) X G e_l_bare_right fun _ _ _ _ _ _ us hl => match us, hl with | [], _ => rfl
  obtain ⟨f57, fd57, d57⟩ := def_at (ps := ["_law_feed_here", "_law_many"]) X G e_l_draw fun _ _ _ _ _ _ us hl => match us, hl with | [_, _], _ => rfl
  obtain ⟨f69, fd69, d69⟩ := def_at (ps := []) X G e_l_sizes fun _ _ _ _ _ _ us hl => match us, hl with | [], _ => rfl
  obtain ⟨f70, fd70, d70⟩ := def_at (ps := ["_law_feed_here"]) X G e_l_size fun _ _ _ _ _ _ us hl => match us, hl with | [_], _ => rfl
  obtain ⟨f62, fd62, d62⟩ := def_at (ps := ["_law_one", "_law_other"]) X G e_l_less fun _ _ _ _ _ _ us hl => match us, hl with | [_, _], _ => rfl
  obtain ⟨f71, fd71, d71⟩ := def_at (ps := ["_law_feed_here"]) X G e_l_raw fun _ _ _ _ _ _ us hl => match us, hl with | [_], _ => rfl
  obtain ⟨f65, fd65, d65⟩ := def_at (ps := ["_law_size_here"]) X G e_l_constant fun _ _ _ _ _ _ us hl => match us, hl with | [_], _ => rfl
  obtain ⟨f63, fd63, d63⟩ := def_at (ps := ["_law_size_here", "_law_low_in", "_law_high_in"]) X G e_l_bounded fun _ _ _ _ _ _ us hl => match us, hl with | [_, _, _], _ => rfl
  obtain ⟨f66, fd66, d66⟩ := def_at (ps := ["_law_ratio_here", "_law_more", "_law_low_in", "_law_high_in"]) X G e_l_normal fun _ _ _ _ _ _ us hl => match us, hl with | [_, _, _, _], _ => rfl
  obtain ⟨f58, fd58, d58⟩ := def_at (ps := ["_law_one", "_law_other"]) X G e_l_gcd fun _ _ _ _ _ _ us hl => match us, hl with | [_, _], _ => rfl
  obtain ⟨f59, fd59, d59⟩ := def_at (ps := ["_law_top", "_law_under"]) X G e_l_ratio fun _ _ _ _ _ _ us hl => match us, hl with | [_, _], _ => rfl
  obtain ⟨f61, fd61, d61⟩ := def_at (ps := ["_law_one", "_law_other"]) X G e_l_times fun _ _ _ _ _ _ us hl => match us, hl with | [_, _], _ => rfl
  obtain ⟨f73, fd73, d73⟩ := def_at (ps := ["_law_kind", "_law_raw_here"]) X G e_l_made fun _ _ _ _ _ _ us hl => match us, hl with | [_, _], _ => rfl
  obtain ⟨f60, fd60, d60⟩ := def_at (ps := ["_law_one", "_law_other"]) X G e_l_add fun _ _ _ _ _ _ us hl => match us, hl with | [_, _], _ => rfl
  obtain ⟨f64, fd64, d64⟩ := def_at (ps := ["_law_item", "_law_size_here"]) X G e_l_apply fun _ _ _ _ _ _ us hl => match us, hl with | [_, _], _ => rfl
  obtain ⟨f67, fd67, d67⟩ := def_at (ps := ["_law_one", "_law_other"]) X G e_l_then fun _ _ _ _ _ _ us hl => match us, hl with | [_, _], _ => rfl
  obtain ⟨f68, fd68, d68⟩ := def_at (ps := ["_law_items"]) X G e_l_chain fun _ _ _ _ _ _ us hl => match us, hl with | [_], _ => rfl
  obtain ⟨f72, fd72, d72⟩ := def_at (ps := []) X G e_l_amounts fun _ _ _ _ _ _ us hl => match us, hl with | [], _ => rfl
  obtain ⟨f75, fd75, d75⟩ := def_at (ps := ["_law_size_here"]) X G e_l_ratio_text fun _ _ _ _ _ _ us hl => match us, hl with | [_], _ => rfl
  obtain ⟨f76, fd76, d76⟩ := def_at (ps := ["_law_item"]) X G e_l_item_text fun _ _ _ _ _ _ us hl => match us, hl with | [_], _ => rfl
  obtain ⟨f77, fd77, d77⟩ := def_at (ps := ["_law_thing", "_law_due"]) X G e_l_object_right fun _ _ _ _ _ _ us hl => match us, hl with | [_, _], _ => rfl
  obtain ⟨f74, fd74, d74⟩ := def_at (ps := ["_law_thing", "_law_name"]) X G e_l_read_off fun _ _ _ _ _ _ us hl => match us, hl with | [_, _], _ => rfl
  obtain ⟨f79, fd79, d79⟩ := def_at (ps := ["_law_script"]) X G e_law fun _ _ _ _ _ _ us hl => match us, hl with | [_], _ => rfl
  have T : Txt P K mg (fun i => [0, 0, 0, 0, 0, 0, f6, 0, f8, 0, 0, 0, f12, f13, f14, f15, 0, 0, f18, f19, f20, f21, f22, f23, 0, 0, 0, f27, 0, 0, f30, f31, f32, 0, 0, 0, 0, 0, 0, 0, 0, 0, 0, 0, 0, 0, 0, 0, 0, 0, 0, 0, 0, 0, 0, 0, f56, f57, f58, f59, f60, f61, f62, f63, f64, f65, f66, f67, f68, f69, f70, f71, f72, f73, f74, f75, f76, f77, f78, f79].getD i 0) (fun i => [fd79, fd79, fd79, fd79, fd79, fd79, fd6, fd79, fd8, fd79, fd79, fd79, fd12, fd13, fd14, fd15, fd79, fd79, fd18, fd19, fd20, fd21, fd22, fd23, fd79, fd79, fd79, fd27, fd79, fd79, fd30, fd31, fd32, fd79, fd79, fd79, fd79, fd79, fd79, fd79, fd79, fd79, fd79, fd79, fd79, fd79, fd79, fd79, fd79, fd79, fd79, fd79, fd79, fd79, fd79, fd79, fd56, fd57, fd58, fd59, fd60, fd61, fd62, fd63, fd64, fd65, fd66, fd67, fd68, fd69, fd70, fd71, fd72, fd73, fd74, fd75, fd76, fd77, fd78, fd79].getD i fd79) := {
    d_l_feed := d56
    d_common_divisor := d6
    d_fraction := d12
    d_fraction_product := d14
    d_constant_clause := d18
    d_is_less := d8
    d_bounded := d15
    d_normal_form := d19
    d_fraction_sum := d13
    d_applied := d20
    d_end_after := d21
    d_chained_two := d22
    d_chained := d23
    d_long_word := d27
    d_fraction_text := d30
    d_bound_text := d31
    d_clause_text := d32
    d_l_bare_right := d78
    d_l_draw := d57
    d_l_sizes := d69
    d_l_size := d70
    d_l_less := d62
    d_l_raw := d71
    d_l_constant := d65
    d_l_bounded := d63
    d_l_normal := d66
    d_l_gcd := d58
    d_l_ratio := d59
    d_l_times := d61
    d_l_made := d73
    d_l_add := d60
    d_l_apply := d64
    d_l_then := d67
    d_l_chain := d68
    d_l_amounts := d72
    d_l_ratio_text := d75
    d_l_item_text := d76
    d_l_object_right := d77
    d_l_read_off := d74
    d_law := d79
    q_fraction_2 := pb_dfl d12.F (by simp) fun _ _ _ _ _ _ _ us ws its h1 h2 hv => match us, ws, its, h1, h2, hv with | [u0, u1], [], [x_denominator], _, _, .cons a_denominator (.nil) => ⟨_, [u0, u1], rfl, rfl, rfl, .at_ rfl (.at_ rfl (.nil))⟩
    q_normal_form_2_low_high := pb_none d19.F fun _ _ _ _ _ _ us ws h1 h2 => match us, ws, h1, h2 with | [u0, u1], [w0, w1], _, _ => ⟨[u0, u1, w0, w1], rfl, rfl, .at_ rfl (.at_ rfl (.at_ rfl (.at_ rfl (.nil))))⟩
    q_normal_form_2 := pb_kwd d19.F [("low", .non), ("high", .non)] (by simp) (by simp) fun _ _ _ _ _ _ us ws xs h1 h2 hv => match us, ws, xs, h1, h2, hv with | [u0, u1], [], [x_low, x_high], _, _, .cons a_low (.cons a_high (.nil)) => ⟨[u0, u1, x_low, x_high], ⟨_, _, _, _, _, _, rfl, rfl, ⟨_, _, _, _, _, _, rfl, rfl, rfl⟩⟩, rfl, .at_ rfl (.at_ rfl (.co a_low (.co a_high (.nil))))⟩
    n_abs := PySem.W.mg_none_of X G n_abs
    n_enumerate := PySem.W.mg_none_of X G n_enumerate
    n_isinstance := PySem.W.mg_none_of X G n_isinstance
    n_len := PySem.W.mg_none_of X G n_len
    n_list := PySem.W.mg_none_of X G n_list
    n_range := PySem.W.mg_none_of X G n_range
    n_repr := PySem.W.mg_none_of X G n_repr
    n_str := PySem.W.mg_none_of X G n_str
    c_IDENTITY := con_atT X G c_IDENTITY
    c_NO_BOUND := con_at X G c_NO_BOUND
    c_PIECE := con_at X G c_PIECE
    e_Clause_init := MetEx.f u_Clause_init fun _ _ _ _ _ _ us hl => match us, hl with | [_], _ => rfl
    e_Clause_parts := MetEx.f u_Clause_parts fun _ _ _ _ _ _ us hl => match us, hl with | [_], _ => rfl
    e_Clause_form := MetEx.f u_Clause_form fun _ _ _ _ _ _ us hl => match us, hl with | [_], _ => rfl
    e_Clause_result_of := MetEx.f u_Clause_result_of fun _ _ _ _ _ _ us hl => match us, hl with | [_, _], _ => rfl
    e_Clause_eq := MetEx.f u_Clause_eq fun _ _ _ _ _ _ us hl => match us, hl with | [_, _], _ => rfl
    e_Clause_str := MetEx.f u_Clause_str fun _ _ _ _ _ _ us hl => match us, hl with | [_], _ => rfl
    e_Scaled_init := SupEx.f u_Scaled_init ⟨_, rfl, rfl⟩ (by decide +kernel) (by decide +kernel) (by decide +kernel)
    e_Shifted_init := SupEx.f u_Shifted_init ⟨_, rfl, rfl⟩ (by decide +kernel) (by decide +kernel) (by decide +kernel)
    e_Bounded_init := SupEx.f u_Bounded_init ⟨_, rfl, rfl⟩ (by decide +kernel) (by decide +kernel) (by decide +kernel)
    e_Fixed_init := SupEx.f u_Fixed_init ⟨_, rfl, rfl⟩ (by decide +kernel) (by decide +kernel) (by decide +kernel)
    e_Percent_init := SupEx.f u_Percent_init ⟨_, rfl, rfl⟩ (by decide +kernel) (by decide +kernel) (by decide +kernel)
    e_Floor_init := SupEx.f u_Floor_init ⟨_, rfl, rfl⟩ (by decide +kernel) (by decide +kernel) (by decide +kernel)
    e_Cap_init := SupEx.f u_Cap_init ⟨_, rfl, rfl⟩ (by decide +kernel) (by decide +kernel) (by decide +kernel)
    e_Scaled_parts := SupEx.f u_Scaled_parts ⟨_, rfl, rfl⟩ (by decide +kernel) (by decide +kernel) (by decide +kernel)
    e_Shifted_parts := SupEx.f u_Shifted_parts ⟨_, rfl, rfl⟩ (by decide +kernel) (by decide +kernel) (by decide +kernel)
    e_Bounded_parts := SupEx.f u_Bounded_parts ⟨_, rfl, rfl⟩ (by decide +kernel) (by decide +kernel) (by decide +kernel)
    e_Fixed_parts := SupEx.f u_Fixed_parts ⟨_, rfl, rfl⟩ (by decide +kernel) (by decide +kernel) (by decide +kernel)
    g_Clause := PySem.W.mg_of X G (isoB_c (ck_at ck 65 rfl)).at_
    g_Voucher := PySem.W.mg_of X G (isoB_c (ck_at ck 14 rfl)).at_
    g_Fee := PySem.W.mg_of X G (isoB_c (ck_at ck 11 rfl)).at_
    g_Claim := PySem.W.mg_of X G (isoB_c (ck_at ck 7 rfl)).at_
    g_Bounded := PySem.W.mg_of X G (isoB_c (ck_at ck 33 rfl)).at_
    g_Shifted := PySem.W.mg_of X G (isoB_c (ck_at ck 23 rfl)).at_
    g_Scaled := PySem.W.mg_of X G (isoB_c (ck_at ck 21 rfl)).at_
    g_General := PySem.W.mg_of X G (isoB_c (ck_at ck 17 rfl)).at_
    g_Fixed := PySem.W.mg_of X G (isoB_c (ck_at ck 25 rfl)).at_
    g_Percent := PySem.W.mg_of X G (isoB_c (ck_at ck 27 rfl)).at_
    g_Floor := PySem.W.mg_of X G (isoB_c (ck_at ck 30 rfl)).at_
    g_Cap := PySem.W.mg_of X G (isoB_c (ck_at ck 35 rfl)).at_
    cv_Clause_IDENTITY := cv_Clause_IDENTITY
    ck := ck }
  have e := hfa.symm.trans d79.g
  cases e
  exact ⟨fd79, fun s u => .of_eq (d79.be [u] rfl), fun base _ _ => ok_law T⟩
end K05

open PySem PySem.W PyProof.Rows in
set_option maxRecDepth 100000 in
set_option maxHeartbeats 0 in
theorem PySem.Challenge.cw_stackorder_k05_classes_holds : PySem.Challenge.rw_stackorder_k05_classes.Holds := by
  w_on; o_law; k_head; (case hw => w_witness2)
  k_fill
  refine DL.walk_d (l := PySem.Challenge.rw_stackorder_k05_classes) (k := 13) (m := K05.m_law) (x := "_law_script") rfl (by decide) rfl ⟨rfl, by decide, by decide⟩ (fun w h Y => PySem.W.kIn_of Y) ?F (fun ns hl => K05.law_true ns (Nat.le_trans hl (by decide)))
  case F =>
    intro w mg fa h KX G hmg
    refine' K05.all_mk KX G hmg ?e_l_feed ?e_common_divisor ?e_fraction ?e_fraction_product ?e_constant_clause ?e_is_less ?e_bounded ?e_normal_form ?e_fraction_sum ?e_applied ?e_end_after ?e_chained_two ?e_chained ?e_long_word ?e_fraction_text ?e_bound_text ?e_clause_text ?e_l_bare_right ?e_l_draw ?e_l_sizes ?e_l_size ?e_l_less ?e_l_raw ?e_l_constant ?e_l_bounded ?e_l_normal ?e_l_gcd ?e_l_ratio ?e_l_times ?e_l_made ?e_l_add ?e_l_apply ?e_l_then ?e_l_chain ?e_l_amounts ?e_l_ratio_text ?e_l_item_text ?e_l_object_right ?e_l_read_off ?e_law ?n_abs ?n_enumerate ?n_isinstance ?n_len ?n_list ?n_range ?n_repr ?n_str ?c_IDENTITY ?c_NO_BOUND ?c_PIECE ?u_Clause_init ?u_Clause_parts ?u_Clause_form ?u_Clause_result_of ?u_Clause_eq ?u_Clause_str ?u_Scaled_init ?u_Shifted_init ?u_Bounded_init ?u_Fixed_init ?u_Percent_init ?u_Floor_init ?u_Cap_init ?u_Scaled_parts ?u_Shifted_parts ?u_Bounded_parts ?u_Fixed_parts ?cv_Clause_IDENTITY ?ck
    (case e_l_feed => exact ⟨_, _, _, _, _, _, _, _, _, _, by k_is, by k_is, by k_is, by k_is⟩)
    (case e_common_divisor => exact ⟨_, _, _, _, _, _, _, _, _, _, by k_is, by k_is, by k_is, by k_is⟩)
    (case e_fraction => exact ⟨_, _, _, _, _, _, _, _, _, _, _, by k_is, by k_is, by k_is, by k_is, .inr ⟨by simp, _, _, _, _, rfl, by k_is, rfl, .cons ⟨_, rfl⟩ (.nil)⟩, .inl rfl⟩)
    (case e_fraction_product => exact ⟨_, _, _, _, _, _, _, _, _, _, by k_is, by k_is, by k_is, by k_is⟩)
    (case e_constant_clause => exact ⟨_, _, _, _, _, _, _, _, _, _, by k_is, by k_is, by k_is, by k_is⟩)
    (case e_is_less => exact ⟨_, _, _, _, _, _, _, _, _, _, by k_is, by k_is, by k_is, by k_is⟩)
    (case e_bounded => exact ⟨_, _, _, _, _, _, _, _, _, _, by k_is, by k_is, by k_is, by k_is⟩)
    (case e_normal_form => exact ⟨_, _, _, _, _, _, _, _, _, _, _, by k_is, by k_is, by k_is, by k_is, .inl ⟨rfl, rfl⟩, .inr ⟨_, rfl, fun q hq => by rcases List.mem_cons.mp hq with rfl | hq; exact ⟨_, by k_is, rfl⟩; rcases List.mem_cons.mp hq with rfl | hq; exact ⟨_, by k_is, rfl⟩; cases hq⟩⟩)
    (case e_fraction_sum => exact ⟨_, _, _, _, _, _, _, _, _, _, by k_is, by k_is, by k_is, by k_is⟩)
    (case e_applied => exact ⟨_, _, _, _, _, _, _, _, _, _, by k_is, by k_is, by k_is, by k_is⟩)
    (case e_end_after => exact ⟨_, _, _, _, _, _, _, _, _, _, by k_is, by k_is, by k_is, by k_is⟩)
    (case e_chained_two => exact ⟨_, _, _, _, _, _, _, _, _, _, by k_is, by k_is, by k_is, by k_is⟩)
    (case e_chained => exact ⟨_, _, _, _, _, _, _, _, _, _, by k_is, by k_is, by k_is, by k_is⟩)
    (case e_long_word => exact ⟨_, _, _, _, _, _, _, _, _, _, by k_is, by k_is, by k_is, by k_is⟩)
    (case e_fraction_text => exact ⟨_, _, _, _, _, _, _, _, _, _, by k_is, by k_is, by k_is, by k_is⟩)
    (case e_bound_text => exact ⟨_, _, _, _, _, _, _, _, _, _, by k_is, by k_is, by k_is, by k_is⟩)
    (case e_clause_text => exact ⟨_, _, _, _, _, _, _, _, _, _, by k_is, by k_is, by k_is, by k_is⟩)
    (case e_l_bare_right => exact ⟨_, _, _, _, _, _, _, _, _, _, by k_is, by k_is, by k_is, by k_is⟩)
    (case e_l_draw => exact ⟨_, _, _, _, _, _, _, _, _, _, by k_is, by k_is, by k_is, by k_is⟩)
    (case e_l_sizes => exact ⟨_, _, _, _, _, _, _, _, _, _, by k_is, by k_is, by k_is, by k_is⟩)
    (case e_l_size => exact ⟨_, _, _, _, _, _, _, _, _, _, by k_is, by k_is, by k_is, by k_is⟩)
    (case e_l_less => exact ⟨_, _, _, _, _, _, _, _, _, _, by k_is, by k_is, by k_is, by k_is⟩)
    (case e_l_raw => exact ⟨_, _, _, _, _, _, _, _, _, _, by k_is, by k_is, by k_is, by k_is⟩)
    (case e_l_constant => exact ⟨_, _, _, _, _, _, _, _, _, _, by k_is, by k_is, by k_is, by k_is⟩)
    (case e_l_bounded => exact ⟨_, _, _, _, _, _, _, _, _, _, by k_is, by k_is, by k_is, by k_is⟩)
    (case e_l_normal => exact ⟨_, _, _, _, _, _, _, _, _, _, by k_is, by k_is, by k_is, by k_is⟩)
    (case e_l_gcd => exact ⟨_, _, _, _, _, _, _, _, _, _, by k_is, by k_is, by k_is, by k_is⟩)
    (case e_l_ratio => exact ⟨_, _, _, _, _, _, _, _, _, _, by k_is, by k_is, by k_is, by k_is⟩)
    (case e_l_times => exact ⟨_, _, _, _, _, _, _, _, _, _, by k_is, by k_is, by k_is, by k_is⟩)
    (case e_l_made => exact ⟨_, _, _, _, _, _, _, _, _, _, by k_is, by k_is, by k_is, by k_is⟩)
    (case e_l_add => exact ⟨_, _, _, _, _, _, _, _, _, _, by k_is, by k_is, by k_is, by k_is⟩)
    (case e_l_apply => exact ⟨_, _, _, _, _, _, _, _, _, _, by k_is, by k_is, by k_is, by k_is⟩)
    (case e_l_then => exact ⟨_, _, _, _, _, _, _, _, _, _, by k_is, by k_is, by k_is, by k_is⟩)
    (case e_l_chain => exact ⟨_, _, _, _, _, _, _, _, _, _, by k_is, by k_is, by k_is, by k_is⟩)
    (case e_l_amounts => exact ⟨_, _, _, _, _, _, _, _, _, _, by k_is, by k_is, by k_is, by k_is⟩)
    (case e_l_ratio_text => exact ⟨_, _, _, _, _, _, _, _, _, _, by k_is, by k_is, by k_is, by k_is⟩)
    (case e_l_item_text => exact ⟨_, _, _, _, _, _, _, _, _, _, by k_is, by k_is, by k_is, by k_is⟩)
    (case e_l_object_right => exact ⟨_, _, _, _, _, _, _, _, _, _, by k_is, by k_is, by k_is, by k_is⟩)
    (case e_l_read_off => exact ⟨_, _, _, _, _, _, _, _, _, _, by k_is, by k_is, by k_is, by k_is⟩)
    (case e_law => exact ⟨_, _, _, _, _, _, _, _, _, _, by k_is, by k_is, by k_is, by k_is⟩)
    (case n_abs => k_is)
    (case n_enumerate => k_is)
    (case n_isinstance => k_is)
    (case n_len => k_is)
    (case n_list => k_is)
    (case n_range => k_is)
    (case n_repr => k_is)
    (case n_str => k_is)
    (case c_IDENTITY => exact ⟨_, by k_is, .tup (by k_is) rfl rfl (by decide) (.cons (.tup (by k_is) rfl rfl (by decide) (.cons (.int _ _) (.cons (.int _ _) (.nil))) rfl) (.cons (.tup (by k_is) rfl rfl (by decide) (.cons (.int _ _) (.cons (.int _ _) (.nil))) rfl) (.cons (.non) (.cons (.non) (.nil))))) rfl⟩)
    (case c_NO_BOUND => exact ⟨_, by k_is, ⟨_, rfl⟩⟩)
    (case c_PIECE => exact ⟨_, by k_is, ⟨_, rfl⟩⟩)
    (case u_Clause_init => exact ⟨_, _, _, _, _, _, _, _, _, _, _, by k_is, by k_is, by k_is, by k_is, by k_is⟩)
    (case u_Clause_parts => exact ⟨_, _, _, _, _, _, _, _, _, _, _, by k_is, by k_is, by k_is, by k_is, by k_is⟩)
    (case u_Clause_form => exact ⟨_, _, _, _, _, _, _, _, _, _, _, by k_is, by k_is, by k_is, by k_is, by k_is⟩)
    (case u_Clause_result_of => exact ⟨_, _, _, _, _, _, _, _, _, _, _, by k_is, by k_is, by k_is, by k_is, by k_is⟩)
    (case u_Clause_eq => exact ⟨_, _, _, _, _, _, _, _, _, _, _, by k_is, by k_is, by k_is, by k_is, by k_is⟩)
    (case u_Clause_str => exact ⟨_, _, _, _, _, _, _, _, _, _, _, by k_is, by k_is, by k_is, by k_is, by k_is⟩)
    (case u_Scaled_init => exact ⟨_, _, _, _, _, _, _, _, _, _, _, _, by k_is, by k_is, by k_is, by k_is, ⟨_, _, _, by k_is⟩, ⟨_, by k_is⟩, ⟨_, _, _, _, _, _, by k_is, rfl, by decide +kernel⟩, by k_is, by decide +kernel, by k_is, .inr ⟨_, rfl, fun q hq => by rcases List.mem_cons.mp hq with rfl | hq; exact ⟨_, by k_is, DL.KT.rp (.tup (by k_is) rfl rfl (by decide) (.cons (.int _ _) (.cons (.int _ _) (.nil))) rfl)⟩; cases hq⟩⟩)
    (case u_Shifted_init => exact ⟨_, _, _, _, _, _, _, _, _, _, _, _, by k_is, by k_is, by k_is, by k_is, ⟨_, _, _, by k_is⟩, ⟨_, by k_is⟩, ⟨_, _, _, _, _, _, by k_is, rfl, by decide +kernel⟩, by k_is, by decide +kernel, by k_is, .inr ⟨_, rfl, fun q hq => by rcases List.mem_cons.mp hq with rfl | hq; exact ⟨_, by k_is, DL.KT.rp (.tup (by k_is) rfl rfl (by decide) (.cons (.int _ _) (.cons (.int _ _) (.nil))) rfl)⟩; cases hq⟩⟩)
    (case u_Bounded_init => exact ⟨_, _, _, _, _, _, _, _, _, _, _, _, by k_is, by k_is, by k_is, by k_is, ⟨_, _, _, by k_is⟩, ⟨_, by k_is⟩, ⟨_, _, _, _, _, _, by k_is, rfl, by decide +kernel⟩, by k_is, by decide +kernel, by k_is, .inr ⟨_, rfl, fun q hq => by rcases List.mem_cons.mp hq with rfl | hq; exact ⟨_, by k_is, DL.KT.rp (.non)⟩; rcases List.mem_cons.mp hq with rfl | hq; exact ⟨_, by k_is, DL.KT.rp (.non)⟩; cases hq⟩⟩)
    (case u_Fixed_init => exact ⟨_, _, _, _, _, _, _, _, _, _, _, _, by k_is, by k_is, by k_is, by k_is, ⟨_, _, _, by k_is⟩, ⟨_, by k_is⟩, ⟨_, _, _, _, _, _, by k_is, rfl, by decide +kernel⟩, by k_is, by decide +kernel, by k_is, .inl rfl⟩)
    (case u_Percent_init => exact ⟨_, _, _, _, _, _, _, _, _, _, _, _, by k_is, by k_is, by k_is, by k_is, ⟨_, _, _, by k_is⟩, ⟨_, by k_is⟩, ⟨_, _, _, _, _, _, by k_is, rfl, by decide +kernel⟩, by k_is, by decide +kernel, by k_is, .inl rfl⟩)
    (case u_Floor_init => exact ⟨_, _, _, _, _, _, _, _, _, _, _, _, by k_is, by k_is, by k_is, by k_is, ⟨_, _, _, by k_is⟩, ⟨_, by k_is⟩, ⟨_, _, _, _, _, _, by k_is, rfl, by decide +kernel⟩, by k_is, by decide +kernel, by k_is, .inl rfl⟩)
    (case u_Cap_init => exact ⟨_, _, _, _, _, _, _, _, _, _, _, _, by k_is, by k_is, by k_is, by k_is, ⟨_, _, _, by k_is⟩, ⟨_, by k_is⟩, ⟨_, _, _, _, _, _, by k_is, rfl, by decide +kernel⟩, by k_is, by decide +kernel, by k_is, .inl rfl⟩)
    (case u_Scaled_parts => exact ⟨_, _, _, _, _, _, _, _, _, _, _, _, by k_is, by k_is, by k_is, by k_is, ⟨_, _, _, by k_is⟩, ⟨_, by k_is⟩, ⟨_, _, _, _, _, _, by k_is, rfl, by decide +kernel⟩, by k_is, by decide +kernel, by k_is, .inl rfl⟩)
    (case u_Shifted_parts => exact ⟨_, _, _, _, _, _, _, _, _, _, _, _, by k_is, by k_is, by k_is, by k_is, ⟨_, _, _, by k_is⟩, ⟨_, by k_is⟩, ⟨_, _, _, _, _, _, by k_is, rfl, by decide +kernel⟩, by k_is, by decide +kernel, by k_is, .inl rfl⟩)
    (case u_Bounded_parts => exact ⟨_, _, _, _, _, _, _, _, _, _, _, _, by k_is, by k_is, by k_is, by k_is, ⟨_, _, _, by k_is⟩, ⟨_, by k_is⟩, ⟨_, _, _, _, _, _, by k_is, rfl, by decide +kernel⟩, by k_is, by decide +kernel, by k_is, .inl rfl⟩)
    (case u_Fixed_parts => exact ⟨_, _, _, _, _, _, _, _, _, _, _, _, by k_is, by k_is, by k_is, by k_is, ⟨_, _, _, by k_is⟩, ⟨_, by k_is⟩, ⟨_, _, _, _, _, _, by k_is, rfl, by decide +kernel⟩, by k_is, by decide +kernel, by k_is, .inl rfl⟩)
    (case cv_Clause_IDENTITY => exact ⟨_, _, by k_is, by k_is, by k_is, by k_is, DL.KT.rp (.tup (by k_is) rfl rfl (by decide) (.cons (.tup (by k_is) rfl rfl (by decide) (.cons (.int _ _) (.cons (.int _ _) (.nil))) rfl) (.cons (.tup (by k_is) rfl rfl (by decide) (.cons (.int _ _) (.cons (.int _ _) (.nil))) rfl) (.cons (.non) (.cons (.non) (.nil))))) rfl)⟩)
    (case ck => kernel_rfl)

